import PyProof.Rows.All
import Wide.All
import OpenK.AllK
import Wide.FinOn
import HandS.ForMost
import HandS.ForExc
import HandS.IsInst
import HandS.Deep
import HandS.Wide
import HandS.RevRange
import HandS.More
import HandS.TupLe
import HandS.ExcIs
import HandS.RaiseMore
import KE.KRevSl
import HandS.SortKw
import KE.KMinKey
import HandS.CallSlots
import HandS.Defaults
import HandS.Flow
import HandS.NoneIn
import KE.GoesMore
import KE.KExcIs
import HandS.Finally
import HandS.DictComp
import KE.DataMinMax
import KE.KEqDict
import HandS.ExcInit
import HandS.ExcValue
import KE.SortData
import HandS.Replace
import HandS.ReplaceLit
import HandS.SetFor
import HandS.SetTxt0
import HandS.TupAny
import HandS.Text
import PySem.Challenge.RW_kindfill_k44_rings_let_by
set_option Elab.async false
set_option maxRecDepth 100000
set_option linter.all false
/-! Kf: a layer of readings over plain data. -/
namespace Kf
open PySem PySem.Spec L2
open PyProof.Rows hiding St

/-- plain data; scr is the script, ref an owned cell -/
inductive D where
  | non | bl (b : Bool) | int (i : Int) | str (x : Str) | tup (ds : List D) | lst (ds : List D) | ref (a : Addr) | ty (n : String) | scr (ns : List Int) | edic
  deriving Inhabited

/-- what an owned address holds -/
inductive Cell where
  | lst (ds : List D)
  | pool
  | dic (kvs : List (Key × D))
  | dicL (kvs : List (Key × D)) (o : HO)
  | exc (cls : Value) (fs : Option (List (Str × D)))
  | ins (C : Addr) (fs : List (Str × D))

abbrev Ow := Addr → Option Cell
def updO (O : Ow) (a : Addr) (c : Cell) : Ow := fun b => if b = a then some c else O b
theorem updO_same {O : Ow} {a : Addr} {c : Cell} : updO O a c a = some c := if_pos rfl
theorem updO_ne {O : Ow} {a b : Addr} {c : Cell} (h : b ≠ a) : updO O a c b = O b := if_neg h
theorem updO_updO {O : Ow} {a : Addr} {c d : Cell} : updO (updO O a c) a d = updO O a d := by
  funext b; unfold updO; split <;> rfl
theorem updO_self {O : Ow} {a : Addr} {c : Cell} (h : O a = some c) : updO O a c = O := by
  funext b; unfold updO; split
  · rename_i e; rw [e, h]
  · rfl
/-- without a cell -/
def delO (O : Ow) (a : Addr) : Ow := fun b => if b = a then none else O b
theorem delO_updO {O : Ow} {a : Addr} {c : Cell} (h : O a = none) : delO (updO O a c) a = O := by
  funext b; unfold delO updO; split
  · rename_i e; rw [e, h]
  · rfl

abbrev DEnv := List (Option D)
abbrev VD := D → Ow → Prop
abbrev FE := DEnv → Ow → VD → Prop
abbrev FT := DEnv → Ow → (Bool → Ow → Prop) → Prop
abbrev FA := DEnv → Ow → (List D → Ow → Prop) → Prop

section
variable (K : PySem.W.Frag) (F : Hp)
mutual
def Rep : D → V → Prop
  | .non, v => v = .non
  | .bl b, v => v = .bl b
  | .int i, v => v = .int i
  | .str x, v => v = .str x
  | .tup ds, v => ∃ a xs, v = .ref a ∧ SqT K F a xs ∧ RepAll ds xs
  | .lst ds, v => ∃ a xs, v = .ref a ∧ F a = some (.lst xs) ∧ RepAll ds xs
  | .ref a, v => v = .ref a
  | .ty n, v => v = .ty n
  | .scr ns, v => ∃ a, v = .ref a ∧ SqL K F a (ns.map V.int)
  | .edic, v => ∃ a, v = .ref a ∧ F a = some (.dK [])
def RepAll : List D → List V → Prop
  | [], vs => vs = []
  | d :: ds, vs => ∃ v r, vs = v :: r ∧ Rep d v ∧ RepAll ds r
end
end

theorem Same.seqT {K : PySem.W.Frag} {H H' : Hp} {a : Addr} {xs : List V} (e : Same H H') (h : SqT K H a xs) : SqT K H' a xs := by
  rcases h with (h | ⟨o, h⟩) | h
  · exact .inl (.inl (e _ _ h))
  · exact .inl (.inr ⟨o, e _ _ h⟩)
  · exact .inr h

section
variable {K : PySem.W.Frag} {F F' : Hp}
mutual
theorem Rep.mono (s : Same F F') : ∀ (d : D) (v : V), Rep K F d v → Rep K F' d v
  | .non, _, h => by simpa only [Rep] using h
  | .bl _, _, h => by simpa only [Rep] using h
  | .int _, _, h => by simpa only [Rep] using h
  | .str _, _, h => by simpa only [Rep] using h
  | .ref _, _, h => by simpa only [Rep] using h
  | .ty _, _, h => by simpa only [Rep] using h
  | .tup ds, _, h => by
    simp only [Rep] at h ⊢
    obtain ⟨a, xs, e, h1, h2⟩ := h
    exact ⟨a, xs, e, Same.seqT s h1, RepAll.mono s ds xs h2⟩
  | .lst ds, _, h => by
    simp only [Rep] at h ⊢
    obtain ⟨a, xs, e, h1, h2⟩ := h
    exact ⟨a, xs, e, s _ _ h1, RepAll.mono s ds xs h2⟩
  | .scr ns, _, h => by
    simp only [Rep] at h ⊢
    obtain ⟨a, e, h1⟩ := h
    exact ⟨a, e, s.seq h1⟩
  | .edic, _, h => by
    simp only [Rep] at h ⊢
    obtain ⟨a, e, h1⟩ := h
    exact ⟨a, e, s _ _ h1⟩
theorem RepAll.mono (s : Same F F') : ∀ (ds : List D) (vs : List V), RepAll K F ds vs → RepAll K F' ds vs
  | [], _, h => by simpa only [RepAll] using h
  | d :: ds, _, h => by
    simp only [RepAll] at h ⊢
    obtain ⟨v, r, e, h1, h2⟩ := h
    exact ⟨v, r, e, Rep.mono s d v h1, RepAll.mono s ds r h2⟩
end
theorem RepAll.length : ∀ {ds : List D} {vs : List V}, RepAll K F ds vs → ds.length = vs.length
  | [], _, h => by simp only [RepAll] at h; rw [h]; rfl
  | d :: ds, _, h => by
    simp only [RepAll] at h
    obtain ⟨v, r, rfl, _, h2⟩ := h
    rw [List.length_cons, List.length_cons, RepAll.length h2]
theorem RepAll.get : ∀ {ds : List D} {vs : List V} {i : Nat} {d : D}, RepAll K F ds vs → ds[i]? = some d → ∃ v, vs[i]? = some v ∧ Rep K F d v
  | [], _, _, _, h, e => by simp at e
  | d :: ds, _, i, _, h, e => by
    simp only [RepAll] at h
    obtain ⟨v, r, rfl, h1, h2⟩ := h
    cases i with
    | zero => simp at e; subst e; exact ⟨v, rfl, h1⟩
    | succ i => simp at e ⊢; exact RepAll.get h2 e
theorem RepAll.append : ∀ {ds es : List D} {vs ws : List V}, RepAll K F ds vs → RepAll K F es ws → RepAll K F (ds ++ es) (vs ++ ws)
  | [], _, _, _, h, q => by simp only [RepAll] at h; subst h; exact q
  | d :: ds, es, _, ws, h, q => by
    simp only [RepAll] at h
    obtain ⟨v, r, rfl, h1, h2⟩ := h
    rw [List.cons_append, List.cons_append]
    simp only [RepAll]
    exact ⟨v, r ++ ws, rfl, h1, RepAll.append h2 q⟩
theorem RepAll.nil : RepAll K F [] [] := by simp only [RepAll]
theorem RepAll.cons {d : D} {ds : List D} {v : V} {vs : List V} (h : Rep K F d v) (q : RepAll K F ds vs) : RepAll K F (d :: ds) (v :: vs) := by
  simp only [RepAll]; exact ⟨v, vs, rfl, h, q⟩
theorem RepAll.one {d : D} {v : V} (h : Rep K F d v) : RepAll K F [d] [v] := .cons h .nil
theorem RepAll.set {x : D} {y : V} (hx : Rep K F x y) : ∀ {ds : List D} {vs : List V} (i : Nat), RepAll K F ds vs → RepAll K F (ds.set i x) (vs.set i y)
  | [], _, _, h => by simp only [RepAll] at h; subst h; exact .nil
  | d :: ds, _, i, h => by
    simp only [RepAll] at h
    obtain ⟨v, r, rfl, h1, h2⟩ := h
    cases i with
    | zero => exact .cons hx h2
    | succ i => exact .cons h1 (RepAll.set hx i h2)
theorem RepAll.drop : ∀ {ds : List D} {vs : List V} (n : Nat), RepAll K F ds vs → RepAll K F (ds.drop n) (vs.drop n)
  | _, _, 0, h => h
  | [], _, n + 1, h => by simp only [RepAll] at h; subst h; exact .nil
  | d :: ds, _, n + 1, h => by
    simp only [RepAll] at h
    obtain ⟨v, r, rfl, h1, h2⟩ := h
    exact RepAll.drop n h2
theorem RepAll.take : ∀ {ds : List D} {vs : List V} (n : Nat), RepAll K F ds vs → RepAll K F (ds.take n) (vs.take n)
  | _, _, 0, h => .nil
  | [], _, n + 1, h => by simp only [RepAll] at h; subst h; exact .nil
  | d :: ds, _, n + 1, h => by
    simp only [RepAll] at h
    obtain ⟨v, r, rfl, h1, h2⟩ := h
    exact .cons h1 (RepAll.take n h2)
theorem RepAll.reverse {ds : List D} {vs : List V} (h : RepAll K F ds vs) : RepAll K F ds.reverse vs.reverse := by
  induction ds generalizing vs with
  | nil => simp only [RepAll] at h; subst h; exact .nil
  | cons d ds ih =>
    simp only [RepAll] at h
    obtain ⟨v, r, rfl, h1, h2⟩ := h
    rw [List.reverse_cons, List.reverse_cons]
    exact .append (ih h2) (.one h1)
theorem RepAll.ints {vs : List V} : ∀ {ns : List Int}, RepAll K F (ns.map D.int) vs → vs = ns.map V.int := by
  intro ns h
  induction ns generalizing vs with
  | nil => rw [List.map_nil] at h; simpa only [RepAll, List.map_nil] using h
  | cons n ns ih =>
    rw [List.map_cons] at h
    simp only [RepAll, Rep] at h
    obtain ⟨v, r, rfl, rfl, h2⟩ := h
    rw [ih h2]; rfl
theorem RepAll.of_strs : ∀ {ns : List Str}, RepAll K F (ns.map D.str) (ns.map V.str)
  | [] => .nil
  | n :: ns => .cons (by simp only [Rep]) RepAll.of_strs
end

/-! ### the ghost state -/
/-- the entries of a dict -/
def KvOk (K : PySem.W.Frag) (F : Hp) : List (Key × D) → List (Key × V) → Prop := Paired fun p q => p.1 = q.1 ∧ Rep K F p.2 q.2
theorem KvOk.mono {K : PySem.W.Frag} {F F' : Hp} (s : Same F F') {kvs : List (Key × D)} {vs : List (Key × V)} (h : KvOk K F kvs vs) : KvOk K F' kvs vs := Paired.mapP h fun _ _ z => ⟨z.1, z.2.mono s⟩
/-- the fields of an instance -/
def FsOk (K : PySem.W.Frag) (F : Hp) : List (Str × D) → List (Str × V) → Prop := Paired fun p q => p.1 = q.1 ∧ Rep K F p.2 q.2
theorem FsOk.mono {K : PySem.W.Frag} {F F' : Hp} (s : Same F F') {fs : List (Str × D)} {fv : List (Str × V)} (h : FsOk K F fs fv) : FsOk K F' fs fv := Paired.mapP h fun _ _ z => ⟨z.1, z.2.mono s⟩
/-- an exception's object, held as a value -/
def IsX (a : Addr) (cls : Value) (d : Option Addr) (o : HO) : Prop := ∃ φ, o = .ext φ ∧ ∀ h, φ h → ∃ oe vs, h.get? a = some oe ∧ Zc cls d oe ∧ oe.data = .fields vs
def XdR (K : PySem.W.Frag) (F : Hp) : Option (List (Str × D)) → Option Addr → Prop
  | none, dd => dd = none
  | some fs, dd => ∃ dx fv, dd = some dx ∧ F dx = some (.xd fv) ∧ FsOk K F fs fv
theorem XdR.mono {K : PySem.W.Frag} {F F' : Hp} (s : Same F F') {fs : Option (List (Str × D))} {dd : Option Addr} (h : XdR K F fs dd) : XdR K F' fs dd := by
  cases fs with
  | none => exact h
  | some fs => obtain ⟨dx, fv, e, h1, h2⟩ := h; exact ⟨dx, fv, e, s _ _ h1, h2.mono s⟩
def CellOk (K : PySem.W.Frag) (F H : Hp) (a : Addr) : Cell → Prop
  | .lst ds => ∃ vs, H a = some (.lst vs) ∧ RepAll K F ds vs
  | .pool => ∃ x y : Int, H a = some (.lst [.int x, .int y]) ∧ 0 ≤ x ∧ 0 ≤ y ∧ y < 2147483647
  | .dic kvs => ∃ vs : List (Key × V), H a = some (.dK vs) ∧ KvOk K F kvs vs
  | .dicL kvs o => H a = some o ∧ ∃ (od : Obj) (vs : List (Key × V)), o = .frz od (.dK vs) ∧ KvOk K F kvs vs
  | .exc cls fs => ∃ o d, H a = some o ∧ IsX a cls d o ∧ XdR K F fs d
  | .ins C fs => ∃ dx vs, H a = some (.ins C dx vs) ∧ FsOk K F fs vs
/-- what is known of F and P all the while: it bears more of both -/
structure MX where
  rel : Hp → Hp → Prop
  mono : ∀ {F F' P P' : Hp}, rel F P → Same F F' → Same P P' → rel F' P'
def MT : MX := ⟨fun _ _ => True, fun _ _ _ => trivial⟩
variable {M : MX}
/-- F: what never changes; O: what is owned; P: what stands aside -/
structure Gd (M : MX) (K : PySem.W.Frag) (F : Hp) (O : Ow) (P : Hp) (H : Hp) : Prop where
  fz : Same F H
  ow : ∀ a c, O a = some c → F a = none ∧ P a = none ∧ CellOk K F H a c
  as : ∀ a o, P a = some o → F a = none ∧ H a = some o
  rl : M.rel F P

theorem CellOk.some {K : PySem.W.Frag} {F H : Hp} {a : Addr} {c : Cell} (h : CellOk K F H a c) : ∃ o, H a = some o := by
  cases c with
  | lst ds => obtain ⟨vs, h, _⟩ := h; exact ⟨_, h⟩
  | pool => obtain ⟨x, y, h, _⟩ := h; exact ⟨_, h⟩
  | dic kvs => obtain ⟨vs, h, _⟩ := h; exact ⟨_, h⟩
  | dicL kvs o => exact ⟨_, h.1⟩
  | exc cls fs => obtain ⟨o, d, h, _⟩ := h; exact ⟨_, h⟩
  | ins C fs => obtain ⟨dx, vs, h, _⟩ := h; exact ⟨_, h⟩
theorem CellOk.mono {K : PySem.W.Frag} {F F' H H' : Hp} {a : Addr} {c : Cell} (h : CellOk K F H a c) (s : Same F F') (e : H' a = H a) : CellOk K F' H' a c := by
  cases c with
  | lst ds => obtain ⟨vs, h, r⟩ := h; exact ⟨vs, e.trans h, r.mono s⟩
  | pool => obtain ⟨x, y, h, r⟩ := h; exact ⟨x, y, e.trans h, r⟩
  | dic kvs => obtain ⟨vs, h, r⟩ := h; exact ⟨vs, e.trans h, r.mono s⟩
  | dicL kvs o => obtain ⟨h, od, vs, r1, r2⟩ := h; exact ⟨e.trans h, od, vs, r1, r2.mono s⟩
  | exc cls fs => obtain ⟨o, d, h, r1, r2⟩ := h; exact ⟨o, d, e.trans h, r1, r2.mono s⟩
  | ins C fs => obtain ⟨dx, vs, h, r⟩ := h; exact ⟨dx, vs, e.trans h, r.mono s⟩

section
variable {K : PySem.W.Frag} {F P H : Hp} {O : Ow} {p : Addr} {o : HO}
theorem Gd.freeF (g : Gd M K F O P H) (h : H p = none) : F p = none := g.fz.free h
theorem Gd.freeO (g : Gd M K F O P H) (h : H p = none) : O p = none := by
  cases e : O p with
  | none => rfl
  | some c =>
    obtain ⟨u, q⟩ := (g.ow p c e).2.2.some
    rw [h] at q; cases q
theorem Gd.freeP (g : Gd M K F O P H) (h : H p = none) : P p = none := by
  cases e : P p with
  | none => rfl
  | some c =>
    have q := (g.as p c e).2
    rw [h] at q; cases q
theorem same_upd {H : Hp} {p : Addr} {o : HO} (h : H p = none) : Same H (upd H p o) := fun b x e => by
  rw [upd_ne (ne_of_none e h)]; exact e
theorem Same.upd2 {F H : Hp} {p : Addr} {o : HO} (s : Same F H) : Same (upd F p o) (upd H p o) := fun b x e => by
  unfold upd at e ⊢
  split
  · rename_i q; rw [if_pos q] at e; exact e
  · rename_i q; rw [if_neg q] at e; exact s b x e
/-- a new thing that never changes -/
theorem Gd.new (g : Gd M K F O P H) (h : H p = none) : Gd M K (upd F p o) O P (upd H p o) := by
  have hF := g.freeF h
  have hO := g.freeO h
  have hP := g.freeP h
  refine ⟨Same.upd2 g.fz, fun a c e => ?_, fun a u e => ?_, M.mono g.rl (same_upd hF) (Same.refl _)⟩
  · have ne : a ≠ p := fun q => by rw [q, hO] at e; cases e
    obtain ⟨h1, h2, h3⟩ := g.ow a c e
    exact ⟨(upd_ne ne).trans h1, h2, h3.mono (same_upd hF) (upd_ne ne)⟩
  · have ne : a ≠ p := fun q => by rw [q, hP] at e; cases e
    obtain ⟨h1, h2⟩ := g.as a u e
    exact ⟨(upd_ne ne).trans h1, (upd_ne ne).trans h2⟩
/-- a thing of the heap that nothing speaks of -/
theorem Gd.skip (g : Gd M K F O P H) (h : H p = none) : Gd M K F O P (upd H p o) := by
  have hO := g.freeO h
  have hP := g.freeP h
  refine ⟨fun b x e => (same_upd h) b x (g.fz b x e), fun a c e => ?_, fun a u e => ?_, g.rl⟩
  · have ne : a ≠ p := fun q => by rw [q, hO] at e; cases e
    obtain ⟨h1, h2, h3⟩ := g.ow a c e
    exact ⟨h1, h2, h3.mono (Same.refl _) (upd_ne ne)⟩
  · have ne : a ≠ p := fun q => by rw [q, hP] at e; cases e
    obtain ⟨h1, h2⟩ := g.as a u e
    exact ⟨h1, (upd_ne ne).trans h2⟩
/-- a new owned cell -/
theorem Gd.newO (g : Gd M K F O P H) (h : H p = none) {c : Cell} (hc : CellOk K F (upd H p o) p c) : Gd M K F (updO O p c) P (upd H p o) := by
  have hF := g.freeF h
  have g' := g.skip (o := o) h
  refine ⟨g'.fz, fun a d e => ?_, g'.as, g'.rl⟩
  by_cases q : a = p
  · subst q
    rw [updO_same] at e; cases e
    exact ⟨hF, g.freeP h, hc⟩
  · rw [updO_ne q] at e
    exact g'.ow a d e
/-- an owned cell changes -/
theorem Gd.setO (g : Gd M K F O P H) {c0 : Cell} (h : O p = some c0) {c : Cell} (hc : CellOk K F (upd H p o) p c) : Gd M K F (updO O p c) P (upd H p o) := by
  obtain ⟨hF, hP, _⟩ := g.ow p c0 h
  refine ⟨fun b x e => ?_, fun a d e => ?_, fun a u e => ?_, g.rl⟩
  · have ne : b ≠ p := fun q => by rw [q, hF] at e; cases e
    rw [upd_ne ne]; exact g.fz b x e
  · by_cases q : a = p
    · subst q
      rw [updO_same] at e; cases e
      exact ⟨hF, hP, hc⟩
    · rw [updO_ne q] at e
      obtain ⟨h1, h2, h3⟩ := g.ow a d e
      exact ⟨h1, h2, h3.mono (Same.refl _) (upd_ne q)⟩
  · have ne : a ≠ p := fun q => by rw [q, hP] at e; cases e
    obtain ⟨h1, h2⟩ := g.as a u e
    exact ⟨h1, (upd_ne ne).trans h2⟩
/-- an owned list is owned no more: it never changes from now on -/
theorem Gd.freeze (g : Gd M K F O P H) {ds : List D} (h : O p = some (.lst ds)) : ∃ F', Same F F' ∧ Gd M K F' (delO O p) P H ∧ Rep K F' (.lst ds) (.ref p) := by
  obtain ⟨hF, hP, vs, hH, hr⟩ := g.ow p _ h
  have s : Same F (upd F p (.lst vs)) := same_upd hF
  refine ⟨upd F p (.lst vs), s, ⟨fun b x e => ?_, fun a c e => ?_, fun a u e => ?_, M.mono g.rl s (Same.refl _)⟩, ?_⟩
  · by_cases q : b = p
    · subst q; rw [upd_same] at e; cases e; exact hH
    · rw [upd_ne q] at e; exact g.fz b x e
  · unfold delO at e
    by_cases q : a = p
    · rw [if_pos q] at e; cases e
    · rw [if_neg q] at e
      obtain ⟨h1, h2, h3⟩ := g.ow a c e
      exact ⟨(upd_ne q).trans h1, h2, h3.mono s rfl⟩
  · have q : a ≠ p := fun z => by rw [z, hP] at e; cases e
    obtain ⟨h1, h2⟩ := g.as a u e
    exact ⟨(upd_ne q).trans h1, h2⟩
  · simp only [Rep]
    exact ⟨p, vs, rfl, upd_same, hr.mono s⟩
/-- an owned cell is forgotten -/
theorem Gd.drop (g : Gd M K F O P H) : Gd M K F (delO O p) P H := by
  refine ⟨g.fz, fun a c e => ?_, g.as, g.rl⟩
  unfold delO at e
  by_cases q : a = p
  · rw [if_pos q] at e; cases e
  · rw [if_neg q] at e; exact g.ow a c e
end

/-! ### environments -/
def EnvOk (K : PySem.W.Frag) (F : Hp) (ρ : DEnv) (σ : St) : Prop := ρ.length = σ.length ∧ ∀ (i : Nat) (d : D), ρ[i]? = some (some d) → ∃ v, σ[i]? = some (some v) ∧ Rep K F d v
section
variable {K : PySem.W.Frag} {F F' : Hp} {ρ : DEnv} {σ : St}
theorem EnvOk.mono (h : EnvOk K F ρ σ) (s : Same F F') : EnvOk K F' ρ σ := ⟨h.1, fun i d e => let ⟨v, q, r⟩ := h.2 i d e; ⟨v, q, r.mono s⟩⟩
theorem EnvOk.set (h : EnvOk K F ρ σ) {d : D} {v : V} (r : Rep K F d v) (i : Nat) : EnvOk K F (ρ.set i (some d)) (σ.set i (some v)) := by
  refine ⟨by rw [List.length_set, List.length_set, h.1], fun j e q => ?_⟩
  by_cases c : i = j
  · subst c
    by_cases hl : i < ρ.length
    · rw [List.getElem?_set_self hl] at q
      cases q
      exact ⟨v, by rw [List.getElem?_set_self (h.1 ▸ hl)], r⟩
    · rw [List.getElem?_eq_none (by rw [List.length_set]; omega)] at q; cases q
  · rw [List.getElem?_set_ne c] at q ⊢
    exact h.2 j e q
theorem EnvOk.wipe (h : EnvOk K F ρ σ) (i : Nat) : EnvOk K F (ρ.set i none) (σ.set i none) := by
  refine ⟨by rw [List.length_set, List.length_set, h.1], fun j e q => ?_⟩
  by_cases c : i = j
  · subst c
    by_cases hl : i < ρ.length
    · rw [List.getElem?_set_self hl] at q; cases q
    · rw [List.getElem?_eq_none (by rw [List.length_set]; omega)] at q; cases q
  · rw [List.getElem?_set_ne c] at q ⊢
    exact h.2 j e q
theorem envOk_start : ∀ {ds : List D} {vs : List V} (n : Nat), RepAll K F ds vs → EnvOk K F (ds.map some ++ List.replicate n none) (vs.map some ++ List.replicate n none) := by
  intro ds vs n h
  have hl := h.length
  refine ⟨by simp [hl], fun i d e => ?_⟩
  by_cases c : i < ds.length
  · rw [List.getElem?_append_left (by simpa using c), List.getElem?_map] at e
    obtain ⟨d', e1, e2⟩ := Option.map_eq_some_iff.mp e
    cases e2
    obtain ⟨v, h1, h2⟩ := h.get e1
    refine ⟨v, ?_, h2⟩
    rw [List.getElem?_append_left (by simpa [← hl] using c), List.getElem?_map, h1]; rfl
  · rw [List.getElem?_append_right (by simpa using c)] at e
    rw [List.getElem?_replicate] at e
    split at e <;> cases e
end

/-! ### readings over data, lifted -/
def PostE (M : MX) (K : PySem.W.Frag) (F P : Hp) (R : VD) (Q : VK) : Prop := ∀ d O' F' H' v, R d O' → Same F F' → Gd M K F' O' P H' → Rep K F' d v → Q v H'
def PostT (M : MX) (K : PySem.W.Frag) (F P : Hp) (R : Bool → Ow → Prop) (Q : Bool → Hp → Prop) : Prop := ∀ b O' F' H', R b O' → Same F F' → Gd M K F' O' P H' → Q b H'
def PostA (M : MX) (K : PySem.W.Frag) (F P : Hp) (R : List D → Ow → Prop) (Q : List V → Hp → Prop) : Prop := ∀ ds O' F' H' vs, R ds O' → Same F F' → Gd M K F' O' P H' → RepAll K F' ds vs → Q vs H'
def liftE (M : MX) (K : PySem.W.Frag) (f : FE) : TE := fun σ H Q => ∃ F O P ρ R, Gd M K F O P H ∧ EnvOk K F ρ σ ∧ f ρ O R ∧ PostE M K F P R Q
def liftT (M : MX) (K : PySem.W.Frag) (f : FT) : TT := fun σ H Q => ∃ F O P ρ R, Gd M K F O P H ∧ EnvOk K F ρ σ ∧ f ρ O R ∧ PostT M K F P R Q
def liftA (M : MX) (K : PySem.W.Frag) (f : FA) : TA := fun σ H Q => ∃ F O P ρ R, Gd M K F O P H ∧ EnvOk K F ρ σ ∧ f ρ O R ∧ PostA M K F P R Q
abbrev DE (M : MX) (X : Cx) (e : Expr) (f : FE) : Prop := PE X e (liftE M X.K f)
abbrev DT (M : MX) (X : Cx) (e : Expr) (f : FT) : Prop := PT X e (liftT M X.K f)
abbrev DA (M : MX) (X : Cx) (es : List Expr) (f : FA) : Prop := PA X es (liftA M X.K f)

theorem peMono {X : Cx} {e : Expr} {t t' : TE} (h : PE X e t) (imp : ∀ σ H Q, t' σ H Q → t σ H Q) : PE X e t' := ⟨fun pins s σ H Q I q => h.run pins s σ H Q I (imp σ H Q q)⟩
theorem ptMono {X : Cx} {e : Expr} {t t' : TT} (h : PT X e t) (imp : ∀ σ H Q, t' σ H Q → t σ H Q) : PT X e t' := ⟨fun pins s σ H Q I q => h.run pins s σ H Q I (imp σ H Q q)⟩
theorem pwMono {X : Cx} {e : Expr} {t t' : TT} (h : PW X e t) (imp : ∀ σ H Q, t' σ H Q → t σ H Q) : PW X e t' := ⟨fun whole pins s σ H Q I q => h.run whole pins s σ H Q I (imp σ H Q q)⟩
theorem paMono {X : Cx} {es : List Expr} {t t' : TA} (h : PA X es t) (imp : ∀ σ H Q, t' σ H Q → t σ H Q) : PA X es t' := ⟨fun pos pins s σ H Q I q => h.run pos pins s σ H Q I (imp σ H Q q)⟩
theorem psMono {X : Cx} {st : Stmt} {t t' : TS} (h : PS X st t) (imp : ∀ D σ H, t' D σ H → t D σ H) : PS X st t' := ⟨fun pins s σ H D I q => h.run pins s σ H D I (imp D σ H q)⟩
theorem pssMono {X : Cx} {st : List Stmt} {t t' : TS} (h : PSs X st t) (imp : ∀ D σ H, t' D σ H → t D σ H) : PSs X st t' := ⟨fun pins s σ H D I q => h.run pins s σ H D I (imp D σ H q)⟩

section
variable {X : Cx} {a b c e : Expr} {es : List Expr} {fa fb fc : FE} {pos : Pos}

/-! ### names and constants -/
def envGet (o : Option (Option D)) (O : Ow) (Q : VD) : Prop := match o with
  | some (some d) => Q d O
  | _ => False
theorem envGet_s {d : D} {O : Ow} {Q : VD} : envGet (some (some d)) O Q = Q d O := rfl
def fVar (i : Nat) : FE := fun ρ O Q => envGet ρ[i]? O Q
def fC (d : D) : FE := fun _ O Q => Q d O
theorem de_var (i : Nat) {x : Str} (hN : X.N[i]? = some x := by rfl) (hv : Vis X.env.scope x := by first | exact Or.inl rfl | exact Or.inr (Or.inl rfl) | exact Or.inr (Or.inr rfl)) (hd : (x == ("__debug__" : Str)) = false := by decide)
    (hcd : (x == ("__classdict__" : Str)) = false := by decide) : DE M X (.Name x pos) (fVar i) := by
  refine peMono (pe_var hN hv hd hcd) fun σ H Q h => ?_
  obtain ⟨F, O, P, ρ, R, g, en, q, po⟩ := h
  unfold fVar envGet at q
  split at q
  · rename_i d e
    obtain ⟨v, e', r⟩ := en.2 i d e
    exact ⟨v, e', po d O F H v q (Same.refl _) g r⟩
  · exact q.elim
/-- a constant: what is the same everywhere -/
theorem de_const {t : TE} {d : D} {v : V} (h : PE X e t) (ht : ∀ σ H Q, Q v H → t σ H Q) (hr : ∀ F, Rep X.K F d v) : DE M X e (fC d) := by
  refine peMono h fun σ H Q h => ?_
  obtain ⟨F, O, P, ρ, R, g, en, q, po⟩ := h
  exact ht σ H Q (po d O F H v q (Same.refl _) g (hr F))
theorem de_int {i : Int} {j : Nat} : DE M X (.Constant (.int i) j pos) (fC (.int i)) := de_const pe_int (fun _ _ _ q => q) fun _ => by simp only [Rep]
theorem de_bl {i : Bool} {j : Nat} : DE M X (.Constant (.bool i) j pos) (fC (.bl i)) := de_const pe_bl (fun _ _ _ q => q) fun _ => by simp only [Rep]
theorem de_non {j : Nat} : DE M X (.Constant .none j pos) (fC .non) := de_const pe_non (fun _ _ _ q => q) fun _ => by simp only [Rep]
theorem de_str {x : Str} {j : Nat} : DE M X (.Constant (.str x) j pos) (fC (.str x)) := de_const pe_str (fun _ _ _ q => q) fun _ => by simp only [Rep]
theorem de_glob {x : Str} {d : D} {v : V} {u : Value} (hg : Gl X x) (hm : X.mg x = some u) (r : RelV v u) (hr : ∀ F, Rep X.K F d v) (hd : (x == ("__debug__" : Str)) = false := by decide) : DE M X (.Name x pos) (fC d) :=
  de_const (pe_glob hg hm r hd) (fun _ _ _ q => q) hr
theorem de_bltn {x : Str} {d : D} {v : V} {u : Value} (hg : Gl X x) (hm : X.mg x = none) (hv : bootBuiltins x = some u) (r : RelV v u) (hr : ∀ F, Rep X.K F d v) (hn : x ≠ "__name__" := by decide) (hd : (x == ("__debug__" : Str)) = false := by decide) : DE M X (.Name x pos) (fC d) :=
  de_const (pe_bltn hg hm hv r hn hd) (fun _ _ _ q => q) hr

/-! ### operators -/
abbrev R2D := D → D → Ow → VD → Prop
abbrev R1D := D → Ow → VD → Prop
def liftR2 (M : MX) (K : PySem.W.Frag) (r : R2D) : R2 := fun x y H Q => ∃ F O P dx dy R, Gd M K F O P H ∧ Rep K F dx x ∧ Rep K F dy y ∧ r dx dy O R ∧ PostE M K F P R Q
def liftRA (M : MX) (K : PySem.W.Frag) (r : List D → Ow → VD → Prop) : List V → Hp → VK → Prop := fun xs H Q => ∃ F O P ds R, Gd M K F O P H ∧ RepAll K F ds xs ∧ r ds O R ∧ PostE M K F P R Q
def fOp (r : R2D) (fa fb : FE) : FE := fun ρ O Q => fa ρ O fun x O1 => fb ρ O1 fun y O2 => r x y O2 Q
theorem fOp_lift {r : R2D} : ∀ σ H Q, liftE M X.K (fOp r fa fb) σ H Q → tOp (liftR2 M X.K r) (liftE M X.K fa) (liftE M X.K fb) σ H Q := by
  intro σ H Q h
  obtain ⟨F, O, P, ρ, R, g, en, q, po⟩ := h
  refine ⟨F, O, P, ρ, _, g, en, q, fun x O1 F1 H1 v q1 s1 g1 r1 => ?_⟩
  refine ⟨F1, O1, P, ρ, _, g1, en.mono s1, q1, fun y O2 F2 H2 w q2 s2 g2 r2 => ?_⟩
  exact ⟨F2, O2, P, x, y, R, g2, r1.mono s2, r2, q2, fun d O' F' H' z q3 s3 g3 r3 => po d O' F' H' z q3 (s1.trans (s2.trans s3)) g3 r3⟩
abbrev OpD (M : MX) (X : Cx) (f : Value → Value → Sem Value) (r : R2D) : Prop := OpR X f (liftR2 M X.K r)
theorem de_op {op : Operator} {r : R2D} (ho : OpD M X (binaryOp op) r) (ha : DE M X a fa) (hb : DE M X b fb) : DE M X (.BinOp a op b pos) (fOp r fa fb) := peMono (pe_op ho ha hb) fOp_lift
theorem de_cmp {op : CmpOp} {r : R2D} (ho : OpD M X (compareOp op) r) (ha : DE M X a fa) (hb : DE M X b fb) (hm : behindInMarks op b = false) : DE M X (.Compare a [op] [b] pos) (fOp r fa fb) := peMono (pe_cmpR ho ha hb hm) fOp_lift
/-- a value as a test: it must be a bool -/
def fTest (f : FE) : FT := fun ρ O Q => f ρ O fun d O1 => ∃ k, d = .bl k ∧ Q k O1
theorem tTest_lift {f : FE} {t : TE} (hl : ∀ σ H Q, liftE M X.K f σ H Q → t σ H Q) : ∀ σ H Q, liftT M X.K (fTest f) σ H Q → tTest t σ H Q := by
  intro σ H Q h
  obtain ⟨F, O, P, ρ, R, g, en, q, po⟩ := h
  refine hl σ H _ ⟨F, O, P, ρ, _, g, en, q, fun d O' F' H' v q1 s1 g1 r1 => ?_⟩
  obtain ⟨k, rfl, q2⟩ := q1
  simp only [Rep] at r1
  exact ⟨k, r1, po k O' F' H' q2 s1 g1⟩
theorem dt_cmp {op : CmpOp} {r : R2D} (ho : OpD M X (compareOp op) r) (ha : DE M X a fa) (hb : DE M X b fb) (hm : behindInMarks op b = false) : DT M X (.Compare a [op] [b] pos) (fTest (fOp r fa fb)) :=
  ptMono (pt_cmpR ho ha hb hm) (tTest_lift fOp_lift)
theorem dt_val (h : DE M X e fa) (he : ∀ whole, isTrue e X.env whole = (do let v ← whole; standAt e.pos; holding [v] (truthy v)) := by intro _; rfl) : DT M X e (fTest fa) :=
  ptMono (pt_val h he) (tTest_lift fun _ _ _ q => q)
/-- a op1 b op2 c -/
def fChain (r r' : R2D) (fa fb fc : FE) : FE := fun ρ O Q => fa ρ O fun x O1 => fb ρ O1 fun y O2 => r x y O2 fun z O3 => ∃ k, z = .bl k ∧ (if k = true then fc ρ O3 fun w O4 => r' y w O4 Q else Q (.bl false) O3)
theorem fChain_lift {r r' : R2D} : ∀ σ H Q, liftE M X.K (fChain r r' fa fb fc) σ H Q → tChain (liftR2 M X.K r) (liftR2 M X.K r') (liftE M X.K fa) (liftE M X.K fb) (liftE M X.K fc) σ H Q := by
  intro σ H Q h
  obtain ⟨F, O, P, ρ, R, g, en, q, po⟩ := h
  refine ⟨F, O, P, ρ, _, g, en, q, fun x O1 F1 H1 v q1 s1 g1 r1 => ?_⟩
  refine ⟨F1, O1, P, ρ, _, g1, en.mono s1, q1, fun y O2 F2 H2 w q2 s2 g2 r2 => ?_⟩
  refine ⟨F2, O2, P, x, y, _, g2, r1.mono s2, r2, q2, fun d O3 F3 H3 z q3 s3 g3 r3 => ?_⟩
  obtain ⟨k, rfl, q4⟩ := q3
  simp only [Rep] at r3
  refine ⟨k, r3, ?_⟩
  cases k with
  | true =>
    rw [if_pos rfl] at q4 ⊢
    refine ⟨F3, O3, P, ρ, _, g3, en.mono (s1.trans (s2.trans s3)), q4, fun w2 O4 F4 H4 z q5 s4 g4 r4 => ?_⟩
    exact ⟨F4, O4, P, y, w2, R, g4, r2.mono (s3.trans s4), r4, q5, fun d O' F' H' z q6 s5 g5 r5 => po d O' F' H' z q6 (s1.trans (s2.trans (s3.trans (s4.trans s5)))) g5 r5⟩
  | false =>
    rw [if_neg Bool.false_ne_true] at q4 ⊢
    exact po _ O3 F3 H3 _ q4 (s1.trans (s2.trans s3)) g3 (by simp only [Rep])
theorem de_chain {op op' : CmpOp} {r r' : R2D} (ho : OpD M X (compareOp op) r) (ho' : OpD M X (compareOp op') r') (ha : DE M X a fa) (hb : DE M X b fb) (hc : DE M X c fc)
    (hm : lastMarks [op, op'] [b, c] = false := by with_unfolding_all rfl) : DE M X (.Compare a [op, op'] [b, c] pos) (fChain r r' fa fb fc) := peMono (pe_chain ho ho' ha hb hc hm) fChain_lift
theorem dt_chain {op op' : CmpOp} {r r' : R2D} (ho : OpD M X (compareOp op) r) (ho' : OpD M X (compareOp op') r') (ha : DE M X a fa) (hb : DE M X b fb) (hc : DE M X c fc)
    (hm : lastMarks [op, op'] [b, c] = false := by with_unfolding_all rfl) : DT M X (.Compare a [op, op'] [b, c] pos) (fTest (fChain r r' fa fb fc)) := ptMono (pt_chain ho ho' ha hb hc hm) (tTest_lift fChain_lift)
/-! ### and, or, not -/
variable {tA tB' : FT} {rest : List Expr}
def fAnd (t u : FT) : FT := fun ρ O Q => t ρ O fun c O1 => if c = true then u ρ O1 Q else Q false O1
def fOr (t u : FT) : FT := fun ρ O Q => t ρ O fun c O1 => if c = true then Q true O1 else u ρ O1 Q
def fNot (t : FT) : FT := fun ρ O Q => t ρ O fun c O1 => Q (!c) O1
abbrev DW (M : MX) (X : Cx) (e : Expr) (f : FT) : Prop := PW X e (liftT M X.K f)
theorem fAnd_lift : ∀ σ H Q, liftT M X.K (fAnd tA tB') σ H Q → tAnd (liftT M X.K tA) (liftT M X.K tB') σ H Q := by
  intro σ H Q h
  obtain ⟨F, O, P, ρ, R, g, en, q, po⟩ := h
  refine ⟨F, O, P, ρ, _, g, en, q, fun k O1 F1 H1 q1 s1 g1 => ?_⟩
  cases k with
  | true =>
    rw [if_pos rfl] at q1 ⊢
    exact ⟨F1, O1, P, ρ, R, g1, en.mono s1, q1, fun b O' F' H' q2 s2 g2 => po b O' F' H' q2 (s1.trans s2) g2⟩
  | false =>
    rw [if_neg Bool.false_ne_true] at q1 ⊢
    exact po _ O1 F1 H1 q1 s1 g1
theorem fOr_lift : ∀ σ H Q, liftT M X.K (fOr tA tB') σ H Q → tOr (liftT M X.K tA) (liftT M X.K tB') σ H Q := by
  intro σ H Q h
  obtain ⟨F, O, P, ρ, R, g, en, q, po⟩ := h
  refine ⟨F, O, P, ρ, _, g, en, q, fun k O1 F1 H1 q1 s1 g1 => ?_⟩
  cases k with
  | false =>
    rw [if_neg Bool.false_ne_true] at q1 ⊢
    exact ⟨F1, O1, P, ρ, R, g1, en.mono s1, q1, fun b O' F' H' q2 s2 g2 => po b O' F' H' q2 (s1.trans s2) g2⟩
  | true =>
    rw [if_pos rfl] at q1 ⊢
    exact po _ O1 F1 H1 q1 s1 g1
theorem dw_and1 (ha : DT M X a tA) : DW M X (.BoolOp .And [a] pos) tA := pw_and1 ha
theorem dw_or1 (ha : DT M X a tA) : DW M X (.BoolOp .Or [a] pos) tA := pw_or1 ha
theorem dw_and (ha : DT M X a tA) (hb : DW M X (.BoolOp .And (b :: rest) pos) tB') : DW M X (.BoolOp .And (a :: b :: rest) pos) (fAnd tA tB') := pwMono (pw_and ha hb) fAnd_lift
theorem dw_or (ha : DT M X a tA) (hb : DW M X (.BoolOp .Or (b :: rest) pos) tB') : DW M X (.BoolOp .Or (a :: b :: rest) pos) (fOr tA tB') := pwMono (pw_or ha hb) fOr_lift
theorem dt_of (h : DW M X e tA) : DT M X e tA := h.pt
theorem dt_not (ha : DT M X a tA) : DT M X (.UnaryOp .Not a pos) (fNot tA) := by
  refine ptMono (pt_not ha) fun σ H Q h => ?_
  obtain ⟨F, O, P, ρ, R, g, en, q, po⟩ := h
  exact ⟨F, O, P, ρ, _, g, en, q, fun k O1 F1 H1 q1 s1 g1 => po _ O1 F1 H1 q1 s1 g1⟩
/-- .. as values (bools) -/
def fAndV (fa fb : FE) : FE := fun ρ O Q => fa ρ O fun x O1 => ∃ c, x = .bl c ∧ if c = true then fb ρ O1 Q else Q (.bl false) O1
def fOrV (fa fb : FE) : FE := fun ρ O Q => fa ρ O fun x O1 => ∃ c, x = .bl c ∧ if c = true then Q (.bl true) O1 else fb ρ O1 Q
def fNotV (fa : FE) : FE := fun ρ O Q => fa ρ O fun x O1 => ∃ c, x = .bl c ∧ Q (.bl (!c)) O1
theorem de_one {op} (h : DE M X a fa) : DE M X (.BoolOp op [a] pos) fa := pe_one h
theorem de_and (ha : DE M X a fa) (hb : DE M X (.BoolOp .And (b :: rest) pos) fb) : DE M X (.BoolOp .And (a :: b :: rest) pos) (fAndV fa fb) := by
  refine peMono (pe_and ha hb) fun σ H Q h => ?_
  obtain ⟨F, O, P, ρ, R, g, en, q, po⟩ := h
  refine ⟨F, O, P, ρ, _, g, en, q, fun k O1 F1 H1 v q1 s1 g1 r1 => ?_⟩
  obtain ⟨c, rfl, q1⟩ := q1
  simp only [Rep] at r1
  refine ⟨c, r1, ?_⟩
  cases c with
  | true =>
    rw [if_pos rfl] at q1 ⊢
    exact ⟨F1, O1, P, ρ, R, g1, en.mono s1, q1, fun b O' F' H' v q2 s2 g2 => po b O' F' H' v q2 (s1.trans s2) g2⟩
  | false =>
    rw [if_neg Bool.false_ne_true] at q1 ⊢
    exact po _ O1 F1 H1 _ q1 s1 g1 (by simp only [Rep])
theorem de_or (ha : DE M X a fa) (hb : DE M X (.BoolOp .Or (b :: rest) pos) fb) : DE M X (.BoolOp .Or (a :: b :: rest) pos) (fOrV fa fb) := by
  refine peMono (pe_or ha hb) fun σ H Q h => ?_
  obtain ⟨F, O, P, ρ, R, g, en, q, po⟩ := h
  refine ⟨F, O, P, ρ, _, g, en, q, fun k O1 F1 H1 v q1 s1 g1 r1 => ?_⟩
  obtain ⟨c, rfl, q1⟩ := q1
  simp only [Rep] at r1
  refine ⟨c, r1, ?_⟩
  cases c with
  | false =>
    rw [if_neg Bool.false_ne_true] at q1 ⊢
    exact ⟨F1, O1, P, ρ, R, g1, en.mono s1, q1, fun b O' F' H' v q2 s2 g2 => po b O' F' H' v q2 (s1.trans s2) g2⟩
  | true =>
    rw [if_pos rfl] at q1 ⊢
    exact po _ O1 F1 H1 _ q1 s1 g1 (by simp only [Rep])
theorem de_not (ha : DE M X a fa) : DE M X (.UnaryOp .Not a pos) (fNotV fa) := by
  refine peMono (pe_not ha) fun σ H Q h => ?_
  obtain ⟨F, O, P, ρ, R, g, en, q, po⟩ := h
  refine ⟨F, O, P, ρ, _, g, en, q, fun k O1 F1 H1 v q1 s1 g1 r1 => ?_⟩
  obtain ⟨c, rfl, q1⟩ := q1
  simp only [Rep] at r1
  exact ⟨c, r1, po _ O1 F1 H1 _ q1 s1 g1 (by simp only [Rep])⟩
/-- a if t else b -/
def fIf (t : FT) (fa fb : FE) : FE := fun ρ O Q => t ρ O fun c O1 => if c = true then fa ρ O1 Q else fb ρ O1 Q
/-! ### argument lists, displays -/
def fNil : FA := fun _ O Q => Q [] O
def fCons (fa : FE) (fr : FA) : FA := fun ρ O Q => fa ρ O fun x O1 => fr ρ O1 fun xs O2 => Q (x :: xs) O2
variable {fr : FA}
theorem da_nil : DA M X [] fNil := paMono pa_nil fun σ H Q h => by
  obtain ⟨F, O, P, ρ, R, g, en, q, po⟩ := h
  exact po [] O F H [] q (Same.refl _) g .nil
theorem da_cons (ha : DE M X e fa) (hr : DA M X es fr) (hs : starEach (e :: es) X.env = (false, eval e X.env) :: starEach es X.env := by rfl) : DA M X (e :: es) (fCons fa fr) := by
  refine paMono (pa_cons ha hr hs) fun σ H Q h => ?_
  obtain ⟨F, O, P, ρ, R, g, en, q, po⟩ := h
  refine ⟨F, O, P, ρ, _, g, en, q, fun x O1 F1 H1 v q1 s1 g1 r1 => ?_⟩
  exact ⟨F1, O1, P, ρ, _, g1, en.mono s1, q1, fun xs O2 F2 H2 vs q2 s2 g2 r2 => po _ O2 F2 H2 _ q2 (s1.trans s2) g2 (.cons (r1.mono s2) r2)⟩
def fTup (fr : FA) : FE := fun ρ O Q => fr ρ O fun xs O1 => xs.length ≤ sizeLine ∧ Q (.tup xs) O1
theorem de_tup {x1} (h : DA M X es fr) : DE M X (.Tuple es x1 pos) (fTup fr) := by
  refine peMono (pe_tup h) fun σ H Q h => ?_
  obtain ⟨F, O, P, ρ, R, g, en, q, po⟩ := h
  refine ⟨F, O, P, ρ, _, g, en, q, fun xs O1 F1 H1 vs q1 s1 g1 r1 => ?_⟩
  refine ⟨by rw [← r1.length]; exact q1.1, fun p hp => ?_⟩
  have hF := g1.freeF hp
  refine po (.tup xs) O1 (upd F1 p (.tup vs)) _ _ q1.2 (s1.trans (same_upd hF)) (g1.new hp) ?_
  simp only [Rep]
  exact ⟨p, vs, rfl, .inl (.inl upd_same), r1.mono (same_upd hF)⟩
/-- a list that never changes -/
def fLst (fr : FA) : FE := fun ρ O Q => fr ρ O fun xs O1 => xs.length ≤ sizeLine ∧ Q (.lst xs) O1
theorem de_lst (h : DA M X es fr) : DE M X (.List es pos) (fLst fr) := by
  refine peMono (pe_lst h) fun σ H Q h => ?_
  obtain ⟨F, O, P, ρ, R, g, en, q, po⟩ := h
  refine ⟨F, O, P, ρ, _, g, en, q, fun xs O1 F1 H1 vs q1 s1 g1 r1 => ?_⟩
  refine ⟨by rw [← r1.length]; exact q1.1, fun p hp => ?_⟩
  have hF := g1.freeF hp
  refine po (.lst xs) O1 (upd F1 p (.lst vs)) _ _ q1.2 (s1.trans (same_upd hF)) (g1.new hp) ?_
  simp only [Rep]
  exact ⟨p, vs, rfl, upd_same, r1.mono (same_upd hF)⟩
/-- a list that is owned -/
def fLstO (fr : FA) : FE := fun ρ O Q => fr ρ O fun xs O1 => xs.length ≤ sizeLine ∧ ∀ p, O1 p = none → Q (.ref p) (updO O1 p (.lst xs))
theorem de_lstO (h : DA M X es fr) : DE M X (.List es pos) (fLstO fr) := by
  refine peMono (pe_lst h) fun σ H Q h => ?_
  obtain ⟨F, O, P, ρ, R, g, en, q, po⟩ := h
  refine ⟨F, O, P, ρ, _, g, en, q, fun xs O1 F1 H1 vs q1 s1 g1 r1 => ?_⟩
  refine ⟨by rw [← r1.length]; exact q1.1, fun p hp => ?_⟩
  exact po (.ref p) _ F1 _ _ (q1.2 p (g1.freeO hp)) s1 (g1.newO hp ⟨vs, upd_same, r1⟩) (by simp only [Rep])
/-- the law's pool: two numbers that are not negative -/
def rPool (xs : List D) (O : Ow) (Q : VD) : Prop := match xs with
  | [.int x, .int y] => 0 ≤ x ∧ 0 ≤ y ∧ y < 2147483647 ∧ ∀ p, O p = none → Q (.ref p) (updO O p .pool)
  | _ => False
def fPool (fr : FA) : FE := fun ρ O Q => fr ρ O fun xs O1 => rPool xs O1 Q
theorem de_pool (h : DA M X es fr) : DE M X (.List es pos) (fPool fr) := by
  refine peMono (pe_lst h) fun σ H Q h => ?_
  obtain ⟨F, O, P, ρ, R, g, en, q, po⟩ := h
  refine ⟨F, O, P, ρ, _, g, en, q, fun xs O1 F1 H1 vs q1 s1 g1 r1 => ?_⟩
  unfold rPool at q1
  split at q1
  · simp only [RepAll, Rep] at r1
    obtain ⟨_, _, rfl, rfl, _, _, rfl, rfl, rfl⟩ := r1
    refine ⟨show 2 ≤ sizeLine by decide, fun p hp => ?_⟩
    exact po (.ref p) _ F1 _ _ (q1.2.2.2 p (g1.freeO hp)) s1 (g1.newO hp ⟨_, _, upd_same, q1.1, q1.2.1, q1.2.2.1⟩) (by simp only [Rep])
  · exact q1.elim
end
end Kf
namespace Kf
open PySem PySem.Spec L2
open PyProof.Rows hiding St
variable {M : MX}

/-! ### data that is told apart by == -/
mutual
def toPy : D → PyData
  | .non => .none
  | .bl b => .bool b
  | .int i => .int i
  | .str x => .str x
  | .tup ds => .tuple (toPys ds)
  | .lst ds => .list (toPys ds)
  | .ref _ => .dict []
  | .ty _ => .dict []
  | .scr ns => .list (ns.map .int)
  | .edic => .dict []
def toPys : List D → List PyData
  | [] => []
  | d :: ds => toPy d :: toPys ds
end
mutual
def isPy : D → Bool
  | .non => true
  | .bl _ => true
  | .int _ => true
  | .str x => PyData.strOk x
  | .tup ds => isPys ds
  | .lst ds => isPys ds
  | .ref _ => false
  | .ty _ => false
  | .scr _ => false
  | .edic => false
def isPys : List D → Bool
  | [] => true
  | d :: ds => isPy d && isPys ds
end
theorem toPys_map : ∀ ds : List D, toPys ds = ds.map toPy
  | [] => rfl
  | d :: ds => by rw [toPys, toPys_map ds, List.map_cons]
theorem isPys_all : ∀ ds : List D, isPys ds = ds.all isPy
  | [] => rfl
  | d :: ds => by rw [isPys, isPys_all ds, List.all_cons]
mutual
theorem isPy_lay : ∀ d : D, isPy d = true → (toPy d).canLay0 = true
  | .non, _ => by simp only [toPy, PyData.canLay0]
  | .bl _, _ => by simp only [toPy, PyData.canLay0]
  | .int _, _ => by simp only [toPy, PyData.canLay0]
  | .str x, h => by simp only [isPy] at h; simp only [toPy, PyData.canLay0]; exact h
  | .tup ds, h => by simp only [isPy] at h; simp only [toPy, PyData.canLay0]; exact isPys_lay ds h
  | .lst ds, h => by simp only [isPy] at h; simp only [toPy, PyData.canLay0]; exact isPys_lay ds h
  | .ref _, h => by simp only [isPy] at h; cases h
  | .ty _, h => by simp only [isPy] at h; cases h
  | .scr _, h => by simp only [isPy] at h; cases h
  | .edic, h => by simp only [isPy] at h; cases h
theorem isPys_lay : ∀ ds : List D, isPys ds = true → PyData.canLayAll0 (toPys ds) = true
  | [], _ => by simp only [toPys, PyData.canLayAll0]
  | d :: ds, h => by
    simp only [isPys, Bool.and_eq_true] at h
    simp only [toPys, PyData.canLayAll0, Bool.and_eq_true]
    exact ⟨isPy_lay d h.1, isPys_lay ds h.2⟩
end
/-- how deep a datum is -/
def dp (d : D) : Nat := (toPy d).depth
section
variable {K : PySem.W.Frag} {F H : Hp}
mutual
theorem Rep.dp (s : Same F H) : ∀ (d : D) (v : V), isPy d = true → Rep K F d v → Dp K H v (toPy d)
  | .non, v, _, r => by simp only [Rep] at r; subst r; simp only [toPy]; exact .non
  | .bl b, v, _, r => by simp only [Rep] at r; subst r; simp only [toPy]; exact .bl b
  | .int b, v, _, r => by simp only [Rep] at r; subst r; simp only [toPy]; exact .int b
  | .str b, v, _, r => by simp only [Rep] at r; subst r; simp only [toPy]; exact .str b
  | .tup ds, v, h, r => by
    simp only [isPy] at h
    simp only [Rep] at r
    obtain ⟨a, xs, rfl, r1, r2⟩ := r
    simp only [toPy]
    exact .tup (Same.seqT s r1) (RepAll.dp s ds xs h r2)
  | .lst ds, v, h, r => by
    simp only [isPy] at h
    simp only [Rep] at r
    obtain ⟨a, xs, rfl, r1, r2⟩ := r
    simp only [toPy]
    exact .lst (SqL.of (s _ _ r1)) (RepAll.dp s ds xs h r2)
  | .ref _, _, h, _ => by simp only [isPy] at h; cases h
  | .ty _, _, h, _ => by simp only [isPy] at h; cases h
  | .scr _, _, h, _ => by simp only [isPy] at h; cases h
  | .edic, _, h, _ => by simp only [isPy] at h; cases h
theorem RepAll.dp (s : Same F H) : ∀ (ds : List D) (vs : List V), isPys ds = true → RepAll K F ds vs → DpAll K H vs (toPys ds)
  | [], vs, _, r => by simp only [RepAll] at r; subst r; simp only [toPys]; exact .nil
  | d :: ds, vs, h, r => by
    simp only [isPys, Bool.and_eq_true] at h
    simp only [RepAll] at r
    obtain ⟨v, q, rfl, r1, r2⟩ := r
    simp only [toPys]
    exact .cons (Rep.dp s d v h.1 r1) (RepAll.dp s ds q h.2 r2)
end
end

/-! ### an owned list read -/
def deref (O : Ow) : D → D
  | .ref a => match O a with
    | some (.lst ds) => .lst ds
    | _ => .ref a
  | d => d
/-- as Rep, but a list may be owned -/
def RepH (K : PySem.W.Frag) (F H : Hp) (d : D) (v : V) : Prop := match d with
  | .lst ds => ∃ a xs, v = .ref a ∧ H a = some (.lst xs) ∧ RepAll K F ds xs
  | d => Rep K F d v
section
variable {K : PySem.W.Frag} {F P H : Hp} {O : Ow}
theorem Gd.deref (g : Gd M K F O P H) {d : D} {v : V} (r : Rep K F d v) : RepH K F H (deref O d) v := by
  cases d with
  | lst ds =>
    simp only [Rep] at r
    obtain ⟨a, xs, e, h1, h2⟩ := r
    exact ⟨a, xs, e, g.fz _ _ h1, h2⟩
  | ref a =>
    cases e : O a with
    | none =>
      have z : Kf.deref O (.ref a) = .ref a := by simp only [Kf.deref, e]
      rw [z]; exact r
    | some c =>
      cases c with
      | pool =>
        have z : Kf.deref O (.ref a) = .ref a := by simp only [Kf.deref, e]
        rw [z]; exact r
      | dic kvs =>
        have z : Kf.deref O (.ref a) = .ref a := by simp only [Kf.deref, e]
        rw [z]; exact r
      | dicL kvs o =>
        have z : Kf.deref O (.ref a) = .ref a := by simp only [Kf.deref, e]
        rw [z]; exact r
      | exc _ _ =>
        have z : Kf.deref O (.ref a) = .ref a := by simp only [Kf.deref, e]
        rw [z]; exact r
      | ins _ _ =>
        have z : Kf.deref O (.ref a) = .ref a := by simp only [Kf.deref, e]
        rw [z]; exact r
      | lst ds =>
        have z : Kf.deref O (.ref a) = .lst ds := by simp only [Kf.deref, e]
        rw [z]
        obtain ⟨_, _, vs, h1, h2⟩ := g.ow a _ e
        simp only [Rep] at r
        exact ⟨a, vs, r, h1, h2⟩
  | _ => exact r
theorem RepH.dp (s : Same F H) {d : D} {v : V} (h : isPy d = true) (r : RepH K F H d v) : Dp K H v (toPy d) := by
  cases d with
  | lst ds =>
    obtain ⟨a, xs, rfl, h1, h2⟩ := r
    simp only [isPy] at h
    simp only [toPy]
    exact .lst (SqL.of h1) (RepAll.dp s ds xs h h2)
  | _ => exact Rep.dp s _ v h r

/-- read through owned lists at any depth -/
def ddf (O : Ow) : Nat → D → D
  | 0, d => d
  | n + 1, .ref a => match O a with
    | some (.lst ds) => .lst (ds.map (ddf O n))
    | _ => .ref a
  | n + 1, .tup ds => .tup (ds.map (ddf O n))
  | n + 1, .lst ds => .lst (ds.map (ddf O n))
  | _ + 1, d => d
theorem repAll_map {f : D → D} {F' : Hp} (h : ∀ d v, Rep K F d v → Rep K F' (f d) v) : ∀ {ds : List D} {vs : List V}, RepAll K F ds vs → RepAll K F' (ds.map f) vs
  | [], _, r => by simp only [RepAll] at r; subst r; exact .nil
  | d :: ds, _, r => by
    simp only [RepAll] at r
    obtain ⟨v, w, rfl, r1, r2⟩ := r
    rw [List.map_cons]
    exact .cons (h d v r1) (repAll_map h r2)
theorem Gd.ddf (g : Gd M K F O P H) : ∀ (n : Nat) (d : D) (v : V), Rep K F d v → Rep K H (ddf O n d) v
  | 0, d, v, r => r.mono g.fz
  | n + 1, d, v, r => by
    cases d with
    | tup ds =>
      simp only [Rep] at r
      obtain ⟨a, xs, e, h1, h2⟩ := r
      simp only [Kf.ddf, Rep]
      exact ⟨a, xs, e, Same.seqT g.fz h1, repAll_map (Gd.ddf g n) h2⟩
    | lst ds =>
      simp only [Rep] at r
      obtain ⟨a, xs, e, h1, h2⟩ := r
      simp only [Kf.ddf, Rep]
      exact ⟨a, xs, e, g.fz _ _ h1, repAll_map (Gd.ddf g n) h2⟩
    | ref a =>
      cases e : O a with
      | none =>
        have z : Kf.ddf O (n + 1) (.ref a) = .ref a := by simp only [Kf.ddf, e]
        rw [z]; exact r.mono g.fz
      | some c =>
        cases c with
        | lst ds =>
          have z : Kf.ddf O (n + 1) (.ref a) = .lst (ds.map (Kf.ddf O n)) := by simp only [Kf.ddf, e]
          rw [z]
          obtain ⟨_, _, vs, h1, h2⟩ := g.ow a _ e
          simp only [Rep] at r ⊢
          exact ⟨a, vs, r, h1, repAll_map (Gd.ddf g n) h2⟩
        | _ =>
          have z : Kf.ddf O (n + 1) (.ref a) = .ref a := by simp only [Kf.ddf, e]
          rw [z]; exact r.mono g.fz
    | _ => simp only [Kf.ddf]; exact r.mono g.fz
/-! what holds no owned list is read as it is -/
theorem ddf_py {O : Ow} : ∀ (n : Nat) (d : D), isPy d = true → ddf O n d = d
  | 0, d, h => rfl
  | n + 1, d, h => by
    have hm : ∀ ds : List D, isPys ds = true → ds.map (ddf O n) = ds := fun ds hd => by
      rw [isPys_all, List.all_eq_true] at hd
      exact (List.map_congr_left fun x hx => ddf_py n x (hd x hx)).trans (List.map_id' ds)
    cases d with
    | tup ds => simp only [isPy] at h; simp only [ddf, hm ds h]
    | lst ds => simp only [isPy] at h; simp only [ddf, hm ds h]
    | ref a => simp [isPy] at h
    | _ => rfl
theorem ddf_deref {O : Ow} {n : Nat} {d : D} (h : isPy (deref O d) = true) : ddf O (n + 1) d = deref O d := by
  cases d with
  | ref a =>
    cases e : O a with
    | none =>
      have z : deref O (.ref a) = .ref a := by simp only [deref, e]
      rw [z] at h; simp [isPy] at h
    | some c =>
      cases c with
      | lst ds =>
        have z : deref O (.ref a) = .lst ds := by simp only [deref, e]
        have z2 : ddf O (n + 1) (.ref a) = .lst (ds.map (ddf O n)) := by simp only [ddf, e]
        rw [z] at h ⊢
        rw [z2]
        simp only [isPy] at h
        rw [isPys_all, List.all_eq_true] at h
        rw [(List.map_congr_left fun x hx => ddf_py n x (h x hx)).trans (List.map_id' ds)]
      | _ =>
        have z : deref O (.ref a) = .ref a := by simp only [deref, e]
        rw [z] at h; simp [isPy] at h
  | _ => exact ddf_py (n + 1) _ h
/-! ### ends -/
theorem PostE.at {R : VD} {Q : VK} {d : D} {v : V} (po : PostE M K F P R Q) (g : Gd M K F O P H) (h : R d O) (r : Rep K F d v) : Q v H := po d O F H v h (Same.refl _) g r
theorem PostE.lst {R : VD} {Q : VK} {ds : List D} {vs : List V} {p : Addr} (po : PostE M K F P R Q) (g : Gd M K F O P H) (h : R (.lst ds) O) (r : RepAll K F ds vs) (hp : H p = none) : Q (.ref p) (upd H p (.lst vs)) := by
  have hF := g.freeF hp
  refine po (.lst ds) O (upd F p (.lst vs)) _ _ h (same_upd hF) (g.new hp) ?_
  simp only [Rep]
  exact ⟨p, vs, rfl, upd_same, r.mono (same_upd hF)⟩
theorem PostE.tup {R : VD} {Q : VK} {ds : List D} {vs : List V} {p : Addr} (po : PostE M K F P R Q) (g : Gd M K F O P H) (h : R (.tup ds) O) (r : RepAll K F ds vs) (hp : H p = none) : Q (.ref p) (upd H p (.tup vs)) := by
  have hF := g.freeF hp
  refine po (.tup ds) O (upd F p (.tup vs)) _ _ h (same_upd hF) (g.new hp) ?_
  simp only [Rep]
  exact ⟨p, vs, rfl, .inl (.inl upd_same), r.mono (same_upd hF)⟩
theorem PostE.lstO {R : VD} {Q : VK} {ds : List D} {vs : List V} {p : Addr} (po : PostE M K F P R Q) (g : Gd M K F O P H) (h : ∀ p, O p = none → R (.ref p) (updO O p (.lst ds))) (r : RepAll K F ds vs) (hp : H p = none) : Q (.ref p) (upd H p (.lst vs)) :=
  po (.ref p) _ F _ _ (h p (g.freeO hp)) (Same.refl _) (g.newO hp ⟨vs, upd_same, r⟩) (by simp only [Rep])
theorem PostE.more {R : VD} {Q : VK} {F' : Hp} (po : PostE M K F P R Q) (s : Same F F') : PostE M K F' P R Q := fun d O' F2 H' v q s2 g r => po d O' F2 H' v q (s.trans s2) g r
end

section
variable {X : Cx}
theorem opD_of {f : Value → Value → Sem Value} {r : R2D}
    (h : ∀ (pins : List (Addr × Obj)) (s : Shared) (σ : St) (F P H : Hp) (O : Ow) (x y : V) (dx dy : D) (v u : Value) (R : VD) (Q : VK), Inv X pins σ H s → RelV x v → RelV y u → Gd M X.K F O P H → Rep X.K F dx x → Rep X.K F dy y → r dx dy O R → PostE M X.K F P R Q →
      ∃ r0, OpR X f r0 ∧ r0 x y H Q) : OpD M X f r := by
  intro pins s σ H x y v u Q I rx ry q
  obtain ⟨F, O, P, dx, dy, R, g, r1, r2, q, po⟩ := q
  obtain ⟨r0, o, z⟩ := h pins s σ F P H O x y dx dy v u R Q I rx ry g r1 r2 q po
  exact o pins s σ H x y v u Q I rx ry z

/-! ### + - * // % ** -/
def rAddD : R2D := fun x y O Q => match deref O x, deref O y with
  | .int i, .int j => Q (.int (i + j)) O
  | .int i, .bl k => Q (.int (i + b2i k)) O
  | .str i, .str j => i.length + j.length ≤ sizeLine ∧ Q (.str (i ++ j)) O
  | .lst xs, .lst ys => xs.length + ys.length ≤ sizeLine ∧ Q (.lst (xs ++ ys)) O
  | .tup xs, .tup ys => xs ≠ [] ∧ xs.length + ys.length ≤ sizeLine ∧ Q (.tup (xs ++ ys)) O
  | _, _ => False
/-- .. of two lists, the new one owned -/
def rCatO : R2D := fun x y O Q => match deref O x, deref O y with
  | .lst xs, .lst ys => xs.length + ys.length ≤ sizeLine ∧ ∀ p, O p = none → Q (.ref p) (updO O p (.lst (xs ++ ys)))
  | _, _ => False
theorem od_add : OpD M X (binaryOp .Add) rAddD := by
  refine opD_of fun pins s σ F P H O x y dx dy v u R Q I rx ry g r1 r2 q po => ?_
  have h1 := g.deref r1
  have h2 := g.deref r2
  unfold rAddD at q
  revert q h1 h2
  generalize Kf.deref O dx = ex
  generalize Kf.deref O dy = ey
  intro q h1 h2
  cases ex <;> cases ey <;> first | exact q.elim | skip
  · simp only [RepH, Rep] at h1 h2
    exact ⟨_, op_add_ib, _, _, h1, h2, po.at g q (by simp only [Rep])⟩
  · simp only [RepH, Rep] at h1 h2
    exact ⟨_, op_add, _, _, h1, h2, po.at g q (by simp only [Rep])⟩
  · simp only [RepH, Rep] at h1 h2
    exact ⟨_, op_add_str, _, _, h1, h2, q.1, po.at g q.2 (by simp only [Rep])⟩
  · simp only [RepH, Rep] at h1 h2
    obtain ⟨a, xs, rfl, a1, a2⟩ := h1
    obtain ⟨b, ys, rfl, b1, b2⟩ := h2
    obtain ⟨q1, q2, q3⟩ := q
    refine ⟨_, op_catT, a, b, xs, ys, rfl, rfl, Same.seqT g.fz a1, Same.seqT g.fz b1, ?_, by rw [← a2.length, ← b2.length]; exact q2, fun e => ?_, fun e p hp => ?_⟩
    · intro e; rw [e] at a2; have := a2.length; exact q1 (List.eq_nil_of_length_eq_zero (by simpa using this))
    · rw [e] at b2
      have l0 := b2.length
      rename_i ex ey
      have e0 : ey = [] := List.eq_nil_of_length_eq_zero (by simpa using l0)
      rw [e0, List.append_nil] at q3
      refine po.at g q3 ?_
      simp only [Rep]
      exact ⟨a, xs, rfl, a1, a2⟩
    · exact po.tup g q3 (a2.append b2) hp
  · obtain ⟨a, xs, rfl, a1, a2⟩ := h1
    obtain ⟨b, ys, rfl, b1, b2⟩ := h2
    exact ⟨_, op_cat, a, b, xs, ys, rfl, rfl, a1, b1, by rw [← a2.length, ← b2.length]; exact q.1, fun p hp => po.lst g q.2 (a2.append b2) hp⟩
def rInts (C : Int → Int → Prop) (f : Int → Int → D) : R2D := fun x y O Q => match x, y with
  | .int i, .int j => C i j ∧ Q (f i j) O
  | _, _ => False
theorem od_ints {f : Value → Value → Sem Value} {C : Int → Int → Prop} {g : Int → Int → V} {k : Int → Int → D} (h : OpR X f (rI C g)) (hk : ∀ F i j, Rep X.K F (k i j) (g i j)) : OpD M X f (rInts C k) := by
  refine opD_of fun pins s σ F P H O x y dx dy v u R Q I rx ry gd r1 r2 q po => ?_
  unfold rInts at q
  cases dx <;> first | exact q.elim | skip
  cases dy <;> first | exact q.elim | skip
  simp only [Rep] at r1 r2
  exact ⟨_, h, _, _, r1, r2, q.1, po.at gd q.2 (hk F _ _)⟩
def rInts0 (f : Int → Int → D) : R2D := fun x y O Q => match x, y with
  | .int i, .int j => Q (f i j) O
  | _, _ => False
theorem od_ints0 {f : Value → Value → Sem Value} {g : Int → Int → V} {k : Int → Int → D} (h : OpR X f (rI0 g)) (hk : ∀ F i j, Rep X.K F (k i j) (g i j)) : OpD M X f (rInts0 k) := by
  refine opD_of fun pins s σ F P H O x y dx dy v u R Q I rx ry gd r1 r2 q po => ?_
  unfold rInts0 at q
  cases dx <;> first | exact q.elim | skip
  cases dy <;> first | exact q.elim | skip
  simp only [Rep] at r1 r2
  exact ⟨_, h, _, _, r1, r2, po.at gd q (hk F _ _)⟩
theorem od_sub : OpD M X (binaryOp .Sub) (rInts0 fun i j => .int (i - j)) := od_ints0 op_sub fun _ _ _ => by simp only [Rep]
theorem od_mul : OpD M X (binaryOp .Mult) (rInts CMul fun i j => .int (i * j)) := od_ints op_mul fun _ _ _ => by simp only [Rep]
/-- // and divmod by a positive divisor below 2 ^ 60 -/
def CDv (i j : Int) : Prop := 0 < j ∧ j < 1329227995784915872903807060280344576
theorem CDv.w {i j : Int} (h : CDv i j) : CDivW i j := by
  obtain ⟨h1, h2⟩ := h
  exact wide_div h1 (b := 120) (by omega) (by decide) (by decide)
theorem op_fdivV : OpR X (binaryOp .FloorDiv) (rI CDv fun i j => .int (i / j)) := fun pins s σ H x y v u Q I rx ry ⟨i, j, e1, e2, c, q⟩ => op_fdivW pins s σ H x y v u Q I rx ry ⟨i, j, e1, e2, c.w, q⟩
theorem od_div : OpD M X (binaryOp .FloorDiv) (rInts CDv fun i j => .int (i / j)) := od_ints op_fdivV fun _ _ _ => by simp only [Rep]
theorem od_mod : OpD M X (binaryOp .Mod) (rInts (fun _ j => 0 < j) fun i j => .int (i % j)) := od_ints op_mod fun _ _ _ => by simp only [Rep]
theorem od_pow : OpD M X (binaryOp .Pow) (rInts CPow fun i j => .int (i ^ j.toNat)) := od_ints op_pow fun _ _ _ => by simp only [Rep]
/-! ### comparisons -/
/-- < of ints, of texts -/
def rLtD : R2D := fun x y O Q => match x, y with
  | .int i, .int j => Q (.bl (decide (i < j))) O
  | .str i, .str j => Q (.bl (decide (i.cps.toList < j.cps.toList))) O
  | _, _ => False
theorem od_lt : OpD M X (compareOp .Lt) rLtD := by
  refine opD_of fun pins s σ F P H O x y dx dy v u R Q I rx ry gd r1 r2 q po => ?_
  unfold rLtD at q
  cases dx <;> first | exact q.elim | skip
  all_goals cases dy <;> first | exact q.elim | skip
  · simp only [Rep] at r1 r2
    exact ⟨_, op_lt, _, _, r1, r2, po.at gd q (by simp only [Rep])⟩
  · simp only [Rep] at r1 r2
    exact ⟨_, op_lt_str, _, _, r1, r2, po.at gd q (by simp only [Rep])⟩
def rLeD : R2D := fun x y O Q => match x, y with
  | .int i, .int j => Q (.bl (decide (i ≤ j))) O
  | .str i, .str j => Q (.bl (!decide (j.cps.toList < i.cps.toList))) O
  | _, _ => False
theorem od_le : OpD M X (compareOp .LtE) rLeD := by
  refine opD_of fun pins s σ F P H O x y dx dy v u R Q I rx ry gd r1 r2 q po => ?_
  unfold rLeD at q
  cases dx <;> first | exact q.elim | skip
  all_goals cases dy <;> first | exact q.elim | skip
  · simp only [Rep] at r1 r2
    exact ⟨_, op_le, _, _, r1, r2, po.at gd q (by simp only [Rep])⟩
  · simp only [Rep] at r1 r2
    exact ⟨_, op_le_str, _, _, r1, r2, po.at gd q (by simp only [Rep])⟩
theorem od_gt : OpD M X (compareOp .Gt) (rInts0 fun i j => .bl (decide (j < i))) := od_ints0 op_gt fun _ _ _ => by simp only [Rep]
theorem od_ge : OpD M X (compareOp .GtE) (rInts0 fun i j => .bl (decide (j ≤ i))) := od_ints0 op_ge fun _ _ _ => by simp only [Rep]
/-- == of data; the answer by eqv -/
def rEqD (neg : Bool) : R2D := fun x y O Q => isPy (ddf O 192 x) = true ∧ isPy (ddf O 192 y) = true ∧ min (dp (ddf O 192 x)) (dp (ddf O 192 y)) ≤ 190 ∧ Q (.bl (neg ^^ PyData.eqv (toPy (ddf O 192 x)) (toPy (ddf O 192 y)))) O
theorem od_eq (hu : X.A.units + 200 < cLine) : OpD M X (compareOp .Eq) (rEqD false) := by
  intro pins s σ H x y v u Q I rx ry q
  obtain ⟨F, O, P, dx, dy, R, g, r1, r2, ⟨q1, q2, q3, q4⟩, po⟩ := q
  obtain ⟨as, w1⟩ := Dp.reads I _ x v (Rep.dp (Same.refl _) _ _ q1 (g.ddf 192 _ _ r1)) rx
  obtain ⟨bs, w2⟩ := Dp.reads I _ y u (Rep.dp (Same.refl _) _ _ q2 (g.ddf 192 _ _ r2)) ry
  have hroom : X.A.units + min (toPy (ddf O 192 dx)).depth (toPy (ddf O 192 dy)).depth < cLine := by
    have : min (toPy (ddf O 192 dx)).depth (toPy (ddf O 192 dy)).depth ≤ 190 := q3
    omega
  refine SeqAt.compareEq_reads w1 w2 (isPy_lay _ q1) (isPy_lay _ q2) hroom ⟨.bl _, H, I, rfl, ?_⟩
  rw [Bool.false_xor] at q4
  exact po.at g q4 (by simp only [Rep])
theorem od_ne (hu : X.A.units + 200 < cLine) : OpD M X (compareOp .NotEq) (rEqD true) := by
  intro pins s σ H x y v u Q I rx ry q
  obtain ⟨F, O, P, dx, dy, R, g, r1, r2, ⟨q1, q2, q3, q4⟩, po⟩ := q
  obtain ⟨as, w1⟩ := Dp.reads I _ x v (Rep.dp (Same.refl _) _ _ q1 (g.ddf 192 _ _ r1)) rx
  obtain ⟨bs, w2⟩ := Dp.reads I _ y u (Rep.dp (Same.refl _) _ _ q2 (g.ddf 192 _ _ r2)) ry
  have hroom : X.A.units + min (toPy (ddf O 192 dx)).depth (toPy (ddf O 192 dy)).depth < cLine := by
    have : min (toPy (ddf O 192 dx)).depth (toPy (ddf O 192 dy)).depth ≤ 190 := q3
    omega
  refine SeqAt.compareNe_reads w1 w2 (isPy_lay _ q1) (isPy_lay _ q2) hroom ⟨.bl _, H, I, rfl, ?_⟩
  rw [Bool.true_xor] at q4
  exact po.at g q4 (by simp only [Rep])
/-- is None, is not None -/
def isNon : D → Bool
  | .non => true
  | _ => false
theorem Rep.isNon {K : PySem.W.Frag} {F : Hp} {d : D} {v : V} (r : Rep K F d v) : decide (v = .non) = isNon d := by
  cases d <;> simp only [Rep] at r <;> first | (subst r; rfl) | (obtain ⟨a, xs, rfl, _⟩ := r; rfl) | (obtain ⟨a, rfl, _⟩ := r; rfl)
def rIsN (neg : Bool) : R2D := fun x y O Q => match y with
  | .non => Q (.bl (neg ^^ isNon x)) O
  | _ => False
theorem od_is : OpD M X (compareOp .Is) (rIsN false) := by
  refine opD_of fun pins s σ F P H O x y dx dy v u R Q I rx ry g r1 r2 q po => ?_
  unfold rIsN at q
  cases dy <;> first | exact q.elim | skip
  simp only [Rep] at r2
  refine ⟨_, op_isN, r2, ?_⟩
  rw [Bool.false_xor] at q
  rw [r1.isNon]
  exact po.at g q (by simp only [Rep])
theorem od_isnot : OpD M X (compareOp .IsNot) (rIsN true) := by
  refine opD_of fun pins s σ F P H O x y dx dy v u R Q I rx ry g r1 r2 q po => ?_
  unfold rIsN at q
  cases dy <;> first | exact q.elim | skip
  simp only [Rep] at r2
  refine ⟨_, op_notN, r2, ?_⟩
  rw [Bool.true_xor] at q
  rw [r1.isNon]
  exact po.at g q (by simp only [Rep])
def rInD (neg : Bool) : R2D := fun x y O Q => match deref O y with
  | .str z => match x with
    | .str i => ∃ c, i = ⟨#[c]⟩ ∧ Q (.bl (neg ^^ decide (c ∈ z.cps.toList))) O
    | _ => False
  | .lst ds => isPy (deref O x) = true ∧ isPys ds = true ∧ dp (deref O x) ≤ 190 ∧ Q (.bl (neg ^^ ds.any fun z => PyData.eqv (toPy z) (toPy (deref O x)))) O
  | .tup ds => isPy (deref O x) = true ∧ isPys ds = true ∧ dp (deref O x) ≤ 190 ∧ Q (.bl (neg ^^ ds.any fun z => PyData.eqv (toPy z) (toPy (deref O x)))) O
  | _ => False
theorem any_toPys (d : PyData) : ∀ ds : List D, (toPys ds).any (fun z => PyData.eqv z d) = ds.any fun z => PyData.eqv (toPy z) d
  | [] => rfl
  | x :: ds => by rw [toPys, List.any_cons, List.any_cons, any_toPys d ds]
theorem od_in_gen {op : CmpOp} {neg : Bool} (hu : X.A.units + 200 < cLine)
    (h1 : OpR X (compareOp op) (fun x y H Q => ∃ (c : Nat) (z : Str), x = .str ⟨#[c]⟩ ∧ y = .str z ∧ Q (.bl (neg ^^ decide (c ∈ z.cps.toList))) H))
    (h2 : ∀ (pins : List (Addr × Obj)) (s : Shared) (σ : St) (H : Hp) (x y : V) (v u : Value) (Q : VK) (d : PyData) (ds : List PyData), Inv X pins σ H s → RelV x v → RelV y u → Dp X.K H x d → Dp X.K H y (.list ds) → d.canLay0 = true → PyData.canLayAll0 ds = true → d.depth ≤ 190 →
      Q (.bl (neg ^^ ds.any fun z => PyData.eqv z d)) H → wpAny (model X.prog X.w) X.A (compareOp op v u) (EP X pins σ Q) X.xe s)
    (h3 : ∀ (pins : List (Addr × Obj)) (s : Shared) (σ : St) (H : Hp) (x y : V) (v u : Value) (Q : VK) (d : PyData) (ds : List PyData), Inv X pins σ H s → RelV x v → RelV y u → Dp X.K H x d → Dp X.K H y (.tuple ds) → d.canLay0 = true → PyData.canLayAll0 ds = true → d.depth ≤ 190 →
      Q (.bl (neg ^^ ds.any fun z => PyData.eqv z d)) H → wpAny (model X.prog X.w) X.A (compareOp op v u) (EP X pins σ Q) X.xe s) : OpD M X (compareOp op) (rInD neg) := by
  intro pins s σ H x y v u Q I rx ry q
  obtain ⟨F, O, P, dx, dy, R, g, r1, r2, q, po⟩ := q
  have e2 := g.deref r2
  unfold rInD at q
  revert q e2
  generalize hey : Kf.deref O dy = ey
  intro q e2
  cases ey <;> first | exact q.elim | skip
  · cases dx <;> first | exact q.elim | skip
    simp only [RepH, Rep] at e2 r1
    obtain ⟨c, rfl, q⟩ := q
    exact h1 pins s σ H x y v u Q I rx ry ⟨c, _, r1, e2, po.at g q (by simp only [Rep])⟩
  · simp only [RepH, Rep] at e2
    obtain ⟨b, ys, rfl, b1, b2⟩ := e2
    obtain ⟨q1, q2, q3, q4⟩ := q
    refine h3 pins s σ H x _ v u Q _ _ I rx ry ((g.deref r1).dp g.fz q1) (.tup (Same.seqT g.fz b1) (RepAll.dp g.fz _ ys q2 b2)) (isPy_lay _ q1) (isPys_lay _ q2) q3 ?_
    rw [any_toPys]
    exact po.at g q4 (by simp only [Rep])
  · obtain ⟨q1, q2, q3, q4⟩ := q
    obtain ⟨b, ys, rfl, b1, b2⟩ := e2
    refine h2 pins s σ H x _ v u Q _ _ I rx ry ((g.deref r1).dp g.fz q1) (.lst (SqL.of b1) (RepAll.dp g.fz _ ys q2 b2)) (isPy_lay _ q1) (isPys_lay _ q2) q3 ?_
    rw [any_toPys]
    exact po.at g q4 (by simp only [Rep])
theorem od_in (hu : X.A.units + 200 < cLine) : OpD M X (compareOp .In) (rInD false) := by
  refine od_in_gen hu (fun pins s σ H x y v u Q I rx ry q => ?_) (fun pins s σ H x y v u Q d ds I rx ry hd he c1 c2 c3 q => ?_) (fun pins s σ H x y v u Q d ds I rx ry hd he c1 c2 c3 q => ?_)
  · obtain ⟨c, z, e1, e2, q⟩ := q
    rw [Bool.false_xor] at q
    exact op_in_sign pins s σ H x y v u Q I rx ry ⟨c, z, e1, e2, q⟩
  · obtain ⟨as, r1⟩ := Dp.reads I d x v hd rx
    obtain ⟨bs, r2⟩ := Dp.reads I (.list ds) y u he ry
    rw [Bool.false_xor] at q
    exact SeqAt.in_list_reads r2 r1 c2 c1 (by omega) ⟨.bl _, H, I, rfl, q⟩
  · obtain ⟨as, r1⟩ := Dp.reads I d x v hd rx
    obtain ⟨bs, r2⟩ := Dp.reads I (.tuple ds) y u he ry
    rw [Bool.false_xor] at q
    exact SeqAt.in_tuple_reads r2 r1 c2 c1 (by omega) ⟨.bl _, H, I, rfl, q⟩
theorem od_notin (hu : X.A.units + 200 < cLine) : OpD M X (compareOp .NotIn) (rInD true) := by
  refine od_in_gen hu (fun pins s σ H x y v u Q I rx ry q => ?_) (fun pins s σ H x y v u Q d ds I rx ry hd he c1 c2 c3 q => ?_) (fun pins s σ H x y v u Q d ds I rx ry hd he c1 c2 c3 q => ?_)
  · obtain ⟨c, z, e1, e2, q⟩ := q
    rw [Bool.true_xor] at q
    exact op_notIn_sign pins s σ H x y v u Q I rx ry ⟨c, z, e1, e2, q⟩
  · obtain ⟨as, r1⟩ := Dp.reads I d x v hd rx
    obtain ⟨bs, r2⟩ := Dp.reads I (.list ds) y u he ry
    rw [Bool.true_xor] at q
    exact SeqAt.notIn_list_reads r2 r1 c2 c1 (by omega) ⟨.bl _, H, I, rfl, q⟩
  · obtain ⟨as, r1⟩ := Dp.reads I d x v hd rx
    obtain ⟨bs, r2⟩ := Dp.reads I (.tuple ds) y u he ry
    rw [Bool.true_xor] at q
    exact SeqAt.notIn_tuple_reads r2 r1 c2 c1 (by omega) ⟨.bl _, H, I, rfl, q⟩
end
end Kf
namespace Kf
open PySem PySem.Spec L2
open PyProof.Rows hiding St
variable {M : MX}

section
variable {X : Cx} {a b e : Expr} {es : List Expr} {fa fb : FE} {fr : FA} {pos p2 : Pos}

/-! ### subscripts -/
def rIxD : R2D := fun x y O Q => match deref O x, y with
  | .lst ds, .int i => match atI ds i with
    | some d => Q d O
    | none => False
  | .tup ds, .int i => match atI ds i with
    | some d => Q d O
    | none => False
  | .str z, .int i => z.length ≤ sizeLine ∧ match atI z.cps.toList i with
    | some c => Q (.str ⟨#[c]⟩) O
    | none => False
  | .scr ns, .int i => match atI ns i with
    | some n => Q (.int n) O
    | none => False
  | .ref a, .int i => match O a with
    | some .pool => (i = 0 ∧ ∀ x : Int, 0 ≤ x → Q (.int x) O) ∨ (i = 1 ∧ ∀ x : Int, 0 ≤ x → x < 2147483647 → Q (.int x) O)
    | _ => False
  | _, _ => False
theorem RepAll.atI {K : PySem.W.Frag} {F : Hp} {ds : List D} {vs : List V} {i : Int} {d : D} (r : RepAll K F ds vs) (h : atI ds i = some d) : ∃ v, L2.atI vs i = some v ∧ Rep K F d v := by
  unfold L2.atI at h ⊢
  rw [← r.length]
  obtain ⟨j, h1, h2⟩ := Option.bind_eq_some_iff.mp h
  obtain ⟨v, e, q⟩ := r.get h2
  exact ⟨v, Option.bind_eq_some_iff.mpr ⟨j, h1, e⟩, q⟩
theorem atI_map {α β : Type} (f : α → β) (xs : List α) (i : Int) : L2.atI (xs.map f) i = (L2.atI xs i).map f := by
  unfold L2.atI
  rw [List.length_map]
  cases ixN xs.length i with
  | none => rfl
  | some j => simp
theorem id_ix : IxR X (liftR2 M X.K rIxD) := by
  intro value slice pins s σ H x y v u Q I rx ry q hp
  obtain ⟨F, O, P, dx, dy, R, g, r1, r2, q, po⟩ := q
  have h1 := g.deref r1
  unfold rIxD at q
  revert q h1
  generalize Kf.deref O dx = ex
  intro q h1
  cases ex <;> first | exact q.elim | skip
  all_goals cases dy <;> first | exact q.elim | skip
  all_goals simp only [Rep] at r2; subst r2
  · rename_i z i
    simp only [RepH, Rep] at h1; subst h1
    dsimp only at q
    obtain ⟨q0, q⟩ := q
    cases e : L2.atI z.cps.toList i with
    | none => rw [e] at q; exact q.elim
    | some c =>
      rw [e] at q
      exact ix_str value slice pins s σ H _ _ v u Q I rx ry ⟨z, i, c, rfl, rfl, q0, e, po.at g q (by simp only [Rep])⟩ hp
  · rename_i ds i
    simp only [RepH, Rep] at h1
    obtain ⟨c, xs, rfl, h1, h2⟩ := h1
    dsimp only at q
    cases e : L2.atI ds i with
    | none => rw [e] at q; exact q.elim
    | some d =>
      rw [e] at q
      obtain ⟨w, e2, rw'⟩ := h2.atI e
      exact ix_tup value slice pins s σ H _ _ v u Q I rx ry ⟨c, xs, i, w, rfl, rfl, Same.seqT g.fz h1, e2, po.at g q rw'⟩ hp
  · rename_i ds i
    obtain ⟨c, xs, rfl, h1, h2⟩ := h1
    dsimp only at q
    cases e : L2.atI ds i with
    | none => rw [e] at q; exact q.elim
    | some d =>
      rw [e] at q
      obtain ⟨w, e2, rw'⟩ := h2.atI e
      exact ix_list value slice pins s σ H _ _ v u Q I rx ry ⟨c, xs, i, w, rfl, rfl, SqL.of h1, e2, po.at g q rw'⟩ hp
  · rename_i c i
    simp only [RepH, Rep] at h1
    subst h1
    dsimp only at q
    cases e : O c with
    | none => rw [e] at q; exact q.elim
    | some cl =>
      rw [e] at q
      cases cl with
      | lst _ => exact q.elim
      | dic _ => exact q.elim
      | dicL _ _ => exact q.elim
      | exc _ _ => exact q.elim
      | ins _ _ => exact q.elim
      | pool =>
        obtain ⟨_, _, z, y, hH, h2, h3, h4⟩ := g.ow c _ e
        rcases q with ⟨rfl, q⟩ | ⟨rfl, q⟩
        · exact ix_list value slice pins s σ H _ _ v u Q I rx ry ⟨c, _, 0, .int z, rfl, rfl, SqL.of hH, rfl, po.at g (q z h2) (by simp only [Rep])⟩ hp
        · exact ix_list value slice pins s σ H _ _ v u Q I rx ry ⟨c, _, 1, .int y, rfl, rfl, SqL.of hH, rfl, po.at g (q y h3 h4) (by simp only [Rep])⟩ hp
  · rename_i ns i
    simp only [RepH, Rep] at h1
    obtain ⟨c, rfl, h1⟩ := h1
    dsimp only at q
    cases e : L2.atI ns i with
    | none => rw [e] at q; exact q.elim
    | some n =>
      rw [e] at q
      have e2 : L2.atI (ns.map V.int) i = some (.int n) := by rw [atI_map, e]; rfl
      exact ix_list value slice pins s σ H _ _ v u Q I rx ry ⟨c, _, i, _, rfl, rfl, g.fz.seq h1, e2, po.at g q (by simp only [Rep])⟩ hp
theorem de_ix (ha : DE M X a fa) (hb : DE M X b fb) (hs : PlainIx b := by intro _ _; rfl) : DE M X (.Subscript a b pos) (fOp rIxD fa fb) := peMono (pe_ix id_ix ha hb hs) fOp_lift
/-! ### slices -/
abbrev FO := DEnv → Ow → (Option Int → Ow → Prop) → Prop
def liftO (M : MX) (K : PySem.W.Frag) (f : FO) : TO := fun σ H Q => ∃ F O P ρ R, Gd M K F O P H ∧ EnvOk K F ρ σ ∧ f ρ O R ∧ ∀ o O' F' H', R o O' → Same F F' → Gd M K F' O' P H' → Q o H'
abbrev DO (M : MX) (X : Cx) (e : Option Expr) (f : FO) : Prop := PO X e (liftO M X.K f)
theorem poMono {X : Cx} {e : Option Expr} {t t' : TO} (h : PO X e t) (imp : ∀ σ H Q, t' σ H Q → t σ H Q) : PO X e t' := ⟨fun pins s σ H Q I q => h.run pins s σ H Q I (imp σ H Q q)⟩
def fNoPart : FO := fun _ O Q => Q none O
def asI (d : D) (O : Ow) (Q : Option Int → Ow → Prop) : Prop := match d with
  | .int i => Q (some i) O
  | _ => False
theorem asI_i {i : Int} {O : Ow} {Q : Option Int → Ow → Prop} : asI (.int i) O Q = Q (some i) O := rfl
def fPart (f : FE) : FO := fun ρ O Q => f ρ O fun d O1 => asI d O1 Q
theorem do_none : DO M X none fNoPart := poMono po_none fun σ H Q h => by
  obtain ⟨F, O, P, ρ, R, g, en, q, po⟩ := h
  exact po none O F H q (Same.refl _) g
theorem do_some (h : DE M X e fa) : DO M X (some e) (fPart fa) := poMono (po_some h) fun σ H Q h => by
  obtain ⟨F, O, P, ρ, R, g, en, q, po⟩ := h
  refine ⟨F, O, P, ρ, _, g, en, q, fun d O' F' H' v q1 s1 g1 r1 => ?_⟩
  unfold asI at q1
  cases d <;> first | exact q1.elim | skip
  simp only [Rep] at r1
  exact ⟨_, r1, po _ O' F' H' q1 s1 g1⟩
def cut {α : Type} (xs : List α) (lo hi : Option Int) : List α := (xs.drop (HT.sIx xs.length 0 lo)).take (HT.sIx xs.length xs.length hi - HT.sIx xs.length 0 lo)
theorem RepAll.cut {K : PySem.W.Frag} {F : Hp} {ds : List D} {vs : List V} (r : RepAll K F ds vs) (lo hi : Option Int) : RepAll K F (Kf.cut ds lo hi) (cutV vs lo hi) := by
  unfold Kf.cut cutV
  rw [r.length]
  exact (r.drop _).take _
abbrev R3D := D → Option Int → Option Int → Ow → VD → Prop
def rSlD : R3D := fun x lo hi O Q => match deref O x with
  | .lst ds => Q (.lst (cut ds lo hi)) O
  | .tup ds => ¬ (HT.sIx ds.length 0 lo = 0 ∧ HT.sIx ds.length ds.length hi = ds.length) ∧ Q (.tup (cut ds lo hi)) O
  | .str z => z.length ≤ sizeLine ∧ Q (.str (cutS z lo hi)) O
  | _ => False
def liftR3 (M : MX) (K : PySem.W.Frag) (r : R3D) : V → Option Int → Option Int → Hp → VK → Prop := fun x lo hi H Q => ∃ F O P dx R, Gd M K F O P H ∧ Rep K F dx x ∧ r dx lo hi O R ∧ PostE M K F P R Q
theorem sd_sl : SlR X (liftR3 M X.K rSlD) := by
  intro pins s σ H x v vl vu lo hi sl Q I rx hs pl pu q
  obtain ⟨F, O, P, dx, R, g, r1, q, po⟩ := q
  have h1 := g.deref r1
  unfold rSlD at q
  revert q h1
  generalize Kf.deref O dx = ex
  intro q h1
  cases ex <;> first | exact q.elim | skip
  · simp only [RepH, Rep] at h1
    exact sl_str pins s σ H x v vl vu lo hi sl Q I rx hs pl pu ⟨_, h1, q.1, po.at g q.2 (by simp only [Rep])⟩
  · simp only [RepH, Rep] at h1
    obtain ⟨c, xs, rfl, h1, h2⟩ := h1
    refine sl_tup pins s σ H _ v vl vu lo hi sl Q I rx hs pl pu ⟨c, xs, rfl, Same.seqT g.fz h1, by rw [← h2.length]; exact q.1, fun p hp => po.tup g q.2 (h2.cut lo hi) hp⟩
  · obtain ⟨c, xs, rfl, h1, h2⟩ := h1
    exact sl_list pins s σ H _ v vl vu lo hi sl Q I rx hs pl pu ⟨c, xs, rfl, SqL.of h1, fun p hp => po.lst g q (h2.cut lo hi) hp⟩
def fSl (r : R3D) (fe : FE) (fl fh : FO) : FE := fun ρ O Q => fe ρ O fun x O1 => fl ρ O1 fun l O2 => fh ρ O2 fun u O3 => r x l u O3 Q
theorem de_sliceR {r : R3D} {lo hi : Option Expr} {fl fh : FO} (hr : SlR X (liftR3 M X.K r)) (he : DE M X e fa) (hl : DO M X lo fl) (hu : DO M X hi fh) : DE M X (.Subscript e (.Slice lo hi none p2) pos) (fSl r fa fl fh) := by
  refine peMono (pe_slice hr he hl hu) fun σ H Q h => ?_
  obtain ⟨F, O, P, ρ, R, g, en, q, po⟩ := h
  refine ⟨F, O, P, ρ, _, g, en, q, fun x O1 F1 H1 v q1 s1 g1 r1 => ?_⟩
  refine ⟨F1, O1, P, ρ, _, g1, en.mono s1, q1, fun l O2 F2 H2 q2 s2 g2 => ?_⟩
  refine ⟨F2, O2, P, ρ, _, g2, en.mono (s1.trans s2), q2, fun u O3 F3 H3 q3 s3 g3 => ?_⟩
  exact ⟨F3, O3, P, x, R, g3, r1.mono (s2.trans s3), q3, po.more (s1.trans (s2.trans s3))⟩
theorem de_slice {lo hi : Option Expr} {fl fh : FO} (he : DE M X e fa) (hl : DO M X lo fl) (hu : DO M X hi fh) : DE M X (.Subscript e (.Slice lo hi none p2) pos) (fSl rSlD fa fl fh) := de_sliceR sd_sl he hl hu
/-! ### -a -/
def rNeg : R1D := fun x O Q => match x with
  | .int i => Q (.int (-i)) O
  | _ => False
def fUn (r : R1D) (f : FE) : FE := fun ρ O Q => f ρ O fun x O1 => r x O1 Q
theorem de_neg (ha : DE M X a fa) : DE M X (.UnaryOp .USub a pos) (fUn rNeg fa) := by
  refine peMono (pe_un un_neg ha) fun σ H Q h => ?_
  obtain ⟨F, O, P, ρ, R, g, en, q, po⟩ := h
  refine ⟨F, O, P, ρ, _, g, en, q, fun x O1 F1 H1 v q1 s1 g1 r1 => ?_⟩
  cases x <;> first | exact q1.elim | skip
  simp only [Rep] at r1
  exact ⟨_, r1, (po.more s1).at g1 q1 (by simp only [Rep])⟩
/-! ### calls of built-ins -/
abbrev RAD := List D → Ow → VD → Prop
abbrev CallD (M : MX) (X : Cx) (f : Value) (r : RAD) : Prop := CallR X f (liftRA M X.K r)
def fCB (r : RAD) (fr : FA) : FE := fun ρ O Q => fr ρ O fun ds O1 => r ds O1 Q
theorem fCB_lift {r : RAD} : ∀ σ H Q, liftE M X.K (fCB r fr) σ H Q → tCB (liftRA M X.K r) (liftA M X.K fr) σ H Q := by
  intro σ H Q h
  obtain ⟨F, O, P, ρ, R, g, en, q, po⟩ := h
  refine ⟨F, O, P, ρ, _, g, en, q, fun ds O1 F1 H1 vs q1 s1 g1 r1 => ?_⟩
  exact ⟨F1, O1, P, ds, R, g1, r1, q1, po.more s1⟩
theorem de_callB {id : String} {r : RAD} {x : Str} {p : Pos} (hc : CallD M X (.builtin id) r) (hg : Gl X x) (hm : X.mg x = none) (hv : bootBuiltins x = some (.builtin id)) (ha : DA M X (e :: es) fr) (hn : x ≠ "__name__" := by decide) (hdb : (x == ("__debug__" : Str)) = false := by decide)
    (he : starEach (e :: es) X.env = (false, eval e X.env) :: starEach es X.env := by rfl) (hpl : (backTo pos (starEach es X.env)).any (·.1) = false := by rfl) : DE M X (.Call (.Name x p) (e :: es) [] pos) (fCB r fr) :=
  peMono (pe_callB hc hg hm hv ha hn hdb he hpl) fCB_lift
theorem de_callTy {T : String} {r : RAD} {x : Str} {p : Pos} (hc : CallD M X (.type T) r) (hg : Gl X x) (hm : X.mg x = none) (hv : bootBuiltins x = some (.type T)) (ha : DA M X (e :: es) fr) (hn : x ≠ "__name__" := by decide) (hdb : (x == ("__debug__" : Str)) = false := by decide)
    (he : starEach (e :: es) X.env = (false, eval e X.env) :: starEach es X.env := by rfl) (hpl : (backTo pos (starEach es X.env)).any (·.1) = false := by rfl) : DE M X (.Call (.Name x p) (e :: es) [] pos) (fCB r fr) :=
  peMono (pe_callTy hc hg hm hv ha hn hdb he hpl) fCB_lift
theorem callD_of {f : Value} {r : RAD}
    (h : ∀ (F P H : Hp) (O : Ow) (xs : List V) (ds : List D) (R : VD) (Q : VK), Gd M X.K F O P H → RepAll X.K F ds xs → r ds O R → PostE M X.K F P R Q → ∃ r0, CallR X f r0 ∧ r0 xs H Q) : CallD M X f r := by
  intro pins s σ H xs us Q I rx q
  obtain ⟨F, O, P, ds, R, g, r1, q, po⟩ := q
  obtain ⟨r0, o, z⟩ := h F P H O xs ds R Q g r1 q po
  exact o pins s σ H xs us Q I rx z
/-- len -/
def rLenD : RAD := fun ds O Q => match ds with
  | [x] => match deref O x with
    | .lst ds => Q (.int ds.length) O
    | .tup ds => Q (.int ds.length) O
    | .str z => z.length ≤ sizeLine ∧ Q (.int z.length) O
    | .scr ns => Q (.int ns.length) O
    | _ => False
  | _ => False
theorem RepAll.one' {K : PySem.W.Frag} {F : Hp} {d : D} {vs : List V} (h : RepAll K F [d] vs) : ∃ v, vs = [v] ∧ Rep K F d v := by
  simp only [RepAll] at h
  obtain ⟨v, r, rfl, h1, rfl⟩ := h
  exact ⟨v, rfl, h1⟩
theorem RepAll.two' {K : PySem.W.Frag} {F : Hp} {d e : D} {vs : List V} (h : RepAll K F [d, e] vs) : ∃ v w, vs = [v, w] ∧ Rep K F d v ∧ Rep K F e w := by
  simp only [RepAll] at h
  obtain ⟨v, r, rfl, h1, w, r2, rfl, h2, rfl⟩ := h
  exact ⟨v, w, rfl, h1, h2⟩
theorem cd_len : CallD M X (.builtin "len") rLenD := by
  refine callD_of fun F P H O xs ds R Q g r1 q po => ?_
  match ds, q with
  | [x], q =>
    obtain ⟨v, rfl, r1'⟩ := r1.one'
    have h1 := g.deref r1'
    unfold rLenD at q
    dsimp only at q
    revert q h1
    generalize Kf.deref O x = ex
    intro q h1
    cases ex <;> first | exact q.elim | skip
    · simp only [RepH, Rep] at h1
      exact ⟨_, call_len_str, _, by rw [h1], q.1, po.at g q.2 (by simp only [Rep])⟩
    · simp only [RepH, Rep] at h1
      obtain ⟨c, xs, rfl, h1, h2⟩ := h1
      exact ⟨_, call_len_seq, c, xs, rfl, .inr (Same.seqT g.fz h1), po.at g q (by simp only [Rep]; rw [h2.length])⟩
    · obtain ⟨c, xs, rfl, h1, h2⟩ := h1
      exact ⟨_, call_len_seq, c, xs, rfl, .inl (SqL.of h1), po.at g q (by simp only [Rep]; rw [h2.length])⟩
    · simp only [RepH, Rep] at h1
      obtain ⟨c, rfl, h1⟩ := h1
      exact ⟨_, call_len_seq, c, _, rfl, .inl (g.fz.seq h1), po.at g q (by simp only [Rep]; rw [List.length_map])⟩
/-- max, min of two ints -/
def rMax2 : RAD := fun ds O Q => match ds with
  | [.int i, .int j] => Q (.int (if j > i then j else i)) O
  | _ => False
def rMin2 : RAD := fun ds O Q => match ds with
  | [.int i, .int j] => Q (.int (if j < i then j else i)) O
  | _ => False
theorem cd_max2 (hc : X.calm = true) : CallD M X (.builtin "max") rMax2 := by
  refine callD_of fun F P H O xs ds R Q g r1 q po => ?_
  unfold rMax2 at q
  split at q
  · obtain ⟨v, w, rfl, h1, h2⟩ := r1.two'
    simp only [Rep] at h1 h2
    exact ⟨_, call_max2 hc, _, _, by rw [h1, h2], po.at g q (by simp only [Rep])⟩
  · exact q.elim
theorem cd_min2 (hc : X.calm = true) : CallD M X (.builtin "min") rMin2 := by
  refine callD_of fun F P H O xs ds R Q g r1 q po => ?_
  unfold rMin2 at q
  split at q
  · obtain ⟨v, w, rfl, h1, h2⟩ := r1.two'
    simp only [Rep] at h1 h2
    exact ⟨_, call_min2 hc, _, _, by rw [h1, h2], po.at g q (by simp only [Rep])⟩
  · exact q.elim
/-- int(i), int(b); str(i) -/
def rInt1 : RAD := fun ds O Q => match ds with
  | [.int i] => Q (.int i) O
  | [.bl k] => Q (.int (if k then 1 else 0)) O
  | _ => False
theorem cd_int1 : CallD M X (.type "int") rInt1 := by
  refine callD_of fun F P H O xs ds R Q g r1 q po => ?_
  unfold rInt1 at q
  split at q
  · obtain ⟨v, rfl, h1⟩ := r1.one'
    simp only [Rep] at h1
    exact ⟨_, call_int1, .inl ⟨_, by rw [h1], po.at g q (by simp only [Rep])⟩⟩
  · obtain ⟨v, rfl, h1⟩ := r1.one'
    simp only [Rep] at h1
    exact ⟨_, call_int1, .inr ⟨_, by rw [h1], po.at g q (by simp only [Rep])⟩⟩
  · exact q.elim
def rStr1 : RAD := fun ds O Q => match ds with
  | [.int i] => i.natAbs.log2 < 1920 ∧ Q (.str (toString i)) O
  | _ => False
theorem cd_str1 : CallD M X (.type "str") rStr1 := by
  refine callD_of fun F P H O xs ds R Q g r1 q po => ?_
  unfold rStr1 at q
  split at q
  · obtain ⟨v, rfl, h1⟩ := r1.one'
    simp only [Rep] at h1
    exact ⟨_, call_str_int, _, by rw [h1], q.1, po.at g q.2 (by simp only [Rep])⟩
  · exact q.elim
/-- list(x): a new list; tuple(x) -/
def rList1 : RAD := fun ds O Q => match ds with
  | [x] => match deref O x with
    | .lst ds => Q (.lst ds) O
    | .tup ds => Q (.lst ds) O
    | _ => False
  | _ => False
def rList1O : RAD := fun ds O Q => match ds with
  | [x] => match deref O x with
    | .lst ds => ∀ p, O p = none → Q (.ref p) (updO O p (.lst ds))
    | .tup ds => ∀ p, O p = none → Q (.ref p) (updO O p (.lst ds))
    | _ => False
  | _ => False
def rTup1 : RAD := fun ds O Q => match ds with
  | [x] => match deref O x with
    | .lst ds => Q (.tup ds) O
    | .tup ds => Q (.tup ds) O
    | _ => False
  | _ => False
theorem cd_list1 : CallD M X (.type "list") rList1 := by
  refine callD_of fun F P H O xs ds R Q g r1 q po => ?_
  match ds, q with
  | [x], q =>
    obtain ⟨v, rfl, r1'⟩ := r1.one'
    have h1 := g.deref r1'
    unfold rList1 at q
    dsimp only at q
    revert q h1
    generalize Kf.deref O x = ex
    intro q h1
    cases ex <;> first | exact q.elim | skip
    · simp only [RepH, Rep] at h1
      obtain ⟨c, xs, rfl, h1, h2⟩ := h1
      exact ⟨_, call_list_of, c, xs, rfl, .inr (Same.seqT g.fz h1), fun p hp => po.lst g q h2 hp⟩
    · obtain ⟨c, xs, rfl, h1, h2⟩ := h1
      exact ⟨_, call_list_of, c, xs, rfl, .inl (SqL.of h1), fun p hp => po.lst g q h2 hp⟩
theorem cd_list1O : CallD M X (.type "list") rList1O := by
  refine callD_of fun F P H O xs ds R Q g r1 q po => ?_
  match ds, q with
  | [x], q =>
    obtain ⟨v, rfl, r1'⟩ := r1.one'
    have h1 := g.deref r1'
    unfold rList1O at q
    dsimp only at q
    revert q h1
    generalize Kf.deref O x = ex
    intro q h1
    cases ex <;> first | exact q.elim | skip
    · simp only [RepH, Rep] at h1
      obtain ⟨c, xs, rfl, h1, h2⟩ := h1
      exact ⟨_, call_list_of, c, xs, rfl, .inr (Same.seqT g.fz h1), fun p hp => po.lstO g q h2 hp⟩
    · obtain ⟨c, xs, rfl, h1, h2⟩ := h1
      exact ⟨_, call_list_of, c, xs, rfl, .inl (SqL.of h1), fun p hp => po.lstO g q h2 hp⟩
theorem cd_tup1 : CallD M X (.type "tuple") rTup1 := by
  refine callD_of fun F P H O xs ds R Q g r1 q po => ?_
  match ds, q with
  | [x], q =>
    obtain ⟨v, rfl, r1'⟩ := r1.one'
    have h1 := g.deref r1'
    unfold rTup1 at q
    dsimp only at q
    revert q h1
    generalize Kf.deref O x = ex
    intro q h1
    cases ex <;> first | exact q.elim | skip
    · have h0 := h1
      simp only [RepH, Rep] at h1
      obtain ⟨c, xs, rfl, h1, h2⟩ := h1
      exact ⟨_, call_tuple_of, c, xs, rfl, .inr ⟨Same.seqT g.fz h1, po.at g q h0⟩⟩
    · obtain ⟨c, xs, rfl, h1, h2⟩ := h1
      exact ⟨_, call_tuple_of, c, xs, rfl, .inl ⟨SqL.of h1, fun p hp => po.tup g q h2 hp⟩⟩
/-- sum of a list of ints -/
def asInts : List D → Option (List Int)
  | [] => some []
  | .int i :: ds => (asInts ds).map (i :: ·)
  | _ :: _ => none
theorem asInts_map (ns : List Int) : asInts (ns.map D.int) = some ns := by
  induction ns with
  | nil => rfl
  | cons n ns ih => rw [List.map_cons, asInts, ih]; rfl
/-- divmod: a new tuple -/
def rDivmod : RAD := fun ds O Q => match ds with
  | [.int i, .int j] => CDv i j ∧ Q (.tup [.int (i / j), .int (i % j)]) O
  | _ => False
/-! ### isinstance -/
def tyNm (O : Ow) : D → String
  | .non => "NoneType"
  | .bl _ => "bool"
  | .int _ => "int"
  | .str _ => "str"
  | .tup _ => "tuple"
  | .lst _ => "list"
  | .edic => "dict"
  | .ref a => match O a with
    | some (.lst _) => "list"
    | some .pool => "list"
    | some (.dic _) => "dict"
    | _ => ""
  | _ => ""
def insOf (t n : String) : Bool := t == n || (t == "bool" && n == "int")
def insTy : List String := ["NoneType", "bool", "int", "str", "tuple", "list", "dict"]
def insCl : List String := ["bool", "int", "str", "tuple", "list", "dict"]
theorem ins_kit : (insTy.all fun t => insCl.all fun n => decide (kitB t n = some (insOf t n))) = true := by decide +kernel
theorem ins_kit' {t n : String} (ht : t ∈ insTy) (hn : n ∈ insCl) : kitB t n = some (insOf t n) := by
  have h := List.all_eq_true.mp (List.all_eq_true.mp ins_kit t ht) n hn
  exact of_decide_eq_true h
def rIsiD : RAD := fun ds O Q => match ds with
  | [x, .ty n] => insCl.contains n = true ∧ insTy.contains (tyNm O x) = true ∧ Q (.bl (insOf (tyNm O x) n)) O
  | _ => False
theorem tyX_of {K : PySem.W.Frag} {F P H : Hp} {O : Ow} {d : D} {v : V} (g : Gd M K F O P H) (r : Rep K F d v) (h : insTy.contains (tyNm O d) = true) : TyX K H v (.type (tyNm O d)) := by
  cases d with
  | non => simp only [Rep] at r; subst r; exact .base .non
  | bl b => simp only [Rep] at r; subst r; exact .base (.bl b)
  | int i => simp only [Rep] at r; subst r; exact .base (.int i)
  | str x => simp only [Rep] at r; subst r; exact .base (.str x)
  | tup ds =>
    simp only [Rep] at r
    obtain ⟨a, xs, rfl, h1, _⟩ := r
    rcases h1 with (h1 | ⟨o, h1⟩) | ⟨o, its, n, h1, h2, _⟩
    · exact .base (.tup (g.fz _ _ h1))
    · exact .fTuple (g.fz _ _ h1)
    · exact .kTuple h1 h2
  | lst ds =>
    simp only [Rep] at r
    obtain ⟨a, xs, rfl, h1, _⟩ := r
    exact .base (.lst (g.fz _ _ h1))
  | edic =>
    simp only [Rep] at r
    obtain ⟨a, rfl, h1⟩ := r
    exact .base (.dK (g.fz _ _ h1))
  | ref a =>
    simp only [Rep] at r
    subst r
    cases e : O a with
    | none =>
      have z : tyNm O (.ref a) = "" := by simp only [tyNm, e]
      rw [z] at h; exact absurd h (by decide)
    | some c =>
      have q := (g.ow a c e).2.2
      cases c with
      | lst ds =>
        have z : tyNm O (.ref a) = "list" := by simp only [tyNm, e]
        rw [z]; obtain ⟨vs, q, _⟩ := q; exact .base (.lst q)
      | pool =>
        have z : tyNm O (.ref a) = "list" := by simp only [tyNm, e]
        rw [z]; obtain ⟨x, y, q, _⟩ := q; exact .base (.lst q)
      | dic kvs =>
        have z : tyNm O (.ref a) = "dict" := by simp only [tyNm, e]
        rw [z]; obtain ⟨vs, q, _⟩ := q; exact .base (.dK q)
      | dicL kvs o =>
        have z : tyNm O (.ref a) = "" := by simp only [tyNm, e]
        rw [z] at h; exact absurd h (by decide)
      | exc _ _ =>
        have z : tyNm O (.ref a) = "" := by simp only [tyNm, e]
        rw [z] at h; exact absurd h (by decide)
      | ins _ _ =>
        have z : tyNm O (.ref a) = "" := by simp only [tyNm, e]
        rw [z] at h; exact absurd h (by decide)
  | ty n => simp [tyNm, insTy] at h
  | scr ns => simp [tyNm, insTy] at h
theorem cd_isi : CallD M X (.builtin "isinstance") rIsiD := by
  refine callD_of fun F P H O xs ds R Q g r1 q po => ?_
  unfold rIsiD at q
  split at q
  · obtain ⟨v, w, rfl, h1, h2⟩ := r1.two'
    simp only [Rep] at h2
    subst h2
    obtain ⟨q1, q2, q3⟩ := q
    exact ⟨_, call_isi, _, _, _, _, _, rfl, .ty _, tyX_of g h1 q2, kit_ty (ins_kit' (by simpa using q2) (by simpa using q1)), po.at g q3 (by simp only [Rep])⟩
  · exact q.elim
/-! ### methods of built-in types -/
abbrev RMD := D → List D → Ow → VD → Prop
def liftRM (M : MX) (K : PySem.W.Frag) (r : RMD) : V → List V → Hp → VK → Prop := fun x xs H Q => ∃ F O P dx ds R, Gd M K F O P H ∧ Rep K F dx x ∧ RepAll K F ds xs ∧ r dx ds O R ∧ PostE M K F P R Q
abbrev MtD (M : MX) (X : Cx) (id : String) (r : RMD) : Prop := MtR X id (liftRM M X.K r)
def tyOk (T : String) (O : Ow) (d : D) : Bool := T == "list" && tyNm O d == "list" || T == "str" && tyNm O d == "str"
theorem tyV_of {K : PySem.W.Frag} {F P H : Hp} {O : Ow} {d : D} {v : V} {T : String} (g : Gd M K F O P H) (r : Rep K F d v) (h : tyOk T O d = true) : tyV K T v H := by
  unfold tyOk at h
  rw [Bool.or_eq_true, Bool.and_eq_true, Bool.and_eq_true] at h
  rcases h with ⟨h1, h2⟩ | ⟨h1, h2⟩
  · have e1 : T = "list" := by simpa using h1
    have e2 : tyNm O d = "list" := by simpa using h2
    subst e1
    cases d <;> first | (simp [tyNm] at e2; done) | skip
    · simp only [Rep] at r
      obtain ⟨a, xs, rfl, q, _⟩ := r
      exact Or.inl ⟨rfl, xs, SqL.of (g.fz _ _ q)⟩
    · rename_i a
      simp only [Rep] at r
      subst r
      cases e : O a with
      | none => simp [tyNm, e] at e2
      | some c =>
        have q := (g.ow a c e).2.2
        cases c with
        | lst ds => obtain ⟨vs, q, _⟩ := q; exact Or.inl ⟨rfl, vs, SqL.of q⟩
        | pool => obtain ⟨x, y, q, _⟩ := q; exact Or.inl ⟨rfl, _, SqL.of q⟩
        | dic _ => simp [tyNm, e] at e2
        | dicL _ _ => simp [tyNm, e] at e2
        | exc _ _ => simp [tyNm, e] at e2
        | ins _ _ => simp [tyNm, e] at e2
  · have e1 : T = "str" := by simpa using h1
    have e2 : tyNm O d = "str" := by simpa using h2
    subst e1
    cases d <;> first | (simp [tyNm] at e2; done) | skip
    · simp only [Rep] at r; subst r; rfl
    · rename_i a
      cases e : O a with
      | none => simp [tyNm, e] at e2
      | some c => cases c <;> simp [tyNm, e] at e2
def fBM (T : String) (r : RMD) (fo : FE) (fr : FA) : FE := fun ρ O Q => fo ρ O fun x O1 => tyOk T O1 x = true ∧ fr ρ O1 fun ds O2 => r x ds O2 Q
def fBM0 (T : String) (r : RMD) (fo : FE) : FE := fun ρ O Q => fo ρ O fun x O1 => tyOk T O1 x = true ∧ r x [] O1 Q
variable {o : Expr} {fo : FE} {name : Str} {apos cpos : Pos} {T id : String} {r : RMD}
theorem de_bm (pa : PlainAttrs T) (slot : Slot T name id) (hty : typeOf (.builtin id) = pure (.type "method_descriptor")) (hm : MtD M X id r) (ho : DE M X o fo) (ha : DA M X (e :: es) fr)
    (hbase : attributeBase o name X.env (eval o X.env) = eval o X.env := by rfl)
    (hfew : ((backTo cpos (starEach (e :: es) X.env)).all (fun x => !x.1) && (backToKw cpos (keywordEach [] X.env)).all (fun x => x.1.isSome)
      && decide ((e :: es).length + ([] : List Keyword).length + (if ([] : List Keyword).isEmpty then 0 else 1) < 30)) = true := by rfl)
    (hline : (apos.endLine == cpos.line) = true := by rfl) (hs : starEach (e :: es) X.env = (false, eval e X.env) :: starEach es X.env := by rfl) (hplain : (backTo cpos (starEach es X.env)).any (·.1) = false := by rfl) :
    DE M X (.Call (.Attribute o name apos) (e :: es) [] cpos) (fBM T r fo fr) := by
  refine peMono (pe_bm pa slot hty hm ho ha hbase hfew hline hs hplain) fun σ H Q h => ?_
  obtain ⟨F, O, P, ρ, R, g, en, q, po⟩ := h
  refine ⟨F, O, P, ρ, _, g, en, q, fun x O1 F1 H1 v q1 s1 g1 r1 => ⟨tyV_of g1 r1 q1.1, ?_⟩⟩
  refine ⟨F1, O1, P, ρ, _, g1, en.mono s1, q1.2, fun ds O2 F2 H2 vs q2 s2 g2 r2 => ?_⟩
  exact ⟨F2, O2, P, x, ds, R, g2, r1.mono s2, r2, q2, po.more (s1.trans s2)⟩
theorem mtD_of {id : String} {r : RMD}
    (h : ∀ (F P H : Hp) (O : Ow) (x : V) (xs : List V) (dx : D) (ds : List D) (R : VD) (Q : VK), Gd M X.K F O P H → Rep X.K F dx x → RepAll X.K F ds xs → r dx ds O R → PostE M X.K F P R Q → ∃ r0, MtR X id r0 ∧ r0 x xs H Q) : MtD M X id r := by
  intro pins s σ H x xs v us Q I rx rxs q
  obtain ⟨F, O, P, dx, ds, R, g, r1, r2, q, po⟩ := q
  obtain ⟨r0, o, z⟩ := h F P H O x xs dx ds R Q g r1 r2 q po
  exact o pins s σ H x xs v us Q I rx rxs z
/-- xs.append(y), an owned list -/
def rAppendD : RMD := fun x ds O Q => match x, ds with
  | .ref a, [y] => match O a with
    | some (.lst xs) => xs.length < sizeLine ∧ Q .non (updO O a (.lst (xs ++ [y])))
    | _ => False
  | _, _ => False
theorem md_append : MtD M X "list.append" rAppendD := by
  refine mtD_of fun F P H O x xs dx ds R Q g r1 r2 q po => ?_
  unfold rAppendD at q
  split at q
  · rename_i a y
    obtain ⟨v, rfl, r2'⟩ := r2.one'
    simp only [Rep] at r1
    subst r1
    cases e : O a with
    | none => rw [e] at q; exact q.elim
    | some c =>
      rw [e] at q
      cases c with
      | pool => exact q.elim
      | dic _ => exact q.elim
      | dicL _ _ => exact q.elim
      | exc _ _ => exact q.elim
      | ins _ _ => exact q.elim
      | lst zs =>
        obtain ⟨_, _, vs, h1, h2⟩ := g.ow a _ e
        refine ⟨_, mt_append, a, vs, v, rfl, rfl, h1, by rw [← h2.length]; exact q.1, ?_⟩
        exact po .non _ F _ _ q.2 (Same.refl _) (g.setO e ⟨_, upd_same, h2.append (.one r2')⟩) (by simp only [Rep])
  · exact q.elim
/-- sep.join(xs) -/
def asStrs : List D → Option (List Str)
  | [] => some []
  | .str i :: ds => (asStrs ds).map (i :: ·)
  | _ :: _ => none
theorem asStrs_map (ns : List Str) : asStrs (ns.map D.str) = some ns := by
  induction ns with
  | nil => rfl
  | cons n ns ih => rw [List.map_cons, asStrs, ih]; rfl
end
end Kf
namespace Kf
open PySem PySem.Spec L2
open PyProof.Rows hiding St
variable {M : MX}

/-! ### statements -/
structure DEnds where
  nx : DEnv → Ow → Prop
  rt : VD
  bk : DEnv → Ow → Prop := fun _ _ => False
  ct : DEnv → Ow → Prop := fun _ _ => False
abbrev GS := DEnds → DEnv → Ow → Prop
def PostN (M : MX) (K : PySem.W.Frag) (F P : Hp) (R : DEnv → Ow → Prop) (Q : L2.St → Hp → Prop) : Prop := ∀ ρ O' F' H' σ, R ρ O' → Same F F' → Gd M K F' O' P H' → EnvOk K F' ρ σ → Q σ H'
structure PostS (M : MX) (K : PySem.W.Frag) (F P : Hp) (R : DEnds) (D : Ends) : Prop where
  nx : PostN M K F P R.nx D.nx
  rt : PostE M K F P R.rt D.rt
  bk : PostN M K F P R.bk D.bk
  ct : PostN M K F P R.ct D.ct
theorem PostN.more {K : PySem.W.Frag} {F F' P : Hp} {R : DEnv → Ow → Prop} {Q : L2.St → Hp → Prop} (po : PostN M K F P R Q) (s : Same F F') : PostN M K F' P R Q := fun ρ O' F2 H' σ q s2 g en => po ρ O' F2 H' σ q (s.trans s2) g en
theorem PostS.more {K : PySem.W.Frag} {F F' P : Hp} {R : DEnds} {D : Ends} (po : PostS M K F P R D) (s : Same F F') : PostS M K F' P R D := ⟨po.nx.more s, po.rt.more s, po.bk.more s, po.ct.more s⟩
def liftS (M : MX) (K : PySem.W.Frag) (g : GS) : TS := fun D σ H => ∃ F O P ρ R, Gd M K F O P H ∧ EnvOk K F ρ σ ∧ g R ρ O ∧ PostS M K F P R D
abbrev DS (M : MX) (X : Cx) (st : Stmt) (g : GS) : Prop := PS X st (liftS M X.K g)
abbrev DSs (M : MX) (X : Cx) (st : List Stmt) (g : GS) : Prop := PSs X st (liftS M X.K g)

section
variable {X : Cx} {st : Stmt} {rest : List Stmt} {g u : GS} {e c : Expr} {fe : FE} {ft : FT} {pos : Pos}
def gNext : GS := fun R ρ O => R.nx ρ O
def gSeq (g u : GS) : GS := fun R ρ O => g { R with nx := u R } ρ O
theorem dss_nil : DSs M X [] gNext := pssMono pss_nil fun D σ H h => by
  obtain ⟨F, O, P, ρ, R, g, en, q, po⟩ := h
  exact po.nx ρ O F H σ q (Same.refl _) g en
theorem dss_cons (h1 : DS M X st g) (h2 : DSs M X rest u) : DSs M X (st :: rest) (gSeq g u) := pssMono (pss_cons h1 h2) fun D σ H h => by
  obtain ⟨F, O, P, ρ, R, g, en, q, po⟩ := h
  exact ⟨F, O, P, ρ, { R with nx := u R }, g, en, q, fun ρ' O' F' H' σ' q' s g' en' => ⟨F', O', P, ρ', R, g', en', q', po.more s⟩, po.rt, po.bk, po.ct⟩
theorem dss_one (h1 : DS M X st g) : DSs M X [st] g := pss_one h1
/-- what is never come to -/
def gNever : GS := fun _ _ _ => False
theorem ds_never : DS M X st gNever := psMono ps_never fun D σ H h => by
  obtain ⟨F, O, P, ρ, R, g, en, q, po⟩ := h
  exact q
def gBreak : GS := fun R ρ O => R.bk ρ O
def gDrop (fe : FE) : GS := fun R ρ O => fe ρ O fun _ O1 => R.nx ρ O1
theorem ds_expr (he : DE M X e fe) (hs : swapsWith e none pos.line X.env = pure false := by rfl) : DS M X (.Expr e pos) (gDrop fe) := psMono (ps_expr he hs) fun D σ H h => by
  obtain ⟨F, O, P, ρ, R, g, en, q, po⟩ := h
  exact ⟨F, O, P, ρ, _, g, en, q, fun d O1 F1 H1 v q1 s1 g1 _ => po.nx ρ O1 F1 H1 σ q1 s1 g1 (en.mono s1)⟩
def gRet (fe : FE) : GS := fun R ρ O => fe ρ O R.rt
theorem ds_ret (he : DE M X e fe) : DS M X (.Return (some e) pos) (gRet fe) := psMono (ps_ret he) fun D σ H h => by
  obtain ⟨F, O, P, ρ, R, g, en, q, po⟩ := h
  exact ⟨F, O, P, ρ, R.rt, g, en, q, po.rt⟩
/-- an owned list is handed back: from now on it never changes -/
def gRetF (fe : FE) : GS := fun R ρ O => fe ρ O fun d O1 => match d with
  | .ref a => match O1 a with
    | some (.lst ds) => R.rt (.lst ds) (delO O1 a)
    | _ => False
  | _ => False
theorem ds_retF (he : DE M X e fe) : DS M X (.Return (some e) pos) (gRetF fe) := psMono (ps_ret he) fun D σ H h => by
  obtain ⟨F, O, P, ρ, R, g, en, q, po⟩ := h
  refine ⟨F, O, P, ρ, _, g, en, q, fun d O1 F1 H1 v q1 s1 g1 r1 => ?_⟩
  split at q1 <;> first | exact q1.elim | skip
  rename_i a
  split at q1 <;> first | exact q1.elim | skip
  rename_i ds e1
  simp only [Rep] at r1
  subst r1
  obtain ⟨F2, s2, g2, r2⟩ := g1.freeze e1
  exact po.rt (.lst ds) (delO O1 a) F2 H1 (.ref a) q1 (s1.trans s2) g2 r2
def gRetN : GS := fun R _ O => R.rt .non O
def gIf (c : FT) (g u : GS) : GS := fun R ρ O => c ρ O fun b O1 => if b = true then g R ρ O1 else u R ρ O1
theorem ds_if {a b : List Stmt} (hc : DT M X c ft) (ha : DSs M X a g) (hb : DSs M X b u) : DS M X (.If c a b pos) (gIf ft g u) := psMono (ps_if hc ha hb) fun D σ H h => by
  obtain ⟨F, O, P, ρ, R, g, en, q, po⟩ := h
  refine ⟨F, O, P, ρ, _, g, en, q, fun k O1 F1 H1 q1 s1 g1 => ?_⟩
  cases k with
  | true => rw [if_pos rfl] at q1 ⊢; exact ⟨F1, O1, P, ρ, R, g1, en.mono s1, q1, po.more s1⟩
  | false => rw [if_neg Bool.false_ne_true] at q1 ⊢; exact ⟨F1, O1, P, ρ, R, g1, en.mono s1, q1, po.more s1⟩
theorem EnvOk.frz {K : PySem.W.Frag} {F F' : Hp} {ρ : DEnv} {σ : L2.St} {i : Nat} {a : Addr} {d : D} (h : EnvOk K F ρ σ) (s : Same F F') (e : ρ[i]? = some (some (.ref a))) (r : Rep K F' d (.ref a)) : EnvOk K F' (ρ.set i (some d)) σ := by
  obtain ⟨v, e1, r1⟩ := h.2 i _ e
  simp only [Rep] at r1
  subst r1
  refine ⟨by rw [List.length_set]; exact h.1, fun j d' q => ?_⟩
  by_cases c : i = j
  · subst c
    by_cases hl : i < ρ.length
    · rw [List.getElem?_set_self hl] at q
      cases q
      exact ⟨.ref a, e1, r⟩
    · rw [List.getElem?_eq_none (by rw [List.length_set]; omega)] at q; cases q
  · rw [List.getElem?_set_ne c] at q
    exact (h.mono s).2 j d' q
/-! ### targets -/
inductive Pat where
  | nm (i : Nat)
  | tp (ps : List Pat)
mutual
def patT (K : PySem.W.Frag) : Pat → TG
  | .nm i => gName i
  | .tp ps => gTup K ps.length (patTs K ps)
def patTs (K : PySem.W.Frag) : List Pat → TGs
  | [] => gNil
  | p :: ps => gCons (patT K p) (patTs K ps)
end
mutual
def patD : Pat → D → DEnv → Option DEnv
  | .nm i, d, ρ => some (ρ.set i (some d))
  | .tp ps, .tup ds, ρ => patDs ps ds ρ
  | .tp _, _, _ => none
def patDs : List Pat → List D → DEnv → Option DEnv
  | [], [], ρ => some ρ
  | p :: ps, d :: ds, ρ => (patD p d ρ).bind (patDs ps ds)
  | _, _, _ => none
end
mutual
def patI : Pat → List Nat
  | .nm i => [i]
  | .tp ps => patIs ps
def patIs : List Pat → List Nat
  | [] => []
  | p :: ps => patI p ++ patIs ps
end
/-- the two states are alike but at some slots -/
def Off (vs : List Nat) (σ σ' : L2.St) : Prop := σ.length = σ'.length ∧ ∀ i, i ∉ vs → σ'[i]? = σ[i]?
theorem patDs_length : ∀ {ps : List Pat} {ds : List D} {ρ ρ' : DEnv}, patDs ps ds ρ = some ρ' → ps.length = ds.length
  | [], [], _, _, _ => rfl
  | [], _ :: _, _, _, h => by simp only [patDs] at h; cases h
  | _ :: _, [], _, _, h => by simp only [patDs] at h; cases h
  | p :: ps, d :: ds, ρ, ρ', h => by
    simp only [patDs] at h
    obtain ⟨ρ1, h1, h2⟩ := Option.bind_eq_some_iff.mp h
    rw [List.length_cons, List.length_cons, patDs_length h2]
mutual
theorem pat_ok {K : PySem.W.Frag} {F P H : Hp} {O : Ow} (gd : Gd M K F O P H) : ∀ (p : Pat) (d : D) (v : V) (ρ ρ' : DEnv) (σ : L2.St) (Q : L2.St → Hp → Prop), patD p d ρ = some ρ' → Rep K F d v → EnvOk K F ρ σ →
    (∀ σ', EnvOk K F ρ' σ' → Off (patI p) σ σ' → Q σ' H) → patT K p v σ H Q
  | .nm i, d, v, ρ, ρ', σ, Q, h, r, en, q => by
    simp only [patD] at h
    cases h
    simp only [patT]
    refine q _ (en.set r i) ⟨by rw [List.length_set], fun j hj => ?_⟩
    simp only [patI, List.mem_singleton] at hj
    rw [List.getElem?_set_ne (fun e => hj e.symm)]
  | .tp ps, d, v, ρ, ρ', σ, Q, h, r, en, q => by
    cases d <;> simp only [patD] at h <;> first | cases h | skip
    simp only [Rep] at r
    obtain ⟨a, xs, rfl, r1, r2⟩ := r
    simp only [patT]
    refine ⟨a, xs, rfl, Same.seqT gd.fz r1, ?_, ?_⟩
    · rw [← r2.length, patDs_length h]
    · exact pats_ok gd ps _ xs ρ ρ' σ Q h r2 en fun σ' en' off => q σ' en' (by simpa only [patI] using off)
theorem pats_ok {K : PySem.W.Frag} {F P H : Hp} {O : Ow} (gd : Gd M K F O P H) : ∀ (ps : List Pat) (ds : List D) (vs : List V) (ρ ρ' : DEnv) (σ : L2.St) (Q : L2.St → Hp → Prop), patDs ps ds ρ = some ρ' → RepAll K F ds vs → EnvOk K F ρ σ →
    (∀ σ', EnvOk K F ρ' σ' → Off (patIs ps) σ σ' → Q σ' H) → patTs K ps vs σ H Q
  | [], [], vs, ρ, ρ', σ, Q, h, r, en, q => by
    simp only [patDs] at h
    cases h
    simp only [RepAll] at r
    subst r
    simp only [patTs]
    exact ⟨rfl, q σ en ⟨rfl, fun _ _ => rfl⟩⟩
  | [], _ :: _, _, _, _, _, _, h, _, _, _ => by simp only [patDs] at h; cases h
  | _ :: _, [], _, _, _, _, _, h, _, _, _ => by simp only [patDs] at h; cases h
  | p :: ps, d :: ds, vs, ρ, ρ', σ, Q, h, r, en, q => by
    simp only [patDs] at h
    obtain ⟨ρ1, h1, h2⟩ := Option.bind_eq_some_iff.mp h
    simp only [RepAll] at r
    obtain ⟨v, ws, rfl, r1, r2⟩ := r
    simp only [patTs]
    refine ⟨v, ws, rfl, ?_⟩
    refine pat_ok gd p d v ρ ρ1 σ _ h1 r1 en fun σ1 en1 off1 => ?_
    refine pats_ok gd ps ds ws ρ1 ρ' σ1 Q h2 r2 en1 fun σ2 en2 off2 => q σ2 en2 ⟨off1.1.trans off2.1, fun i hi => ?_⟩
    simp only [patIs, List.mem_append, not_or] at hi
    rw [off2.2 i hi.2, off1.2 i hi.1]
end
abbrev DP (X : Cx) (tg : Expr) (p : Pat) : Prop := PG X tg (patT X.K p)
abbrev DPs (X : Cx) (tgs : List Expr) (ps : List Pat) : Prop := PGs X tgs (patTs X.K ps)
theorem dp_name {i : Nat} {x : Str} (hN : X.N.Nodup) (hi : X.N[i]? = some x) (hx : Loc X.env.scope x) (hf : X.fn x = true ∨ X.env.scope.names.lookup x = some .local := by first | exact .inl rfl | exact .inr rfl | assumption) : DP X (.Name x pos) (.nm i) := by
  show PG X _ (patT X.K (.nm i))
  rw [show patT X.K (.nm i) = gName i by simp only [patT]]
  exact pg_name hN hi hx hf
theorem dps_nil : DPs X [] [] := by
  show PGs X _ (patTs X.K [])
  rw [show patTs X.K [] = gNil by simp only [patTs]]
  exact pgs_nil
theorem dps_cons {e : Expr} {es : List Expr} {p : Pat} {ps : List Pat} (h1 : DP X e p) (h2 : DPs X es ps)
    (hs : (assignEach (e :: es) X.env).map (·.2) = assign e X.env :: (assignEach es X.env).map (·.2) := by rfl) : DPs X (e :: es) (p :: ps) := by
  show PGs X _ (patTs X.K (p :: ps))
  rw [show patTs X.K (p :: ps) = gCons (patT X.K p) (patTs X.K ps) by simp only [patTs]]
  exact pgs_cons h1 h2 hs
theorem dp_tup {es : List Expr} {k : Nat} {ps : List Pat} (hc : X.calm = true) (h : DPs X es ps)
    (hn : (assignEach es X.env).length = ps.length := by rfl) (hst : (assignEach es X.env).findIdx? (·.1) = none := by rfl) : DP X (.Tuple es k pos) (.tp ps) := by
  show PG X _ (patT X.K (.tp ps))
  rw [show patT X.K (.tp ps) = gTup X.K ps.length (patTs X.K ps) by simp only [patT]]
  exact pg_tup hc h hn hst
def patGet (o : Option DEnv) (N : DEnv → Prop) : Prop := match o with
  | some ρ => N ρ
  | none => False
theorem patGet_s {ρ : DEnv} {N : DEnv → Prop} : patGet (some ρ) N = N ρ := rfl
/-- target = value -/
def gAsg (fe : FE) (p : Pat) : GS := fun R ρ O => fe ρ O fun d O1 => patGet (patD p d ρ) fun ρ' => R.nx ρ' O1
theorem ds_asg {tg e : Expr} {p : Pat} (he : DE M X e fe) (hg : DP X tg p) (hs : swapsWithSole [tg] e pos.line X.env = pure false := by rfl) (hw : swappedStores [tg] e X.env = pure none := by rfl) (h1 : (assignEach [tg] X.env).map (·.2) = [assign tg X.env] := by rfl) : DS M X (.Assign [tg] e pos) (gAsg fe p) :=
  psMono (ps_asg he hg hs hw h1) fun D σ H h => by
    obtain ⟨F, O, P, ρ, R, g, en, q, po⟩ := h
    refine ⟨F, O, P, ρ, _, g, en, q, fun d O1 F1 H1 v q1 s1 g1 r1 => ?_⟩
    cases e1 : patD p d ρ with
    | none => rw [e1] at q1; exact q1.elim
    | some ρ' =>
      rw [e1] at q1
      exact pat_ok g1 p d v ρ ρ' σ _ e1 r1 (en.mono s1) fun σ' en' _ => po.nx ρ' O1 F1 H1 σ' q1 s1 g1 en'
/-- name = value -/
def gSet (fe : FE) (i : Nat) : GS := fun R ρ O => fe ρ O fun d O1 => R.nx (ρ.set i (some d)) O1
theorem gSet_lift {te : TE} {i : Nat} (hl : ∀ σ H Q, liftE M X.K fe σ H Q → te σ H Q) : ∀ D σ H, liftS M X.K (gSet fe i) D σ H → tAsg te (gName i) D σ H := fun D σ H h => by
  obtain ⟨F, O, P, ρ, R, g, en, q, po⟩ := h
  exact hl _ _ _ ⟨F, O, P, ρ, _, g, en, q, fun d O1 F1 H1 v q1 s1 g1 r1 => po.nx _ O1 F1 H1 _ q1 s1 g1 ((en.mono s1).set r1 i)⟩
theorem ds_set {i : Nat} {x : Str} {e : Expr} {pos' : Pos} (hN : X.N.Nodup) (hi : X.N[i]? = some x) (hx : Loc X.env.scope x) (he : DE M X e fe) (hs : swapsWith e (some (.Name x pos')) pos.line X.env = pure false := by rfl) (hf : X.fn x = true ∨ X.env.scope.names.lookup x = some .local := by first | exact .inl rfl | exact .inr rfl | assumption) :
    DS M X (.Assign [.Name x pos'] e pos) (gSet fe i) := psMono (ps_set hN hi hx he hs hf) (gSet_lift fun _ _ _ q => q)
/-- name op= e -/
def gAug (i : Nat) (fe : FE) (r : R2D) : GS := fun R ρ O => match ρ[i]? with
  | some (some x) => fe ρ O fun y O1 => r x y O1 fun z O2 => R.nx (ρ.set i (some z)) O2
  | _ => False
/-- o[i] = v, an owned list -/
def rSetD (x y d : D) (O : Ow) (N : Ow → Prop) : Prop := match x, y with
  | .ref a, .int k => match O a with
    | some (.lst ds) => match ixN ds.length k with
      | some j => N (updO O a (.lst (ds.set j d)))
      | none => False
    | some .pool => match d with
      | .int z => ((k = 0 ∧ 0 ≤ z) ∨ (k = 1 ∧ 0 ≤ z ∧ z < 2147483647)) ∧ N O
      | _ => False
    | _ => False
  | _, _ => False
def gSetIx (fo fi fe : FE) : GS := fun R ρ O => fe ρ O fun d O1 => fo ρ O1 fun x O2 => fi ρ O2 fun y O3 => rSetD x y d O3 (R.nx ρ)
theorem ds_setIx {o i e : Expr} {fo fi : FE} {p1 : Pos} (ho : DE M X o fo) (hi : DE M X i fi) (he : DE M X e fe)
    (ha : ∀ v, assign (.Subscript o i p1) X.env v = (do
      let ov ← holding [v] (eval o X.env)
      let iv ← holding [v, ov] (eval i X.env)
      standAt p1
      holding [v, ov, iv] (setItem ov iv v)
      release [v, ov, iv] []) := by intro _; rfl)
    (hs : swapsWithSole [.Subscript o i p1] e pos.line X.env = pure false := by rfl) (hw : swappedStores [.Subscript o i p1] e X.env = pure none := by rfl) : DS M X (.Assign [.Subscript o i p1] e pos) (gSetIx fo fi fe) :=
  psMono (ps_asg he (pg_sub ho hi set_list ha) hs hw) fun D σ H h => by
    obtain ⟨F, O, P, ρ, R, g, en, q, po⟩ := h
    refine ⟨F, O, P, ρ, _, g, en, q, fun d O1 F1 H1 v q1 s1 g1 r1 => ?_⟩
    refine ⟨F1, O1, P, ρ, _, g1, en.mono s1, q1, fun x O2 F2 H2 w q2 s2 g2 r2 => ?_⟩
    refine ⟨F2, O2, P, ρ, _, g2, en.mono (s1.trans s2), q2, fun y O3 F3 H3 z q3 s3 g3 r3 => ?_⟩
    unfold rSetD at q3
    cases x <;> first | exact q3.elim | skip
    cases y <;> first | exact q3.elim | skip
    rename_i a k
    simp only [Rep] at r2 r3
    subst r2 r3
    dsimp only at q3
    cases e1 : O3 a with
    | none => rw [e1] at q3; exact q3.elim
    | some c =>
      rw [e1] at q3
      cases c with
      | dic kvs => exact q3.elim
      | dicL _ _ => exact q3.elim
      | exc _ _ => exact q3.elim
      | ins _ _ => exact q3.elim
      | pool =>
        dsimp only at q3
        cases d <;> first | exact q3.elim | skip
        simp only [Rep] at r1
        subst r1
        obtain ⟨_, _, z, y, hH, h2, h3, h4⟩ := g3.ow a _ e1
        obtain ⟨q4, q5⟩ := q3
        have s4 := s1.trans (s2.trans s3)
        rcases q4 with ⟨rfl, h5⟩ | ⟨rfl, h5, h6⟩
        · refine ⟨a, _, 0, 0, rfl, rfl, hH, rfl, ?_⟩
          have g4 := g3.setO e1 (o := .lst [.int _, .int y]) (c := .pool) ⟨_, y, upd_same, h5, h3, h4⟩
          rw [updO_self e1] at g4
          exact po.nx ρ _ F3 _ σ q5 s4 g4 (en.mono s4)
        · refine ⟨a, _, 1, 1, rfl, rfl, hH, rfl, ?_⟩
          have g4 := g3.setO e1 (o := .lst [.int z, .int _]) (c := .pool) ⟨z, _, upd_same, h2, h5, h6⟩
          rw [updO_self e1] at g4
          exact po.nx ρ _ F3 _ σ q5 s4 g4 (en.mono s4)
      | lst ds =>
        dsimp only at q3
        cases e2 : ixN ds.length k with
        | none => rw [e2] at q3; exact q3.elim
        | some j =>
          rw [e2] at q3
          obtain ⟨_, _, vs, h1, h2⟩ := g3.ow a _ e1
          refine ⟨a, vs, k, j, rfl, rfl, h1, by rw [← h2.length]; exact e2, ?_⟩
          exact po.nx ρ _ F3 _ σ q3 (s1.trans (s2.trans s3)) (g3.setO e1 ⟨_, upd_same, h2.set (r1.mono (s2.trans s3)) j⟩) (en.mono (s1.trans (s2.trans s3)))

/-! ### what is walked -/
/-- the walk yields just these, whatever comes meanwhile -/
def ItOk (M : MX) (K : PySem.W.Frag) (F : Hp) (J : It) (ds : List D) : Prop := ∀ F' O' P' H', Same F F' → Gd M K F' O' P' H' → ∀ i : Nat,
  (∀ d, ds[i]? = some d → J.go i H' ∧ ∀ x H'', J.yld i H' x H'' → ∃ F'', Same F' F'' ∧ Gd M K F'' O' P' H'' ∧ Rep K F'' d x) ∧ (ds.length ≤ i → J.stop i H')
abbrev FI := DEnv → Ow → (List D → Ow → Prop) → Prop
def liftI (M : MX) (K : PySem.W.Frag) (f : FI) : TI := fun σ H Q => ∃ F O P ρ R, Gd M K F O P H ∧ EnvOk K F ρ σ ∧ f ρ O R ∧ ∀ ds O' F' H' J, R ds O' → Same F F' → Gd M K F' O' P H' → ItOk M K F' J ds → Q J H'
abbrev DI (M : MX) (X : Cx) (tg iter : Expr) (f : FI) : Prop := PI X tg iter (liftI M X.K f)
theorem piMono {X : Cx} {tg iter : Expr} {t t' : TI} (h : PI X tg iter t) (imp : ∀ σ H Q, t' σ H Q → t σ H Q) : PI X tg iter t' := ⟨fun pins s σ H Q I q => h.run pins s σ H Q I (imp σ H Q q)⟩
variable {tg iter l : Expr} {fl : FE} {fr : FA}
def asL (d : D) (O : Ow) (Q : List D → Ow → Prop) : Prop := match d with
  | .lst ds => Q ds O
  | _ => False
def asT (d : D) (O : Ow) (Q : List D → Ow → Prop) : Prop := match d with
  | .tup ds => Q ds O
  | _ => False
def asSg (d : D) (O : Ow) (Q : List D → Ow → Prop) : Prop := match d with
  | .str x => Q (x.cps.toList.map fun c => .str ⟨#[c]⟩) O
  | _ => False
def asR1 (ds : List D) (O : Ow) (Q : Int → Nat → Ow → Prop) : Prop := match ds with
  | [.int j] => -(2 ^ 62) ≤ j ∧ j < 2 ^ 62 ∧ Q 0 j.toNat O
  | _ => False
def asR2 (ds : List D) (O : Ow) (Q : Int → Nat → Ow → Prop) : Prop := match ds with
  | [.int i, .int j] => (-(2 ^ 62) ≤ i ∧ i < 2 ^ 62 ∧ -(2 ^ 62) ≤ j ∧ j < 2 ^ 62) ∧ Q i (j - i).toNat O
  | _ => False
def asL1 (ds : List D) (O : Ow) (Q : List D → Ow → Prop) : Prop := match ds with
  | [.lst ds] => Q ds O
  | _ => False
def asL2 (ds : List D) (O : Ow) (Q : List D → List D → Ow → Prop) : Prop := match ds with
  | [.lst ds, .lst es] => Q ds es O
  | _ => False
section
variable {O : Ow} {xs ys : List D} {i j : Int}
theorem asL_l {Q : List D → Ow → Prop} : asL (.lst xs) O Q = Q xs O := rfl
theorem asT_t {Q : List D → Ow → Prop} : asT (.tup xs) O Q = Q xs O := rfl
theorem asSg_s {Q : List D → Ow → Prop} {x : Str} : asSg (.str x) O Q = Q (x.cps.toList.map fun c => .str ⟨#[c]⟩) O := rfl
theorem asR1_i {Q : Int → Nat → Ow → Prop} : asR1 [.int j] O Q = (-(2 ^ 62) ≤ j ∧ j < 2 ^ 62 ∧ Q 0 j.toNat O) := rfl
theorem asR2_i {Q : Int → Nat → Ow → Prop} : asR2 [.int i, .int j] O Q = ((-(2 ^ 62) ≤ i ∧ i < 2 ^ 62 ∧ -(2 ^ 62) ≤ j ∧ j < 2 ^ 62) ∧ Q i (j - i).toNat O) := rfl
theorem asL1_l {Q : List D → Ow → Prop} : asL1 [.lst xs] O Q = Q xs O := rfl
theorem asL2_l {Q : List D → List D → Ow → Prop} : asL2 [.lst xs, .lst ys] O Q = Q xs ys O := rfl
end
/-- a list -/
def fiList (fl : FE) : FI := fun ρ O Q => fl ρ O fun d O1 => asL d O1 Q
theorem di_list (hl : DE M X l fl) : DI M X tg l (fiList fl) := piMono (pi_list hl) fun σ H Q h => by
  obtain ⟨F, O, P, ρ, R, g, en, q, po⟩ := h
  refine ⟨F, O, P, ρ, _, g, en, q, fun d O1 F1 H1 v q1 s1 g1 r1 => ?_⟩
  unfold asL at q1
  cases d <;> first | exact q1.elim | skip
  rename_i ds
  simp only [Rep] at r1
  obtain ⟨a, xs, rfl, h1, h2⟩ := r1
  refine ⟨a, rfl, ⟨xs, SqL.of (g1.fz _ _ h1)⟩, po ds O1 F1 H1 _ q1 s1 g1 fun F2 O2 P2 H2 s2 g2 i => ⟨fun d e => ?_, fun hi => ?_⟩⟩
  · have sq : SqL X.K H2 a xs := SqL.of (g2.fz _ _ (s2 _ _ h1))
    obtain ⟨w, e1, r1⟩ := h2.get e
    refine ⟨⟨xs, w, sq, e1⟩, fun x H3 hy => ?_⟩
    obtain ⟨rfl, hx⟩ := hy
    have := hx xs sq
    rw [e1] at this
    cases this
    exact ⟨F2, Same.refl _, g2, r1.mono s2⟩
  · exact ⟨xs, SqL.of (g2.fz _ _ (s2 _ _ h1)), by rw [← h2.length]; exact hi⟩
/-- a tuple -/
def fiTup (fl : FE) : FI := fun ρ O Q => fl ρ O fun d O1 => asT d O1 Q
/-- range(n), range(a, b) -/
def rangeD (lo : Int) (n : Nat) : List D := (List.range n).map fun i => .int (lo + (i : Nat))
theorem itOk_range {K : PySem.W.Frag} {F : Hp} (lo : Int) (n : Nat) : ItOk M K F (Itr lo n) (rangeD lo n) := fun F2 O2 P2 H2 s2 g2 i => by
  refine ⟨fun d e => ?_, fun hi => ?_⟩
  · unfold rangeD at e
    rw [List.getElem?_map] at e
    obtain ⟨j, e1, e2⟩ := Option.map_eq_some_iff.mp e
    have hi : i < n := by
      have := List.getElem?_eq_some_iff.mp e1
      obtain ⟨h, _⟩ := this
      simpa using h
    have hj : j = i := by
      rw [List.getElem?_range hi] at e1
      exact (Option.some.inj e1).symm
    subst hj
    subst e2
    refine ⟨hi, fun x H3 hy => ?_⟩
    obtain ⟨rfl, rfl⟩ := hy
    exact ⟨F2, Same.refl _, g2, by simp only [Rep]⟩
  · unfold rangeD at hi
    rw [List.length_map, List.length_range] at hi
    exact hi
def fiRng1 (fr : FA) : FI := fun ρ O Q => fr ρ O fun ds O1 => asR1 ds O1 fun i n O2 => Q (rangeD i n) O2
theorem di_range1 {a : Expr} {p : Pos} (hg : Gl X "range") (hm : X.mg "range" = none) (ha : DA M X [a] fr) (hs : starEach [a] X.env = [(false, eval a X.env)] := by rfl) : DI M X tg (.Call (.Name "range" p) [a] [] pos) (fiRng1 fr) :=
  piMono (pi_range1 hg hm ha hs) fun σ H Q h => by
    obtain ⟨F, O, P, ρ, R, g, en, q, po⟩ := h
    refine ⟨F, O, P, ρ, _, g, en, q, fun ds O1 F1 H1 vs q1 s1 g1 r1 => ?_⟩
    unfold asR1 at q1
    split at q1
    · obtain ⟨v, rfl, r1'⟩ := r1.one'
      simp only [Rep] at r1'
      exact ⟨_, by rw [r1'], q1.1, q1.2.1, po _ O1 F1 H1 _ q1.2.2 s1 g1 (itOk_range 0 _)⟩
    · exact q1.elim
def fiRng2 (fr : FA) : FI := fun ρ O Q => fr ρ O fun ds O1 => asR2 ds O1 fun i n O2 => Q (rangeD i n) O2
/-- a text, sign by sign -/
def signsD (x : Str) : List D := x.cps.toList.map fun c => .str ⟨#[c]⟩
def fiStr (fl : FE) : FI := fun ρ O Q => fl ρ O fun d O1 => asSg d O1 Q
theorem di_str (hl : DE M X l fl) : DI M X tg l (fiStr fl) := piMono (pi_str hl) fun σ H Q h => by
  obtain ⟨F, O, P, ρ, R, g, en, q, po⟩ := h
  refine ⟨F, O, P, ρ, _, g, en, q, fun d O1 F1 H1 v q1 s1 g1 r1 => ?_⟩
  unfold asSg at q1
  cases d <;> first | exact q1.elim | skip
  rename_i x
  simp only [Rep] at r1
  refine ⟨x, r1, po _ O1 F1 H1 _ q1 s1 g1 fun F2 O2 P2 H2 s2 g2 i => ⟨fun d e => ?_, fun hi => ?_⟩⟩
  · unfold signsD at e
    rw [List.getElem?_map] at e
    obtain ⟨c, e1, rfl⟩ := Option.map_eq_some_iff.mp e
    have hi : i < x.cps.size := by
      obtain ⟨h, _⟩ := List.getElem?_eq_some_iff.mp e1
      simpa using h
    refine ⟨hi, fun y H3 hy => ?_⟩
    obtain ⟨rfl, c', e2, rfl⟩ := hy
    rw [Array.getElem?_toList] at e1
    rw [e1] at e2
    cases e2
    exact ⟨F2, Same.refl _, g2, by simp only [Rep]⟩
  · unfold signsD at hi
    rw [List.length_map, Array.length_toList] at hi
    exact hi
/-- enumerate(xs) -/
def enumD (ds : List D) : List D := ds.zipIdx.map fun p => .tup [.int (p.2 : Nat), p.1]
theorem enumD_get (ds : List D) (i : Nat) : (enumD ds)[i]? = ds[i]?.map fun d => .tup [.int (i : Nat), d] := by
  unfold enumD
  rw [List.getElem?_map, List.getElem?_zipIdx]
  cases ds[i]? with
  | none => rfl
  | some d => simp
theorem enumD_length (ds : List D) : (enumD ds).length = ds.length := by unfold enumD; rw [List.length_map, List.length_zipIdx]
def fiEnum (fr : FA) : FI := fun ρ O Q => fr ρ O fun ds O1 => asL1 ds O1 fun ds O2 => Q (enumD ds) O2
theorem di_enum {e : Expr} {p tpos : Pos} {elts : List Expr} {kk : Nat} (hg : Gl X "enumerate") (hm : X.mg "enumerate" = none) (ha : DA M X [e] fr) (hs : starEach [e] X.env = [(false, eval e X.env)] := by rfl) :
    DI M X (.Tuple elts kk tpos) (.Call (.Name "enumerate" p) [e] [] pos) (fiEnum fr) := piMono (pi_enum hg hm ha hs) fun σ H Q h => by
  obtain ⟨F, O, P, ρ, R, g, en, q, po⟩ := h
  refine ⟨F, O, P, ρ, _, g, en, q, fun ds O1 F1 H1 vs q1 s1 g1 r1 => ?_⟩
  unfold asL1 at q1
  split at q1
  · rename_i ds
    obtain ⟨v, rfl, r1'⟩ := r1.one'
    simp only [Rep] at r1'
    obtain ⟨a, xs, rfl, h1, h2⟩ := r1'
    refine ⟨a, xs, rfl, SqL.of (g1.fz _ _ h1), po _ O1 F1 H1 _ q1 s1 g1 fun F2 O2 P2 H2 s2 g2 i => ⟨fun d e => ?_, fun hi => ?_⟩⟩
    · rw [enumD_get] at e
      obtain ⟨d0, e0, rfl⟩ := Option.map_eq_some_iff.mp e
      have sq : SqL X.K H2 a xs := SqL.of (g2.fz _ _ (s2 _ _ h1))
      obtain ⟨w, e1, r1⟩ := h2.get e0
      refine ⟨⟨xs, w, sq, e1⟩, fun x H3 hy => ?_⟩
      obtain ⟨T, y, rfl, hT, rfl, hx⟩ := hy
      have hxx := hx xs sq
      rw [e1] at hxx
      cases hxx
      have hF := g2.freeF hT
      refine ⟨upd F2 T (.tup [.int (i : Nat), w]), same_upd hF, g2.new hT, ?_⟩
      simp only [Rep]
      refine ⟨T, _, rfl, .inl (.inl upd_same), .cons (by simp only [Rep]) (.one ((r1.mono s2).mono (same_upd hF)))⟩
    · rw [enumD_length] at hi
      exact ⟨xs, SqL.of (g2.fz _ _ (s2 _ _ h1)), by rw [← h2.length]; exact hi⟩
  · exact q1.elim
/-- zip(xs, ys) -/
def zipD (ds es : List D) : List D := (ds.zip es).map fun p => .tup [p.1, p.2]
def fiZip (fr : FA) : FI := fun ρ O Q => fr ρ O fun ds O1 => asL2 ds O1 fun ds es O2 => Q (zipD ds es) O2
/-- reversed(xs) -/
def fiRev (fr : FA) : FI := fun ρ O Q => fr ρ O fun ds O1 => asL1 ds O1 fun ds O2 => Q ds.reverse O2
theorem di_rev {e : Expr} {p : Pos} (hg : Gl X "reversed") (hm : X.mg "reversed" = none) (ha : DA M X [e] fr) (hs : starEach [e] X.env = [(false, eval e X.env)] := by rfl) : DI M X tg (.Call (.Name "reversed" p) [e] [] pos) (fiRev fr) := piMono (pi_reversed hg hm ha hs) fun σ H Q h => by
  obtain ⟨F, O, P, ρ, R, g, en, q, po⟩ := h
  refine ⟨F, O, P, ρ, _, g, en, q, fun ds O1 F1 H1 vs q1 s1 g1 r1 => ?_⟩
  unfold asL1 at q1
  split at q1
  · rename_i ds
    obtain ⟨v, rfl, r1'⟩ := r1.one'
    simp only [Rep] at r1'
    obtain ⟨a, xs, rfl, h1, h2⟩ := r1'
    refine ⟨a, xs, rfl, SqL.of (g1.fz _ _ h1), po _ O1 F1 H1 _ q1 s1 g1 fun F2 O2 P2 H2 s2 g2 i => ⟨fun d e => ?_, fun hi => ?_⟩⟩
    · have hl : i < ds.length := by
        obtain ⟨h, _⟩ := List.getElem?_eq_some_iff.mp e
        simpa using h
      rw [List.getElem?_reverse hl] at e
      have sq : SqL X.K H2 a xs := SqL.of (g2.fz _ _ (s2 _ _ h1))
      obtain ⟨w, e1, r1⟩ := h2.get e
      rw [h2.length] at e1
      refine ⟨⟨by rw [← h2.length]; exact hl, xs, w, sq, e1⟩, fun x H3 hy => ?_⟩
      obtain ⟨rfl, hx⟩ := hy
      have hxx := hx xs sq
      rw [e1] at hxx
      cases hxx
      exact ⟨F2, Same.refl _, g2, r1.mono s2⟩
    · rw [List.length_reverse, h2.length] at hi
      exact hi
  · exact q1.elim
/-! ### for -/
def forD (p : Pat) (gb : GS) (R : DEnds) : List D → DEnv → Ow → Prop
  | [], ρ, O => R.nx ρ O
  | d :: ds, ρ, O => patGet (patD p d ρ) fun ρ1 => gb { R with nx := forD p gb R ds, ct := forD p gb R ds, bk := R.nx } ρ1 O
def gFor (fi : FI) (p : Pat) (gb : GS) : GS := fun R ρ O => fi ρ O fun ds O1 => forD p gb R ds ρ O1
theorem ds_for {body : List Stmt} {fi : FI} {p : Pat} {gb : GS} (hp : PassesOwn (model X.prog X.w) X.A X.env X.xe) (hc : X.calm = true) (hi : DI M X tg iter fi) (hg : DP X tg p) (hb : DSs M X body gb)
    (hs : ∀ x, foldedSetIterable iter X.env x = pure x := by intro _; rfl) : DS M X (.For tg iter body [] pos) (gFor fi p gb) := psMono (ps_for hp hc hi hg hb hs) fun D σ H h => by
  obtain ⟨F, O, P, ρ, R, g, en, q, po⟩ := h
  refine ⟨F, O, P, ρ, _, g, en, q, fun ds O1 F1 H1 J q1 s1 g1 it => ?_⟩
  refine ⟨fun i m σ H => ∃ F2 O2 ρ2, i + m = ds.length ∧ Same F1 F2 ∧ Gd M X.K F2 O2 P H ∧ EnvOk X.K F2 ρ2 σ ∧ forD p gb R (ds.drop i) ρ2 O2,
    ⟨ds.length, F1, O1, ρ, by omega, Same.refl _, g1, en.mono s1, by rw [List.drop_zero]; exact q1⟩, fun i m σ2 H2 hW => ?_⟩
  obtain ⟨F2, O2, ρ2, hm, s2, g2, en2, q2⟩ := hW
  obtain ⟨it1, it2⟩ := it F2 O2 P H2 s2 g2 i
  by_cases hi : i < ds.length
  · obtain ⟨hgo, hy⟩ := it1 ds[i] (List.getElem?_eq_getElem hi)
    rw [List.drop_eq_getElem_cons hi] at q2
    unfold forD at q2
    refine .inr ⟨hgo, fun σ' H' => ∃ F3 O3 ρ3, Same F1 F3 ∧ Gd M X.K F3 O3 P H' ∧ EnvOk X.K F3 ρ3 σ' ∧ forD p gb R (ds.drop (i + 1)) ρ3 O3, fun σ' H' hN => ?_, fun x H' hyy => ?_⟩
    · obtain ⟨F3, O3, ρ3, s3, g3, en3, q3⟩ := hN
      exact ⟨m - 1, by omega, F3, O3, ρ3, by omega, s3, g3, en3, q3⟩
    · obtain ⟨F3, s3, g3, r3⟩ := hy x H' hyy
      cases e1 : patD p ds[i] ρ2 with
      | none => rw [e1] at q2; exact q2.elim
      | some ρ3 =>
        rw [e1] at q2
        refine pat_ok g3 p ds[i] x ρ2 ρ3 σ2 _ e1 r3 (en2.mono s3) fun σ4 en4 _ => ?_
        refine ⟨F3, O2, P, ρ3, _, g3, en4, q2, ⟨fun ρ5 O5 F5 H5 σ5 q5 s5 g5 en5 => ?_, ?_, ?_, fun ρ5 O5 F5 H5 σ5 q5 s5 g5 en5 => ?_⟩⟩
        · exact ⟨F5, O5, ρ5, s2.trans (s3.trans s5), g5, en5, q5⟩
        · exact po.rt.more (s1.trans (s2.trans s3))
        · exact po.nx.more (s1.trans (s2.trans s3))
        · exact ⟨F5, O5, ρ5, s2.trans (s3.trans s5), g5, en5, q5⟩
  · refine .inl ⟨it2 (by omega), ?_⟩
    rw [List.drop_eq_nil_of_le (by omega)] at q2
    exact po.nx ρ2 O2 F2 H2 σ2 q2 (s1.trans s2) g2 en2
/-! ### while -/
end
end Kf
namespace Kf
open PySem PySem.Spec L2
open PyProof.Rows hiding St
variable {M : MX}

/-! ### a thing that stands aside -/
section
variable {K : PySem.W.Frag} {F P H : Hp} {O : Ow} {p : Addr} {o o' : HO}
theorem Gd.aside (g : Gd M K F O P H) (h : H p = none) : Gd M K F O (upd P p o) (upd H p o) := by
  have hF := g.freeF h
  have hO := g.freeO h
  have g' := g.skip (o := o) h
  refine ⟨g'.fz, fun a c e => ?_, fun a u e => ?_, M.mono g.rl (Same.refl _) (same_upd (g.freeP h))⟩
  · have ne : a ≠ p := fun q => by rw [q, hO] at e; cases e
    obtain ⟨h1, h2, h3⟩ := g'.ow a c e
    exact ⟨h1, (upd_ne ne).trans h2, h3⟩
  · by_cases q : a = p
    · subst q; rw [upd_same] at e; cases e; exact ⟨hF, upd_same⟩
    · rw [upd_ne q] at e; exact g'.as a u e
theorem Gd.asideSet (g : Gd M K F O (upd P p o) H) (mk : M.rel F (upd P p o')) : Gd M K F O (upd P p o') (upd H p o') := by
  obtain ⟨hF, hH⟩ := g.as p o upd_same
  refine ⟨fun b x e => ?_, fun a c e => ?_, fun a u e => ?_, mk⟩
  · have ne : b ≠ p := fun q => by rw [q, hF] at e; cases e
    rw [upd_ne ne]; exact g.fz b x e
  · obtain ⟨h1, h2, h3⟩ := g.ow a c e
    have ne : a ≠ p := fun q => by rw [q, upd_same] at h2; cases h2
    rw [upd_ne ne] at h2
    exact ⟨h1, (upd_ne ne).trans h2, h3.mono (Same.refl _) (upd_ne ne)⟩
  · by_cases q : a = p
    · subst q; rw [upd_same] at e; cases e; exact ⟨hF, upd_same⟩
    · rw [upd_ne q] at e
      obtain ⟨h1, h2⟩ := g.as a u ((upd_ne q).trans e)
      exact ⟨h1, (upd_ne q).trans h2⟩
theorem Gd.asideFz (g : Gd M K F O (upd P p o) H) (hP : P p = none) (mk : M.rel F P) : Same F (upd F p o) ∧ Gd M K (upd F p o) O P H := by
  obtain ⟨hF, hH⟩ := g.as p o upd_same
  have s : Same F (upd F p o) := same_upd hF
  refine ⟨s, fun b x e => ?_, fun a c e => ?_, fun a u e => ?_, M.mono mk s (Same.refl _)⟩
  · by_cases q : b = p
    · subst q; rw [upd_same] at e; cases e; exact hH
    · rw [upd_ne q] at e; exact g.fz b x e
  · obtain ⟨h1, h2, h3⟩ := g.ow a c e
    have ne : a ≠ p := fun q => by rw [q, upd_same] at h2; cases h2
    rw [upd_ne ne] at h2
    exact ⟨(upd_ne ne).trans h1, h2, h3.mono s rfl⟩
  · have ne : a ≠ p := fun q => by rw [q, hP] at e; cases e
    obtain ⟨h1, h2⟩ := g.as a u ((upd_ne ne).trans e)
    exact ⟨(upd_ne ne).trans h1, h2⟩
end

/-! ### list comprehensions -/
def wipeD (ρ : DEnv) : List Nat → DEnv
  | [] => ρ
  | v :: vs => (wipeD ρ vs).set v none
theorem EnvOk.wipes {K : PySem.W.Frag} {F : Hp} {ρ : DEnv} {σ : L2.St} (h : EnvOk K F ρ σ) : ∀ vs : List Nat, EnvOk K F (wipeD ρ vs) (L2.wipe σ vs)
  | [] => h
  | v :: vs => by unfold wipeD L2.wipe; exact (EnvOk.wipes h vs).wipe v
theorem wipe_in {σ : L2.St} {i : Nat} : ∀ {vs : List Nat}, i ∈ vs → (wipe σ vs)[i]? = if i < σ.length then some none else none
  | [], h => by cases h
  | v :: vs, h => by
    unfold L2.wipe
    by_cases e : v = i
    · subst e
      by_cases c : v < σ.length
      · rw [if_pos c, List.getElem?_set_self (by rw [wipe_length]; exact c)]
      · rw [if_neg c, List.getElem?_eq_none (by rw [List.length_set, wipe_length]; omega)]
    · rw [List.getElem?_set_ne e]
      exact wipe_in ((List.mem_cons.mp h).resolve_left fun q => e q.symm)
theorem wipe_off {σ τ : L2.St} {vs ws : List Nat} (h : Off ws (wipe σ vs) τ) (hs : ∀ i ∈ ws, i ∈ vs) : wipe τ vs = wipe σ vs := by
  refine List.ext_getElem? fun i => ?_
  have hl : τ.length = σ.length := by rw [← h.1, wipe_length]
  by_cases c : i ∈ vs
  · rw [wipe_in c, wipe_in c, hl]
  · rw [wipe_out c]
    exact h.2 i fun q => c (hs i q)
def lcD (p : Pat) (ft : FT) (fe : FE) (ρ : DEnv) : List D → List D → Ow → (List D → Ow → Prop) → Prop
  | [], acc, O, Q => Q acc O
  | d :: ds, acc, O, Q => patGet (patD p d ρ) fun ρ1 => ft ρ1 O fun b O1 => if b = true then fe ρ1 O1 fun e O2 => acc.length < sizeLine ∧ lcD p ft fe ρ ds (acc ++ [e]) O2 Q else lcD p ft fe ρ ds acc O1 Q
def fLc (fi : FI) (p : Pat) (ft : FT) (fe : FE) (vs : List Nat) : FE := fun ρ O Q => fi ρ O fun ds O1 => lcD p ft fe (wipeD ρ vs) ds [] O1 fun acc O2 => Q (.lst acc) O2
def fLcO (fi : FI) (p : Pat) (ft : FT) (fe : FE) (vs : List Nat) : FE := fun ρ O Q => fi ρ O fun ds O1 => lcD p ft fe (wipeD ρ vs) ds [] O1 fun acc O2 => ∀ q, O2 q = none → Q (.ref q) (updO O2 q (.lst acc))
def fYes : FT := fun _ O Q => Q true O
section
variable {X : Cx} {elt tg iter : Expr} {ifs : List Expr} {scope : Scope} {own : List (Str × Nat)} {pos : Pos} {fi : FI} {p : Pat} {ft : FT} {fe : FE}
theorem dts_nil : PTs X [] (liftT M X.K fYes) := ⟨fun pins s σ H Q I h => by
  obtain ⟨F, O, P, ρ, R, g, en, q, po⟩ := h
  exact pts_nil.run pins s σ H Q I (po true O F H q (Same.refl _) g)⟩
theorem dts_one {c : Expr} (h : DT M X c ft) : PTs X [c] (liftT M X.K ft) := pts_one h
theorem fLc_core {vs : List Nat} {K : PySem.W.Frag} (hv : ∀ i ∈ patI p, i ∈ vs) {σ : L2.St} {H : Hp} {Q : VK} {F P : Hp} {O : Ow} {ρ : DEnv} {R : List D → Ow → Prop} (g : Gd M K F O P H) (en : EnvOk K F ρ σ)
    (q : fi ρ O fun ds O1 => lcD p ft fe (wipeD ρ vs) ds [] O1 R)
    (po : ∀ acc O' F' H' q vacc, R acc O' → Same F F' → P q = none → M.rel F' P → Gd M K F' O' (upd P q (.lst vacc)) H' → RepAll K F' acc vacc → Q (.ref q) H') :
    tLc (liftI M K fi) (patT K p) (liftT M K ft) (liftE M K fe) vs σ H Q := by
  refine ⟨F, O, P, ρ, _, g, en, q, fun ds O1 F1 H1 J q1 s1 g1 it D hD => ?_⟩
  have hP := g1.freeP hD
  refine ⟨fun i m H => ∃ F2 O2 acc vacc, i + m = ds.length ∧ Same F1 F2 ∧ Gd M K F2 O2 (upd P D (.lst vacc)) H ∧ RepAll K F2 acc vacc ∧ lcD p ft fe (wipeD ρ vs) (ds.drop i) acc O2 R,
    ⟨ds.length, F1, O1, [], [], by omega, Same.refl _, g1.aside hD, .nil, by rw [List.drop_zero]; exact q1⟩, fun i m H2 hW => ?_⟩
  obtain ⟨F2, O2, acc, vacc, hm, s2, g2, ra, q2⟩ := hW
  obtain ⟨it1, it2⟩ := it F2 O2 (upd P D (.lst vacc)) H2 s2 g2 i
  by_cases hi : i < ds.length
  · obtain ⟨hgo, hy⟩ := it1 ds[i] (List.getElem?_eq_getElem hi)
    rw [List.drop_eq_getElem_cons hi] at q2
    unfold lcD at q2
    refine .inr ⟨hgo, fun H' => ∃ F3 O3 acc vacc, Same F1 F3 ∧ Gd M K F3 O3 (upd P D (.lst vacc)) H' ∧ RepAll K F3 acc vacc ∧ lcD p ft fe (wipeD ρ vs) (ds.drop (i + 1)) acc O3 R, fun H' hN => ?_, fun x H' hyy => ?_⟩
    · obtain ⟨F3, O3, acc3, vacc3, s3, g3, r3, q3⟩ := hN
      exact ⟨m - 1, by omega, F3, O3, acc3, vacc3, by omega, s3, g3, r3, q3⟩
    · obtain ⟨F3, s3, g3, r3⟩ := hy x H' hyy
      cases e1 : patD p ds[i] (wipeD ρ vs) with
      | none => rw [e1] at q2; exact q2.elim
      | some ρ3 =>
        rw [e1] at q2
        refine pat_ok g3 p ds[i] x (wipeD ρ vs) ρ3 (wipe σ vs) _ e1 r3 ((en.mono (s1.trans (s2.trans s3))).wipes vs) fun σ4 en4 off => ?_
        refine ⟨wipe_off off hv, F3, O2, upd P D (.lst vacc), ρ3, _, g3, en4, q2, fun b O5 F5 H5 q5 s5 g5 => ?_⟩
        cases b with
        | true =>
          rw [if_pos rfl] at q5 ⊢
          refine ⟨F5, O5, upd P D (.lst vacc), ρ3, _, g5, en4.mono s5, q5, fun y O6 F6 H6 w q6 s6 g6 r6 => ?_⟩
          refine ⟨vacc, (g6.as D _ upd_same).2, by rw [← ra.length]; exact q6.1, F6, O6, acc ++ [y], vacc ++ [w], s2.trans (s3.trans (s5.trans s6)), g6.asideSet (M.mono g1.rl (s2.trans (s3.trans (s5.trans s6))) (same_upd hP)), (ra.mono (s3.trans (s5.trans s6))).append (.one r6), q6.2⟩
        | false =>
          rw [if_neg Bool.false_ne_true] at q5 ⊢
          exact ⟨F5, O5, acc, vacc, s2.trans (s3.trans s5), g5, ra.mono (s3.trans s5), q5⟩
  · rw [List.drop_eq_nil_of_le (by omega)] at q2
    exact .inl ⟨it2 (by omega), po acc O2 F2 H2 D vacc q2 (s1.trans s2) hP (M.mono g1.rl s2 (Same.refl _)) g2 ra⟩
theorem fLc_lift {vs : List Nat} {K : PySem.W.Frag} (hv : ∀ i ∈ patI p, i ∈ vs) : ∀ σ H Q, liftE M K (fLc fi p ft fe vs) σ H Q → tLc (liftI M K fi) (patT K p) (liftT M K ft) (liftE M K fe) vs σ H Q := fun σ H Q h => by
  obtain ⟨F, O, P, ρ, R, g, en, q, po⟩ := h
  refine fLc_core hv g en q fun acc O' F' H' a vacc q1 s1 hP mk g1 r1 => ?_
  obtain ⟨s2, g2⟩ := g1.asideFz hP mk
  refine po (.lst acc) O' _ H' _ q1 (s1.trans s2) g2 ?_
  simp only [Rep]
  exact ⟨a, vacc, rfl, upd_same, r1.mono s2⟩
theorem pat_in {vs : List Nat} (h : ((patI p).all fun i => vs.contains i) = true) : ∀ i ∈ patI p, i ∈ vs := fun i hi => by
  have := List.all_eq_true.mp h i hi
  simpa using this
theorem de_lc {vs : List Nat} (hc : X.calm = true) (hN : X.N.Nodup) (hi : DI M X tg iter fi) (ok : BlkOk X.N X.env.scope scope own)
    (hg : ∀ (s : Shared) (H : Hp) (C : Addr) (cl : List (Str × Addr)) (fp : List Addr), DP (X.blk s H scope (compEnvC scope cl C X.env) fp) tg p) (ht : ∀ (s : Shared) (H : Hp) (C : Addr) (cl : List (Str × Addr)) (fp : List Addr), PTs (X.blk s H scope (compEnvC scope cl C X.env) fp) ifs (liftT M X.K ft))
    (he : ∀ (s : Shared) (H : Hp) (C : Addr) (cl : List (Str × Addr)) (fp : List Addr), DE M (X.blk s H scope (compEnvC scope cl C X.env) fp) elt fe) (hvs : own.map (·.2) = vs := by rfl) (hv : ((patI p).all fun i => vs.contains i) = true := by decide) (hs : ∀ x, foldedSetIterable iter X.env x = pure x := by intro _; rfl) :
    DE M X (.ListComp elt [⟨tg, iter, ifs, 0⟩] scope pos) (fLc fi p ft fe vs) := by
  subst hvs
  exact peMono (pe_lc (te := liftE M X.K fe) (g := patT X.K p) hc hN hi ok hg ht he hs) (fLc_lift (pat_in hv))
/-- name = [..] on one line, the name a local -/
theorem ds_setLc {i : Nat} {vs : List Nat} {y : Str} {py spos : Pos} (hc : X.calm = true) (hN : X.N.Nodup) (hy : X.N[i]? = some y) (hyl : X.env.scope.names.lookup y = some .local)
    (hsw : swapsWith (.ListComp elt [⟨tg, iter, ifs, 0⟩] scope pos) (some (.Name y py)) spos.line X.env = pure true) (hi : DI M X tg iter fi) (ok : BlkOk X.N X.env.scope scope own)
    (hg : ∀ (s : Shared) (H : Hp) (C : Addr) (cl : List (Str × Addr)) (fp : List Addr), DP (X.blk s H scope (compEnvC scope cl C X.env) fp) tg p) (ht : ∀ (s : Shared) (H : Hp) (C : Addr) (cl : List (Str × Addr)) (fp : List Addr), PTs (X.blk s H scope (compEnvC scope cl C X.env) fp) ifs (liftT M X.K ft))
    (he : ∀ (s : Shared) (H : Hp) (C : Addr) (cl : List (Str × Addr)) (fp : List Addr), DE M (X.blk s H scope (compEnvC scope cl C X.env) fp) elt fe) (hvs : own.map (·.2) = vs := by rfl) (hv : ((patI p).all fun i => vs.contains i) = true := by decide) (hs : ∀ x, foldedSetIterable iter X.env x = pure x := by intro _; rfl) :
    DS M X (.Assign [.Name y py] (.ListComp elt [⟨tg, iter, ifs, 0⟩] scope pos) spos) (gSet (fLc fi p ft fe vs) i) := by
  subst hvs
  exact psMono (ps_setLc (te := liftE M X.K fe) (g := patT X.K p) hc hN hy hyl hsw hi ok hg ht he hs) (gSet_lift (fLc_lift (pat_in hv)))
end

/-! ### what a def promises, over data -/
theorem Gd.re {M' : MX} {K : PySem.W.Frag} {F P H : Hp} {O : Ow} (g : Gd M K F O P H) (mk : M'.rel F P) : Gd M' K F O P H := ⟨g.fz, g.ow, g.as, mk⟩
theorem Gd.mt {K : PySem.W.Frag} {F P H : Hp} {O : Ow} (g : Gd M K F O P H) : Gd MT K F O P H := g.re trivial
theorem PostE.mt {K : PySem.W.Frag} {F F1 P H : Hp} {O : Ow} {R : VD} {Q : VK} (po : PostE M K F P R Q) (g : Gd M K F1 O P H) (s1 : Same F F1) : PostE MT K F1 P R Q := fun d O' F' H' v q s g' r => po d O' F' H' v q (s1.trans s) (g'.re (M.mono g.rl s (Same.refl _))) r
abbrev XD := Value → Option (List (Str × D)) → Ow → Prop
abbrev DSp := List D → Ow → VD → XD → Prop
def XdOk (K : PySem.W.Frag) (F _H : Hp) : Option (List (Str × D)) → Option Addr → Prop := XdR K F
def PostX (K : PySem.W.Frag) (F P : Hp) (RE : XD) (E : XK) : Prop := ∀ cls fs O' F' H' dd, RE cls fs O' → Same F F' → Gd MT K F' O' P H' → XdOk K F' H' fs dd → E cls dd H'
theorem PostX.more {K : PySem.W.Frag} {F F' P : Hp} {RE : XD} {E : XK} (po : PostX K F P RE E) (s : Same F F') : PostX K F' P RE E := fun cls fs O' F2 H' dd q s2 g x => po cls fs O' F2 H' dd q (s.trans s2) g x
def liftSp (K : PySem.W.Frag) (dsp : DSp) : Sp := fun vs H Q E => ∃ F O P ds R RE, Gd MT K F O P H ∧ RepAll K F ds vs ∧ dsp ds O R RE ∧ PostE MT K F P R Q ∧ PostX K F P RE E
abbrev X0 : XD := fun _ _ _ => False
section
variable {X : Cx} {e : Expr} {es : List Expr} {fr : FA} {CX : CXT} {k : Nat} {f : Addr} {fd : FuncData} {ps : List Str} {dsp : DSp} {x : Str} {p pos : Pos}
def fCall (dsp : DSp) (fr : FA) : FE := fun ρ O Q => fr ρ O fun ds O1 => dsp ds O1 Q X0
theorem de_call (G : FnOk X.prog X.w X.K X.mg X.base CX0 k f fd ps (liftSp X.K dsp)) (hr : Room k X.A) (hg : Gl X x) (hm : X.mg x = some (.ref f)) (hk : PySem.W.keepIn X.K (.ref f) = true) (hb : Binds X.K fd ps [])
    (ha : DA M X (e :: es) fr) (hdb : (x == ("__debug__" : Str)) = false := by decide) (he : starEach (e :: es) X.env = (false, eval e X.env) :: starEach es X.env := by rfl) (hpl : (backTo pos (starEach es X.env)).any (·.1) = false := by rfl) :
    DE M X (.Call (.Name x p) (e :: es) [] pos) (fCall dsp fr) := peMono (pe_call G hr hg hm hk hb .nil pass0 ha hdb he hpl) fun σ H Q h => by
  obtain ⟨F, O, P, ρ, R, g, en, q, po⟩ := h
  refine ⟨F, O, P, ρ, _, g, en, q, fun ds O1 F1 H1 vs q1 s1 g1 r1 => ?_⟩
  show liftSp X.K dsp (vs ++ []) H1 Q E0
  rw [List.append_nil]
  exact ⟨F1, O1, P, ds, R, X0, g1.mt, r1, q1, po.mt g1 s1, fun _ _ _ _ _ _ z => z.elim⟩
end
section
variable {P : Program} {w : World} {K : PySem.W.Frag} {mg : Str → Option Value} {base : Heap}
/-- the names' values at the entry -/
def startD (N : List Str) (ds : List D) : DEnv := ds.map some ++ List.replicate (N.length - ds.length) none
theorem fn_d {x qual : Str} {st : Stmt} {f : Addr} {fd : FuncData} {N ps : List Str} {k : Nat} {dsp : DSp} {g : GS} (F : Fun K x qual st f fd) (S : FnScope N ps (defScope st)) (len : ∀ ds O R RE, dsp ds O R RE → ds.length = ps.length)
    (hder : ∀ (cdv : Value) (A : Around) (outer : List Env) (s : Shared) (H : Hp) (E : XK), Room k (A.deeper (envOfC qual (defScope st) s.heap.objs.size f cdv)) →
      DSs MT (cxOf CX0 P w K mg base N qual (defScope st) f cdv A outer s H E).nox (defBody st) g)
    (hread : ∀ ds O R RE, dsp ds O R RE → g { nx := fun _ O' => R .non O', rt := R } (startD N ds) O) : FnOk P w K mg base CX0 (k + 1) f fd ps (liftSp K dsp) := by
  refine F.ok S (fun vs H Q E h => ?_) fun cdv A outer s H vs Q E hr h => ?_
  · obtain ⟨F, O, P, ds, R, RE, g, r, q, _⟩ := h
    rw [← r.length]; exact len ds O R RE q
  · obtain ⟨F, O, P, ds, R, RE, gd, r, q, po, _⟩ := h
    refine ⟨_, hder cdv A outer s H E hr, F, O, P, startD N ds, { nx := fun _ O' => R .non O', rt := R }, gd, ?_, hread ds O R RE q, ⟨fun ρ O' F' H' σ q1 s1 g1 _ => ?_, po, fun _ _ _ _ _ z => z.elim, fun _ _ _ _ _ z => z.elim⟩⟩
    · unfold startD L2.start
      rw [r.length]
      exact envOk_start _ r
    · exact po .non O' F' H' .non q1 s1 g1 (by simp only [Rep])
end
/-- no calls are left -/
theorem none_left {P : Program} {w : World} {K : PySem.W.Frag} {mg : Str → Option Value} {base : Heap} {CX : CXT} {f : Addr} {fd : FuncData} {ps : List Str} {dsp : DSp} {k : Nat} (no : ∀ ds O R RE, ¬ dsp ds O R RE) : FnOk P w K mg base CX k f fd ps (liftSp K dsp) := by
  have no' : ∀ vs H Q E, ¬ liftSp K dsp vs H Q E := fun vs H Q E h => by
    obtain ⟨F, O, P, ds, R, RE, g, r, q, _⟩ := h
    exact no ds O R RE q
  exact ⟨fun vs H Q E h => absurd h (no' vs H Q E), fun A outer s H args us vs Q E _ _ _ _ h => absurd h (no' vs H Q E)⟩
/-- the law's own promise -/
def lawSp (n : Nat) : DSp := fun ds _ R _ => ∃ ns : List Int, ds = [.scr ns] ∧ ns.length ≤ n ∧ ∀ O, R (.bl true) O
theorem law_start {K : PySem.W.Frag} {H : Hp} {a : Addr} {ns : List Int} {n : Nat} (hl : ns.length ≤ n) (h : SqL K H a (ns.map V.int)) : liftSp K (lawSp n) [.ref a] H (fun v _ => v = .bl true) fun _ _ _ => False := by
  refine ⟨fun b => if b = a then H b else none, fun _ => none, fun _ => none, [.scr ns], fun d _ => d = .bl true, X0, ⟨fun b o e => ?_, (fun _ _ e => nomatch e), (fun _ _ e => nomatch e), trivial⟩, ?_, ⟨ns, rfl, hl, fun _ => rfl⟩, fun d O' F' H' v q _ _ r => ?_, fun _ _ _ _ _ _ z => z.elim⟩
  · split at e
    · exact e
    · cases e
  · refine .one ?_
    simp only [Rep]
    refine ⟨a, rfl, ?_⟩
    rcases h with (h | ⟨o, h⟩) | h
    · exact .inl (.inl ((if_pos rfl).trans h))
    · exact .inl (.inr ⟨o, (if_pos rfl).trans h⟩)
    · exact .inr h
  · subst q
    simpa only [Rep] using r
end Kf
namespace Kf
open PySem PySem.Spec L2
open PyProof.Rows hiding St
variable {M : MX}

abbrev rSubD : R2D := rInts0 fun i j => .int (i - j)
abbrev rMulD : R2D := rInts CMul fun i j => .int (i * j)
abbrev rDivD : R2D := rInts CDv fun i j => .int (i / j)
abbrev rModD : R2D := rInts (fun _ j => 0 < j) fun i j => .int (i % j)
abbrev rPowD : R2D := rInts CPow fun i j => .int (i ^ j.toNat)
abbrev rGtD : R2D := rInts0 fun i j => .bl (decide (j < i))
abbrev rGeD : R2D := rInts0 fun i j => .bl (decide (j ≤ i))
theorem _root_.L2.Room.u200 {k : Nat} {A : Around} (r : Room k A) : A.units + 200 < cLine := by have := r.un; omega

/-- a def of the text: its place, its name, how it is called -/
structure Fn (K : PySem.W.Frag) (mg : Str → Option Value) (x : Str) (st : Stmt) (ps : List Str) (f : Addr) (fd : FuncData) : Prop where
  F : Fun K x x st f fd
  m : mg x = some (.ref f)
  b : Binds K fd ps []
section
variable {X : Cx} {e : Expr} {es : List Expr} {fr : FA} {k : Nat} {f : Addr} {fd : FuncData} {ps : List Str} {dsp : DSp} {x : Str} {st : Stmt} {p pos : Pos}
theorem de_callN (N : Fn X.K X.mg x st ps f fd) (G : FnOk X.prog X.w X.K X.mg X.base CX0 k f fd ps (liftSp X.K dsp)) (hr : Room k X.A) (hg : Gl X x)
    (ha : DA M X (e :: es) fr) (hdb : (x == ("__debug__" : Str)) = false := by decide) (he : starEach (e :: es) X.env = (false, eval e X.env) :: starEach es X.env := by rfl) (hpl : (backTo pos (starEach es X.env)).any (·.1) = false := by rfl) :
    DE M X (.Call (.Name x p) (e :: es) [] pos) (fCall dsp fr) := de_call G hr hg N.m N.F.kp N.b ha hdb he hpl
/-- a constant of the module -/
def Cst (K : PySem.W.Frag) (mg : Str → Option Value) (x : Str) (d : D) : Prop := ∃ u v, mg x = some u ∧ RelV v u ∧ ∀ F, Rep K F d v
theorem de_cst {d : D} (c : Cst X.K X.mg x d) (hg : Gl X x) (hd : (x == ("__debug__" : Str)) = false := by decide) : DE M X (.Name x pos) (fC d) := by
  obtain ⟨u, v, h1, h2, h3⟩ := c
  exact de_glob hg h1 h2 h3 hd
/-- a built-in class as a value -/
theorem de_ty {n : String} (hv : bootBuiltins x = some (.type n)) (hm : X.mg x = none) (hg : Gl X x) (hn : x ≠ "__name__" := by decide) (hd : (x == ("__debug__" : Str)) = false := by decide) : DE M X (.Name x pos) (fC (.ty n)) :=
  de_bltn (v := .ty n) hg hm hv rfl (fun _ => by simp only [Rep]) hn hd
end
theorem bb_len : bootBuiltins "len" = some (.builtin "len") := by decide +kernel
theorem bb_isinstance : bootBuiltins "isinstance" = some (.builtin "isinstance") := by decide +kernel
theorem bb_max : bootBuiltins "max" = some (.builtin "max") := by decide +kernel
theorem bb_min : bootBuiltins "min" = some (.builtin "min") := by decide +kernel
theorem bb_int : bootBuiltins "int" = some (.type "int") := by decide +kernel
theorem bb_str : bootBuiltins "str" = some (.type "str") := by decide +kernel
theorem bb_bool : bootBuiltins "bool" = some (.type "bool") := by decide +kernel
theorem bb_tuple : bootBuiltins "tuple" = some (.type "tuple") := by decide +kernel
theorem bb_list : bootBuiltins "list" = some (.type "list") := by decide +kernel
/-! ### ends that are known -/
theorem cst_int {K : PySem.W.Frag} {mg : Str → Option Value} {x : Str} {i : Int} {t : Tok} (h : mg x = some (.int i t)) : Cst K mg x (.int i) := ⟨_, .int i, h, ⟨t, rfl⟩, fun _ => by simp only [Rep]⟩
theorem cst_str {K : PySem.W.Frag} {mg : Str → Option Value} {x y : Str} {t : Tok} (h : mg x = some (.str y t)) : Cst K mg x (.str y) := ⟨_, .str y, h, ⟨t, rfl⟩, fun _ => by simp only [Rep]⟩
/-- a tuple of texts that stands in the written part -/
theorem cst_strs {K : PySem.W.Frag} {mg : Str → Option Value} {x : Str} {a : Addr} {o : Obj} {its : Array Value} {n : Nat} {ys : List Str} (h : mg x = some (.ref a)) (h1 : K.lookup a = some o) (h2 : o.cls = .type "tuple") (h3 : o.data = .seq its n)
    (h4 : Vals (ys.map V.str) its.toList) (h5 : ys.length ≤ sizeLine) : Cst K mg x (.tup (ys.map .str)) := by
  refine ⟨_, .ref a, h, rfl, fun F => ?_⟩
  simp only [Rep]
  refine ⟨a, ys.map V.str, rfl, .inr ⟨o, its, n, h1, h2, h3, ?_, h4⟩, .of_strs⟩
  have h6 : ys.length = its.size := by
    have := h4.length
    rw [List.length_map] at this
    rw [this]; simp
  omega
end Kf
namespace Kf
open PySem PySem.Spec L2
open PyProof.Rows hiding St
variable {M : MX}

/-! ### the readings at known data -/
section
variable {O : Ow} {Q : VD} {i j : Int} {a b : Str} {xs ys : List D} {d e x y z u : D} {p : Addr} {neg : Bool} {ns : List Int}
theorem deref_tup : deref O (.tup xs) = .tup xs := rfl
theorem deref_lst : deref O (.lst xs) = .lst xs := rfl
theorem deref_int : deref O (.int i) = .int i := rfl
theorem deref_str : deref O (.str a) = .str a := rfl
theorem deref_bl {k : Bool} : deref O (.bl k) = .bl k := rfl
theorem deref_non : deref O .non = .non := rfl
theorem deref_scr : deref O (.scr ns) = .scr ns := rfl
theorem rLt_i : rLtD (.int i) (.int j) O Q = Q (.bl (decide (i < j))) O := rfl
theorem rLt_s : rLtD (.str a) (.str b) O Q = Q (.bl (decide (a.cps.toList < b.cps.toList))) O := rfl
theorem rLe_i : rLeD (.int i) (.int j) O Q = Q (.bl (decide (i ≤ j))) O := rfl
theorem rLe_s : rLeD (.str a) (.str b) O Q = Q (.bl (!decide (b.cps.toList < a.cps.toList))) O := rfl
theorem rInts_i {C : Int → Int → Prop} {f : Int → Int → D} : rInts C f (.int i) (.int j) O Q = (C i j ∧ Q (f i j) O) := rfl
theorem rInts0_i {f : Int → Int → D} : rInts0 f (.int i) (.int j) O Q = Q (f i j) O := rfl
theorem rAdd_i : rAddD (.int i) (.int j) O Q = Q (.int (i + j)) O := rfl
theorem rAdd_s : rAddD (.str a) (.str b) O Q = (a.length + b.length ≤ sizeLine ∧ Q (.str (a ++ b)) O) := rfl
theorem rAdd_l : rAddD (.lst xs) (.lst ys) O Q = (xs.length + ys.length ≤ sizeLine ∧ Q (.lst (xs ++ ys)) O) := rfl
theorem rAdd_t : rAddD (.tup xs) (.tup ys) O Q = (xs ≠ [] ∧ xs.length + ys.length ≤ sizeLine ∧ Q (.tup (xs ++ ys)) O) := rfl
theorem rCatO_l : rCatO (.lst xs) (.lst ys) O Q = (xs.length + ys.length ≤ sizeLine ∧ ∀ p, O p = none → Q (.ref p) (updO O p (.lst (xs ++ ys)))) := rfl
theorem rNeg_i : rNeg (.int i) O Q = Q (.int (-i)) O := rfl
theorem rLen_t : rLenD [.tup xs] O Q = Q (.int xs.length) O := rfl
theorem rLen_l : rLenD [.lst xs] O Q = Q (.int xs.length) O := rfl
theorem rLen_c : rLenD [.scr ns] O Q = Q (.int ns.length) O := rfl
theorem rLen_s : rLenD [.str a] O Q = (a.length ≤ sizeLine ∧ Q (.int a.length) O) := rfl
theorem rMax_i : rMax2 [.int i, .int j] O Q = Q (.int (if j > i then j else i)) O := rfl
theorem rMin_i : rMin2 [.int i, .int j] O Q = Q (.int (if j < i then j else i)) O := rfl
theorem rDivmod_i : rDivmod [.int i, .int j] O Q = (CDv i j ∧ Q (.tup [.int (i / j), .int (i % j)]) O) := rfl
theorem rInt_i : rInt1 [.int i] O Q = Q (.int i) O := rfl
theorem rInt_b {k : Bool} : rInt1 [.bl k] O Q = Q (.int (if k then 1 else 0)) O := rfl
theorem rStr_i : rStr1 [.int i] O Q = (i.natAbs.log2 < 1920 ∧ Q (.str (toString i)) O) := rfl
theorem rList_l : rList1 [.lst xs] O Q = Q (.lst xs) O := rfl
theorem rList_t : rList1 [.tup xs] O Q = Q (.lst xs) O := rfl
theorem rListO_l : rList1O [.lst xs] O Q = ∀ p, O p = none → Q (.ref p) (updO O p (.lst xs)) := rfl
theorem rListO_t : rList1O [.tup xs] O Q = ∀ p, O p = none → Q (.ref p) (updO O p (.lst xs)) := rfl
theorem rTup_l : rTup1 [.lst xs] O Q = Q (.tup xs) O := rfl
theorem rTup_t : rTup1 [.tup xs] O Q = Q (.tup xs) O := rfl
theorem ixC0 {α : Type} (x : α) (r : List α) : atI (x :: r) 0 = some x := by
  have := atI_nat (xs := x :: r) (j := 0) (v := x) rfl
  simpa using this
theorem ixC1 {α : Type} (x y : α) (r : List α) : atI (x :: y :: r) 1 = some y := by
  have := atI_nat (xs := x :: y :: r) (j := 1) (v := y) rfl
  simpa using this
theorem ixC2 {α : Type} (x y z : α) (r : List α) : atI (x :: y :: z :: r) 2 = some z := by
  have := atI_nat (xs := x :: y :: z :: r) (j := 2) (v := z) rfl
  simpa using this
theorem ixC3 {α : Type} (x y z u : α) (r : List α) : atI (x :: y :: z :: u :: r) 3 = some u := by
  have := atI_nat (xs := x :: y :: z :: u :: r) (j := 3) (v := u) rfl
  simpa using this
theorem rIx_t (h : atI xs i = some d) : rIxD (.tup xs) (.int i) O Q = Q d O := by simp only [rIxD, deref, h]
theorem rIx_l (h : atI xs i = some d) : rIxD (.lst xs) (.int i) O Q = Q d O := by simp only [rIxD, deref, h]
theorem rIx_c {n : Int} (h : atI ns i = some n) : rIxD (.scr ns) (.int i) O Q = Q (.int n) O := by simp only [rIxD, deref, h]
theorem rIx_s {c : Nat} (h : atI a.cps.toList i = some c) : rIxD (.str a) (.int i) O Q = (a.length ≤ sizeLine ∧ Q (.str ⟨#[c]⟩) O) := by simp only [rIxD, deref, h]
theorem rIx_t0 : rIxD (.tup (x :: xs)) (.int 0) O Q = Q x O := rIx_t (ixC0 _ _)
theorem rIx_t1 : rIxD (.tup (x :: y :: xs)) (.int 1) O Q = Q y O := rIx_t (ixC1 _ _ _)
theorem rIx_t2 : rIxD (.tup (x :: y :: z :: xs)) (.int 2) O Q = Q z O := rIx_t (ixC2 _ _ _ _)
theorem rIx_t3 : rIxD (.tup (x :: y :: z :: u :: xs)) (.int 3) O Q = Q u O := rIx_t (ixC3 _ _ _ _ _)
theorem rIx_l0 : rIxD (.lst (x :: xs)) (.int 0) O Q = Q x O := rIx_l (ixC0 _ _)
theorem rIx_l1 : rIxD (.lst (x :: y :: xs)) (.int 1) O Q = Q y O := rIx_l (ixC1 _ _ _)
theorem rIx_l2 : rIxD (.lst (x :: y :: z :: xs)) (.int 2) O Q = Q z O := rIx_l (ixC2 _ _ _ _)
theorem rIx_p0 (h : O p = some .pool) : rIxD (.ref p) (.int 0) O Q = ∀ x : Int, 0 ≤ x → Q (.int x) O := by
  simp only [rIxD, deref, h]; simp
theorem rIx_p1 (h : O p = some .pool) : rIxD (.ref p) (.int 1) O Q = ∀ x : Int, 0 ≤ x → x < 2147483647 → Q (.int x) O := by
  simp only [rIxD, deref, h]; simp
theorem rIsN_x : rIsN neg x .non O Q = Q (.bl (neg ^^ isNon x)) O := rfl
theorem isNon_t : isNon (.tup xs) = false := rfl
theorem isNon_n : isNon .non = true := rfl
theorem isNon_i : isNon (.int i) = false := rfl
theorem isNon_s : isNon (.str a) = false := rfl
theorem isNon_l : isNon (.lst xs) = false := rfl
/-! == -/
/-- == of data -/
def deq (x y : D) : Bool := PyData.eqv (toPy x) (toPy y)
def deqs (xs ys : List D) : Bool := PyData.eqvAll (toPys xs) (toPys ys)
theorem deq_t : deq (.tup xs) (.tup ys) = deqs xs ys := by simp only [deq, toPy, PyData.eqv, deqs]
theorem deq_l : deq (.lst xs) (.lst ys) = deqs xs ys := by simp only [deq, toPy, PyData.eqv, deqs]
theorem deq_ts : deq (.tup xs) (.str a) = false := by simp only [deq, toPy, PyData.eqv]
theorem deq_st : deq (.str a) (.tup xs) = false := by simp only [deq, toPy, PyData.eqv]
theorem deq_ls : deq (.lst xs) (.str a) = false := by simp only [deq, toPy, PyData.eqv]
theorem deq_sl : deq (.str a) (.lst xs) = false := by simp only [deq, toPy, PyData.eqv]
theorem deq_ti : deq (.tup xs) (.int i) = false := by simp only [deq, toPy, PyData.eqv]
theorem deq_nt : deq .non (.tup xs) = false := by simp only [deq, toPy, PyData.eqv]
theorem str_beq (a b : Str) : (a == b) = decide (a = b) := by
  by_cases h : a = b
  · subst h; simp
  · rw [decide_eq_false h]; exact beq_eq_false_iff_ne.mpr h
theorem deq_s : deq (.str a) (.str b) = decide (a = b) := by simp only [deq, toPy, PyData.eqv, str_beq]
theorem deq_i : deq (.int i) (.int j) = decide (i = j) := by simp only [deq, toPy, PyData.eqv, Bool.beq_eq_decide_eq]
theorem deq_b {k l : Bool} : deq (.bl k) (.bl l) = decide (k = l) := by simp only [deq, toPy, PyData.eqv, Bool.beq_eq_decide_eq]
theorem deqs_nn : deqs [] [] = true := by simp only [deqs, toPys, PyData.eqvAll]
theorem deqs_nc : deqs [] (y :: ys) = false := by simp only [deqs, toPys, PyData.eqvAll]
theorem deqs_cn : deqs (x :: xs) [] = false := by simp only [deqs, toPys, PyData.eqvAll]
theorem deqs_cc : deqs (x :: xs) (y :: ys) = (deq x y && deqs xs ys) := by simp only [deqs, deq, toPys, PyData.eqvAll]
/-- == at data read through: what is asked, what is answered -/
theorem rEq_dd (hx : isPy (ddf O 192 x) = true) (hy : isPy (ddf O 192 y) = true) (hd : dp (ddf O 192 x) ≤ 190) : rEqD neg x y O Q = Q (.bl (neg ^^ deq (ddf O 192 x) (ddf O 192 y))) O := by
  have hm : min (dp (ddf O 192 x)) (dp (ddf O 192 y)) ≤ 190 := Nat.le_trans (Nat.min_le_left _ _) hd
  simp only [rEqD, hx, hy, hm, deq, true_and]
/-- .. where the right one is flat -/
theorem rEq_dr (hx : isPy (deref O x) = true) (hy : isPy (deref O y) = true) (hd : dp (deref O y) ≤ 190) : rEqD neg x y O Q = Q (.bl (neg ^^ deq (deref O x) (deref O y))) O := by
  have ex : ddf O 192 x = deref O x := ddf_deref hx
  have ey : ddf O 192 y = deref O y := ddf_deref hy
  have hm : min (dp (deref O x)) (dp (deref O y)) ≤ 190 := Nat.le_trans (Nat.min_le_right _ _) hd
  simp only [rEqD, ex, ey, hx, hy, hm, deq, true_and]
/-- == at data: what is asked, what is answered -/
theorem rEq_d (hx : isPy (deref O x) = true) (hy : isPy (deref O y) = true) (hd : dp (deref O x) ≤ 190) : rEqD neg x y O Q = Q (.bl (neg ^^ deq (deref O x) (deref O y))) O := by
  have ex : ddf O 192 x = deref O x := ddf_deref hx
  have ey : ddf O 192 y = deref O y := ddf_deref hy
  rw [rEq_dd (by rw [ex]; exact hx) (by rw [ey]; exact hy) (by rw [ex]; exact hd), ex, ey]
theorem rEq_i : rEqD neg (.int i) (.int j) O Q = Q (.bl (neg ^^ decide (i = j))) O := by
  rw [rEq_d (by simp only [deref, isPy]) (by simp only [deref, isPy]) (by simp [deref, dp, toPy, PyData.depth]), deref_int, deref_int, deq_i]
theorem rEq_b {k l : Bool} : rEqD neg (.bl k) (.bl l) O Q = Q (.bl (neg ^^ decide (k = l))) O := by
  rw [rEq_d (by simp only [deref, isPy]) (by simp only [deref, isPy]) (by simp [deref, dp, toPy, PyData.depth]), deref_bl, deref_bl, deq_b]
theorem rEq_s (h1 : PyData.strOk a = true) (h2 : PyData.strOk b = true) : rEqD neg (.str a) (.str b) O Q = Q (.bl (neg ^^ decide (a = b))) O := by
  rw [rEq_d (by simpa only [deref, isPy] using h1) (by simpa only [deref, isPy] using h2) (by simp [deref, dp, toPy, PyData.depth]), deref_str, deref_str, deq_s]
theorem rIsi_ty {n : String} (h1 : insCl.contains n = true) (h2 : insTy.contains (tyNm O x) = true) : rIsiD [x, .ty n] O Q = Q (.bl (insOf (tyNm O x) n)) O := by
  simp only [rIsiD, h1, h2, true_and]
theorem rApp_r (h : O p = some (.lst xs)) : rAppendD (.ref p) [y] O Q = (xs.length < sizeLine ∧ Q .non (updO O p (.lst (xs ++ [y])))) := by simp only [rAppendD, h]
theorem tyOk_r (h : O p = some (.lst xs)) : tyOk "list" O (.ref p) = true := by simp [tyOk, tyNm, h]
theorem tyOk_l : tyOk "list" O (.lst xs) = true := rfl
theorem tyOk_s : tyOk "str" O (.str a) = true := rfl
theorem rPool_i : rPool [.int i, .int j] O Q = (0 ≤ i ∧ 0 ≤ j ∧ j < 2147483647 ∧ ∀ p, O p = none → Q (.ref p) (updO O p .pool)) := rfl
theorem rSet_p0 {N : Ow → Prop} (h : O p = some .pool) : rSetD (.ref p) (.int 0) (.int i) O N = (0 ≤ i ∧ N O) := by
  simp only [rSetD, h]; simp
theorem rSet_p1 {N : Ow → Prop} (h : O p = some .pool) : rSetD (.ref p) (.int 1) (.int i) O N = ((0 ≤ i ∧ i < 2147483647) ∧ N O) := by
  simp only [rSetD, h]; simp
end
theorem sz_small {n : Nat} (h : n ≤ 1000000) : n ≤ sizeLine := by have := sizeLine_eq; omega
theorem notX {b : Bool} : (true ^^ b) = !b := Bool.true_xor b
theorem notX' {b : Bool} : (false ^^ b) = b := Bool.false_xor b
/-- patterns -/
theorem patD_nm {i : Nat} {d : D} {ρ : DEnv} : patD (.nm i) d ρ = some (ρ.set i (some d)) := by simp only [patD]
theorem patD_tp {ps : List Pat} {ds : List D} {ρ : DEnv} : patD (.tp ps) (.tup ds) ρ = patDs ps ds ρ := by simp only [patD]
theorem patDs_nil {ρ : DEnv} : patDs [] [] ρ = some ρ := by simp only [patDs]
theorem patDs_cons {p : Pat} {ps : List Pat} {d : D} {ds : List D} {ρ : DEnv} : patDs (p :: ps) (d :: ds) ρ = (patD p d ρ).bind (patDs ps ds) := by simp only [patDs]
/-- a walk that keeps a word -/
theorem forD_inv {p : Pat} {gb : GS} {R : DEnds} (I : DEnv → Ow → Prop) : ∀ (ds : List D) (ρ : DEnv) (O : Ow), I ρ O → (∀ ρ O, I ρ O → R.nx ρ O) →
    (∀ d ∈ ds, ∀ ρ O, I ρ O → ∀ N, (∀ ρ O, I ρ O → N ρ O) → patGet (patD p d ρ) fun ρ1 => gb { R with nx := N, ct := N, bk := R.nx } ρ1 O) → forD p gb R ds ρ O
  | [], ρ, O, h, hd, _ => hd ρ O h
  | d :: ds, ρ, O, h, hd, hs => by
    have q := hs d List.mem_cons_self ρ O h (forD p gb R ds) fun ρ' O' h' => forD_inv I ds ρ' O' h' hd fun d' hm => hs d' (List.mem_cons_of_mem _ hm)
    unfold forD
    exact q

theorem isi_i_int {i : Int} {O : Ow} {Q : VD} : rIsiD [(.int i), .ty "int"] O Q = Q (.bl true) O := by simp [rIsiD, insCl, insTy, tyNm, insOf]
theorem isi_i_bool {i : Int} {O : Ow} {Q : VD} : rIsiD [(.int i), .ty "bool"] O Q = Q (.bl false) O := by simp [rIsiD, insCl, insTy, tyNm, insOf]
theorem isi_i_str {i : Int} {O : Ow} {Q : VD} : rIsiD [(.int i), .ty "str"] O Q = Q (.bl false) O := by simp [rIsiD, insCl, insTy, tyNm, insOf]
theorem isi_i_tuple {i : Int} {O : Ow} {Q : VD} : rIsiD [(.int i), .ty "tuple"] O Q = Q (.bl false) O := by simp [rIsiD, insCl, insTy, tyNm, insOf]
theorem isi_i_list {i : Int} {O : Ow} {Q : VD} : rIsiD [(.int i), .ty "list"] O Q = Q (.bl false) O := by simp [rIsiD, insCl, insTy, tyNm, insOf]
theorem isi_i_dict {i : Int} {O : Ow} {Q : VD} : rIsiD [(.int i), .ty "dict"] O Q = Q (.bl false) O := by simp [rIsiD, insCl, insTy, tyNm, insOf]
theorem isi_b_int {k : Bool} {O : Ow} {Q : VD} : rIsiD [(.bl k), .ty "int"] O Q = Q (.bl true) O := by simp [rIsiD, insCl, insTy, tyNm, insOf]
theorem isi_b_bool {k : Bool} {O : Ow} {Q : VD} : rIsiD [(.bl k), .ty "bool"] O Q = Q (.bl true) O := by simp [rIsiD, insCl, insTy, tyNm, insOf]
theorem isi_b_str {k : Bool} {O : Ow} {Q : VD} : rIsiD [(.bl k), .ty "str"] O Q = Q (.bl false) O := by simp [rIsiD, insCl, insTy, tyNm, insOf]
theorem isi_b_tuple {k : Bool} {O : Ow} {Q : VD} : rIsiD [(.bl k), .ty "tuple"] O Q = Q (.bl false) O := by simp [rIsiD, insCl, insTy, tyNm, insOf]
theorem isi_b_list {k : Bool} {O : Ow} {Q : VD} : rIsiD [(.bl k), .ty "list"] O Q = Q (.bl false) O := by simp [rIsiD, insCl, insTy, tyNm, insOf]
theorem isi_b_dict {k : Bool} {O : Ow} {Q : VD} : rIsiD [(.bl k), .ty "dict"] O Q = Q (.bl false) O := by simp [rIsiD, insCl, insTy, tyNm, insOf]
theorem isi_s_int {a : Str} {O : Ow} {Q : VD} : rIsiD [(.str a), .ty "int"] O Q = Q (.bl false) O := by simp [rIsiD, insCl, insTy, tyNm, insOf]
theorem isi_s_bool {a : Str} {O : Ow} {Q : VD} : rIsiD [(.str a), .ty "bool"] O Q = Q (.bl false) O := by simp [rIsiD, insCl, insTy, tyNm, insOf]
theorem isi_s_str {a : Str} {O : Ow} {Q : VD} : rIsiD [(.str a), .ty "str"] O Q = Q (.bl true) O := by simp [rIsiD, insCl, insTy, tyNm, insOf]
theorem isi_s_tuple {a : Str} {O : Ow} {Q : VD} : rIsiD [(.str a), .ty "tuple"] O Q = Q (.bl false) O := by simp [rIsiD, insCl, insTy, tyNm, insOf]
theorem isi_s_list {a : Str} {O : Ow} {Q : VD} : rIsiD [(.str a), .ty "list"] O Q = Q (.bl false) O := by simp [rIsiD, insCl, insTy, tyNm, insOf]
theorem isi_s_dict {a : Str} {O : Ow} {Q : VD} : rIsiD [(.str a), .ty "dict"] O Q = Q (.bl false) O := by simp [rIsiD, insCl, insTy, tyNm, insOf]
theorem isi_t_int {xs : List D} {O : Ow} {Q : VD} : rIsiD [(.tup xs), .ty "int"] O Q = Q (.bl false) O := by simp [rIsiD, insCl, insTy, tyNm, insOf]
theorem isi_t_bool {xs : List D} {O : Ow} {Q : VD} : rIsiD [(.tup xs), .ty "bool"] O Q = Q (.bl false) O := by simp [rIsiD, insCl, insTy, tyNm, insOf]
theorem isi_t_str {xs : List D} {O : Ow} {Q : VD} : rIsiD [(.tup xs), .ty "str"] O Q = Q (.bl false) O := by simp [rIsiD, insCl, insTy, tyNm, insOf]
theorem isi_t_tuple {xs : List D} {O : Ow} {Q : VD} : rIsiD [(.tup xs), .ty "tuple"] O Q = Q (.bl true) O := by simp [rIsiD, insCl, insTy, tyNm, insOf]
theorem isi_t_list {xs : List D} {O : Ow} {Q : VD} : rIsiD [(.tup xs), .ty "list"] O Q = Q (.bl false) O := by simp [rIsiD, insCl, insTy, tyNm, insOf]
theorem isi_t_dict {xs : List D} {O : Ow} {Q : VD} : rIsiD [(.tup xs), .ty "dict"] O Q = Q (.bl false) O := by simp [rIsiD, insCl, insTy, tyNm, insOf]
theorem isi_l_int {xs : List D} {O : Ow} {Q : VD} : rIsiD [(.lst xs), .ty "int"] O Q = Q (.bl false) O := by simp [rIsiD, insCl, insTy, tyNm, insOf]
theorem isi_l_bool {xs : List D} {O : Ow} {Q : VD} : rIsiD [(.lst xs), .ty "bool"] O Q = Q (.bl false) O := by simp [rIsiD, insCl, insTy, tyNm, insOf]
theorem isi_l_str {xs : List D} {O : Ow} {Q : VD} : rIsiD [(.lst xs), .ty "str"] O Q = Q (.bl false) O := by simp [rIsiD, insCl, insTy, tyNm, insOf]
theorem isi_l_tuple {xs : List D} {O : Ow} {Q : VD} : rIsiD [(.lst xs), .ty "tuple"] O Q = Q (.bl false) O := by simp [rIsiD, insCl, insTy, tyNm, insOf]
theorem isi_l_list {xs : List D} {O : Ow} {Q : VD} : rIsiD [(.lst xs), .ty "list"] O Q = Q (.bl true) O := by simp [rIsiD, insCl, insTy, tyNm, insOf]
theorem isi_l_dict {xs : List D} {O : Ow} {Q : VD} : rIsiD [(.lst xs), .ty "dict"] O Q = Q (.bl false) O := by simp [rIsiD, insCl, insTy, tyNm, insOf]
theorem isi_n_int  {O : Ow} {Q : VD} : rIsiD [.non, .ty "int"] O Q = Q (.bl false) O := by simp [rIsiD, insCl, insTy, tyNm, insOf]
theorem isi_n_bool  {O : Ow} {Q : VD} : rIsiD [.non, .ty "bool"] O Q = Q (.bl false) O := by simp [rIsiD, insCl, insTy, tyNm, insOf]
theorem isi_n_str  {O : Ow} {Q : VD} : rIsiD [.non, .ty "str"] O Q = Q (.bl false) O := by simp [rIsiD, insCl, insTy, tyNm, insOf]
theorem isi_n_tuple  {O : Ow} {Q : VD} : rIsiD [.non, .ty "tuple"] O Q = Q (.bl false) O := by simp [rIsiD, insCl, insTy, tyNm, insOf]
theorem isi_n_list  {O : Ow} {Q : VD} : rIsiD [.non, .ty "list"] O Q = Q (.bl false) O := by simp [rIsiD, insCl, insTy, tyNm, insOf]
theorem isi_n_dict  {O : Ow} {Q : VD} : rIsiD [.non, .ty "dict"] O Q = Q (.bl false) O := by simp [rIsiD, insCl, insTy, tyNm, insOf]
theorem isi_d_int  {O : Ow} {Q : VD} : rIsiD [.edic, .ty "int"] O Q = Q (.bl false) O := by simp [rIsiD, insCl, insTy, tyNm, insOf]
theorem isi_d_bool  {O : Ow} {Q : VD} : rIsiD [.edic, .ty "bool"] O Q = Q (.bl false) O := by simp [rIsiD, insCl, insTy, tyNm, insOf]
theorem isi_d_str  {O : Ow} {Q : VD} : rIsiD [.edic, .ty "str"] O Q = Q (.bl false) O := by simp [rIsiD, insCl, insTy, tyNm, insOf]
theorem isi_d_tuple  {O : Ow} {Q : VD} : rIsiD [.edic, .ty "tuple"] O Q = Q (.bl false) O := by simp [rIsiD, insCl, insTy, tyNm, insOf]
theorem isi_d_list  {O : Ow} {Q : VD} : rIsiD [.edic, .ty "list"] O Q = Q (.bl false) O := by simp [rIsiD, insCl, insTy, tyNm, insOf]
theorem isi_d_dict  {O : Ow} {Q : VD} : rIsiD [.edic, .ty "dict"] O Q = Q (.bl true) O := by simp [rIsiD, insCl, insTy, tyNm, insOf]
end Kf
namespace Kf
open PySem PySem.Spec L2
open PyProof.Rows hiding St
variable {M : MX}

/-! ### kinds -/
inductive Kd where
  | mk (m : Str) | one | to (a b : Kd) | both (a b : Kd)
  deriving DecidableEq, Inhabited
def dK : Kd → D
  | .mk m => .tup [.str "mark", .str m]
  | .one => .tup [.str "one"]
  | .to a b => .tup [.str "to", dK a, dK b]
  | .both a b => .tup [.str "both", dK a, dK b]
def Kd.leaves : Kd → Nat
  | .mk _ => 1
  | .one => 1
  | .to a b => a.leaves + b.leaves
  | .both a b => a.leaves + b.leaves
def Kd.depth : Kd → Nat
  | .mk _ => 0
  | .one => 0
  | .to a b => max a.depth b.depth + 1
  | .both a b => max a.depth b.depth + 1
theorem Kd.depth_lt : ∀ k : Kd, k.depth < k.leaves
  | .mk _ => by simp [depth, leaves]
  | .one => by simp [depth, leaves]
  | .to a b => by have := a.depth_lt; have := b.depth_lt; simp only [depth, leaves]; omega
  | .both a b => by have := a.depth_lt; have := b.depth_lt; simp only [depth, leaves]; omega
def Kd.ok : Kd → Bool
  | .mk m => PyData.strOk m
  | .one => true
  | .to a b => a.ok && b.ok
  | .both a b => a.ok && b.ok
theorem so_mark : PyData.strOk "mark" = true := by decide +kernel
theorem so_one : PyData.strOk "one" = true := by decide +kernel
theorem so_to : PyData.strOk "to" = true := by decide +kernel
theorem so_both : PyData.strOk "both" = true := by decide +kernel
theorem isPy_dK : ∀ k : Kd, isPy (dK k) = k.ok
  | .mk m => by simp [dK, isPy, isPys, Kd.ok, so_mark]
  | .one => by simp [dK, isPy, isPys, Kd.ok, so_one]
  | .to a b => by simp [dK, isPy, isPys, Kd.ok, so_to, isPy_dK a, isPy_dK b]
  | .both a b => by simp [dK, isPy, isPys, Kd.ok, so_both, isPy_dK a, isPy_dK b]
theorem dpT (ds : List D) : dp (.tup ds) = PyData.depthAll (toPys ds) + 1 := by simp [dp, toPy, PyData.depth]
theorem dpL (ds : List D) : dp (.lst ds) = PyData.depthAll (toPys ds) + 1 := by simp [dp, toPy, PyData.depth]
theorem dpC (d : D) (ds : List D) : PyData.depthAll (toPys (d :: ds)) = max (dp d) (PyData.depthAll (toPys ds)) := by simp [dp, toPys, PyData.depthAll]
theorem dpN : PyData.depthAll (toPys []) = 0 := by simp [toPys, PyData.depthAll]
theorem dpS (x : Str) : dp (.str x) = 0 := by simp [dp, toPy, PyData.depth]
theorem dpI (x : Int) : dp (.int x) = 0 := by simp [dp, toPy, PyData.depth]
theorem dpB (x : Bool) : dp (.bl x) = 0 := by simp [dp, toPy, PyData.depth]
theorem dp_dK : ∀ k : Kd, dp (dK k) = k.depth + 1
  | .mk m => by simp [dK, dpT, dpC, dpN, dpS, Kd.depth]
  | .one => by simp [dK, dpT, dpC, dpN, dpS, Kd.depth]
  | .to a b => by simp [dK, dpT, dpC, dpN, dpS, Kd.depth, dp_dK a, dp_dK b]
  | .both a b => by simp [dK, dpT, dpC, dpN, dpS, Kd.depth, dp_dK a, dp_dK b]
theorem dps_le {n : Nat} : ∀ {ds : List D}, (∀ d ∈ ds, dp d ≤ n) → PyData.depthAll (toPys ds) ≤ n
  | [], _ => by rw [dpN]; omega
  | d :: ds, h => by
    rw [dpC]
    exact Nat.max_le.mpr ⟨h d List.mem_cons_self, dps_le fun e he => h e (List.mem_cons_of_mem _ he)⟩
theorem deref_dK {O : Ow} (k : Kd) : deref O (dK k) = dK k := by cases k <;> rfl
theorem sd_tb : decide (Str.ofString "to" = Str.ofString "both") = false := by decide +kernel
theorem sd_bt : decide (Str.ofString "both" = Str.ofString "to") = false := by decide +kernel
/-- == of kinds is = -/
theorem deq_K : ∀ a b : Kd, deq (dK a) (dK b) = decide (a = b) := by
  intro a
  induction a with
  | mk m => intro b; cases b <;> simp [dK, deq_t, deqs_cc, deqs_nn, deqs_nc, deqs_cn, deq_s]
  | one => intro b; cases b <;> simp [dK, deq_t, deqs_cc, deqs_nn, deqs_nc, deqs_cn, deq_s]
  | to a c ih1 ih2 =>
    intro b
    cases b with
    | both _ _ => simp only [dK, deq_t, deqs_cc, deq_s, sd_tb]; simp
    | _ => simp [dK, deq_t, deqs_cc, deqs_nn, deqs_nc, deqs_cn, deq_s, ih1, ih2]
  | both a c ih1 ih2 =>
    intro b
    cases b with
    | to _ _ => simp only [dK, deq_t, deqs_cc, deq_s, sd_bt]; simp
    | _ => simp [dK, deq_t, deqs_cc, deqs_nn, deqs_nc, deqs_cn, deq_s, ih1, ih2]
theorem rEq_K {neg : Bool} {a b : Kd} {O : Ow} {Q : VD} (ha : a.ok = true) (hb : b.ok = true) (hd : a.depth < 190) : rEqD neg (dK a) (dK b) O Q = Q (.bl (neg ^^ decide (a = b))) O := by
  rw [rEq_d (by rw [deref_dK, isPy_dK, ha]) (by rw [deref_dK, isPy_dK, hb]) (by rw [deref_dK, dp_dK]; omega), deref_dK, deref_dK, deq_K]
/-- == against the empty list -/
theorem deq_nil (xs : List D) : deq (.lst xs) (.lst []) = xs.isEmpty := by
  cases xs <;> simp [deq_l, deqs_nn, deqs_cn]
theorem rEq_nilA {neg : Bool} {x : D} {xs : List D} {O : Ow} {Q : VD} (hx : deref O x = .lst xs) (h : isPys xs = true) : rEqD neg x (.lst []) O Q = Q (.bl (neg ^^ xs.isEmpty)) O := by
  rw [rEq_dr (by rw [hx]; simpa only [isPy] using h) (by simp only [deref, isPy, isPys]) (by simp [deref, dp, toPy, toPys, PyData.depth, PyData.depthAll]), hx, deref_lst, deq_nil]
theorem rEq_i2 {neg : Bool} {a b c d : Int} {O : Ow} {Q : VD} : rEqD neg (.lst [.int a, .int b]) (.lst [.int c, .int d]) O Q = Q (.bl (neg ^^ (decide (a = c) && decide (b = d)))) O := by
  rw [rEq_d (by simp [deref, isPy, isPys]) (by simp [deref, isPy, isPys]) (by simp [deref, dpL, dpC, dpN, dpI])]
  simp [deref, deq_l, deqs_cc, deqs_nn, deq_i, deq_b]
theorem rEq_b2 {neg : Bool} {a b c d : Bool} {O : Ow} {Q : VD} : rEqD neg (.lst [.bl a, .bl b]) (.lst [.bl c, .bl d]) O Q = Q (.bl (neg ^^ (decide (a = c) && decide (b = d)))) O := by
  rw [rEq_d (by simp [deref, isPy, isPys]) (by simp [deref, isPy, isPys]) (by simp [deref, dpL, dpC, dpN, dpB])]
  simp [deref, deq_l, deqs_cc, deqs_nn, deq_i, deq_b]

/-! ### the law's pool -/
theorem atI_some {α : Type} {xs : List α} {k : Int} (h0 : 0 ≤ k) (h1 : k < xs.length) : ∃ v, atI xs k = some v ∧ v ∈ xs := by
  have hk : k.toNat < xs.length := by omega
  have e : k = ((k.toNat : Nat) : Int) := by omega
  have q : atI xs ((k.toNat : Nat) : Int) = some xs[k.toNat] := atI_nat (List.getElem?_eq_getElem hk)
  rw [← e] at q
  exact ⟨xs[k.toNat], q, List.getElem_mem hk⟩
theorem poolMod (x : Int) : 0 ≤ x % 2147483647 ∧ x % 2147483647 < 2147483647 := ⟨Int.emod_nonneg _ (by decide), Int.emod_lt_of_pos _ (by decide)⟩
theorem poolNum (c : Int) {k : Int} (h0 : 0 ≤ k) (h1 : k ≤ 1000) : CPow (c % 2147483629 + 104729 * k * k + 11) 3 := by
  have h2 : k * k ≤ 1000 * 1000 := Int.mul_le_mul h1 h1 h0 (by decide)
  have h3 : 0 ≤ k * k := Int.mul_nonneg h0 h0
  have h4 : 0 ≤ c % 2147483629 := Int.emod_nonneg _ (by decide)
  have h5 : c % 2147483629 < 2147483629 := Int.emod_lt_of_pos _ (by decide)
  refine ⟨by decide, by decide, ?_⟩
  rw [Int.mul_assoc]
  omega
def spPool : DSp := fun ds O R _ => ∃ (ns : List Int) (k : Int), ds = [.scr ns, .int k] ∧ 0 ≤ k ∧ k ≤ 1000 ∧ ∀ p, O p = none → R (.ref p) (updO O p .pool)
def spTake : DSp := fun ds O R _ => ∃ (p : Addr) (m : Int), ds = [.ref p, .int m] ∧ O p = some .pool ∧ 0 < m ∧ m < 1329227995784915872903807060280344576 ∧ ∀ r : Int, 0 ≤ r → r < m → R (.int r) O
theorem take_of {p : Addr} {m : Int} {O : Ow} {R : VD} {RE : XD} (hp : O p = some .pool) (h0 : 0 < m) (h1 : m < 1329227995784915872903807060280344576) (h : ∀ r : Int, 0 ≤ r → r < m → R (.int r) O) : spTake [.ref p, .int m] O R RE := ⟨p, m, rfl, hp, h0, h1, h⟩
theorem mem_rangeD {lo : Int} {n : Nat} {d : D} (h : d ∈ rangeD lo n) : ∃ i : Nat, i < n ∧ d = .int (lo + i) := by
  unfold rangeD at h
  obtain ⟨i, h1, rfl⟩ := List.mem_map.mp h
  exact ⟨i, List.mem_range.mp h1, rfl⟩
/-- the law's own loop: how often it goes -/
theorem rngBound (n N : Nat) (hN : N ≤ 1000) (h1 : 1 ≤ N) : (-2 ^ 62 ≤ if (if (N : Int) < n then (N : Int) else n) > 1 then if (N : Int) < n then (N : Int) else n else 1) ∧
    (if (if (N : Int) < n then (N : Int) else n) > 1 then if (N : Int) < n then (N : Int) else n else 1) < 2 ^ 62 ∧
    (if (if (N : Int) < n then (N : Int) else n) > 1 then if (N : Int) < n then (N : Int) else n else 1).toNat ≤ N := by
  refine ⟨?_, ?_, ?_⟩ <;> (repeat' split) <;> omega
end Kf
namespace Kf
open PySem PySem.Spec L2
open PyProof.Rows hiding St
variable {M : MX}

section
variable {X : Cx}
/-! ### more methods -/
def rJoinD : RMD := fun x ds O Q => match x, ds with
  | .str a, [y] => match deref O y with
    | .lst ys => match asStrs ys with
      | some ts => (ts.map (·.length)).sum + ts.length * a.length ≤ 16777216 ∧ Q (.str (Str.join a ts)) O
      | none => False
    | .tup ys => match asStrs ys with
      | some ts => (ts.map (·.length)).sum + ts.length * a.length ≤ 16777216 ∧ Q (.str (Str.join a ts)) O
      | none => False
    | _ => False
  | _, _ => False
def rSplitD : RMD := fun x ds O Q => match x, ds with
  | .str a, [.str b] => (b.length == 0) = false ∧ a.length + 2 ≤ sizeLine ∧ Q (.lst ((Txt.split a b).map .str)) O
  | _, _ => False
/-- xs.index(y): the first place of an equal one -/
def rIndexD : RMD := fun x ds O Q => match ds with
  | [y] => match deref O x with
    | .lst xs => isPys xs = true ∧ isPy (deref O y) = true ∧ dp (.lst xs) ≤ 64 ∧ dp (deref O y) ≤ 64 ∧ match xs.findIdx? (fun z => deq z (deref O y)) with
      | some j => Q (.int (j : Nat)) O
      | none => False
    | _ => False
  | _ => False
theorem toPys_get {xs : List D} {j : Nat} : (toPys xs)[j]? = xs[j]?.map toPy := by rw [toPys_map, List.getElem?_map]
theorem md_index (hu : X.A.units + 200 < cLine) : MtD M X "list.index" rIndexD := by
  refine mtD_of fun F P H O x xs dx ds R Q g r1 r2 q po => ?_
  unfold rIndexD at q
  split at q <;> first | exact q.elim | skip
  rename_i y
  obtain ⟨v, rfl, r2'⟩ := r2.one'
  have h1 := g.deref r1
  have h2 := g.deref r2'
  revert q h1
  generalize Kf.deref O dx = ex
  intro q h1
  cases ex <;> first | exact q.elim | skip
  rename_i zs
  obtain ⟨q1, q2, q3, q4, q5⟩ := q
  cases e : zs.findIdx? (fun z => deq z (Kf.deref O y)) with
  | none => rw [e] at q5; exact q5.elim
  | some j =>
    rw [e] at q5
    obtain ⟨c, ws, rfl, h3, h4⟩ := h1
    obtain ⟨hj, hp, hn⟩ := List.findIdx?_eq_some_iff_getElem.mp e
    refine ⟨_, mt_indexD (by omega), c, v, _, toPys zs, j, toPy zs[j], rfl, rfl, .lst (SqL.of h3) (RepAll.dp g.fz zs ws q1 h4), h2.dp g.fz q2, ?_, ?_, ?_, hp, fun m z' hm hz => ?_, po.at g q5 (by simp only [Rep])⟩
    · have l1 : (PyData.list (toPys zs)).canLay0 = true := by simp only [PyData.canLay0]; exact isPys_lay zs q1
      have l2 : (PyData.list (toPys zs)).depth ≤ 64 := by have := q3; simpa only [dp, toPy] using this
      simp only [SeqAt.shaped, l1, l2, decide_true, Bool.and_self]
    · have l2 : (toPy (Kf.deref O y)).depth ≤ 64 := q4
      simp only [SeqAt.shaped, isPy_lay _ q2, l2, decide_true, Bool.and_self]
    · rw [toPys_get, List.getElem?_eq_getElem hj]; rfl
    · rw [toPys_get] at hz
      obtain ⟨z, hz1, rfl⟩ := Option.map_eq_some_iff.mp hz
      have hml : m < zs.length := by omega
      rw [List.getElem?_eq_getElem hml] at hz1
      cases hz1
      have := hn m hm
      simpa [deq] using this
end
section
variable {O : Ow} {Q : VD} {i j : Int} {a b : Str} {xs ys : List D} {d e x y z u : D} {p : Addr}
theorem rJoin_l {ts : List Str} (h : asStrs xs = some ts) : rJoinD (.str a) [.lst xs] O Q = ((ts.map (·.length)).sum + ts.length * a.length ≤ 16777216 ∧ Q (.str (Str.join a ts)) O) := by simp only [rJoinD, deref, h]
theorem rJoin_m {ts : List Str} : rJoinD (.str a) [.lst (ts.map .str)] O Q = ((ts.map (·.length)).sum + ts.length * a.length ≤ 16777216 ∧ Q (.str (Str.join a ts)) O) := rJoin_l (asStrs_map ts)
theorem rSplit_s : rSplitD (.str a) [.str b] O Q = ((b.length == 0) = false ∧ a.length + 2 ≤ sizeLine ∧ Q (.lst ((Txt.split a b).map .str)) O) := rfl
theorem rIndex_l {j : Nat} (h1 : isPys xs = true) (h2 : isPy (deref O y) = true) (h3 : dp (.lst xs) ≤ 64) (h4 : dp (deref O y) ≤ 64) (h : xs.findIdx? (fun z => deq z (deref O y)) = some j) : rIndexD (.lst xs) [y] O Q = Q (.int (j : Nat)) O := by
  simp only [rIndexD, deref_lst, h1, h2, h3, h4, h, true_and]
end
/-! ### walks -/
/-! ### what is owned may be forgotten -/
def Sub (O O' : Ow) : Prop := ∀ a c, O a = some c → O' a = some c
theorem Sub.refl (O : Ow) : Sub O O := fun _ _ h => h
theorem Sub.trans {O O1 O2 : Ow} (a : Sub O O1) (b : Sub O1 O2) : Sub O O2 := fun p c h => b p c (a p c h)
theorem Gd.sub {K : PySem.W.Frag} {F P H : Hp} {O O' : Ow} (g : Gd M K F O' P H) (s : Sub O O') : Gd M K F O P H := ⟨g.fz, fun a c e => g.ow a c (s a c e), g.as, g.rl⟩
/-- at the end what is owned besides is forgotten -/
def VG (R : VD) : VD := fun d O' => ∃ O, Sub O O' ∧ R d O
section
variable {P : Program} {w : World} {K : PySem.W.Frag} {mg : Str → Option Value} {base : Heap}
theorem fn_dG {x qual : Str} {st : Stmt} {f : Addr} {fd : FuncData} {N ps : List Str} {k : Nat} {dsp : DSp} {g : GS} (F : Fun K x qual st f fd) (S : FnScope N ps (defScope st)) (len : ∀ ds O R RE, dsp ds O R RE → ds.length = ps.length)
    (hder : ∀ (cdv : Value) (A : Around) (outer : List Env) (s : Shared) (H : Hp) (E : XK), Room k (A.deeper (envOfC qual (defScope st) s.heap.objs.size f cdv)) →
      DSs MT (cxOf CX0 P w K mg base N qual (defScope st) f cdv A outer s H E).nox (defBody st) g)
    (hread : ∀ ds O R RE, dsp ds O R RE → g { nx := fun _ O' => VG R .non O', rt := VG R } (startD N ds) O) : FnOk P w K mg base CX0 (k + 1) f fd ps (liftSp K dsp) := by
  refine F.ok S (fun vs H Q E h => ?_) fun cdv A outer s H vs Q E hr h => ?_
  · obtain ⟨F, O, P, ds, R, RE, g, r, q, _⟩ := h
    rw [← r.length]; exact len ds O R RE q
  · obtain ⟨F, O, P, ds, R, RE, gd, r, q, po, _⟩ := h
    refine ⟨_, hder cdv A outer s H E hr, F, O, P, startD N ds, { nx := fun _ O' => VG R .non O', rt := VG R }, gd, ?_, hread ds O R RE q, ⟨fun ρ O' F' H' σ q1 s1 g1 _ => ?_, fun d O' F' H' v q1 s1 g1 r1 => ?_, fun _ _ _ _ _ z => z.elim, fun _ _ _ _ _ z => z.elim⟩⟩
    · unfold startD L2.start
      rw [r.length]
      exact envOk_start _ r
    · obtain ⟨O2, s2, q2⟩ := q1
      exact po .non O2 F' H' .non q2 s1 (g1.sub s2) (by simp only [Rep])
    · obtain ⟨O2, s2, q2⟩ := q1
      exact po d O2 F' H' v q2 s1 (g1.sub s2) r1
end
theorem VG.at {R : VD} {d : D} {O : Ow} (h : R d O) : VG R d O := ⟨O, Sub.refl _, h⟩
theorem cut_all {α : Type} {xs : List α} {n : Nat} (h : xs.length ≤ n) : cut xs none (some (n : Int)) = xs := by
  unfold cut
  rw [HT.sIx_none, HT.sIx_nat, List.drop_zero, Nat.sub_zero, Nat.min_eq_right h, List.take_length]
theorem rSl_l {xs : List D} {lo hi : Option Int} {O : Ow} {Q : VD} : rSlD (.lst xs) lo hi O Q = Q (.lst (cut xs lo hi)) O := rfl
theorem rSl_t {xs : List D} {lo hi : Option Int} {O : Ow} {Q : VD} (h : ¬ (HT.sIx xs.length 0 lo = 0 ∧ HT.sIx xs.length xs.length hi = xs.length)) : rSlD (.tup xs) lo hi O Q = Q (.tup (cut xs lo hi)) O := by simp only [rSlD, deref, h, not_false_eq_true, true_and]
theorem rSl_s {a : Str} {lo hi : Option Int} {O : Ow} {Q : VD} : rSlD (.str a) lo hi O Q = (a.length ≤ sizeLine ∧ Q (.str (cutS a lo hi)) O) := rfl
end Kf
namespace Kf
open PySem PySem.Spec L2
open PyProof.Rows hiding St
variable {M : MX}
/-! ### t < u of pairs (a number, a truth) -/
section
variable {X : Cx}
end
end Kf
namespace Kf
open PySem PySem.Spec L2
open PyProof.Rows hiding St
variable {M : MX}

/-! ### exceptions: what is wished of one, over data -/
abbrev XW := Value → Option (List (Str × D)) → DEnv → Ow → Prop
/-- an own class of exceptions without an __init__ of its own -/
structure ExN (K : PySem.W.Frag) (mg : Str → Option Value) (x : Str) (C : Addr) : Prop where
  g : mg x = some (.ref C)
  ex : PySem.W.excIn K C [.type "ValueError", .type "Exception", .type "BaseException", .type "object"] "ValueError.__new__" = true
  kp : PySem.W.keepIn K (.ref C) = true
  sb : PySem.W.subIn K (.ref C) (.type "BaseException") = some true
  ty : PySem.W.typeIn K (.ref C) = some (.type "type")

section
variable {X : Cx} {RX : XW} {W : WX} {x m : Str} {C : Addr} {j : Nat} {p p2 pos pos' : Pos}
def gRaise (RX : XW) (cls : Value) : GS := fun _ ρ O => RX cls none ρ O
end
section
variable {X : Cx} {RX : XW} {W : WX} {e : Expr} {es : List Expr} {fr : FA} {k : Nat} {f : Addr} {fd : FuncData} {ps : List Str} {dsp : DSp} {x : Str} {st : Stmt} {p pos : Pos}
/-- a call that may raise -/
def fCallX (dsp : DSp) (RX : XW) (fr : FA) : FE := fun ρ O Q => fr ρ O fun ds O1 => dsp ds O1 Q fun cls fs O' => RX cls fs ρ O'
end
section
variable {P : Program} {w : World} {K : PySem.W.Frag} {mg : Str → Option Value} {base : Heap}
end

/-! ### try -/
end Kf
namespace Kf
open PySem PySem.Spec L2
open PyProof.Rows hiding St
variable {M : MX}

theorem PostS.re {M' : MX} {K : PySem.W.Frag} {F P H : Hp} {O : Ow} {R : DEnds} {D : Ends} (po : PostS M K F P R D) (g : Gd M K F O P H) : PostS M' K F P R D :=
  ⟨fun ρ O' F' H' σ q s g' en => po.nx ρ O' F' H' σ q s (g'.re (M.mono g.rl s (Same.refl _))) en, fun d O' F' H' v q s g' r => po.rt d O' F' H' v q s (g'.re (M.mono g.rl s (Same.refl _))) r,
    fun ρ O' F' H' σ q s g' en => po.bk ρ O' F' H' σ q s (g'.re (M.mono g.rl s (Same.refl _))) en, fun ρ O' F' H' σ q s g' en => po.ct ρ O' F' H' σ q s (g'.re (M.mono g.rl s (Same.refl _))) en⟩
section
variable {X : Cx} {x n : Str} {c : Value} {i : Nat} {body suite : List Stmt} {b₀ : Stmt} {np pos pos' : Pos} {gb : XW → GS} {gs : Addr → Value → Option (List (Str × D)) → GS} {RXo : XW} {Wo : WX}
/-- the ends with slot i empty -/
def endsNo (i : Nat) (R : DEnds) : DEnds := { nx := fun ρ O => R.nx (ρ.set i none) O, rt := R.rt, bk := fun ρ O => R.bk (ρ.set i none) O, ct := fun ρ O => R.ct (ρ.set i none) O }
def xAs (K : PySem.W.Frag) (c : Value) (i : Nat) (gs : Addr → Value → Option (List (Str × D)) → GS) (RXo : XW) (R : DEnds) : XW := fun cls fs ρ O => ∃ b, PySem.W.exmOne K cls c = some b ∧
  (b = true → ∀ a, O a = none → gs a cls fs (endsNo i R) (ρ.set i (some (.ref a))) O) ∧ (b = false → RXo cls fs ρ O)
def xOnly (K : PySem.W.Frag) (c : Value) (gs : Addr → Value → Option (List (Str × D)) → GS) (RXo : XW) (R : DEnds) : XW := fun cls fs ρ O => ∃ b, PySem.W.exmOne K cls c = some b ∧
  (b = true → ∀ a, O a = none → gs a cls fs R ρ O) ∧ (b = false → RXo cls fs ρ O)
/-- try: .. except C as n: .. -/
def gTryAs (K : PySem.W.Frag) (c : Value) (i : Nat) (gb : XW → GS) (gs : Addr → Value → Option (List (Str × D)) → GS) (RXo : XW) : GS := fun R ρ O => gb (xAs K c i gs RXo R) R ρ O
/-- try: .. except C: .. -/
def gTry (K : PySem.W.Frag) (c : Value) (gb : XW → GS) (gs : Addr → Value → Option (List (Str × D)) → GS) (RXo : XW) : GS := fun R ρ O => gb (xOnly K c gs RXo R) R ρ O
end
/-! ### isinstance of the exception that a suite holds -/
end Kf
namespace Kf
open PySem PySem.Spec L2
open PyProof.Rows hiding St
/-- an own class of exceptions, as it is named -/
structure Cl (K : PySem.W.Frag) (mg : Str → Option Value) (x : Str) (C : Addr) : Prop where
  g : mg x = some (.ref C)
  sb : PySem.W.subIn K (.ref C) (.type "BaseException") = some true
  hd : PySem.W.hasDictIn K C = true
  ty : PySem.W.typeIn K (.ref C) = some (.type "type")
  sf : PySem.W.subIn K (.ref C) (.ref C) = some true
section
variable {K : PySem.W.Frag} {mg : Str → Option Value} {x : Str} {C D : Addr} {cls : Value} {b : Bool}
end
end Kf
namespace Kf
open PySem PySem.Spec L2
open PyProof.Rows hiding St
variable {M : MX}
section
variable {X : Cx} {e : Expr} {es : List Expr} {fr : FA} {k : Nat} {f : Addr} {fd : FuncData} {ps : List Str} {dsp : DSp} {x : Str} {st : Stmt} {p pos : Pos}
end
/-! ### text * 0, text * 1 -/
section
variable {X : Cx}
end
end Kf
namespace Kf
open PySem PySem.Spec L2
open PyProof.Rows hiding St
variable {M : MX}
/-! ### xs[::-1] -/
section
variable {X : Cx} {e st : Expr} {fa : FE} {te : TE} {tst : TO} {fs : FO} {pos p2 : Pos}
def rRevD (x : D) (o : Option Int) (O : Ow) (Q : VD) : Prop := o = some (-1) ∧ match deref O x with
  | .lst xs => Q (.lst xs.reverse) O
  | _ => False
def fRev (fa : FE) (fs : FO) : FE := fun ρ O Q => fa ρ O fun x O1 => fs ρ O1 fun o O2 => rRevD x o O2 Q
theorem rRev_l {xs : List D} {O : Ow} {Q : VD} : rRevD (.lst xs) (some (-1)) O Q = Q (.lst xs.reverse) O := by simp [rRevD, deref]
end
/-! ### reversed(range(n)) -/
section
variable {X : Cx} {tg a : Expr} {fa : FE} {p p2 pos pos2 : Pos}
def asIR (d : D) (O : Ow) (Q : List D → Ow → Prop) : Prop := match d with
  | .int n => -(2 ^ 62) ≤ n ∧ n < 2 ^ 62 ∧ Q (rangeD 0 n.toNat).reverse O
  | _ => False
def fiRevR (fa : FE) : FI := fun ρ O Q => fa ρ O fun d O1 => asIR d O1 Q
theorem asIR_i {n : Int} {O : Ow} {Q : List D → Ow → Prop} : asIR (.int n) O Q = (-(2 ^ 62) ≤ n ∧ n < 2 ^ 62 ∧ Q (rangeD 0 n.toNat).reverse O) := rfl
end
/-! ### sorted, of texts -/
section
variable {X : Cx}
end
end Kf
namespace Kf
open PySem PySem.Spec L2
open PyProof.Rows hiding St
variable {M : MX}
section
variable {X : Cx} {pos : Pos}
/-- {} that never changes -/
def fEdic : FE := fun _ O Q => Q .edic O
end
end Kf
namespace Kf
open PySem PySem.Spec L2
open PyProof.Rows hiding St
/-! ### the readings at their arguments -/
theorem ap_gSeq (g u : GS) {R : DEnds} {ρ : DEnv} {O : Ow} : gSeq g u R ρ O = (g { R with nx := u R } ρ O) := rfl
theorem ap_gIf (c : FT) (g u : GS) {R : DEnds} {ρ : DEnv} {O : Ow} : gIf c g u R ρ O = (c ρ O fun b O1 => if b = true then g R ρ O1 else u R ρ O1) := rfl
theorem ap_gRet (fe : FE) {R : DEnds} {ρ : DEnv} {O : Ow} : gRet fe R ρ O = (fe ρ O R.rt) := rfl
theorem ap_gNext  {R : DEnds} {ρ : DEnv} {O : Ow} : gNext  R ρ O = (R.nx ρ O) := rfl
theorem ap_gSet (fe : FE) (i : Nat) {R : DEnds} {ρ : DEnv} {O : Ow} : gSet fe i R ρ O = (fe ρ O fun d O1 => R.nx (ρ.set i (some d)) O1) := rfl
theorem ap_gAsg (fe : FE) (p : Pat) {R : DEnds} {ρ : DEnv} {O : Ow} : gAsg fe p R ρ O = (fe ρ O fun d O1 => patGet (patD p d ρ) fun ρ' => R.nx ρ' O1) := rfl
theorem ap_gDrop (fe : FE) {R : DEnds} {ρ : DEnv} {O : Ow} : gDrop fe R ρ O = (fe ρ O fun _ O1 => R.nx ρ O1) := rfl
theorem ap_gRetF (fe : FE) {R : DEnds} {ρ : DEnv} {O : Ow} : gRetF fe R ρ O = (fe ρ O fun d O1 => match d with
  | .ref a => match O1 a with
    | some (.lst ds) => R.rt (.lst ds) (delO O1 a)
    | _ => False
  | _ => False) := rfl
theorem ap_gRetN  {R : DEnds} {x1_ : DEnv} {O : Ow} : gRetN  R x1_ O = (R.rt .non O) := rfl
theorem ap_gFor (fi : FI) (p : Pat) (gb : GS) {R : DEnds} {ρ : DEnv} {O : Ow} : gFor fi p gb R ρ O = (fi ρ O fun ds O1 => forD p gb R ds ρ O1) := rfl
theorem ap_gSetIx (fo fi fe : FE) {R : DEnds} {ρ : DEnv} {O : Ow} : gSetIx fo fi fe R ρ O = (fe ρ O fun d O1 => fo ρ O1 fun x O2 => fi ρ O2 fun y O3 => rSetD x y d O3 (R.nx ρ)) := rfl
theorem ap_gBreak  {R : DEnds} {ρ : DEnv} {O : Ow} : gBreak  R ρ O = (R.bk ρ O) := rfl
theorem ap_fRev (fa : FE) (fs : FO) {ρ : DEnv} {O : Ow} {Q : VD} : fRev fa fs ρ O Q = (fa ρ O fun x O1 => fs ρ O1 fun o O2 => rRevD x o O2 Q) := rfl
theorem ap_fiRevR (fa : FE) {ρ : DEnv} {O : Ow} {Q : (List D → Ow → Prop)} : fiRevR fa ρ O Q = (fa ρ O fun d O1 => asIR d O1 Q) := rfl
theorem ap_fCallX (dsp : DSp) (RX : XW) (fr : FA) {ρ : DEnv} {O : Ow} {Q : VD} : fCallX dsp RX fr ρ O Q = (fr ρ O fun ds O1 => dsp ds O1 Q fun cls fs O' => RX cls fs ρ O') := rfl
theorem ap_gRaise (RX : XW) (cls : Value) {x0_ : DEnds} {ρ : DEnv} {O : Ow} : gRaise RX cls x0_ ρ O = (RX cls none ρ O) := rfl
theorem ap_gTry (K : PySem.W.Frag) (c : Value) (gb : XW → GS) (gs : Addr → Value → Option (List (Str × D)) → GS) (RXo : XW) {R : DEnds} {ρ : DEnv} {O : Ow} : gTry K c gb gs RXo R ρ O = (gb (xOnly K c gs RXo R) R ρ O) := rfl
theorem ap_gTryAs (K : PySem.W.Frag) (c : Value) (i : Nat) (gb : XW → GS) (gs : Addr → Value → Option (List (Str × D)) → GS) (RXo : XW) {R : DEnds} {ρ : DEnv} {O : Ow} : gTryAs K c i gb gs RXo R ρ O = (gb (xAs K c i gs RXo R) R ρ O) := rfl
theorem ap_gNever  {x0_ : DEnds} {x1_ : DEnv} {x2_ : Ow} : gNever  x0_ x1_ x2_ = (False) := rfl
theorem ap_fEdic  {x0_ : DEnv} {O : Ow} {Q : VD} : fEdic  x0_ O Q = (Q .edic O) := rfl
theorem ap_fTest (f : FE) {ρ : DEnv} {O : Ow} {Q : (Bool → Ow → Prop)} : fTest f ρ O Q = (f ρ O fun d O1 => ∃ k, d = .bl k ∧ Q k O1) := rfl
theorem ap_fOp (r : R2D) (fa fb : FE) {ρ : DEnv} {O : Ow} {Q : VD} : fOp r fa fb ρ O Q = (fa ρ O fun x O1 => fb ρ O1 fun y O2 => r x y O2 Q) := rfl
theorem ap_fVar (i : Nat) {ρ : DEnv} {O : Ow} {Q : VD} : fVar i ρ O Q = (envGet ρ[i]? O Q) := rfl
theorem ap_fC (d : D) {x0_ : DEnv} {O : Ow} {Q : VD} : fC d x0_ O Q = (Q d O) := rfl
theorem ap_fCB (r : RAD) (fr : FA) {ρ : DEnv} {O : Ow} {Q : VD} : fCB r fr ρ O Q = (fr ρ O fun ds O1 => r ds O1 Q) := rfl
theorem ap_fCons (fa : FE) (fr : FA) {ρ : DEnv} {O : Ow} {Q : (List D → Ow → Prop)} : fCons fa fr ρ O Q = (fa ρ O fun x O1 => fr ρ O1 fun xs O2 => Q (x :: xs) O2) := rfl
theorem ap_fNil  {x0_ : DEnv} {O : Ow} {Q : (List D → Ow → Prop)} : fNil  x0_ O Q = (Q [] O) := rfl
theorem ap_fCall (dsp : DSp) (fr : FA) {ρ : DEnv} {O : Ow} {Q : VD} : fCall dsp fr ρ O Q = (fr ρ O fun ds O1 => dsp ds O1 Q X0) := rfl
theorem ap_fAnd (t u : FT) {ρ : DEnv} {O : Ow} {Q : (Bool → Ow → Prop)} : fAnd t u ρ O Q = (t ρ O fun c O1 => if c = true then u ρ O1 Q else Q false O1) := rfl
theorem ap_fOr (t u : FT) {ρ : DEnv} {O : Ow} {Q : (Bool → Ow → Prop)} : fOr t u ρ O Q = (t ρ O fun c O1 => if c = true then Q true O1 else u ρ O1 Q) := rfl
theorem ap_fNot (t : FT) {ρ : DEnv} {O : Ow} {Q : (Bool → Ow → Prop)} : fNot t ρ O Q = (t ρ O fun c O1 => Q (!c) O1) := rfl
theorem ap_fAndV (fa fb : FE) {ρ : DEnv} {O : Ow} {Q : VD} : fAndV fa fb ρ O Q = (fa ρ O fun x O1 => ∃ c, x = .bl c ∧ if c = true then fb ρ O1 Q else Q (.bl false) O1) := rfl
theorem ap_fOrV (fa fb : FE) {ρ : DEnv} {O : Ow} {Q : VD} : fOrV fa fb ρ O Q = (fa ρ O fun x O1 => ∃ c, x = .bl c ∧ if c = true then Q (.bl true) O1 else fb ρ O1 Q) := rfl
theorem ap_fNotV (fa : FE) {ρ : DEnv} {O : Ow} {Q : VD} : fNotV fa ρ O Q = (fa ρ O fun x O1 => ∃ c, x = .bl c ∧ Q (.bl (!c)) O1) := rfl
theorem ap_fIf (t : FT) (fa fb : FE) {ρ : DEnv} {O : Ow} {Q : VD} : fIf t fa fb ρ O Q = (t ρ O fun c O1 => if c = true then fa ρ O1 Q else fb ρ O1 Q) := rfl
theorem ap_fTup (fr : FA) {ρ : DEnv} {O : Ow} {Q : VD} : fTup fr ρ O Q = (fr ρ O fun xs O1 => xs.length ≤ sizeLine ∧ Q (.tup xs) O1) := rfl
theorem ap_fLst (fr : FA) {ρ : DEnv} {O : Ow} {Q : VD} : fLst fr ρ O Q = (fr ρ O fun xs O1 => xs.length ≤ sizeLine ∧ Q (.lst xs) O1) := rfl
theorem ap_fLstO (fr : FA) {ρ : DEnv} {O : Ow} {Q : VD} : fLstO fr ρ O Q = (fr ρ O fun xs O1 => xs.length ≤ sizeLine ∧ ∀ p, O1 p = none → Q (.ref p) (updO O1 p (.lst xs))) := rfl
theorem ap_fChain (r r' : R2D) (fa fb fc : FE) {ρ : DEnv} {O : Ow} {Q : VD} : fChain r r' fa fb fc ρ O Q = (fa ρ O fun x O1 => fb ρ O1 fun y O2 => r x y O2 fun z O3 => ∃ k, z = .bl k ∧ (if k = true then fc ρ O3 fun w O4 => r' y w O4 Q else Q (.bl false) O3)) := rfl
theorem ap_fUn (r : R1D) (f : FE) {ρ : DEnv} {O : Ow} {Q : VD} : fUn r f ρ O Q = (f ρ O fun x O1 => r x O1 Q) := rfl
theorem ap_fBM (T : String) (r : RMD) (fo : FE) (fr : FA) {ρ : DEnv} {O : Ow} {Q : VD} : fBM T r fo fr ρ O Q = (fo ρ O fun x O1 => tyOk T O1 x = true ∧ fr ρ O1 fun ds O2 => r x ds O2 Q) := rfl
theorem ap_fBM0 (T : String) (r : RMD) (fo : FE) {ρ : DEnv} {O : Ow} {Q : VD} : fBM0 T r fo ρ O Q = (fo ρ O fun x O1 => tyOk T O1 x = true ∧ r x [] O1 Q) := rfl
theorem ap_fPool (fr : FA) {ρ : DEnv} {O : Ow} {Q : VD} : fPool fr ρ O Q = (fr ρ O fun xs O1 => rPool xs O1 Q) := rfl
theorem ap_fSl (r : R3D) (fe : FE) (fl fh : FO) {ρ : DEnv} {O : Ow} {Q : VD} : fSl r fe fl fh ρ O Q = (fe ρ O fun x O1 => fl ρ O1 fun l O2 => fh ρ O2 fun u O3 => r x l u O3 Q) := rfl
theorem ap_fPart (f : FE) {ρ : DEnv} {O : Ow} {Q : (Option Int → Ow → Prop)} : fPart f ρ O Q = (f ρ O fun d O1 => asI d O1 Q) := rfl
theorem ap_fNoPart  {x0_ : DEnv} {O : Ow} {Q : (Option Int → Ow → Prop)} : fNoPart  x0_ O Q = (Q none O) := rfl
theorem ap_fiRng1 (fr : FA) {ρ : DEnv} {O : Ow} {Q : (List D → Ow → Prop)} : fiRng1 fr ρ O Q = (fr ρ O fun ds O1 => asR1 ds O1 fun i n O2 => Q (rangeD i n) O2) := rfl
theorem ap_fiRng2 (fr : FA) {ρ : DEnv} {O : Ow} {Q : (List D → Ow → Prop)} : fiRng2 fr ρ O Q = (fr ρ O fun ds O1 => asR2 ds O1 fun i n O2 => Q (rangeD i n) O2) := rfl
theorem ap_fiList (fl : FE) {ρ : DEnv} {O : Ow} {Q : (List D → Ow → Prop)} : fiList fl ρ O Q = (fl ρ O fun d O1 => asL d O1 Q) := rfl
theorem ap_fiTup (fl : FE) {ρ : DEnv} {O : Ow} {Q : (List D → Ow → Prop)} : fiTup fl ρ O Q = (fl ρ O fun d O1 => asT d O1 Q) := rfl
theorem ap_fiStr (fl : FE) {ρ : DEnv} {O : Ow} {Q : (List D → Ow → Prop)} : fiStr fl ρ O Q = (fl ρ O fun d O1 => asSg d O1 Q) := rfl
theorem ap_fiEnum (fr : FA) {ρ : DEnv} {O : Ow} {Q : (List D → Ow → Prop)} : fiEnum fr ρ O Q = (fr ρ O fun ds O1 => asL1 ds O1 fun ds O2 => Q (enumD ds) O2) := rfl
theorem ap_fiZip (fr : FA) {ρ : DEnv} {O : Ow} {Q : (List D → Ow → Prop)} : fiZip fr ρ O Q = (fr ρ O fun ds O1 => asL2 ds O1 fun ds es O2 => Q (zipD ds es) O2) := rfl
theorem ap_fiRev (fr : FA) {ρ : DEnv} {O : Ow} {Q : (List D → Ow → Prop)} : fiRev fr ρ O Q = (fr ρ O fun ds O1 => asL1 ds O1 fun ds O2 => Q ds.reverse O2) := rfl
theorem ap_fLc (fi : FI) (p : Pat) (ft : FT) (fe : FE) (vs : List Nat) {ρ : DEnv} {O : Ow} {Q : VD} : fLc fi p ft fe vs ρ O Q = (fi ρ O fun ds O1 => lcD p ft fe (wipeD ρ vs) ds [] O1 fun acc O2 => Q (.lst acc) O2) := rfl
theorem ap_fLcO (fi : FI) (p : Pat) (ft : FT) (fe : FE) (vs : List Nat) {ρ : DEnv} {O : Ow} {Q : VD} : fLcO fi p ft fe vs ρ O Q = (fi ρ O fun ds O1 => lcD p ft fe (wipeD ρ vs) ds [] O1 fun acc O2 => ∀ q, O2 q = none → Q (.ref q) (updO O2 q (.lst acc))) := rfl
theorem ap_fYes  {x0_ : DEnv} {O : Ow} {Q : (Bool → Ow → Prop)} : fYes  x0_ O Q = (Q true O) := rfl
theorem ap_gAug (i : Nat) (fe : FE) (r : R2D) {R : DEnds} {ρ : DEnv} {O : Ow} : gAug i fe r R ρ O = (match ρ[i]? with
  | some (some x) => fe ρ O fun y O1 => r x y O1 fun z O2 => R.nx (ρ.set i (some z)) O2
  | _ => False) := rfl
end Kf
/-! Dl15: owned dicts whose keys are whole numbers and texts. -/
namespace Kf
open PySem PySem.Spec L2
open PyProof.Rows hiding St
variable {M : MX}
/-! ### tables of data -/
def keyOf : D → Option Key
  | .int i => some (.inl i)
  | .str s => some (.inr s)
  | _ => none
def keyD : Key → D
  | .inl i => .int i
  | .inr s => .str s
theorem keyOf_rep {K : PySem.W.Frag} {F : Hp} {d : D} {v : V} {k : Key} (h : keyOf d = some k) (r : Rep K F d v) : v = kV k := by
  cases d <;> simp only [keyOf] at h <;> first | cases h; done | skip
  all_goals
    cases h
    simp only [Rep] at r
    subst r
    rfl
def valD (kvs : List (Key × D)) (k : Key) : Option D := (kvs.find? fun kv => decide (kv.1 = k)).map (·.2)
def putD (kvs : List (Key × D)) (k : Key) (d : D) : List (Key × D) :=
  if (kvs.any fun kv => decide (kv.1 = k)) = true then kvs.map (fun kv => if kv.1 = k then (kv.1, d) else kv) else kvs ++ [(k, d)]
section
variable {K : PySem.W.Frag} {F H P : Hp} {O : Ow} {kvs : List (Key × D)} {vs : List (Key × V)} {k : Key} {d : D} {v : V} {a : Addr}
theorem KvOk.val (h : KvOk K F kvs vs) : (∀ d, valD kvs k = some d → ∃ v, valV vs k = some v ∧ Rep K F d v) ∧ (valD kvs k = none → valV vs k = none) := by
  induction h with
  | nil => exact ⟨fun d e => by simp [valD] at e, fun _ => rfl⟩
  | @cons p q _ _ r t ih =>
    obtain ⟨r1, r2⟩ := r
    by_cases e : p.1 = k
    · have e2 : q.1 = k := r1 ▸ e
      refine ⟨fun d h => ?_, fun h => ?_⟩
      · simp [valD, List.find?_cons, e] at h
        subst h
        exact ⟨q.2, valV_pos e2, r2⟩
      · simp [valD, List.find?_cons, e] at h
    · have e2 : ¬ q.1 = k := fun z => e (r1.trans z)
      rw [valV_neg e2]
      have e3 : ∀ l : List (Key × D), valD (p :: l) k = valD l k := fun l => by simp [valD, List.find?_cons, e]
      rw [e3]
      exact ih
theorem KvOk.any (h : KvOk K F kvs vs) : (kvs.any fun kv => decide (kv.1 = k)) = (vs.any fun kv => decide (kv.1 = k)) := by
  induction h with
  | nil => rfl
  | cons r _ ih => rw [List.any_cons, List.any_cons, ih, r.1]
theorem KvOk.put (h : KvOk K F kvs vs) (r : Rep K F d v) : KvOk K F (putD kvs k d) (putK vs k v) := by
  unfold putD putK
  rw [h.any (k := k)]
  split
  · rename_i hh; clear hh
    induction h with
    | nil => exact .nil
    | @cons p q _ _ z t ih =>
      rw [List.map_cons, List.map_cons]
      refine .cons ?_ ih
      by_cases e : p.1 = k
      · rw [if_pos e, if_pos (z.1 ▸ e)]; exact ⟨z.1, r⟩
      · rw [if_neg e, if_neg (fun w => e (z.1.trans w))]; exact z
  · exact Paired.snoc h ⟨rfl, r⟩
theorem KvOk.keys (h : KvOk K F kvs vs) : vs.map (·.1) = kvs.map (·.1) := by
  induction h with
  | nil => rfl
  | cons r _ ih => rw [List.map_cons, List.map_cons, ih, r.1]
/-- what a dict holds, locked or not -/
def dicAt (O : Ow) (a : Addr) : Option (List (Key × D)) := match O a with
  | some (.dic kvs) => some kvs
  | some (.dicL kvs _) => some kvs
  | _ => none
theorem Gd.dic (g : Gd M K F O P H) (h : dicAt O a = some kvs) : ∃ vs, Rd H a (.dK vs) ∧ KvOk K F kvs vs := by
  unfold dicAt at h
  split at h <;> first | cases h; done | skip
  · rename_i e
    cases h
    obtain ⟨_, _, vs, h1, h2⟩ := g.ow a _ e
    exact ⟨vs, .inl h1, h2⟩
  · rename_i e
    cases h
    obtain ⟨_, _, h1, od, vs, rfl, h2⟩ := g.ow a _ e
    exact ⟨vs, .inr ⟨od, h1⟩, h2⟩
/-- what stands at a key -/
def rKey (x y : D) (O : Ow) (N : Option D → Prop) : Prop := match x, keyOf y with
  | .ref a, some k => match dicAt O a with
    | some kvs => N (valD kvs k)
    | none => False
  | _, _ => False
theorem Gd.key (g : Gd M K F O P H) {x y : D} {w : V} {N : Option D → Prop} (rx : Rep K F x v) (ry : Rep K F y w) (q : rKey x y O N) :
    ∃ a o oV, v = .ref a ∧ DGet H a w oV ∧ IsD H a ∧ N o ∧ (∀ d, o = some d → ∃ z, oV = some z ∧ Rep K F d z) ∧ (o = none → oV = none) := by
  unfold rKey at q
  split at q <;> first | exact q.elim | skip
  rename_i a k e
  split at q <;> first | exact q.elim | skip
  rename_i kvs e2
  obtain ⟨vs, h1, h2⟩ := g.dic e2
  simp only [Rep] at rx
  have ew := keyOf_rep e ry
  subst ew
  obtain ⟨v1, v2⟩ := h2.val (k := k)
  exact ⟨a, _, _, rx, .inl ⟨vs, k, h1, rfl, rfl⟩, .inl ⟨vs, h1⟩, q, v1, v2⟩
end
section
variable {X : Cx} {o i e f value : Expr} {pos pos' apos cpos : Pos} {fo fi fe fx : FE}
/-- {} that changes -/
def fDicO : FE := fun _ O Q => ∀ p, O p = none → Q (.ref p) (updO O p (.dic []))
/-- d[k] -/
def rDGet (x y : D) (O : Ow) (Q : VD) : Prop := rKey x y O fun o => match o with
  | some d => Q d O
  | none => False
def fDGet (fo fi : FE) : FE := fun ρ O Q => fo ρ O fun x O1 => fi ρ O1 fun y O2 => rDGet x y O2 Q
/-- d.get(k), d.get(k, x) -/
def isDc (O : Ow) (x : D) : Bool := match x with
  | .ref a => (dicAt O a).isSome
  | _ => false
def fDGet1 (fo fi : FE) : FE := fun ρ O Q => fo ρ O fun x O1 => isDc O1 x = true ∧ fi ρ O1 fun y O2 => rKey x y O2 fun o => Q (o.getD .non) O2
def fDGet2 (fo fi fx : FE) : FE := fun ρ O Q => fo ρ O fun x O1 => isDc O1 x = true ∧ fi ρ O1 fun y O2 => fx ρ O2 fun z O3 => rKey x y O3 fun o => Q (o.getD z) O3
/-- d[k] = v -/
def rDPut (x y d : D) (O : Ow) (N : Ow → Prop) : Prop := match x, keyOf y with
  | .ref a, some k => match O a with
    | some (.dic kvs) => kvs.length < sizeLine ∧ N (updO O a (.dic (putD kvs k d)))
    | _ => False
  | _, _ => False
def gDPut (fo fi fe : FE) : GS := fun R ρ O => fe ρ O fun d O1 => fo ρ O1 fun x O2 => fi ρ O2 fun y O3 => rDPut x y d O3 (R.nx ρ)
end
/-! ### the keys of a dict -/
section
variable {X : Cx}
end
/-! ### isinstance(x, (T1, T2, ..)) -/
section
variable {X : Cx} {a : Expr} {es : List Expr} {fa : FE} {fr : FA} {p pos tpos : Pos}
def asTys : List D → Option (List String)
  | [] => some []
  | .ty n :: r => (asTys r).map (n :: ·)
  | _ :: _ => none
def rIsiTs (x : D) (ds : List D) (O : Ow) (Q : VD) : Prop := match asTys ds with
  | some ns => ns.length ≤ sizeLine ∧ (ns.all fun n => insCl.contains n) = true ∧ insTy.contains (tyNm O x) = true ∧ Q (.bl (ns.any (insOf (tyNm O x)))) O
  | none => False
def fIsiT (fa : FE) (fr : FA) : FE := fun ρ O Q => fa ρ O fun x O1 => fr ρ O1 fun ds O2 => rIsiTs x ds O2 Q
end
/-! ### a walk along an owned list that stays -/
section
variable {X : Cx} {tg l : Expr} {fl : FE} {pos : Pos}
def forR (a : Addr) (all : List D) (p : Pat) (gb : GS) (R : DEnds) : List D → DEnv → Ow → Prop
  | [], ρ, O => O a = some (.lst all) ∧ R.nx ρ O
  | d :: ds, ρ, O => O a = some (.lst all) ∧ patGet (patD p d ρ) fun ρ1 => gb { R with nx := forR a all p gb R ds, ct := forR a all p gb R ds, bk := R.nx } ρ1 O
def asLR (d : D) (O : Ow) (Q : Addr → List D → Ow → Prop) : Prop := match d with
  | .ref a => match O a with
    | some (.lst ds) => Q a ds O
    | _ => False
  | _ => False
def gForR (fl : FE) (p : Pat) (gb : GS) : GS := fun R ρ O => fl ρ O fun x O1 => asLR x O1 fun a ds O2 => forR a ds p gb R ds ρ O2
end
/-! ### a list times a number -/
section
variable {X : Cx} {K : PySem.W.Frag} {F : Hp}
def rRepD : R2D := fun x y O Q => match x, y with
  | .lst ds, .int k => (-(2 ^ 63) ≤ k ∧ k < 2 ^ 63 ∧ ds.length * k.toNat ≤ sizeLine) ∧ Q (.lst (List.replicate k.toNat ds).flatten) O
  | _, _ => False
end
/-! ### a call without arguments -/
section
variable {X : Cx} {k : Nat} {f : Addr} {fd : FuncData} {ps : List Str} {dsp : DSp} {x : Str} {st : Stmt} {p pos : Pos}
end
/-! ### the readings at their arguments -/
theorem ap_fDicO {ρ : DEnv} {O : Ow} {Q : VD} : fDicO ρ O Q = (∀ p, O p = none → Q (.ref p) (updO O p (.dic []))) := rfl
theorem ap_fDGet (fo fi : FE) {ρ : DEnv} {O : Ow} {Q : VD} : fDGet fo fi ρ O Q = (fo ρ O fun x O1 => fi ρ O1 fun y O2 => rDGet x y O2 Q) := rfl
theorem ap_fDGet1 (fo fi : FE) {ρ : DEnv} {O : Ow} {Q : VD} : fDGet1 fo fi ρ O Q = (fo ρ O fun x O1 => isDc O1 x = true ∧ fi ρ O1 fun y O2 => rKey x y O2 fun o => Q (o.getD .non) O2) := rfl
theorem ap_fDGet2 (fo fi fx : FE) {ρ : DEnv} {O : Ow} {Q : VD} : fDGet2 fo fi fx ρ O Q = (fo ρ O fun x O1 => isDc O1 x = true ∧ fi ρ O1 fun y O2 => fx ρ O2 fun z O3 => rKey x y O3 fun o => Q (o.getD z) O3) := rfl
theorem ap_gDPut (fo fi fe : FE) {R : DEnds} {ρ : DEnv} {O : Ow} : gDPut fo fi fe R ρ O = (fe ρ O fun d O1 => fo ρ O1 fun x O2 => fi ρ O2 fun y O3 => rDPut x y d O3 (R.nx ρ)) := rfl
theorem ap_fIsiT (fa : FE) (fr : FA) {ρ : DEnv} {O : Ow} {Q : VD} : fIsiT fa fr ρ O Q = (fa ρ O fun x O1 => fr ρ O1 fun ds O2 => rIsiTs x ds O2 Q) := rfl
theorem ap_gForR (fl : FE) (p : Pat) (gb : GS) {R : DEnds} {ρ : DEnv} {O : Ow} : gForR fl p gb R ρ O = (fl ρ O fun x O1 => asLR x O1 fun a ds O2 => forR a ds p gb R ds ρ O2) := rfl
section
variable {O : Ow} {a : Addr} {kvs : List (Key × D)} {Q : VD} {N : Option D → Prop} {k : Key} {x y d : D} {t : Str} {i : Int}
theorem rRep_l {ds : List D} : rRepD (.lst ds) (.int i) O Q = ((-(2 ^ 63) ≤ i ∧ i < 2 ^ 63 ∧ ds.length * i.toNat ≤ sizeLine) ∧ Q (.lst (List.replicate i.toNat ds).flatten) O) := rfl
theorem sl1 : ((["list", "tuple"] : List String).length ≤ sizeLine) = True := by simp [sizeLine]
theorem isT_lt (h : insTy.contains (tyNm O x) = true) : rIsiTs x [.ty "list", .ty "tuple"] O Q = Q (.bl (["list", "tuple"].any (insOf (tyNm O x)))) O := by
  have e : asTys [D.ty "list", D.ty "tuple"] = some ["list", "tuple"] := rfl
  have e2 : ((["list", "tuple"] : List String).all fun n => insCl.contains n) = true := by decide
  simp only [rIsiTs, e, sl1, h, e2, true_and]
theorem isT_i : rIsiTs (.int i) [.ty "list", .ty "tuple"] O Q = Q (.bl false) O := isT_lt rfl
theorem isT_s : rIsiTs (.str t) [.ty "list", .ty "tuple"] O Q = Q (.bl false) O := isT_lt rfl
theorem isT_b {b : Bool} : rIsiTs (.bl b) [.ty "list", .ty "tuple"] O Q = Q (.bl false) O := isT_lt rfl
theorem isT_n : rIsiTs .non [.ty "list", .ty "tuple"] O Q = Q (.bl false) O := isT_lt rfl
theorem isT_t {xs : List D} : rIsiTs (.tup xs) [.ty "list", .ty "tuple"] O Q = Q (.bl true) O := isT_lt rfl
theorem isT_l {xs : List D} : rIsiTs (.lst xs) [.ty "list", .ty "tuple"] O Q = Q (.bl true) O := isT_lt rfl
end
/-! ### an owned list that a call tells, frozen at once -/
section
variable {X : Cx} {e : Expr} {fe : FE}
def rFrz (d : D) (O : Ow) (Q : VD) : Prop := match d with
  | .ref a => match O a with
    | some (.lst ds) => Q (.lst ds) (delO O a)
    | _ => False
  | _ => False
def fFrz (fe : FE) : FE := fun ρ O Q => fe ρ O fun d O1 => rFrz d O1 Q
theorem de_frz (he : DE M X e fe) : DE M X e (fFrz fe) := peMono he fun σ H Q h => by
  obtain ⟨F, O, P, ρ, R, g, en, q, po⟩ := h
  refine ⟨F, O, P, ρ, _, g, en, q, fun d O1 F1 H1 v q1 s1 g1 r1 => ?_⟩
  unfold rFrz at q1
  split at q1 <;> first | exact q1.elim | skip
  rename_i a
  split at q1 <;> first | exact q1.elim | skip
  rename_i ds e
  simp only [Rep] at r1
  subst r1
  obtain ⟨F2, s2, g2, r2⟩ := g1.freeze e
  exact po _ _ F2 H1 _ q1 (s1.trans s2) g2 r2
theorem ap_fFrz (fe : FE) {ρ : DEnv} {O : Ow} {Q : VD} : fFrz fe ρ O Q = (fe ρ O fun d O1 => rFrz d O1 Q) := rfl
theorem rFrz_u {p : Addr} {ds : List D} {O : Ow} {Q : VD} (h : O p = none) : rFrz (.ref p) (updO O p (.lst ds)) Q = Q (.lst ds) O := by
  simp only [rFrz, updO_same, delO_updO h]
end
end Kf
/-! Dl16: max(xs), max(xs, default=d) of ints. -/
namespace Kf
open PySem PySem.Spec L2
open PyProof.Rows hiding St
section
variable {prog : Program} {w : World} {A : Around} {Rz : Result → Shared → Prop} {it : Addr} {fp wr : List Addr} {n : Nat} {Pv : Nat → Value → Prop} {Sw : Nat → Heap → Prop}
end
/-- the greatest, or 0 of none -/
def lmx : List Int → Int
  | [] => 0
  | [a] => a
  | a :: b :: r => if lmx (b :: r) > a then lmx (b :: r) else a
section
variable {prog : Program} {w : World} {A : Around} {E : Value → Shared → Prop} {s : Shared}
end
section
variable {X : Cx} {M : MX} {e : Expr} {es : List Expr} {fa : FE} {pos p kpos pos' : Pos}
/-- max(xs, default=i) -/
def rMaxD (i : Int) (x : D) (O : Ow) (Q : VD) : Prop := match deref O x with
  | .lst ds => match asInts ds with
    | some ns => Q (.int (if ns = [] then i else lmx ns)) O
    | none => False
  | _ => False
def fMaxD (i : Int) (fa : FE) : FE := fun ρ O Q => fa ρ O fun x O1 => rMaxD i x O1 Q
/-- max(xs) -/
def rMaxL : RAD := fun ds O Q => match ds with
  | [x] => match deref O x with
    | .lst ds => match asInts ds with
      | some ns => ns ≠ [] ∧ Q (.int (lmx ns)) O
      | none => False
    | _ => False
  | _ => False
theorem ap_fMaxD (i : Int) (fa : FE) {ρ : DEnv} {O : Ow} {Q : VD} : fMaxD i fa ρ O Q = fa ρ O fun x O1 => rMaxD i x O1 Q := rfl
theorem rMaxD_l {i : Int} {ns : List Int} {O : Ow} {Q : VD} : rMaxD i (.lst (ns.map .int)) O Q = Q (.int (if ns = [] then i else lmx ns)) O := by
  simp only [rMaxD, deref, asInts_map]
theorem rMaxL_l {ns : List Int} {O : Ow} {Q : VD} : rMaxL [.lst (ns.map .int)] O Q = (ns ≠ [] ∧ Q (.int (lmx ns)) O) := by
  simp only [rMaxL, deref, asInts_map]
end
end Kf
/-! Dl17: defs with one default, None; walks along a list, owned or not. -/
namespace Kf
open PySem PySem.Spec L2
open PyProof.Rows hiding St
/-- a def of the text with one default, None -/
structure FnD (K : PySem.W.Frag) (mg : Str → Option Value) (x : Str) (st : Stmt) (ps : List Str) (f : Addr) (fd : FuncData) : Prop where
  F : FunD K x x (defArgs st) (defBody st) (defScope st) [V.non] [] f fd
  m : mg x = some (.ref f)
  b : Binds K fd ps []
  b1 : ∃ ds, Vals [V.non] ds ∧ Binds K fd ps ds
section
variable {X : Cx} {M : MX} {RX : XW} {W : WX} {e : Expr} {es : List Expr} {fr : FA} {k : Nat} {f : Addr} {fd : FuncData} {ps : List Str} {dsp : DSp} {x : Str} {st : Stmt} {p pos : Pos}
/-- a call without the last argument -/
def fCallXD (dsp : DSp) (RX : XW) (fr : FA) : FE := fun ρ O Q => fr ρ O fun ds O1 => dsp (ds ++ [.non]) O1 Q fun cls fs O' => RX cls fs ρ O'
theorem ap_fCallXD (dsp : DSp) (RX : XW) (fr : FA) {ρ : DEnv} {O : Ow} {Q : VD} : fCallXD dsp RX fr ρ O Q = fr ρ O fun ds O1 => dsp (ds ++ [.non]) O1 Q fun cls fs O' => RX cls fs ρ O' := rfl
end
section
variable {P : Program} {w : World} {K : PySem.W.Frag} {mg : Str → Option Value} {base : Heap}
end
/-! ### for over a list, owned or not, that stays -/
section
variable {X : Cx} {M : MX} {l tg : Expr} {fl : FE} {pos : Pos}
def forE (x : D) (all : List D) (p : Pat) (gb : GS) (R : DEnds) : List D → DEnv → Ow → Prop
  | [], ρ, O => deref O x = .lst all ∧ R.nx ρ O
  | d :: ds, ρ, O => deref O x = .lst all ∧ patGet (patD p d ρ) fun ρ1 => gb { R with nx := forE x all p gb R ds, ct := forE x all p gb R ds, bk := R.nx } ρ1 O
def asLE (x : D) (O : Ow) (Q : List D → Prop) : Prop := match deref O x with
  | .lst ds => Q ds
  | _ => False
def gForE (fl : FE) (p : Pat) (gb : GS) : GS := fun R ρ O => fl ρ O fun x O1 => asLE x O1 fun ds => forE x ds p gb R ds ρ O1
theorem ap_gForE (fl : FE) (p : Pat) (gb : GS) {R : DEnds} {ρ : DEnv} {O : Ow} : gForE fl p gb R ρ O = fl ρ O fun x O1 => asLE x O1 fun ds => forE x ds p gb R ds ρ O1 := rfl
theorem asLE_l {ds : List D} {O : Ow} {Q : List D → Prop} : asLE (.lst ds) O Q = Q ds := rfl
theorem ds_forE {body : List Stmt} {p : Pat} {gb : GS} (hp : PassesOwn (model X.prog X.w) X.A X.env X.xe) (hc : X.calm = true) (hl : DE M X l fl) (hg : DP X tg p) (hb : DSs M X body gb)
    (hs : ∀ x, foldedSetIterable l X.env x = pure x := by intro _; rfl) : DS M X (.For tg l body [] pos) (gForE fl p gb) := psMono (ps_for hp hc (pi_list hl) hg hb hs) fun D σ H h => by
  obtain ⟨F, O, P, ρ, R, g, en, q, po⟩ := h
  refine ⟨F, O, P, ρ, _, g, en, q, fun x O1 F1 H1 v q1 s1 g1 r1 => ?_⟩
  have at' : ∀ {F2 : Hp} {O2 : Ow} {P2 H2 : Hp} {ds : List Kf.D}, Same F1 F2 → Gd M X.K F2 O2 P2 H2 → deref O2 x = .lst ds → ∃ c ws, v = V.ref c ∧ SqL X.K H2 c ws ∧ RepAll X.K F2 ds ws := by
    intro F2 O2 P2 H2 ds s2 g2 e2
    have h1 := g2.deref (r1.mono s2)
    rw [e2] at h1
    obtain ⟨c, xs, e3, h2, h3⟩ := h1
    exact ⟨c, xs, e3, SqL.of h2, h3⟩
  unfold asLE at q1
  split at q1 <;> first | exact q1.elim | skip
  rename_i ds e
  obtain ⟨c, vs, rfl, h1, h2⟩ := at' (Same.refl _) g1 e
  refine ⟨c, rfl, ⟨vs, h1⟩, ?_⟩
  refine ⟨fun i m σ H => ∃ F2 O2 ρ2, i + m = ds.length ∧ Same F1 F2 ∧ Gd M X.K F2 O2 P H ∧ EnvOk X.K F2 ρ2 σ ∧ forE x ds p gb R (ds.drop i) ρ2 O2,
    ⟨ds.length, F1, O1, ρ, by omega, Same.refl _, g1, en.mono s1, by rw [List.drop_zero]; exact q1⟩, fun i m σ2 H2 hW => ?_⟩
  obtain ⟨F2, O2, ρ2, hm, s2, g2, en2, q2⟩ := hW
  by_cases hi : i < ds.length
  · rw [List.drop_eq_getElem_cons hi] at q2
    unfold forE at q2
    obtain ⟨e2, q2⟩ := q2
    obtain ⟨c2, ws, e4, sq, h4⟩ := at' s2 g2 e2
    cases e4
    obtain ⟨w, e3, r3⟩ := h4.get (List.getElem?_eq_getElem hi)
    refine .inr ⟨⟨ws, w, sq, e3⟩, fun σ' H' => ∃ F3 O3 ρ3, Same F1 F3 ∧ Gd M X.K F3 O3 P H' ∧ EnvOk X.K F3 ρ3 σ' ∧ forE x ds p gb R (ds.drop (i + 1)) ρ3 O3, fun σ' H' hN => ?_, fun y H' hyy => ?_⟩
    · obtain ⟨F3, O3, ρ3, s3, g3, en3, q3⟩ := hN
      exact ⟨m - 1, by omega, F3, O3, ρ3, by omega, s3, g3, en3, q3⟩
    · obtain ⟨rfl, hx⟩ := hyy
      have hxx := hx ws sq
      rw [e3] at hxx
      cases hxx
      cases e1 : patD p ds[i] ρ2 with
      | none => rw [e1] at q2; exact q2.elim
      | some ρ3 =>
        rw [e1] at q2
        refine pat_ok g2 p ds[i] _ ρ2 ρ3 σ2 _ e1 r3 en2 fun σ4 en4 _ => ?_
        refine ⟨F2, O2, P, ρ3, _, g2, en4, q2, ⟨fun ρ5 O5 F5 H5 σ5 q5 s5 g5 en5 => ?_, ?_, ?_, fun ρ5 O5 F5 H5 σ5 q5 s5 g5 en5 => ?_⟩⟩
        · exact ⟨F5, O5, ρ5, s2.trans s5, g5, en5, q5⟩
        · exact po.rt.more (s1.trans s2)
        · exact po.nx.more (s1.trans s2)
        · exact ⟨F5, O5, ρ5, s2.trans s5, g5, en5, q5⟩
  · rw [List.drop_eq_nil_of_le (by omega)] at q2
    unfold forE at q2
    obtain ⟨c2, ws, e4, sq, h4⟩ := at' s2 g2 q2.1
    cases e4
    refine .inl ⟨⟨ws, sq, by rw [← h4.length]; omega⟩, ?_⟩
    exact po.nx ρ2 O2 F2 H2 σ2 q2.2 (s1.trans s2) g2 en2
end
end Kf
/-! Dl18: walks along the keys of an owned dict. -/
namespace Kf
open PySem PySem.Spec L2
open PyProof.Rows hiding St
variable {M : MX}
/-! ### [.. for k in d] -/
def lcK (a : Addr) (c : Cell) (p : Pat) (ft : FT) (fe : FE) (ρ : DEnv) : List D → List D → Ow → (List D → Ow → Prop) → Prop
  | [], acc, O, Q => O a = some c ∧ Q acc O
  | d :: ds, acc, O, Q => O a = some c ∧ patGet (patD p d ρ) fun ρ1 => ft ρ1 O fun b O1 => if b = true then fe ρ1 O1 fun e O2 => acc.length < sizeLine ∧ lcK a c p ft fe ρ ds (acc ++ [e]) O2 Q else lcK a c p ft fe ρ ds acc O1 Q
def asDc (o : Option (Option D)) (O : Ow) (N : Addr → List (Key × D) → Prop) : Prop := match o with
  | some (some (.ref a)) => match O a with
    | some (.dic kvs) => N a kvs
    | _ => False
  | _ => False
def keysD (kvs : List (Key × D)) : List D := kvs.map fun kv => keyD kv.1
def fLcK (i : Nat) (p : Pat) (ft : FT) (fe : FE) (vs : List Nat) : FE := fun ρ O Q => asDc ρ[i]? O fun a kvs =>
  ∀ o, lcK a (.dicL kvs o) p ft fe (wipeD ρ vs) (keysD kvs) [] (updO O a (.dicL kvs o)) fun acc O2 => Q (.lst acc) (updO O2 a (.dic kvs))
section
variable {X : Cx} {elt tg iter : Expr} {ifs : List Expr} {scope : Scope} {own : List (Str × Nat)} {pos : Pos} {p : Pat} {ft : FT} {fe : FE}
end
theorem ap_fLcK (i : Nat) (p : Pat) (ft : FT) (fe : FE) (vs : List Nat) {ρ : DEnv} {O : Ow} {Q : VD} : fLcK i p ft fe vs ρ O Q = asDc ρ[i]? O fun a kvs =>
  ∀ o, lcK a (.dicL kvs o) p ft fe (wipeD ρ vs) (keysD kvs) [] (updO O a (.dicL kvs o)) fun acc O2 => Q (.lst acc) (updO O2 a (.dic kvs)) := rfl
/-! ### for k in d -/
def endsK (a : Addr) (c : Cell) (kvs : List (Key × D)) (R : DEnds) (N : DEnv → Ow → Prop) : DEnds :=
  { nx := N, ct := N, bk := fun ρ O => O a = some c ∧ R.nx ρ (updO O a (.dic kvs)), rt := fun d O => O a = some c ∧ R.rt d (updO O a (.dic kvs)) }
def forK (a : Addr) (c : Cell) (kvs : List (Key × D)) (p : Pat) (gb : GS) (R : DEnds) : List D → DEnv → Ow → Prop
  | [], ρ, O => O a = some c ∧ R.nx ρ (updO O a (.dic kvs))
  | d :: ds, ρ, O => O a = some c ∧ patGet (patD p d ρ) fun ρ1 => gb (endsK a c kvs R (forK a c kvs p gb R ds)) ρ1 O
def gForK (i : Nat) (p : Pat) (gb : GS) : GS := fun R ρ O => asDc ρ[i]? O fun a kvs => ∀ o, forK a (.dicL kvs o) kvs p gb R (keysD kvs) ρ (updO O a (.dicL kvs o))
theorem ap_gForK (i : Nat) (p : Pat) (gb : GS) {R : DEnds} {ρ : DEnv} {O : Ow} : gForK i p gb R ρ O = asDc ρ[i]? O fun a kvs => ∀ o, forK a (.dicL kvs o) kvs p gb R (keysD kvs) ρ (updO O a (.dicL kvs o)) := rfl
section
variable {X : Cx} {tg iter : Expr} {pos : Pos}
end
end Kf
/-! Dl19: dict(pairs). -/
namespace Kf
open PySem PySem.Spec L2
open PyProof.Rows hiding St
variable {M : MX}
section
variable {X : Cx}
end
/-! ### xs or ys, of lists -/
section
variable {X : Cx} {a b : Expr} {fa fb : FE} {rest : List Expr} {pos : Pos}
def rOrL (x : D) (O : Ow) (N : List D → Prop) : Prop := match deref O x with
  | .lst ds => N ds
  | _ => False
def fOrL (fa fb : FE) : FE := fun ρ O Q => fa ρ O fun x O1 => rOrL x O1 fun ds => if ds.isEmpty = true then fb ρ O1 Q else Q x O1
theorem de_orL (ha : DE M X a fa) (hb : DE M X (.BoolOp .Or (b :: rest) pos) fb) : DE M X (.BoolOp .Or (a :: b :: rest) pos) (fOrL fa fb) := by
  refine peMono (pe_orT ha hb) fun σ H Q h => ?_
  obtain ⟨F, O, P, ρ, R, g, en, q, po⟩ := h
  refine ⟨F, O, P, ρ, _, g, en, q, fun x O1 F1 H1 v q1 s1 g1 r1 => ?_⟩
  unfold rOrL at q1
  have rd := g1.deref r1
  split at q1 <;> first | exact q1.elim | skip
  rename_i ds e
  rw [e] at rd
  obtain ⟨c, ws, rfl, hH, hr⟩ := (show ∃ c ws, v = .ref c ∧ H1 c = some (.lst ws) ∧ RepAll X.K F1 ds ws from rd)
  have hl := hr.length
  refine ⟨!ws.isEmpty, ?_, ?_⟩
  · exact .inl ⟨ws, SqL.of hH, rfl⟩
  · have e2 : ds.isEmpty = ws.isEmpty := by cases ds <;> cases ws <;> simp at hl ⊢
    rw [e2] at q1
    cases hw : ws.isEmpty with
    | true =>
      rw [hw, if_pos rfl] at q1
      rw [if_neg (by simp)]
      exact ⟨F1, O1, P, ρ, R, g1, en.mono s1, q1, po.more s1⟩
    | false =>
      rw [hw, if_neg (by simp)] at q1
      rw [if_pos (by simp)]
      exact po x O1 F1 H1 _ q1 s1 g1 r1
end
theorem ap_fOrL (fa fb : FE) {ρ : DEnv} {O : Ow} {Q : VD} : fOrL fa fb ρ O Q = fa ρ O fun x O1 => rOrL x O1 fun ds => if ds.isEmpty = true then fb ρ O1 Q else Q x O1 := rfl
theorem rOrL_l {ds : List D} {O : Ow} {N : List D → Prop} : rOrL (.lst ds) O N = N ds := rfl
end Kf
/-! Dl20: tables of the module, unpacking of lists, ranges with a step. -/
namespace Kf
open PySem PySem.Spec L2
open PyProof.Rows hiding St
variable {M : MX}
/-! ### a table of texts by texts, of the module -/
def CDic (K : PySem.W.Frag) (w : World) (mg : Str → Option Value) (x : Str) (tab : List (Str × Str)) : Prop :=
  ∃ d es n, mg x = some (.ref d) ∧ KDict K w d es n ∧ Paired (fun (e : DictEntry) (q : Str × Str) => (∃ t, e.key = .str q.1 t) ∧ ∃ t, e.val = .str q.2 t) es.toList tab
def tabF (tab : List (Str × Str)) (z : Str) : Option Str := (tab.find? fun q => decide (q.1 = z)).map (·.2)
theorem find_tab {es : List DictEntry} {tab : List (Str × Str)} (h : Paired (fun (e : DictEntry) (q : Str × Str) => (∃ t, e.key = .str q.1 t) ∧ ∃ t, e.val = .str q.2 t) es tab) (z : Str) :
    (tabF tab z = none ∧ (es.find? fun e => Value.isStrOf z e.key).map (·.val) = none) ∨ ∃ y t, tabF tab z = some y ∧ (es.find? fun e => Value.isStrOf z e.key).map (·.val) = some (.str y t) := by
  induction h with
  | nil => exact .inl ⟨rfl, rfl⟩
  | @cons e q es qs a _ ih =>
    obtain ⟨⟨t, ek⟩, t2, ev⟩ := a
    have hs : Value.isStrOf z e.key = decide (q.1 = z) := by
      rw [ek]
      show (q.1 == z) = _
      exact str_beq ..
    unfold tabF at ih ⊢
    rw [List.find?_cons, List.find?_cons, hs]
    by_cases c : q.1 = z
    · rw [decide_eq_true c]
      exact .inr ⟨q.2, t2, rfl, by simp [ev]⟩
    · rw [decide_eq_false c]
      exact ih
section
variable {X : Cx} {x : Str} {tab : List (Str × Str)} {e i a : Expr} {fe fi fa : FE} {pos pos' apos cpos p2 : Pos}
theorem CDic.map {d : Addr} {es : Array DictEntry} {n : Nat} (D : KDict X.K X.w d es n) (hp : Paired (fun (e : DictEntry) (q : Str × Str) => (∃ t, e.key = .str q.1 t) ∧ ∃ t, e.val = .str q.2 t) es.toList tab) (z : Str) :
    (tabF tab z = none ∧ findBy Value.isStrOf es z = none) ∨ ∃ y t, tabF tab z = some y ∧ findBy Value.isStrOf es z = some (.str y t) := by
  have h := find_tab hp z
  obtain ⟨l⟩ := es
  unfold findBy
  rw [List.find?_toArray]
  exact h
def tabD (tab : List (Str × Str)) (z : Str) : D := match tabF tab z with
  | some y => .str y
  | none => .non
def asStr (d : D) (N : Str → Prop) : Prop := match d with
  | .str z => N z
  | _ => False
/-- T.get(w) -/
def fKGet (tab : List (Str × Str)) (fe : FE) : FE := fun ρ O Q => fe ρ O fun d O1 => asStr d fun z => Q (tabD tab z) O1
theorem ap_fKGet (tab : List (Str × Str)) (fe : FE) {ρ : DEnv} {O : Ow} {Q : VD} : fKGet tab fe ρ O Q = fe ρ O fun d O1 => asStr d fun z => Q (tabD tab z) O1 := rfl
theorem asStr_s {z : Str} {N : Str → Prop} : asStr (.str z) N = N z := rfl
/-- w in T -/
def fKIn (tab : List (Str × Str)) (fa : FE) : FE := fun ρ O Q => fa ρ O fun d O1 => asStr d fun z => Q (.bl (tabF tab z).isSome) O1
theorem ap_fKIn (tab : List (Str × Str)) (fa : FE) {ρ : DEnv} {O : Ow} {Q : VD} : fKIn tab fa ρ O Q = fa ρ O fun d O1 => asStr d fun z => Q (.bl (tabF tab z).isSome) O1 := rfl
/-- T[w] -/
def asSome (o : Option Str) (N : Str → Prop) : Prop := match o with
  | some y => N y
  | none => False
def fKIx (tab : List (Str × Str)) (fi : FE) : FE := fun ρ O Q => fi ρ O fun d O1 => asStr d fun z => asSome (tabF tab z) fun y => Q (.str y) O1
theorem ap_fKIx (tab : List (Str × Str)) (fi : FE) {ρ : DEnv} {O : Ow} {Q : VD} : fKIx tab fi ρ O Q = fi ρ O fun d O1 => asStr d fun z => asSome (tabF tab z) fun y => Q (.str y) O1 := rfl
end
/-! ### (a, b, ..) = a list -/
section
variable {X : Cx} {e : Expr} {es : List Expr} {fe : FE} {pos p2 : Pos}
def rUnl (d : D) (O : Ow) (N : List D → Prop) : Prop := match deref O d with
  | .lst ds => N ds
  | _ => False
def gAsgL (fe : FE) (ps : List Pat) : GS := fun R ρ O => fe ρ O fun d O1 => rUnl d O1 fun ds => patGet (patDs ps ds ρ) fun ρ' => R.nx ρ' O1
theorem ds_asgL {k : Nat} {ps : List Pat} (hc : X.calm = true) (he : DE M X e fe) (hg : DPs X es ps) (hs : swapsWithSole [.Tuple es k p2] e pos.line X.env = pure false := by rfl) (hw : swappedStores [.Tuple es k p2] e X.env = pure none := by rfl) (h1 : (assignEach [.Tuple es k p2] X.env).map (·.2) = [assign (.Tuple es k p2) X.env] := by rfl)
    (hn : (assignEach es X.env).length = ps.length := by rfl) (hst : (assignEach es X.env).findIdx? (·.1) = none := by rfl) : DS M X (.Assign [.Tuple es k p2] e pos) (gAsgL fe ps) :=
  psMono (ps_asg he (pg_unl hc hg hn hst) hs hw h1) fun D σ H h => by
    obtain ⟨F, O, P, ρ, R, g, en, q, po⟩ := h
    refine ⟨F, O, P, ρ, _, g, en, q, fun d O1 F1 H1 v q1 s1 g1 r1 => ?_⟩
    unfold rUnl at q1
    have rd := g1.deref r1
    split at q1 <;> first | exact q1.elim | skip
    rename_i ds e0
    rw [e0] at rd
    obtain ⟨c, ws, rfl, hH, hr⟩ := (show ∃ c ws, v = .ref c ∧ H1 c = some (.lst ws) ∧ RepAll X.K F1 ds ws from rd)
    cases e1 : patDs ps ds ρ with
    | none => rw [e1] at q1; exact q1.elim
    | some ρ' =>
      rw [e1] at q1
      exact ⟨c, ws, rfl, SqL.of hH, by rw [← hr.length, patDs_length e1], pats_ok g1 ps ds ws ρ ρ' σ _ e1 hr (en.mono s1) fun σ' en' _ => po.nx ρ' O1 F1 H1 σ' q1 s1 g1 en'⟩
theorem ap_gAsgL (fe : FE) (ps : List Pat) {R : DEnds} {ρ : DEnv} {O : Ow} : gAsgL fe ps R ρ O = fe ρ O fun d O1 => rUnl d O1 fun ds => patGet (patDs ps ds ρ) fun ρ' => R.nx ρ' O1 := rfl
theorem rUnl_l {ds : List D} {O : Ow} {N : List D → Prop} : rUnl (.lst ds) O N = N ds := rfl
end
/-! ### range(i, j, c) -/
section
variable {X : Cx} {tg a b c : Expr} {fr : FA} {p pos : Pos}
def rangeC (lo c : Int) (n : Nat) : List D := (List.range n).map fun i => .int (lo + (i : Nat) * c)
def asR3 (ds : List D) (O : Ow) (Q : List D → Ow → Prop) : Prop := match ds with
  | [.int i, .int j, .int c] => ∃ n, RgC i j c n ∧ Q (rangeC i c n) O
  | _ => False
def fiRng3 (fr : FA) : FI := fun ρ O Q => fr ρ O fun ds O1 => asR3 ds O1 Q
theorem ap_fiRng3 (fr : FA) {ρ : DEnv} {O : Ow} {Q : List D → Ow → Prop} : fiRng3 fr ρ O Q = fr ρ O fun ds O1 => asR3 ds O1 Q := rfl
theorem asR3_i {i j c : Int} {O : Ow} {Q : List D → Ow → Prop} : asR3 [.int i, .int j, .int c] O Q = ∃ n, RgC i j c n ∧ Q (rangeC i c n) O := rfl
end
/-! ### a text split, the list changes -/
section
variable {X : Cx}
def rSplitO : RMD := fun x ds O Q => match x, ds with
  | .str a, [.str b] => (b.length == 0) = false ∧ a.length + 2 ≤ sizeLine ∧ ∀ p, O p = none → Q (.ref p) (updO O p (.lst ((Txt.split a b).map .str)))
  | _, _ => False
theorem rSplitO_s {a b : Str} {O : Ow} {Q : VD} : rSplitO (.str a) [.str b] O Q = ((b.length == 0) = false ∧ a.length + 2 ≤ sizeLine ∧ ∀ p, O p = none → Q (.ref p) (updO O p (.lst ((Txt.split a b).map .str)))) := rfl
end
end Kf
/-! Dl21: enumerate(tuple). -/
namespace PySem
open Sem (wp)
open AutoSeq1 (wpAny_loadPart')
end PySem
namespace Kf
open PySem PySem.Spec L2
open PyProof.Rows hiding St
def asT1 (ds : List D) (O : Ow) (Q : List D → Ow → Prop) : Prop := match ds with
  | [.tup ds] => Q ds O
  | _ => False
def fiEnumT (fr : FA) : FI := fun ρ O Q => fr ρ O fun ds O1 => asT1 ds O1 fun ds O2 => Q (enumD ds) O2
section
variable {M : MX} {X : Cx} {fr : FA} {pos : Pos}
end
theorem ap_fiEnumT (fr : FA) {ρ : DEnv} {O : Ow} {Q : (List D → Ow → Prop)} : fiEnumT fr ρ O Q = (fr ρ O fun ds O1 => asT1 ds O1 fun ds O2 => Q (enumD ds) O2) := rfl
theorem asT1_t {ds : List D} {O : Ow} {Q : List D → Ow → Prop} : asT1 [.tup ds] O Q = Q ds O := rfl
end Kf
/-! Dl22: a finer room: one frame for each call. -/
namespace Kf
open PySem PySem.Spec L2
open PyProof.Rows hiding St
structure RoomT (k : Nat) (A : Around) : Prop where
  hd : A.handled = none
  dp : A.depth + k + 5 < recursionLimit
  un : A.units + 5 * k + 200 < cLine
theorem RoomT.deeper {k : Nat} {A : Around} (r : RoomT (k + 1) A) (env : Env) : RoomT k (A.deeper env) :=
  ⟨r.hd, by have := r.dp; show A.depth + 1 + k + 5 < _; omega, by have := r.un; show A.units + 3 + 5 * k + 200 < _; omega⟩
theorem RoomT.depth {k : Nat} {A : Around} (r : RoomT k A) : A.depth < recursionLimit := by have := r.dp; omega
theorem RoomT.u200 {k : Nat} {A : Around} (r : RoomT k A) : A.units + 200 < cLine := by have := r.un; omega
theorem RoomT.to {j k : Nat} {A : Around} (r : RoomT k A) (h : 4 * j ≤ k) : Room j A := ⟨r.hd, by have := r.dp; omega, by have := r.un; omega⟩
theorem RoomT.of {j k : Nat} {A : Around} (r : Room j A) (h : k ≤ 3 * j) : RoomT k A := ⟨r.hd, by have := r.dp; omega, by have := r.un; omega⟩
theorem RoomT.mono {j k : Nat} {A : Around} (r : RoomT k A) (h : j ≤ k) : RoomT j A := ⟨r.hd, by have := r.dp; omega, by have := r.un; omega⟩
/-- a def's promise by the finer room -/
structure FnT (P : Program) (w : World) (K : PySem.W.Frag) (mg : Str → Option Value) (base : Heap) (CX : CXT) (k : Nat) (f : Addr) (fd : FuncData) (ps : List Str) (sp : Sp) : Prop where
  len : ∀ vs H Q E, sp vs H Q E → vs.length = ps.length
  run : ∀ (A : Around) (outer : List Env) (s : Shared) (H : Hp) (args : Args) (us : List Value) (vs : List V) (Q : VK) (E : XK), RoomT k A → Env0 P w K mg base A outer s H → BindsTo s fd args (ps.zip us) → Vals vs us → sp vs H Q E →
    codeAny (model P w) A (.call (.ref f) args) (CR CX outer P w H s Q E) s
section
variable {P : Program} {w : World} {K : PySem.W.Frag} {mg : Str → Option Value} {base : Heap} {CX : CXT} {f : Addr} {fd : FuncData} {ps : List Str} {sp : Sp}
theorem FnT.of {j k : Nat} (F : FnOk P w K mg base CX j f fd ps sp) (h : 4 * j ≤ k) : FnT P w K mg base CX k f fd ps sp :=
  ⟨F.len, fun A outer s H args us vs Q E hr => F.run A outer s H args us vs Q E (hr.to h)⟩
theorem FnT.ok {j k : Nat} (F : FnT P w K mg base CX k f fd ps sp) (h : k ≤ 3 * j) : FnOk P w K mg base CX j f fd ps sp :=
  ⟨F.len, fun A outer s H args us vs Q E hr => F.run A outer s H args us vs Q E (.of hr h)⟩
theorem FnT.mono {j k : Nat} (F : FnT P w K mg base CX j f fd ps sp) (h : j ≤ k) : FnT P w K mg base CX k f fd ps sp :=
  ⟨F.len, fun A outer s H args us vs Q E hr => F.run A outer s H args us vs Q E (hr.mono h)⟩
end
section
variable {X : Cx} {e : Expr} {es : List Expr} {t : TA} {CX : CXT} {k : Nat} {f : Addr} {fd : FuncData} {ps : List Str} {sp : Sp} {E : XK} {x : Str} {p pos : Pos}
end
section
variable {M : MX} {X : Cx} {e : Expr} {es : List Expr} {fr : FA} {k : Nat} {f : Addr} {fd : FuncData} {ps : List Str} {dsp : DSp} {x : Str} {st : Stmt} {p pos : Pos}
end
section
variable {P : Program} {w : World} {K : PySem.W.Frag} {mg : Str → Option Value} {base : Heap}
end
end Kf
/-! Dl23: every second thing of a list, xs[::2], xs[1::2]. -/
namespace Kf
open PySem PySem.Spec L2
open PyProof.Rows hiding St
variable {M : MX}
def ev {α : Type} (l : List α) : List α := (List.range ((l.length + 1) / 2)).filterMap fun k => l[2 * k]?
theorem ev_nil {α : Type} : ev ([] : List α) = [] := by simp [ev]
theorem ev_one {α : Type} (x : α) : ev [x] = [x] := by simp [ev, List.range_succ]
theorem ev_two {α : Type} (x y : α) (r : List α) : ev (x :: y :: r) = x :: ev r := by
  unfold ev
  rw [show ((x :: y :: r).length + 1) / 2 = (r.length + 1) / 2 + 1 by simp only [List.length_cons]; omega, List.range_succ_eq_map, List.filterMap_cons]
  simp only [Nat.mul_zero, List.getElem?_cons_zero, List.filterMap_map]
  rfl
theorem RepAll.ev {K : PySem.W.Frag} {F : Hp} : ∀ (ds : List D) (vs : List V), RepAll K F ds vs → RepAll K F (Kf.ev ds) (Kf.ev vs)
  | [], vs, h => by simp only [RepAll] at h; subst h; rw [ev_nil, ev_nil]; exact .nil
  | [d], vs, h => by
    simp only [RepAll] at h
    obtain ⟨v, r, rfl, h1, rfl⟩ := h
    rw [ev_one, ev_one]; exact .one h1
  | d :: e :: ds, vs, h => by
    simp only [RepAll] at h
    obtain ⟨v, r, rfl, h1, v2, r2, rfl, h2, h3⟩ := h
    rw [ev_two, ev_two]; exact .cons h1 (RepAll.ev ds r2 h3)
section
variable {X : Cx} {e st lo : Expr} {fa : FE} {te : TE} {tst tlo : TO} {fs fl : FO} {pos p2 : Pos}
end
end Kf
/-! Dl24: a caught exception kept as a value behind the suite. -/
namespace Kf
open PySem PySem.Spec L2
open PyProof.Rows hiding St
variable {M : MX}
section
variable {X : Cx} {pins : List (Addr × Obj)} {σ : L2.St} {H : Hp} {s : Shared}
end
section
variable {X : Cx} {x n : Str} {c : Value} {i : Nat} {body suite : List Stmt} {b₀ : Stmt} {np pos pos' : Pos} {tb : WX → TS} {ts : Addr → Value → Option Addr → TS} {Wo : WX}
end
/-! ### over data -/
section
variable {X : Cx} {x n : Str} {c : Value} {i : Nat} {body suite : List Stmt} {b₀ : Stmt} {np pos pos' : Pos} {gb : XW → GS} {gs : Addr → Value → Option (List (Str × D)) → GS} {RXo : XW} {Wo : WX}
end
/-! ### a held exception asked -/
theorem FsOk.get {K : PySem.W.Frag} {F : Hp} {fs : List (Str × D)} {fv : List (Str × V)} {f : Str} {d : D} (h : FsOk K F fs fv) (e : fs.lookup f = some d) : ∃ v, fv.lookup f = some v ∧ Rep K F d v := by
  induction h with
  | nil => simp at e
  | @cons p q _ _ r _ ih =>
    obtain ⟨p1, p2⟩ := p
    obtain ⟨q1, q2⟩ := q
    obtain ⟨r1, r2⟩ := r
    dsimp only at r1 r2
    subst r1
    rw [List.lookup_cons] at e ⊢
    cases c : (f == p1) with
    | true => rw [c] at e; cases e; exact ⟨q2, rfl, r2⟩
    | false => rw [c] at e; exact ih e
end Kf
/-! Dl25: dicts compared, cleared; max of a tuple of ints; instances of own classes: fields, methods, making. -/
namespace Kf
open PySem PySem.Spec L2
open PyProof.Rows hiding St
variable {M : MX}
/-! ### dicts of data compared -/
section
variable {X : Cx} {pins : List (Addr × Obj)} {σ : L2.St} {F P H : Hp} {O : Ow} {s : Shared}
end
section
variable {X : Cx}
end
section
variable {X : Cx} {o : Expr} {fo : FE} {apos cpos pos : Pos}
end
section
variable {X : Cx}
end
/-! ### instances of own classes -/
def putFD (f : Str) (v : D) : List (Str × D) → List (Str × D)
  | [] => [(f, v)]
  | (g, x) :: r => if g = f then (g, v) :: r else (g, x) :: putFD f v r
theorem FsOk.put {K : PySem.W.Frag} {F : Hp} {f : Str} {d : D} {v : V} (r : Rep K F d v) {fs : List (Str × D)} {fv : List (Str × V)} (h : FsOk K F fs fv) : FsOk K F (putFD f d fs) (putF f v fv) := by
  induction h with
  | nil => exact .cons ⟨rfl, r⟩ .nil
  | @cons p q ps qs z t ih =>
    obtain ⟨p1, p2⟩ := p
    obtain ⟨q1, q2⟩ := q
    obtain ⟨z1, z2⟩ := z
    dsimp only at z1 z2
    subst z1
    unfold putFD putF
    split
    · exact .cons ⟨rfl, r⟩ t
    · exact .cons ⟨rfl, z2⟩ ih
theorem FsOk.none {K : PySem.W.Frag} {F : Hp} {f : Str} {fs : List (Str × D)} {fv : List (Str × V)} (h : FsOk K F fs fv) (e : fs.lookup f = none) : fv.lookup f = none := by
  induction h with
  | nil => rfl
  | @cons p q _ _ r _ ih =>
    obtain ⟨p1, p2⟩ := p
    obtain ⟨q1, q2⟩ := q
    obtain ⟨r1, r2⟩ := r
    dsimp only at r1 r2
    subst r1
    rw [List.lookup_cons] at e ⊢
    cases c : (f == p1) with
    | true => rw [c] at e; cases e
    | false => rw [c] at e; exact ih e
theorem FsOk.length {K : PySem.W.Frag} {F : Hp} {fs : List (Str × D)} {fv : List (Str × V)} (h : FsOk K F fs fv) : fs.length = fv.length := Paired.length h
section
variable {X : Cx} {o e value : Expr} {es : List Expr} {f m x : Str} {pos pos' apos p : Pos} {fo fe : FE} {fr : FA} {k : Nat} {C g0 : Addr} {fd : FuncData} {ps : List Str} {dsp : DSp}
/-- a method as it stands -/
structure Mt (K : PySem.W.Frag) (C : Addr) (m qual : Str) (st : Stmt) (ps : List Str) (f : Addr) (fd : FuncData) : Prop where
  F : Fun K m qual st f fd
  m : Meth K C m f
  b : Binds K fd ps []
/-- a class that is made by its __init__ -/
structure MkN (K : PySem.W.Frag) (mg : Str → Option Value) (x : Str) (C : Addr) (f : Addr) : Prop where
  made : Mk K C f
  g : mg x = some (.ref C)
end
section
variable {O : Ow} {a C : Addr} {fs : List (Str × D)} {f m : Str} {d : D} {Q : VD} {N : Ow → Prop}
end
end Kf
/-! Dl26: defs as values (called, compared), a caught exception that the suite holds as a thing. -/
namespace Kf
open PySem PySem.Spec L2
open PyProof.Rows hiding St
variable {M : MX}
/-! ### functions compared -/
section
variable {prog : Program} {w : World} {A : Around} {E : Value → Shared → Prop} {s : Shared} {x y : Addr}
end
section
variable {X : Cx}
end
/-! ### a call of what an expression tells -/
section
variable {P : Program} {w : World} {K : PySem.W.Frag} {mg : Str → Option Value} {base : Heap} {CX : CXT} {k : Nat}
end
section
variable {X : Cx} {e f₀ : Expr} {es : List Expr} {fe : FE} {fr : FA} {k : Nat} {S : Addr → DSp → Prop} {pos : Pos} {RX : XW} {W : WX}
end
section
variable {X : Cx} {x n : Str} {c : Value} {i : Nat} {body suite : List Stmt} {b₀ : Stmt} {np pos pos' : Pos} {tb : WX → TS} {ts : TS} {Wo : WX}
end
/-! ### a caught exception held in the suite -/
section
variable {X : Cx} {x n : Str} {c : Value} {i : Nat} {body suite : List Stmt} {b₀ : Stmt} {np pos pos' : Pos} {gb : XW → GS} {gs : GS} {RXo : XW} {Wo : WX}
end
/-! ### a def that is called while an exception is handled -/
structure RoomC (k : Nat) (A : Around) : Prop where
  dp : A.depth + 3 * k + 5 < recursionLimit
  un : A.units + 16 * k + 200 < cLine
theorem RoomC.deeper {k : Nat} {A : Around} (r : RoomC (k + 1) A) (env : Env) : RoomC k (A.deeper env) :=
  ⟨by have := r.dp; show A.depth + 1 + 3 * k + 5 < _; omega, by have := r.un; show A.units + 3 + 16 * k + 200 < _; omega⟩
structure FnC (P : Program) (w : World) (K : PySem.W.Frag) (mg : Str → Option Value) (base : Heap) (CX : CXT) (k : Nat) (f : Addr) (fd : FuncData) (ps : List Str) (sp : Sp) : Prop where
  len : ∀ vs H Q E, sp vs H Q E → vs.length = ps.length
  run : ∀ (A : Around) (outer : List Env) (s : Shared) (H : Hp) (args : Args) (us : List Value) (vs : List V) (Q : VK) (E : XK), RoomC k A → Env0 P w K mg base A outer s H → BindsTo s fd args (ps.zip us) → Vals vs us → sp vs H Q E →
    codeAny (model P w) A (.call (.ref f) args) (CR CX outer P w H s Q E) s
section
variable {P : Program} {w : World} {K : PySem.W.Frag} {mg : Str → Option Value} {base : Heap}
end
section
variable {X : Cx} {e : Expr} {es : List Expr} {fr : FA} {k : Nat} {f : Addr} {fd : FuncData} {ps : List Str} {dsp : DSp} {x : Str} {st : Stmt} {p pos : Pos}
end
end Kf
set_option maxHeartbeats 1000000
/-! Dl27: exceptions made as values, with and without an own __init__ that keeps one field; the latter raised. -/
namespace Kf
open PySem PySem.Spec L2
open PyProof.Rows hiding St
variable {M : MX}
/-! ### without an own __init__ -/
section
variable {X : Cx} {e : Expr} {fe : FE} {x : Str} {C : Addr} {p pos : Pos}
end
/-! ### with an own __init__ -/
/-- the base class of all own exceptions: its __init__ is ValueError's -/
structure BaseX (K : PySem.W.Frag) (mg : Str → Option Value) (x : Str) (B : Addr) : Prop where
  g : mg x = some (.ref B)
  sp : PySem.W.specialIn K (.ref B) "__getattribute__" = some (some (.builtin "type.__getattribute__"))
  ty : PySem.W.typeIn K (.ref B) = some (.type "type")
  rd : PySem.W.readsIn K B (.type "type") = true
  fc : PySem.W.findCls K (.ref B) (.type "type") "__init__" = some (.val (.builtin "ValueError.__init__"))
section
variable {X : Cx} {e : Expr} {es : List Expr} {ta : TA} {x : Str} {B : Addr} {p1 p2 pos : Pos}
end
/-- an own class of exceptions whose __init__ keeps what it is given as the field f -/
structure ExI (K : PySem.W.Frag) (mg : Str → Option Value) (x f : Str) (C fI : Addr) (fd : FuncData) (qual : Str) (st : Stmt) (ps : List Str) : Prop where
  T : OexC K C
  g : mg x = some (.ref C)
  iC : PySem.W.findIn K (.ref C) "__init__" = some (some (.ref fI))
  tI : PySem.W.typeIn K (.ref fI) = some (.type "function")
  no : PySem.W.findIn K (.ref C) f = some none
  F : Fun K "__init__" qual st fI fd
  b : Binds K fd ps []
section
variable {X : Cx} {CX : CXT} {e : Expr} {es : List Expr} {ta : TA} {x f : Str} {C fI : Addr} {fd : FuncData} {qual : Str} {st : Stmt} {ps : List Str} {k : Nat} {p pos : Pos}
end
section
variable {X : Cx} {e : Expr} {es : List Expr} {fr : FA} {x f : Str} {C fI : Addr} {fd : FuncData} {qual : Str} {st : Stmt} {ps : List Str} {k : Nat} {p pos pos' : Pos} {RX : XW} {W : WX}
end
section
variable {P : Program} {w : World} {K : PySem.W.Frag} {mg : Str → Option Value} {base : Heap}
end
end Kf
/-! Dl28: sorted() of a list of things that compare. -/
namespace Kf
open PySem PySem.Spec L2
open PyProof.Rows hiding St
open PySem.W (EachIs)
variable {M : MX}
section
variable {X : Cx}
end
/-! ### the order -/
end Kf
/-! Dl29: text.replace, where a token is out. -/
namespace Kf
open PySem PySem.Spec L2
open PyProof.Rows hiding St
variable {M : MX}
section
variable {X : Cx} {e a b : Expr} {es : List Expr} {fe fa fb : FE} {fr : FA} {st : Stmt} {rest : List Stmt} {g u : GS} {pos : Pos} {ft : FT}
end
/-! ### replace -/
open PySem.Builtin.Str in
open PySem.Builtin PySem.Builtin.Str in
section
variable {X : Cx} {o : Expr} {to : TE} {y z : Str} {i j k : Nat} {c0 c1 c2 apos pos : Pos} {fo : FE}
end
end Kf
set_option maxHeartbeats 4000000
/-! Dl30: set(xs) of a list or a tuple of texts; sorted(set(xs)). -/
namespace Kf
namespace Stx
open PySem PySem.Spec PySem.Froz L2
open PyProof.Rows hiding St
def putT (l : List Str) (k : Str) : List Str := if k ∈ l then l else k :: l
/-- at a lies a set of just the texts l, which can be walked -/
structure Has (P : Program) (w : World) (h : Heap) (a : Addr) (D : SD) (l : List Str) : Prop where
  obj : h.get? a = some (sObj "set" D)
  ok : TxOk P w D l
  ris : Ris D.2.2.place.toList
  led : w.params.followText "set-order" = true ∨ D.2.2.led = true
  nd : l.Nodup
theorem put_nodup {l : List Str} {k : Str} (h : l.Nodup) : (putT l k).Nodup := by
  unfold putT; split
  · exact h
  · rename_i c; exact List.nodup_cons.mpr ⟨c, h⟩
theorem put_len {l : List Str} {k : Str} : (putT l k).length ≤ l.length + 1 := by
  unfold putT; split <;> simp
theorem ris_tail {ep : Nat} {es : Array (Int × Value)} {t : SetTable} {b : Bool} (r : Ris t.place.toList) : Ris (tailTx ep es t b).2.2.place.toList := by
  unfold tailTx; split
  · exact relayAll_ris _ _ _
  · exact r
theorem led_tail {ep : Nat} {es : Array (Int × Value)} {t : SetTable} {b : Bool} : (tailTx ep es t b).2.2.led = t.led := by
  unfold tailTx; split
  · exact relayAll_led _ _ _
  · rfl
theorem ris_addTx {h : Int} {v : Value} {D : SD} (r : Ris D.2.2.place.toList) : Ris (addTx h v D).2.2.place.toList := by
  have r1 := layNew_ris D.2.2 D.1 h v r
  refine ris_tail ?_
  split <;> exact r1
theorem led_addTx {h : Int} {v : Value} {D : SD} : (addTx h v D).2.2.led = D.2.2.led := by
  have r1 := layNew_led D.2.2 D.1 h v
  refine led_tail.trans ?_
  split <;> exact r1
section
variable {P : Program} {w : World} {A : Around} {E : Value → Shared → Prop} {s : Shared} {a : Addr} {D : SD} {l : List Str} {k : Str} {u : Tok}
theorem Has.keep {h h' : Heap} (T : Has P w h a D l) (e : ∀ o, h.get? a = some o → h'.get? a = some o) : Has P w h' a D l := ⟨e _ T.obj, T.ok, T.ris, T.led, T.nd⟩
/-- a text that is in already -/
theorem Has.old {Q : Bool → Shared → Prop} (T : Has P w s.heap a D l) (hk : k ∈ l) (hb : l.length < scanBound) (q : Q false s) : wpAny (model P w) A (setAddHashed a (.str k u) (hashStr w k)) Q E s := by
  obtain ⟨es, ep, t⟩ := D
  have n1 : es.size < scanBound := by have := T.ok.sz; simp only at this; omega
  obtain ⟨e, he, hp⟩ := (T.ok.mem k).mp hk
  unfold setAddHashed setAddHashedIn
  apply wpAny_holding
  apply wpAny_bind
  refine wpAny_setState_of T.obj rfl T.ok.fit ?_
  simp only [byScan_of (x := Value.str k u) (knd := strKind P w) rfl n1 T.ok.el, ↓reduceIte]
  unfold setAddByScan
  apply wpAny_bind
  apply wpAny_bind
  apply wpAny_rule
  refine wpAny_bind (wpAny_setScan_of (k := k) (is_str k u) T.obj rfl T.ok.fit T.ok.el ?_)
  cases hr : List.findIdx? (fun e => (strKind P w).is k e.2) es.toList with
  | none =>
    have := List.findIdx?_eq_none_iff.mp hr e he
    rw [hp] at this; cases this
  | some j => exact wpAny_pure (wpAny_pure q)
theorem Has.add {Q : Bool → Shared → Prop} (T : Has P w s.heap a D l) (hb : l.length + 1 < scanBound)
    (q : ∀ b h' D', Heap.SameBut a s.heap h' → Has P w h' a D' (putT l k) → Q b { s with heap := h' }) : wpAny (model P w) A (setAddHashed a (.str k u) (hashStr w k)) Q E s := by
  by_cases c : k ∈ l
  · refine T.old c (by omega) ?_
    have := q false s.heap D (.refl a s.heap) (by rw [show putT l k = l from if_pos c]; exact T)
    exact this
  · refine add_x T.obj T.ok c hb (q true _ _ (.update s.heap a _) ⟨get_upd _ T.obj rfl, ?_, ris_addTx T.ris, T.led.imp id fun z => led_addTx.trans z, put_nodup T.nd⟩)
    rw [show putT l k = k :: l from if_neg c]
    exact add_ok u T.ok
/-- the loop of set.update -/
theorem Has.loop {I : Addr} {fp wr : List Addr} {G : Array GenState → Array GenState → Prop} {n : Nat} {Pv : Nat → Value → Prop} {St : Nat → Shared → Prop} {R : Result → Shared → Prop} {xs : List Str}
    (W : WalksS P w A.in1 I fp wr G n Pv St) (hf : a ∉ fp) (hn : n = xs.length) (hv : ∀ i v, Pv i v → ∃ x t, xs[i]? = some x ∧ v = .str x t) (hz : xs.length + 1 < scanBound) :
    ∀ (r : List Str) (i : Nat) (s : Shared) (D : SD) (l : List Str), xs.drop i = r → i ≤ n → St i s → Has P w s.heap a D l → l.length ≤ i →
      (∀ s' D', Moved (a :: wr) G s s' → Has P w s'.heap a D' (r.foldl putT l) → R (.ok (.ret .none)) s') → codeAny (model P w) A (.builtin "set.update.loop" ⟨[.ref a, .ref I], []⟩) R s
  | [], i, s, D, l, hd, hi, hst, T, hl, hR => by
    have e : i = n := by
      have := congrArg List.length hd
      rw [List.length_drop, List.length_nil] at this
      omega
    subst e
    apply codeAny_builtin F.entry_set_update_loop
    rw [Around.under_plainId F.plain_set_update_loop]
    apply wpAny_bind (m := pyNext (.ref I))
    refine W.done s _ _ hst fun s' m => wpAny_pure (hR s' D ⟨fun b o hb e => m.heap b o (fun z => hb (List.mem_cons_of_mem _ z)) e, m.gens, m.drawn, m.os, m.toks⟩ (T.keep fun o e => m.heap a o (fun z => hf (W.sub _ z)) e))
  | x :: r, i, s, D, l, hd, hi, hst, T, hl, hR => by
    have hx : xs[i]? = some x := by rw [← List.head?_drop, hd]; rfl
    have hin : i < n := by rw [hn]; exact (List.getElem?_eq_some_iff.mp hx).1
    have hd' : xs.drop (i + 1) = r := by rw [← List.drop_drop, hd]; rfl
    apply codeAny_builtin F.entry_set_update_loop
    rw [Around.under_plainId F.plain_set_update_loop]
    apply wpAny_bind (m := pyNext (.ref I))
    refine W.item i s _ _ hin hst fun v s' p hst' m => ?_
    obtain ⟨y, t, hy, rfl⟩ := hv i v p
    obtain rfl : x = y := Option.some.inj (hx.symm.trans hy)
    have T' := T.keep fun o e => m.heap a o (fun z => hf (W.sub _ z)) e
    apply wpAny_bind (m := holding [Value.str x t] (setAdd a (.str x t)))
    apply wpAny_holding
    unfold setAdd
    apply wpAny_holding
    apply wpAny_bind
    apply (strKind P w).pyHash (is_str x t)
    refine Has.add (s := { s' with toks := s'.toks + 1 }) T' (by omega) fun b h' D' sb T2 => wpAny_pure ⟨plainId_quiet F.plain_set_update_loop _, ?_⟩
    refine Has.loop W hf hn hv hz r (i + 1) _ D' (putT l x) hd' hin (W.frame _ s' _ _ hst' (Nat.le_succ _) fun b hb o e => ?_) T2 (Nat.le_trans put_len (by omega)) fun s2 D2 m2 T3 => ?_
    · rw [sb.2 b fun z => hf (z ▸ hb)]; exact e
    · refine hR s2 D2 ⟨fun b o hb e => m2.heap b o hb ?_, W.gtrans _ _ _ m.gens m2.gens, m2.drawn.trans m.drawn, m2.os.trans m.os, Nat.le_trans m.toks (Nat.le_trans (Nat.le_succ _) m2.toks)⟩ T3
      show h'.get? b = some o
      rw [sb.2 b fun z => hb (z ▸ List.mem_cons_self)]
      exact m.heap b o (fun z => hb (List.mem_cons_of_mem _ z)) e
end
end Stx
end Kf
set_option maxHeartbeats 4000000
/-! Dl31: the call set(xs); sorted(set(xs)). -/
namespace Kf
namespace Stx
open PySem PySem.Spec PySem.Froz L2
open PyProof.Rows hiding St
section
variable {P : Program} {w : World} {A : Around} {E : Value → Shared → Prop} {s : Shared}
theorem new_size {h : Heap} {o : Obj} : (h.push o).objs.size = h.objs.size + 1 := Heap.size_push ..
end
end Stx
end Kf
set_option maxHeartbeats 4000000
/-! Dl32: sorted(set(xs)). -/
namespace Kf
namespace Stx
open PySem PySem.Spec PySem.Froz L2
open PyProof.Rows hiding St
def txOf (v : Value) : Str := match v with
  | .str x _ => x
  | _ => ⟨#[]⟩
theorem perm_of_sub : ∀ {l m : List Str}, l.Nodup → (∀ x ∈ l, x ∈ m) → m.length ≤ l.length → m.Perm l
  | [], m, _, _, h => by
    have : m = [] := List.eq_nil_of_length_eq_zero (Nat.le_zero.mp h)
    rw [this]
  | x :: l, m, hn, hs, h => by
    obtain ⟨h1, h2⟩ := List.nodup_cons.mp hn
    have hx := hs x List.mem_cons_self
    have p := List.perm_cons_erase hx
    refine p.trans (.cons x (perm_of_sub h2 (fun y hy => ?_) ?_))
    · have := p.mem_iff.mp (hs y (List.mem_cons_of_mem _ hy))
      rcases List.mem_cons.mp this with rfl | z
      · exact absurd hy h1
      · exact z
    · have := p.length_eq
      rw [List.length_cons] at this h
      omega
theorem strs_tx : ∀ (vs : List Value), (∀ v ∈ vs, ∃ x t, v = Value.str x t) → StrsAre vs (vs.map txOf)
  | [], _ => .nil
  | v :: vs, h => by
    obtain ⟨x, t, rfl⟩ := h v List.mem_cons_self
    exact .cons x t (strs_tx vs fun u hu => h u (List.mem_cons_of_mem _ hu))
section
variable {P : Program} {w : World} {A : Around} {E : Value → Shared → Prop} {s : Shared} {a : Addr} {D : SD} {l : List Str}
theorem el_str {es : List (Int × Value)} (h : ElemsOf (strKind P w) es) : ∀ v ∈ es.map (·.2), ∃ x t, v = Value.str x t := fun v hv => by
  obtain ⟨e, he, rfl⟩ := List.mem_map.mp hv
  obtain ⟨⟨k, hk, _⟩, _⟩ := h e he
  obtain ⟨t, ht⟩ := Value.isStrOf_shape hk
  exact ⟨k, t, ht⟩
theorem Has.keys (T : Has P w s.heap a D l) : ((D.1.toList.map (·.2)).map txOf).Perm l := by
  refine perm_of_sub T.nd (fun x hx => ?_) ?_
  · obtain ⟨e, he, hp⟩ := (T.ok.mem x).mp hx
    obtain ⟨t, ht⟩ := Value.isStrOf_shape hp
    exact List.mem_map.mpr ⟨e.2, List.mem_map.mpr ⟨e, he, rfl⟩, by rw [ht]; rfl⟩
  · rw [List.length_map, List.length_map, Array.length_toList, T.ok.sz]; exact Nat.le_refl _
/-- sorted(found) -/
theorem Has.sorted {Q : Value → Shared → Prop} (T : Has P w s.heap a D l) (hh : A.handled = none) (hz : l.length < scanBound) (hq : l.length ≤ sizeLine)
    (q : ∀ s' p (out : Array Value) (c : Nat) (ys : List Str), (∀ b o, s.heap.get? b = some o → s'.heap.get? b = some o) → s'.gens = s.gens → s'.os = s.os → s.heap.objs.size ≤ p →
      s'.heap.get? p = some (seqObj "list" out c) → StrsAre out.toList ys → ys.Perm l → sortedS ys = true → Q (.ref p) s') :
    wpAny (model P w) A (call (.builtin "sorted") [.ref a]) Q E s := by
  obtain ⟨es, ep, t⟩ := D
  have e1 : es.size = l.length := T.ok.sz
  apply Calls.call_function_entry kind_sorted plain_sorted entry_sorted (args_sorted1 _)
  unfold Builtin.«sorted»
  apply wpAny_bind (m := checkCount "sorted" 1 1 _)
  apply wpAny_pure
  apply wpAny_bind
  refine collect_set (A := A.in1) hh ⟨_, T.obj, rfl, rfl⟩ T.ok.fit (by rw [e1]; exact hz) T.ris T.led fun s1 vs k1 k2 k3 k4 pm => ?_
  have hS : StrsAre vs (vs.map txOf) := strs_tx vs fun v hv => el_str T.ok.el v (pm.mem_iff.mp hv)
  have hp : (vs.map txOf).Perm l := (pm.map txOf).trans T.keys
  have hl : vs.length ≤ sizeLine := by have := hp.length_eq; rw [List.length_map] at this; omega
  apply wpAny_bind
  refine wpAny_newList ?_ hl
  have ho : (s1.heap.push (seqObj "list" vs.toArray 0)).get? s1.heap.objs.size = some (seqObj "list" vs.toArray 0) := Heap.get?_push_size _ rfl
  apply wpAny_bind
  apply wpAny_holding
  refine wpAny_call_entry slot_list_sort ⟨_, ho, rfl⟩ entry_list_sort (list_sort_treeKAny strKind_oneLt ho hS.keysOf (fun v₁ v₂ rest e => keyKind_strs (by rw [← e]; exact hS)) hl fun st' p1 p2 => ⟨_, rfl, ?_⟩) (args_list_sort _)
  obtain ⟨ys, y1, y2, y3⟩ := sorted_out_str hS p1 p2
  obtain ⟨c, hc⟩ := sortedHeap_at (vs := vs) (out := (arrOf st').map (·.2)) ho
  refine wpAny_pure ⟨_, rfl, q _ s1.heap.objs.size _ c ys (fun b u e => ?_) k3 k4 k2 hc y1 (y2.trans hp) y3⟩
  have z1 := k1 b u e
  have z2 := Heap.lt_size z1
  show (sortedHeap (s1.heap.push (seqObj "list" vs.toArray 0)) s1.heap.objs.size vs ((arrOf st').map (·.2))).get? b = some u
  rw [sortedHeap_old (Nat.ne_of_lt z2) (by rw [new_size]; exact Nat.lt_succ_of_lt z2)]
  exact Heap.get?_push_of_some _ z1
end
section
variable {X : Cx} {a : Expr} {te : TE} {p p2 q pos : Pos}
end
end Stx
end Kf
namespace Kf
open PySem PySem.Spec L2
open PyProof.Rows hiding St
/-! ### comprehensions over a list of things -/
section
variable {p : Pat} {ft : FT} {fe : FE} {ρ : DEnv} {O : Ow} {α β : Type}
theorem lcA_map (f g : α → D) : ∀ (xs : List α) (acc : List D) (Q : List D → Ow → Prop), acc.length + xs.length ≤ sizeLine →
    (∀ x ∈ xs, ∀ Q' : VD, Q' (g x) O → patGet (patD p (f x) ρ) fun ρ1 => fe ρ1 O Q') → Q (acc ++ xs.map g) O → lcD p fYes fe ρ (xs.map f) acc O Q
  | [], acc, Q, _, _, q => by simpa [lcD] using q
  | x :: xs, acc, Q, hl, hs, q => by
    rw [List.length_cons] at hl
    have z := hs x List.mem_cons_self (fun e O2 => acc.length < sizeLine ∧ lcD p fYes fe ρ (xs.map f) (acc ++ [e]) O2 Q) ⟨by omega, lcA_map f g xs _ Q (by rw [List.length_append, List.length_singleton]; omega) (fun d' hd => hs d' (List.mem_cons_of_mem _ hd)) (by simpa using q)⟩
    rw [List.map_cons]
    unfold lcD
    simpa [fYes] using z
theorem lcA_filter (b : α → Bool) (f g : α → D) : ∀ (xs : List α) (acc : List D) (Q : List D → Ow → Prop), acc.length + xs.length ≤ sizeLine →
    (∀ x ∈ xs, ∀ (Q1 : VD) (Q2 : Ow → Prop), (b x = true → Q1 (g x) O) → (b x = false → Q2 O) → patGet (patD p (f x) ρ) fun ρ1 => ft ρ1 O fun k O1 => if k = true then fe ρ1 O1 Q1 else Q2 O1) → Q (acc ++ (xs.filter b).map g) O → lcD p ft fe ρ (xs.map f) acc O Q
  | [], acc, Q, _, _, q => by simpa [lcD] using q
  | x :: xs, acc, Q, hl, hs, q => by
    rw [List.length_cons] at hl
    have z := hs x List.mem_cons_self (fun e O2 => acc.length < sizeLine ∧ lcD p ft fe ρ (xs.map f) (acc ++ [e]) O2 Q) (fun O2 => lcD p ft fe ρ (xs.map f) acc O2 Q)
      (fun hb => ⟨by omega, lcA_filter b f g xs _ Q (by rw [List.length_append, List.length_singleton]; omega) (fun d' hd => hs d' (List.mem_cons_of_mem _ hd)) (by simpa [List.filter_cons, hb] using q)⟩)
      (fun hb => lcA_filter b f g xs _ Q (by omega) (fun d' hd => hs d' (List.mem_cons_of_mem _ hd)) (by simpa [List.filter_cons, hb] using q))
    rw [List.map_cons]
    unfold lcD
    exact z
end
/-- a walk over a map, by places -/
theorem forA_ix {p : Pat} {gb : GS} {R : DEnds} {α : Type} (f : α → D) (I : List α → List α → DEnv → Ow → Prop) : ∀ (xs pre : List α) (ρ : DEnv) (O : Ow), I pre xs ρ O → (∀ ρ O, I (pre ++ xs) [] ρ O → R.nx ρ O) →
    (∀ pre' x rest, pre ++ xs = pre' ++ x :: rest → ∀ ρ O, I pre' (x :: rest) ρ O → ∀ N : DEnv → Ow → Prop, (∀ ρ O, I (pre' ++ [x]) rest ρ O → N ρ O) → patGet (patD p (f x) ρ) fun ρ1 => gb { R with nx := N, ct := N, bk := R.nx } ρ1 O) → forD p gb R (xs.map f) ρ O
  | [], pre, ρ, O, h, hd, _ => hd ρ O (by rw [List.append_nil]; exact h)
  | x :: xs, pre, ρ, O, h, hd, hs => by
    have q := hs pre x xs rfl ρ O h (forD p gb R (xs.map f)) fun ρ' O' h' => by
      refine forA_ix f I xs (pre ++ [x]) ρ' O' h' (fun ρ O z => hd ρ O ?_) fun pre' y rest e => hs pre' y rest ?_
      · simpa using z
      · rw [← e]; simp
    rw [List.map_cons]
    unfold forD
    exact q
end Kf
namespace Kf
open PySem PySem.Spec L2
open PyProof.Rows hiding St
section
variable {P : Program} {w : World} {K : PySem.W.Frag} {mg : Str → Option Value} {base : Heap} {CX : CXT} {f : Addr} {fd : FuncData} {ps : List Str} {k k' : Nat}
theorem fnUp {sp : Sp} (h : FnOk P w K mg base CX k f fd ps sp) (hk : k ≤ k') : FnOk P w K mg base CX k' f fd ps sp :=
  ⟨h.1, fun A outer s H args us vs Q E a b c d e => h.2 A outer s H args us vs Q E (a.mono hk) b c d e⟩
end
end Kf
namespace Kf
open PySem PySem.Spec L2
open PyProof.Rows hiding St
theorem gSeq_step {g u : GS} {R : DEnds} {ρ : DEnv} {O : Ow} (h : g { R with nx := u R } ρ O) : gSeq g u R ρ O := h
theorem rIx_any {xs : List D} {i : Int} {O : Ow} {Q : VD} (h0 : 0 ≤ i) (h1 : i < xs.length) (h : ∀ v ∈ xs, Q v O) : rIxD (.lst xs) (.int i) O Q := by
  obtain ⟨v, e1, e2⟩ := atI_some h0 h1
  rw [rIx_l e1]
  exact h v e2
end Kf
namespace Kf
open PySem PySem.Spec L2
open PyProof.Rows hiding St
local macro_rules | `(tactic| walk_at "kf") => `(tactic| simp (config := { failIfUnchanged := false }) only [startD, gSeq, gIf, gRet, gNext, gSet, gAsg, gDrop, gRetF, gRetN, gFor, gSetIx, gBreak, fTest, fOp, fVar, envGet_s, patGet_s, fC, fCB, fCons, fNil, fCall, fAnd, fOr, fNot, fAndV, fOrV, fNotV, fIf, fTup, fLst, fLstO, fChain, fUn, fBM, fBM0, fPool, rPool_i, fSl, fPart, fNoPart, asI_i, rSl_l, fiRng1, fiRng2, fiList, fiTup, fiStr, fiEnum, fiZip, fiRev, asL_l, asT_t, asSg_s, asR1_i, asR2_i, asL1_l, asL2_l, fLc, fLcO, fYes, wipeD, lcD, isi_i_int, isi_i_bool, isi_i_str, isi_i_tuple, isi_i_list, isi_i_dict, isi_b_int, isi_b_bool, isi_b_str, isi_b_tuple, isi_b_list, isi_b_dict, isi_s_int, isi_s_bool, isi_s_str, isi_s_tuple, isi_s_list, isi_s_dict, isi_t_int, isi_t_bool, isi_t_str, isi_t_tuple, isi_t_list, isi_t_dict, isi_l_int, isi_l_bool, isi_l_str, isi_l_tuple, isi_l_list, isi_l_dict, isi_n_int, isi_n_bool, isi_n_str, isi_n_tuple, isi_n_list, isi_n_dict, isi_d_int, isi_d_bool, isi_d_str, isi_d_tuple, isi_d_list, isi_d_dict,
  deref_tup, deref_lst, deref_int, deref_str, deref_bl, deref_non, deref_scr, rLt_i, rLt_s, rLe_i, rLe_s, rInts_i, rInts0_i, rAdd_i, rAdd_s, rAdd_l, rAdd_t, rCatO_l, rNeg_i, rLen_t, rLen_l, rLen_c, rLen_s, rMax_i, rMin_i, rInt_i, rInt_b, rDivmod_i, gAug, rStr_i, rList_l, rList_t, rListO_l, rListO_t, rTup_l, rTup_t,
  rIx_t0, rIx_t1, rIx_t2, rIx_t3, rIx_l0, rIx_l1, rIx_l2, rIsN_x, isNon_t, isNon_n, isNon_i, isNon_s, isNon_l, rEq_i, rEq_b, rEq_i2, rEq_b2, rJoin_m, rSplit_s, tyOk_l, tyOk_s, patD_nm, patD_tp, patDs_nil, patDs_cons, Option.bind_some, notX, notX',
  List.map_cons, List.map_nil, List.length_cons, List.length_nil, List.cons_append, List.nil_append, List.append_nil, List.replicate, List.getElem?_cons_zero, List.getElem?_cons_succ, List.set_cons_zero, List.set_cons_succ, updO_same, updO_updO,
  Nat.reduceSub, Nat.reduceAdd, Nat.reduceLeDiff, Nat.zero_add, Int.cast_ofNat_Int, Int.natCast_zero, Int.natCast_one, Int.reduceLT, Int.reduceLE, Int.reduceEq, Int.reduceAdd, Int.reduceSub, Int.reduceNeg, decide_true, decide_false, if_true, if_false, Bool.false_eq_true, eq_self, reduceIte, Bool.true_eq_false, decide_eq_true_eq, Bool.not_true, Bool.not_false, Bool.not_eq_true', decide_eq_false_iff_not, exists_eq_left', exists_eq_left, D.bl.injEq, true_and, and_true])
/-! ### how many kinds: the list of counts, grown by one -/
def nxt (xs : List Int) : Int := 2 * ((List.range (xs.length - 1)).map fun i => xs.getD (i + 1) 0 * xs.getD (xs.length - (i + 1)) 0).sum
def cl (m : Int) : Nat → List Int
  | 0 => [0, m + 1]
  | k + 1 => cl m k ++ [nxt (cl m k)]
/-- marks are one to four -/
def Small (m : Int) : Prop := m = 1 ∨ m = 2 ∨ m = 3 ∨ m = 4
/-- a text of small letters, by their places -/
def txt (ps : List Int) : Str := ⟨(ps.map fun n => 97 + n.toNat).toArray⟩
def Lets (ps : List Int) : Prop := ∀ n ∈ ps, 0 ≤ n ∧ n < 26
def IsMk (t : Str) : Prop := ∃ ps, t = txt ps ∧ 1 ≤ ps.length ∧ ps.length ≤ 6 ∧ Lets ps
/-- marks that are drawn: one to four unlike ones -/
def MarkL (ts : List Str) : Prop := 1 ≤ ts.length ∧ ts.length ≤ 4 ∧ ts.Nodup ∧ ∀ t ∈ ts, IsMk t
theorem IsMk.ok {t : Str} (h : IsMk t) : PyData.strOk t = true := by
  obtain ⟨ps, rfl, _, _, h⟩ := h
  unfold PyData.strOk txt
  simp only [List.all_toArray, List.all_eq_true, List.mem_map, decide_eq_true_eq]
  rintro c ⟨n, hn, rfl⟩
  have := h n hn
  omega
theorem str_ext {a b : Str} (h : a.cps.toList = b.cps.toList) : a = b := by
  cases a; cases b
  simp only [Str.mk.injEq]
  exact Array.toList_inj.mp h
abbrev abc : Str := "abcdefghijklmnopqrstuvwxyz"
theorem isPys_strs {us : List Str} (h : ∀ t ∈ us, PyData.strOk t = true) : isPys (us.map D.str) = true := by
  rw [isPys_all, List.all_eq_true]
  intro d hd
  obtain ⟨t, ht, rfl⟩ := List.mem_map.mp hd
  simp only [isPy]; exact h t ht
/-! ### the catalogue: all kinds of so many leaves, in order -/
def prs (xs ys : List Kd) : List Kd := (xs.flatMap fun a => ys.map (Kd.to a)) ++ (xs.flatMap fun a => ys.map (Kd.both a))
def nxK (ls : List (List Kd)) : List Kd := (List.range (ls.length - 1)).flatMap fun i => prs (ls.getD (i + 1) []) (ls.getD (ls.length - (i + 1)) [])
def al (ms : List Str) : Nat → List (List Kd)
  | 0 => [[], ms.map .mk ++ [.one]]
  | k + 1 => al ms k ++ [nxK (al ms k)]
def A (ms : List Str) (n : Nat) : List Kd := (al ms 9).getD n []
def pre {α : Type} (f : Nat → List α) (i : Nat) : Nat := ((List.range i).map fun t => (f t).length).sum
abbrev blkF (ms : List Str) (n : Nat) : Nat → List Kd := fun i => prs (A ms (i + 1)) (A ms (n - (i + 1)))
/-! the number of a kind -/
def Kd.over (ms : List Str) : Kd → Prop
  | .mk m => m ∈ ms
  | .one => True
  | .to a b => a.over ms ∧ b.over ms
  | .both a b => a.over ms ∧ b.over ms
def place (ms : List Str) : Kd → Nat
  | .mk m => ms.idxOf m
  | .one => ms.length
  | .to a b => pre (blkF ms (a.leaves + b.leaves)) (a.leaves - 1) + place ms a * (A ms b.leaves).length + place ms b
  | .both a b => pre (blkF ms (a.leaves + b.leaves)) (a.leaves - 1) + (A ms a.leaves).length * (A ms b.leaves).length + place ms a * (A ms b.leaves).length + place ms b
/-! ### what the catalogue's defs are asked and answer -/
theorem Small.mem {m : Int} (h : Small m) : m ∈ [(1 : Int), 2, 3, 4] := by rcases h with rfl | rfl | rfl | rfl <;> simp
def spLeaves (n : Nat) : DSp := fun ds O R _ => ∃ k : Kd, ds = [dK k] ∧ k.depth < n ∧ R (.int k.leaves) O
theorem over_ok {ms : List Str} (h : ∀ t ∈ ms, PyData.strOk t = true) : ∀ k : Kd, k.over ms → k.ok = true
  | .mk m, ho => h m ho
  | .one, _ => rfl
  | .to a b, ho => by simp [Kd.ok, over_ok h a ho.1, over_ok h b ho.2]
  | .both a b, ho => by simp [Kd.ok, over_ok h a ho.1, over_ok h b ho.2]
/-! ### the words of kinds -/
theorem any_strs (z : Str) : ∀ ts : List Str, (ts.map D.str).any (fun d => deq d (.str z)) = decide (z ∈ ts)
  | [] => by simp
  | t :: ts => by
    rw [List.map_cons, List.any_cons, any_strs z ts, deq_s]
    by_cases h : t = z
    · subst h; simp
    · have h' : ¬ z = t := fun q => h q.symm
      simp [h, h']
theorem rIn_strs {z : Str} {ts : List Str} {O : Ow} {Q : VD} {neg : Bool} (hz : PyData.strOk z = true) (h : ∀ t ∈ ts, PyData.strOk t = true) : rInD neg (.str z) (.lst (ts.map .str)) O Q = Q (.bl (neg ^^ decide (z ∈ ts))) O := by
  have e := any_strs z ts
  simp only [deq] at e
  simp only [rInD, deref, isPy, hz, isPys_strs h, dpS, true_and, e, Nat.zero_le]
def Kd.marks : Kd → List Str
  | .mk m => [m]
  | .one => []
  | .to a b => a.marks ++ b.marks
  | .both a b => a.marks ++ b.marks
end Kf
namespace Kf
open PySem PySem.Spec L2
open PyProof.Rows hiding St
/-! ### trees of worlds -/
inductive Tr where
  | nd (ms : List Str) (ts : List Tr)
def Tr.ms : Tr → List Str
  | .nd ms _ => ms
mutual
def subs : Tr → List Tr
  | .nd ms ts => .nd ms ts :: subss ts
def subss : List Tr → List Tr
  | [] => []
  | t :: ts => subs t ++ subss ts
end
mutual
def Tr.dep : Tr → Nat
  | .nd _ ts => deps ts + 1
def deps : List Tr → Nat
  | [] => 0
  | t :: ts => max t.dep (deps ts)
end
/-! what put_worlds writes: marks, and the place behind the last one above -/
mutual
def ws : Tr → Nat → List (List Str × Nat)
  | .nd ms ts, n => (ms, n + (subs (.nd ms ts)).length) :: wss ts (n + 1)
def wss : List Tr → Nat → List (List Str × Nat)
  | [], _ => []
  | t :: ts, n => ws t n ++ wss ts (n + (subs t).length)
end
/-! ### what holds -/
mutual
def MonoT : Tr → Prop
  | .nd ms ts => MonoTs ms ts
def MonoTs : List Str → List Tr → Prop
  | _, [] => True
  | ms, t :: ts => (∀ m ∈ ms, m ∈ t.ms) ∧ MonoT t ∧ MonoTs ms ts
end
/-! ### the search for what is amiss -/
/-- the first place from i on where something is amiss -/
def fb (bad : List Bool) (i : Nat) : Nat := i + (bad.drop i).findIdx id
def TrOk (t : Tr) : Prop := (subs t).length ≤ 1000 ∧ ∀ s ∈ subs t, ∀ m ∈ s.ms, PyData.strOk m = true
end Kf
namespace Kf
open PySem PySem.Spec L2
open PyProof.Rows hiding St
end Kf
namespace Kf
open PySem PySem.Spec L2
open PyProof.Rows hiding St
/-! ### sorted texts -/
/-- strictly rising -/
def Up (l : List Str) : Prop := l.Pairwise fun a b => a.cps.toList < b.cps.toList
theorem Up.sub {l l' : List Str} (h : Up l) (s : l'.Sublist l) : Up l' := List.Pairwise.sublist s h
/-! ### the law's trees -/
structure GoodT (ms : List Str) (had : List Str) (r : Nat) (t : Tr) : Prop where
  mono : MonoT t
  had : ∀ m ∈ had, m ∈ t.ms
  over : ∀ s ∈ subs t, s.ms.Sublist ms
  size : (subs t).length < 2 ^ (r + 1)
  dep : t.dep ≤ r + 1
theorem GoodT.ok {ms ms' had : List Str} {r : Nat} {t : Tr} (h : GoodT ms' had r t) (hp : ms'.Perm ms) (hm : MarkL ms) (hr : r ≤ 8) : TrOk t := by
  refine ⟨?_, fun s hs m hm' => (hm.2.2.2 m (hp.mem_iff.mp ((h.over s hs).mem hm'))).ok⟩
  have := h.size
  have : 2 ^ (r + 1) ≤ 2 ^ 9 := Nat.pow_le_pow_right (by decide) (by omega)
  omega
end Kf
/-! Dl33: sorted(set(xs)) over data; == of a thing and one alike, empty dicts within. -/
namespace Kf
open PySem PySem.Spec L2
open PyProof.Rows hiding St
variable {M : MX}
/-! ### sorted(set(xs)) -/
section
variable {X : Cx} {a : Expr} {fa : FE} {p p2 q pos : Pos}
end
/-! ### a thing and one alike -/
section
variable {X : Cx} {pins : List (Addr × Obj)} {σ : St} {H : Hp} {s : Shared}
open SeqAt
end
section
variable {X : Cx} {pins : List (Addr × Obj)} {σ : St} {H : Hp} {s : Shared}
open SeqAt
end
section
variable {X : Cx}
end
/-! what has no owned list in it is read as it is -/
end Kf
/-! Dl34: is True, is False, is not .. of a truth. -/
namespace Kf
open PySem PySem.Spec L2
open PyProof.Rows hiding St
variable {M : MX}
def rIsB (neg : Bool) : R2D := fun x y O Q => match x, y with
  | .bl a, .bl b => Q (.bl (neg ^^ decide (a = b))) O
  | _, _ => False
theorem rIsB_b {neg a b : Bool} {O : Ow} {Q : VD} : rIsB neg (.bl a) (.bl b) O Q = Q (.bl (neg ^^ decide (a = b))) O := rfl
section
variable {X : Cx}
theorem od_isnotB : OpD M X (compareOp .IsNot) (rIsB true) := by
  intro pins s σ H x y v u Q I rx ry q
  obtain ⟨F, O, P, dx, dy, R, g, r1, r2, q, po⟩ := q
  unfold rIsB at q
  split at q <;> first | exact q.elim | skip
  rename_i a b
  simp only [Rep] at r1 r2
  subst r1 r2
  cases rx; cases ry
  have z := po.at g q (v := .bl (!decide (a = b))) (by simp only [Rep, Bool.true_xor])
  cases a <;> cases b <;> exact wpAny_bind (wpAny_pure (wpAny_pure ⟨.bl _, H, I, rfl, z⟩))
end
end Kf
/-! Dl35: walks along lists that may be owned and stay as they are: for, comprehensions; zip and enumerate of such. -/
namespace Kf
open PySem PySem.Spec L2
open PyProof.Rows hiding St
variable {M : MX}
abbrev FJ := DEnv → Ow → (List (Addr × List D) → List D → Ow → Prop) → Prop
section
variable {X : Cx} {tg iter l e e2 : Expr} {fl : FE} {fr : FA} {p tpos pos : Pos} {elts : List Expr} {kk : Nat}
/-! ### for -/
end
/-! ### comprehensions -/
section
variable {X : Cx} {elt tg iter : Expr} {ifs : List Expr} {scope : Scope} {own : List (Str × Nat)} {pos : Pos} {fi : FJ} {p : Pat} {ft : FT} {fe : FE}
end
end Kf
/-! Dl36: every seventh thing of a list, xs[::7]. -/
namespace Kf
open PySem PySem.Spec L2
open PyProof.Rows hiding St
variable {M : MX}
section
variable {X : Cx} {e st : Expr} {fa : FE} {te : TE} {tst : TO} {fs : FO} {pos p2 : Pos}
end
end Kf
/-! Dl37: a list of any things compared with the empty list. -/
namespace Kf
open PySem PySem.Spec L2
open PyProof.Rows hiding St
section
variable {X : Cx} {pins : List (Addr × Obj)} {σ : St} {H : Hp} {s : Shared}
open SeqAt
end
section
variable {X : Cx}
end
/-! slices of a tuple, the whole of it too -/
def rSlAD : R3D := fun x lo hi O Q => match x with
  | .tup ds => Q (.tup (cut ds lo hi)) O
  | _ => False
theorem rSlA_t {xs : List D} {lo hi : Option Int} {O : Ow} {Q : VD} : rSlAD (.tup xs) lo hi O Q = Q (.tup (cut xs lo hi)) O := rfl
theorem cut_whole {α : Type} {xs : List α} {lo hi : Option Int} (h : HT.sIx xs.length 0 lo = 0 ∧ HT.sIx xs.length xs.length hi = xs.length) : cut xs lo hi = xs := by
  unfold cut
  rw [h.1, h.2]
  simp
section
variable {X : Cx}
theorem sd_slA : SlR X (liftR3 M X.K rSlAD) := by
  intro pins s σ H x v vl vu lo hi sl Q I rx hs pl pu q
  obtain ⟨F, O, P, dx, R, g, r1, q, po⟩ := q
  cases dx <;> first | exact q.elim | skip
  rename_i ds
  have r0 := r1
  simp only [Rep] at r1
  obtain ⟨c, xs, rfl, h1, h2⟩ := r1
  refine sl_tupA pins s σ H _ v vl vu lo hi sl Q I rx hs pl pu ⟨c, xs, rfl, Same.seqT g.fz h1, fun hw => ?_, fun _ p hp => po.tup g q (h2.cut lo hi) hp⟩
  have e : cut ds lo hi = ds := cut_whole (by rw [h2.length]; exact hw)
  refine po.at g q ?_
  rw [e]
  exact r0
end
end Kf
/-! Dl38: an empty dict is no text; a pair with one in it is in no list of pairs of texts and numbers. -/
namespace Kf
open PySem PySem.Spec L2
open PyProof.Rows hiding St
section
open AutoSeq1 (wpAny_loadPart')
open MeetsSeq SeqAt
variable {A : Around} {s : Shared}
end
section
variable {X : Cx}
open SeqAt
end
end Kf
/-! Dl39: a statement that is read in one of two ways (a walk along a list or a tuple). -/
namespace Kf
open PySem PySem.Spec L2
open PyProof.Rows hiding St
section
variable {X : Cx} {M : MX} {st : Stmt} {g1 g2 : GS}
end
end Kf
/-! Dl40: text.isalpha(). -/
namespace Kf
open PySem PySem.Spec L2
open PyProof.Rows hiding St
section
variable {M : MX} {X : Cx}
end
end Kf
/-! Dl41: a, b = x, y with plain local names. -/
namespace Kf
open PySem PySem.Spec L2
open PyProof.Rows hiding St
def gPar (i j : Nat) (fa : FA) : GS := fun R ρ O => fa ρ O fun ds O1 => match ds with
  | [d, e] => R.nx ((ρ.set i (some d)).set j (some e)) O1
  | _ => False
theorem ap_gPar {i j : Nat} {fa : FA} {R : DEnds} {ρ : DEnv} {O : Ow} : gPar i j fa R ρ O = fa ρ O (fun ds O1 => match ds with | [d, e] => R.nx ((ρ.set i (some d)).set j (some e)) O1 | _ => False) := rfl
section
variable {M : MX} {X : Cx} {pos : Pos}
end
end Kf
/-! Dl42: a list comprehension out of which an exception flies. -/
namespace Kf
open PySem PySem.Spec L2
open PyProof.Rows hiding St
variable {M : MX}

/-! ### the way out of a block -/
section
variable {X : Cx} {W : WX} {pins : List (Addr × Obj)} {σ : L2.St} {H3 : Hp} {s3 : Shared} {scope : Scope} {ce : Env} {fp : List Addr} {xe : Value → Shared → Prop} {use : Option (Value → Sem Unit)} {Qf : Value → Shared → Prop} {D : Addr}
end
section
variable {X : Cx} {W : WX} {elt tg iter : Expr} {ifs : List Expr} {scope : Scope} {own : List (Str × Nat)} {pos pos' : Pos} {wi : TI} {g : TG} {tt : TT} {use : Option (Value → Sem Unit)}
end
end Kf
/-! Dl43: such a comprehension, over data. -/
namespace Kf
open PySem PySem.Spec L2
open PyProof.Rows hiding St
variable {M : MX}
section
variable {X : Cx} {RX : XW} {W : WX} {e : Expr} {es : List Expr} {fr : FA} {k : Nat} {f : Addr} {fd : FuncData} {ps : List Str} {dsp : DSp} {x : Str} {st : Stmt} {p pos : Pos}
end
section
variable {fi : FI} {p : Pat} {ft : FT} {fe : XW → FE} {RX : XW} {W : WX}
end
section
variable {X : Cx} {elt tg iter : Expr} {ifs : List Expr} {scope : Scope} {own : List (Str × Nat)} {pos : Pos} {fi : FI} {p : Pat} {ft : FT} {fe : XW → FE} {RX : XW} {W : WX} {vs : List Nat}
end
section
variable {fi : FI} {p : Pat} {ft : FT} {fe : XW → FE} {RX : XW} {vs : List Nat} {ρ : DEnv} {O : Ow} {Q : VD}
end
end Kf
/-! Dl44: a def that keeps two promises keeps either. -/
namespace Kf
open PySem PySem.Spec L2
open PyProof.Rows hiding St
theorem fnOr {P : Program} {w : World} {K : PySem.W.Frag} {mg : Str → Option Value} {base : Heap} {CX : CXT} {k : Nat} {f : Addr} {fd : FuncData} {ps : List Str} {s1 s2 : DSp} (F1 : FnOk P w K mg base CX k f fd ps (liftSp K s1)) (F2 : FnOk P w K mg base CX k f fd ps (liftSp K s2)) :
    FnOk P w K mg base CX k f fd ps (liftSp K fun ds O R RE => s1 ds O R RE ∨ s2 ds O R RE) := by
  refine ⟨fun vs H Q E h => ?_, fun A outer s H args us vs Q E hr he hb hv h => ?_⟩
  · obtain ⟨F, O, P', ds, R, RE, g, r, q, po, px⟩ := h
    rcases q with q | q
    · exact F1.len vs H Q E ⟨F, O, P', ds, R, RE, g, r, q, po, px⟩
    · exact F2.len vs H Q E ⟨F, O, P', ds, R, RE, g, r, q, po, px⟩
  · obtain ⟨F, O, P', ds, R, RE, g, r, q, po, px⟩ := h
    rcases q with q | q
    · exact F1.run A outer s H args us vs Q E hr he hb hv ⟨F, O, P', ds, R, RE, g, r, q, po, px⟩
    · exact F2.run A outer s H args us vs Q E hr he hb hv ⟨F, O, P', ds, R, RE, g, r, q, po, px⟩
end Kf
namespace Kf
open PySem PySem.Spec L2
open PyProof.Rows hiding St
def topS (i : Nat) : Stmt := PySem.Challenge.pw_kindfill_k44_rings_let_by.main.body.getD i (.Pass ⟨0, 0, 0, 0⟩)
/-! ### is_mark -/
abbrev s_is_mark : Stmt := topS 7
abbrev N_is_mark : List Str := ["text", "sign"]
abbrev P_is_mark : List Str := ["text"]
theorem sc_is_mark : FnScope N_is_mark P_is_mark (defScope s_is_mark) := ⟨rfl, rfl, rfl, by decide +kernel, rfl, by decide +kernel, by decide +kernel⟩
def g_is_mark (d_LETTERS d_LONGEST : D) : GS :=
  (gSeq (gFor (fiStr (fVar 0)) (.nm 1) (gIf (fTest (fOp (rInD true) (fVar 1) (fC d_LETTERS))) (gRet (fC (.bl false))) gNext)) (gRet (fChain rLeD rLeD (fC (.int 1)) (fCB rLenD (fCons (fVar 0) fNil)) (fC d_LONGEST))))
theorem der_is_mark {P : Program} {w : World} {K : PySem.W.Frag} {mg : Str → Option Value} {base : Heap} {k : Nat} {f : Addr} {d_LETTERS d_LONGEST : D} (m_len : mg "len" = none) (c_LETTERS : Cst K mg "LETTERS" d_LETTERS) (c_LONGEST : Cst K mg "LONGEST" d_LONGEST)
    (cdv : Value) (A : Around) (outer : List Env) (s : Shared) (H : Hp) (E : XK) (hr : Room k (A.deeper (envOfC "is_mark" (defScope s_is_mark) s.heap.objs.size f cdv))) :
    DSs MT (cxOf CX0 P w K mg base N_is_mark "is_mark" (defScope s_is_mark) f cdv A outer s H E).nox (defBody s_is_mark) (g_is_mark d_LETTERS d_LONGEST) :=
  (dss_cons (ds_for PassesOwn.never rfl (di_str (de_var 0)) (dp_name (i := 1) sc_is_mark.nd (by rfl) (by first | exact Or.inl rfl | exact Or.inr rfl)) (dss_one (ds_if (dt_cmp (od_notin hr.u200) (de_var 1) (de_cst c_LETTERS (by rfl)) (by rfl)) (dss_one (ds_ret de_bl)) dss_nil))) (dss_one (ds_ret (de_chain od_le od_le de_int (de_callB cd_len (by rfl) m_len bb_len (da_cons (de_var 0) da_nil)) (de_cst c_LONGEST (by rfl))))))
/-! ### is_number -/
abbrev s_is_number : Stmt := topS 8
abbrev N_is_number : List Str := ["text", "sign"]
abbrev P_is_number : List Str := ["text"]
theorem sc_is_number : FnScope N_is_number P_is_number (defScope s_is_number) := ⟨rfl, rfl, rfl, by decide +kernel, rfl, by decide +kernel, by decide +kernel⟩
def g_is_number (d_FIGURES : D) : GS :=
  (gSeq (gFor (fiStr (fVar 0)) (.nm 1) (gIf (fTest (fOp (rInD true) (fVar 1) (fC d_FIGURES))) (gRet (fC (.bl false))) gNext)) (gRet (fOrV (fOp (rEqD false) (fVar 0) (fC (.str "0"))) (fAndV (fOp (rEqD true) (fVar 0) (fC (.str ""))) (fOp (rEqD true) (fOp rIxD (fVar 0) (fC (.int 0))) (fC (.str "0")))))))
theorem der_is_number {P : Program} {w : World} {K : PySem.W.Frag} {mg : Str → Option Value} {base : Heap} {k : Nat} {f : Addr} {d_FIGURES : D} (c_FIGURES : Cst K mg "FIGURES" d_FIGURES)
    (cdv : Value) (A : Around) (outer : List Env) (s : Shared) (H : Hp) (E : XK) (hr : Room k (A.deeper (envOfC "is_number" (defScope s_is_number) s.heap.objs.size f cdv))) :
    DSs MT (cxOf CX0 P w K mg base N_is_number "is_number" (defScope s_is_number) f cdv A outer s H E).nox (defBody s_is_number) (g_is_number d_FIGURES) :=
  (dss_cons (ds_for PassesOwn.never rfl (di_str (de_var 0)) (dp_name (i := 1) sc_is_number.nd (by rfl) (by first | exact Or.inl rfl | exact Or.inr rfl)) (dss_one (ds_if (dt_cmp (od_notin hr.u200) (de_var 1) (de_cst c_FIGURES (by rfl)) (by rfl)) (dss_one (ds_ret de_bl)) dss_nil))) (dss_one (ds_ret (de_or (de_cmp (od_eq hr.u200) (de_var 0) de_str (nomark _)) (de_one (de_and (de_cmp (od_ne hr.u200) (de_var 0) de_str (nomark _)) (de_one (de_cmp (od_ne hr.u200) (de_ix (de_var 0) de_int) de_str (nomark _)))))))))
/-! ### is_name -/
abbrev s_is_name : Stmt := topS 9
abbrev N_is_name : List Str := ["text"]
abbrev P_is_name : List Str := ["text"]
theorem sc_is_name : FnScope N_is_name P_is_name (defScope s_is_name) := ⟨rfl, rfl, rfl, by decide +kernel, rfl, by decide +kernel, by decide +kernel⟩
def g_is_name (sp_is_mark sp_is_number : DSp) : GS :=
  (gSeq (gIf (fTest (fCall sp_is_mark (fCons (fVar 0) fNil))) (gRet (fC (.bl true))) gNext) (gRet (fAndV (fOp (rEqD false) (fSl rSlD (fVar 0) fNoPart (fPart (fC (.int 1)))) (fC (.str "x"))) (fAndV (fOp rLeD (fCB rLenD (fCons (fVar 0) fNil)) (fC (.int 3))) (fCall sp_is_number (fCons (fSl rSlD (fVar 0) (fPart (fC (.int 1))) fNoPart) fNil))))))
theorem der_is_name {P : Program} {w : World} {K : PySem.W.Frag} {mg : Str → Option Value} {base : Heap} {k : Nat} {f : Addr} {sp_is_mark sp_is_number : DSp} {a_is_mark : Addr} {fd_is_mark : FuncData} (n_is_mark : Fn K mg "is_mark" s_is_mark P_is_mark a_is_mark fd_is_mark) (G_is_mark : FnOk P w K mg base CX0 k a_is_mark fd_is_mark P_is_mark (liftSp K sp_is_mark)) {a_is_number : Addr} {fd_is_number : FuncData} (n_is_number : Fn K mg "is_number" s_is_number P_is_number a_is_number fd_is_number) (G_is_number : FnOk P w K mg base CX0 k a_is_number fd_is_number P_is_number (liftSp K sp_is_number)) (m_len : mg "len" = none)
    (cdv : Value) (A : Around) (outer : List Env) (s : Shared) (H : Hp) (E : XK) (hr : Room k (A.deeper (envOfC "is_name" (defScope s_is_name) s.heap.objs.size f cdv))) :
    DSs MT (cxOf CX0 P w K mg base N_is_name "is_name" (defScope s_is_name) f cdv A outer s H E).nox (defBody s_is_name) (g_is_name sp_is_mark sp_is_number) :=
  (dss_cons (ds_if (dt_val (de_callN n_is_mark G_is_mark hr (by rfl) (da_cons (de_var 0) da_nil))) (dss_one (ds_ret de_bl)) dss_nil) (dss_one (ds_ret (de_and (de_cmp (od_eq hr.u200) (de_slice (de_var 0) do_none (do_some de_int)) de_str (nomark _)) (de_and (de_cmp od_le (de_callB cd_len (by rfl) m_len bb_len (da_cons (de_var 0) da_nil)) de_int (nomark _)) (de_one (de_callN n_is_number G_is_number hr (by rfl) (da_cons (de_slice (de_var 0) (do_some de_int) do_none) da_nil))))))))
/-! ### has_form -/
abbrev s_has_form : Stmt := topS 14
abbrev N_has_form : List Str := ["thing", "room"]
abbrev P_has_form : List Str := ["thing", "room"]
theorem sc_has_form : FnScope N_has_form P_has_form (defScope s_has_form) := ⟨rfl, rfl, rfl, by decide +kernel, rfl, by decide +kernel, by decide +kernel⟩
def g_has_form (sp_is_mark sp_has_form : DSp) (d_ONE : D) : GS :=
  (gSeq (gIf (fOr (fNot (fTest (fCB rIsiD (fCons (fVar 0) (fCons (fC (.ty "tuple")) fNil))))) (fTest (fOp rLtD (fVar 1) (fC (.int 0))))) (gRet (fC (.bl false))) gNext) (gSeq (gIf (fTest (fOp (rEqD false) (fCB rLenD (fCons (fVar 0) fNil)) (fC (.int 1)))) (gRet (fOp (rEqD false) (fVar 0) (fC d_ONE))) gNext) (gSeq (gIf (fTest (fOp (rEqD false) (fCB rLenD (fCons (fVar 0) fNil)) (fC (.int 2)))) (gRet (fAndV (fOp (rEqD false) (fOp rIxD (fVar 0) (fC (.int 0))) (fC (.str "mark"))) (fAndV (fCB rIsiD (fCons (fOp rIxD (fVar 0) (fC (.int 1))) (fCons (fC (.ty "str")) fNil))) (fCall sp_is_mark (fCons (fOp rIxD (fVar 0) (fC (.int 1))) fNil))))) gNext) (gSeq (gIf (fOr (fTest (fOp (rEqD true) (fCB rLenD (fCons (fVar 0) fNil)) (fC (.int 3)))) (fTest (fOp (rInD true) (fOp rIxD (fVar 0) (fC (.int 0))) (fTup (fCons (fC (.str "to")) (fCons (fC (.str "both")) fNil)))))) (gRet (fC (.bl false))) gNext) (gRet (fAndV (fCall sp_has_form (fCons (fOp rIxD (fVar 0) (fC (.int 1))) (fCons (fOp rSubD (fVar 1) (fC (.int 1))) fNil))) (fCall sp_has_form (fCons (fOp rIxD (fVar 0) (fC (.int 2))) (fCons (fOp rSubD (fVar 1) (fC (.int 1))) fNil)))))))))
theorem der_has_form {P : Program} {w : World} {K : PySem.W.Frag} {mg : Str → Option Value} {base : Heap} {k : Nat} {f : Addr} {sp_is_mark sp_has_form : DSp} {d_ONE : D} {a_is_mark : Addr} {fd_is_mark : FuncData} (n_is_mark : Fn K mg "is_mark" s_is_mark P_is_mark a_is_mark fd_is_mark) (G_is_mark : FnOk P w K mg base CX0 k a_is_mark fd_is_mark P_is_mark (liftSp K sp_is_mark)) {a_has_form : Addr} {fd_has_form : FuncData} (n_has_form : Fn K mg "has_form" s_has_form P_has_form a_has_form fd_has_form) (G_has_form : FnOk P w K mg base CX0 k a_has_form fd_has_form P_has_form (liftSp K sp_has_form)) (m_tuple : mg "tuple" = none) (m_isinstance : mg "isinstance" = none) (m_len : mg "len" = none) (m_str : mg "str" = none) (c_ONE : Cst K mg "ONE" d_ONE)
    (cdv : Value) (A : Around) (outer : List Env) (s : Shared) (H : Hp) (E : XK) (hr : Room k (A.deeper (envOfC "has_form" (defScope s_has_form) s.heap.objs.size f cdv))) :
    DSs MT (cxOf CX0 P w K mg base N_has_form "has_form" (defScope s_has_form) f cdv A outer s H E).nox (defBody s_has_form) (g_has_form sp_is_mark sp_has_form d_ONE) :=
  (dss_cons (ds_if (dt_of (dw_or (dt_not (dt_val (de_callB cd_isi (by rfl) m_isinstance bb_isinstance (da_cons (de_var 0) (da_cons (de_ty bb_tuple m_tuple (by rfl)) da_nil))))) (dw_or1 (dt_cmp od_lt (de_var 1) de_int (nomark _))))) (dss_one (ds_ret de_bl)) dss_nil) (dss_cons (ds_if (dt_cmp (od_eq hr.u200) (de_callB cd_len (by rfl) m_len bb_len (da_cons (de_var 0) da_nil)) de_int (nomark _)) (dss_one (ds_ret (de_cmp (od_eq hr.u200) (de_var 0) (de_cst c_ONE (by rfl)) (nomark _)))) dss_nil) (dss_cons (ds_if (dt_cmp (od_eq hr.u200) (de_callB cd_len (by rfl) m_len bb_len (da_cons (de_var 0) da_nil)) de_int (nomark _)) (dss_one (ds_ret (de_and (de_cmp (od_eq hr.u200) (de_ix (de_var 0) de_int) de_str (nomark _)) (de_and (de_callB cd_isi (by rfl) m_isinstance bb_isinstance (da_cons (de_ix (de_var 0) de_int) (da_cons (de_ty bb_str m_str (by rfl)) da_nil))) (de_one (de_callN n_is_mark G_is_mark hr (by rfl) (da_cons (de_ix (de_var 0) de_int) da_nil))))))) dss_nil) (dss_cons (ds_if (dt_of (dw_or (dt_cmp (od_ne hr.u200) (de_callB cd_len (by rfl) m_len bb_len (da_cons (de_var 0) da_nil)) de_int (nomark _)) (dw_or1 (dt_cmp (od_notin hr.u200) (de_ix (de_var 0) de_int) (de_tup (da_cons de_str (da_cons de_str da_nil))) (by rfl))))) (dss_one (ds_ret de_bl)) dss_nil) (dss_one (ds_ret (de_and (de_callN n_has_form G_has_form hr (by rfl) (da_cons (de_ix (de_var 0) de_int) (da_cons (de_op od_sub (de_var 1) de_int) da_nil))) (de_one (de_callN n_has_form G_has_form hr (by rfl) (da_cons (de_ix (de_var 0) de_int) (da_cons (de_op od_sub (de_var 1) de_int) da_nil)))))))))))
/-! ### is_kind -/
abbrev s_is_kind : Stmt := topS 15
abbrev N_is_kind : List Str := ["thing"]
abbrev P_is_kind : List Str := ["thing"]
theorem sc_is_kind : FnScope N_is_kind P_is_kind (defScope s_is_kind) := ⟨rfl, rfl, rfl, by decide +kernel, rfl, by decide +kernel, by decide +kernel⟩
def g_is_kind (sp_has_form sp_leaves_of : DSp) (d_MOST_DEPTH d_MOST_LEAVES : D) : GS :=
  (gRet (fAndV (fCall sp_has_form (fCons (fVar 0) (fCons (fC d_MOST_DEPTH) fNil))) (fOp rLeD (fCall sp_leaves_of (fCons (fVar 0) fNil)) (fC d_MOST_LEAVES))))
theorem der_is_kind {P : Program} {w : World} {K : PySem.W.Frag} {mg : Str → Option Value} {base : Heap} {k : Nat} {f : Addr} {sp_has_form sp_leaves_of : DSp} {d_MOST_DEPTH d_MOST_LEAVES : D} {a_has_form : Addr} {fd_has_form : FuncData} (n_has_form : Fn K mg "has_form" s_has_form P_has_form a_has_form fd_has_form) (G_has_form : FnOk P w K mg base CX0 k a_has_form fd_has_form P_has_form (liftSp K sp_has_form)) {a_leaves_of : Addr} {fd_leaves_of : FuncData} (n_leaves_of : Fn K mg "leaves_of" s_leaves_of P_leaves_of a_leaves_of fd_leaves_of) (G_leaves_of : FnOk P w K mg base CX0 k a_leaves_of fd_leaves_of P_leaves_of (liftSp K sp_leaves_of)) (c_MOST_DEPTH : Cst K mg "MOST_DEPTH" d_MOST_DEPTH) (c_MOST_LEAVES : Cst K mg "MOST_LEAVES" d_MOST_LEAVES)
    (cdv : Value) (A : Around) (outer : List Env) (s : Shared) (H : Hp) (E : XK) (hr : Room k (A.deeper (envOfC "is_kind" (defScope s_is_kind) s.heap.objs.size f cdv))) :
    DSs MT (cxOf CX0 P w K mg base N_is_kind "is_kind" (defScope s_is_kind) f cdv A outer s H E).nox (defBody s_is_kind) (g_is_kind sp_has_form sp_leaves_of d_MOST_DEPTH d_MOST_LEAVES) :=
  (dss_one (ds_ret (de_and (de_callN n_has_form G_has_form hr (by rfl) (da_cons (de_var 0) (da_cons (de_cst c_MOST_DEPTH (by rfl)) da_nil))) (de_one (de_cmp od_le (de_callN n_leaves_of G_leaves_of hr (by rfl) (da_cons (de_var 0) da_nil)) (de_cst c_MOST_LEAVES (by rfl)) (nomark _))))))
/-! ### leaves_of -/
abbrev s_leaves_of : Stmt := topS 16
abbrev N_leaves_of : List Str := ["kind"]
abbrev P_leaves_of : List Str := ["kind"]
theorem sc_leaves_of : FnScope N_leaves_of P_leaves_of (defScope s_leaves_of) := ⟨rfl, rfl, rfl, by decide +kernel, rfl, by decide +kernel, by decide +kernel⟩
def g_leaves_of (sp_leaves_of : DSp) : GS :=
  (gSeq (gIf (fTest (fOp rLtD (fCB rLenD (fCons (fVar 0) fNil)) (fC (.int 3)))) (gRet (fC (.int 1))) gNext) (gRet (fOp rAddD (fCall sp_leaves_of (fCons (fOp rIxD (fVar 0) (fC (.int 1))) fNil)) (fCall sp_leaves_of (fCons (fOp rIxD (fVar 0) (fC (.int 2))) fNil)))))
theorem der_leaves_of {P : Program} {w : World} {K : PySem.W.Frag} {mg : Str → Option Value} {base : Heap} {k : Nat} {f : Addr} {sp_leaves_of : DSp} {a_leaves_of : Addr} {fd_leaves_of : FuncData} (n_leaves_of : Fn K mg "leaves_of" s_leaves_of P_leaves_of a_leaves_of fd_leaves_of) (G_leaves_of : FnOk P w K mg base CX0 k a_leaves_of fd_leaves_of P_leaves_of (liftSp K sp_leaves_of)) (m_len : mg "len" = none)
    (cdv : Value) (A : Around) (outer : List Env) (s : Shared) (H : Hp) (E : XK) (hr : Room k (A.deeper (envOfC "leaves_of" (defScope s_leaves_of) s.heap.objs.size f cdv))) :
    DSs MT (cxOf CX0 P w K mg base N_leaves_of "leaves_of" (defScope s_leaves_of) f cdv A outer s H E).nox (defBody s_leaves_of) (g_leaves_of sp_leaves_of) :=
  (dss_cons (ds_if (dt_cmp od_lt (de_callB cd_len (by rfl) m_len bb_len (da_cons (de_var 0) da_nil)) de_int (nomark _)) (dss_one (ds_ret de_int)) dss_nil) (dss_one (ds_ret (de_op od_add (de_callN n_leaves_of G_leaves_of hr (by rfl) (da_cons (de_ix (de_var 0) de_int) da_nil)) (de_callN n_leaves_of G_leaves_of hr (by rfl) (da_cons (de_ix (de_var 0) de_int) da_nil))))))
/-! ### inner -/
abbrev s_inner : Stmt := topS 21
abbrev N_inner : List Str := ["program"]
abbrev P_inner : List Str := ["program"]
theorem sc_inner : FnScope N_inner P_inner (defScope s_inner) := ⟨rfl, rfl, rfl, by decide +kernel, rfl, by decide +kernel, by decide +kernel⟩
def g_inner : GS :=
  (gSeq (gIf (fTest (fOp (rEqD false) (fOp rIxD (fVar 0) (fC (.int 0))) (fC (.str "take")))) (gRet (fLstO (fCons (fOp rIxD (fVar 0) (fC (.int 3))) fNil))) gNext) (gSeq (gIf (fTest (fOp (rInD false) (fOp rIxD (fVar 0) (fC (.int 0))) (fTup (fCons (fC (.str "give")) (fCons (fC (.str "pair")) (fCons (fC (.str "first")) (fCons (fC (.str "second")) fNil))))))) (gRet (fCB rList1O (fCons (fSl rSlD (fVar 0) (fPart (fC (.int 1))) fNoPart) fNil))) gNext) (gRet (fLstO fNil))))
theorem der_inner {P : Program} {w : World} {K : PySem.W.Frag} {mg : Str → Option Value} {base : Heap} {k : Nat} {f : Addr} (m_list : mg "list" = none)
    (cdv : Value) (A : Around) (outer : List Env) (s : Shared) (H : Hp) (E : XK) (hr : Room k (A.deeper (envOfC "inner" (defScope s_inner) s.heap.objs.size f cdv))) :
    DSs MT (cxOf CX0 P w K mg base N_inner "inner" (defScope s_inner) f cdv A outer s H E).nox (defBody s_inner) (g_inner) :=
  (dss_cons (ds_if (dt_cmp (od_eq hr.u200) (de_ix (de_var 0) de_int) de_str (nomark _)) (dss_one (ds_ret (de_lstO (da_cons (de_ix (de_var 0) de_int) da_nil)))) dss_nil) (dss_cons (ds_if (dt_cmp (od_in hr.u200) (de_ix (de_var 0) de_int) (de_tup (da_cons de_str (da_cons de_str (da_cons de_str (da_cons de_str da_nil))))) (by rfl)) (dss_one (ds_ret (de_callTy cd_list1O (by rfl) m_list bb_list (da_cons (de_slice (de_var 0) (do_some de_int) do_none) da_nil)))) dss_nil) (dss_one (ds_ret (de_lstO da_nil)))))
/-! ### has_head -/
abbrev s_has_head : Stmt := topS 22
abbrev N_has_head : List Str := ["thing", "gaps"]
abbrev P_has_head : List Str := ["thing", "gaps"]
theorem sc_has_head : FnScope N_has_head P_has_head (defScope s_has_head) := ⟨rfl, rfl, rfl, by decide +kernel, rfl, by decide +kernel, by decide +kernel⟩
def g_has_head (sp_is_kind sp_is_name : DSp) (d_THING : D) : GS :=
  (gSeq (gIf (fOr (fNot (fTest (fCB rIsiD (fCons (fVar 0) (fCons (fC (.ty "tuple")) fNil))))) (fOr (fTest (fOp (rEqD false) (fCB rLenD (fCons (fVar 0) fNil)) (fC (.int 0)))) (fNot (fTest (fCB rIsiD (fCons (fOp rIxD (fVar 0) (fC (.int 0))) (fCons (fC (.ty "str")) fNil))))))) (gRet (fC (.bl false))) gNext) (gSeq (gIf (fTest (fOp (rEqD false) (fOp rIxD (fVar 0) (fC (.int 0))) (fC (.str "gap")))) (gRet (fAndV (fVar 1) (fAndV (fOp (rEqD false) (fCB rLenD (fCons (fVar 0) fNil)) (fC (.int 2))) (fCall sp_is_kind (fCons (fOp rIxD (fVar 0) (fC (.int 1))) fNil))))) gNext) (gSeq (gIf (fTest (fOp (rEqD false) (fOp rIxD (fVar 0) (fC (.int 0))) (fC (.str "name")))) (gRet (fAndV (fOp (rEqD false) (fCB rLenD (fCons (fVar 0) fNil)) (fC (.int 2))) (fAndV (fCB rIsiD (fCons (fOp rIxD (fVar 0) (fC (.int 1))) (fCons (fC (.ty "str")) fNil))) (fCall sp_is_name (fCons (fOp rIxD (fVar 0) (fC (.int 1))) fNil))))) gNext) (gSeq (gIf (fTest (fOp (rEqD false) (fOp rIxD (fVar 0) (fC (.int 0))) (fC (.str "take")))) (gRet (fAndV (fOp (rEqD false) (fCB rLenD (fCons (fVar 0) fNil)) (fC (.int 4))) (fAndV (fCB rIsiD (fCons (fOp rIxD (fVar 0) (fC (.int 1))) (fCons (fC (.ty "str")) fNil))) (fAndV (fCall sp_is_name (fCons (fOp rIxD (fVar 0) (fC (.int 1))) fNil)) (fCall sp_is_kind (fCons (fOp rIxD (fVar 0) (fC (.int 2))) fNil)))))) gNext) (gSeq (gIf (fTest (fOp (rInD false) (fOp rIxD (fVar 0) (fC (.int 0))) (fTup (fCons (fC (.str "give")) (fCons (fC (.str "pair")) fNil))))) (gRet (fOp (rEqD false) (fCB rLenD (fCons (fVar 0) fNil)) (fC (.int 3)))) gNext) (gSeq (gIf (fTest (fOp (rInD false) (fOp rIxD (fVar 0) (fC (.int 0))) (fTup (fCons (fC (.str "first")) (fCons (fC (.str "second")) fNil))))) (gRet (fOp (rEqD false) (fCB rLenD (fCons (fVar 0) fNil)) (fC (.int 2)))) gNext) (gRet (fOp (rEqD false) (fVar 0) (fC d_THING)))))))))
theorem der_has_head {P : Program} {w : World} {K : PySem.W.Frag} {mg : Str → Option Value} {base : Heap} {k : Nat} {f : Addr} {sp_is_kind sp_is_name : DSp} {d_THING : D} {a_is_kind : Addr} {fd_is_kind : FuncData} (n_is_kind : Fn K mg "is_kind" s_is_kind P_is_kind a_is_kind fd_is_kind) (G_is_kind : FnOk P w K mg base CX0 k a_is_kind fd_is_kind P_is_kind (liftSp K sp_is_kind)) {a_is_name : Addr} {fd_is_name : FuncData} (n_is_name : Fn K mg "is_name" s_is_name P_is_name a_is_name fd_is_name) (G_is_name : FnOk P w K mg base CX0 k a_is_name fd_is_name P_is_name (liftSp K sp_is_name)) (m_tuple : mg "tuple" = none) (m_isinstance : mg "isinstance" = none) (m_len : mg "len" = none) (m_str : mg "str" = none) (c_THING : Cst K mg "THING" d_THING)
    (cdv : Value) (A : Around) (outer : List Env) (s : Shared) (H : Hp) (E : XK) (hr : Room k (A.deeper (envOfC "has_head" (defScope s_has_head) s.heap.objs.size f cdv))) :
    DSs MT (cxOf CX0 P w K mg base N_has_head "has_head" (defScope s_has_head) f cdv A outer s H E).nox (defBody s_has_head) (g_has_head sp_is_kind sp_is_name d_THING) :=
  (dss_cons (ds_if (dt_of (dw_or (dt_not (dt_val (de_callB cd_isi (by rfl) m_isinstance bb_isinstance (da_cons (de_var 0) (da_cons (de_ty bb_tuple m_tuple (by rfl)) da_nil))))) (dw_or (dt_cmp (od_eq hr.u200) (de_callB cd_len (by rfl) m_len bb_len (da_cons (de_var 0) da_nil)) de_int (nomark _)) (dw_or1 (dt_not (dt_val (de_callB cd_isi (by rfl) m_isinstance bb_isinstance (da_cons (de_ix (de_var 0) de_int) (da_cons (de_ty bb_str m_str (by rfl)) da_nil))))))))) (dss_one (ds_ret de_bl)) dss_nil) (dss_cons (ds_if (dt_cmp (od_eq hr.u200) (de_ix (de_var 0) de_int) de_str (nomark _)) (dss_one (ds_ret (de_and (de_var 1) (de_and (de_cmp (od_eq hr.u200) (de_callB cd_len (by rfl) m_len bb_len (da_cons (de_var 0) da_nil)) de_int (nomark _)) (de_one (de_callN n_is_kind G_is_kind hr (by rfl) (da_cons (de_ix (de_var 0) de_int) da_nil))))))) dss_nil) (dss_cons (ds_if (dt_cmp (od_eq hr.u200) (de_ix (de_var 0) de_int) de_str (nomark _)) (dss_one (ds_ret (de_and (de_cmp (od_eq hr.u200) (de_callB cd_len (by rfl) m_len bb_len (da_cons (de_var 0) da_nil)) de_int (nomark _)) (de_and (de_callB cd_isi (by rfl) m_isinstance bb_isinstance (da_cons (de_ix (de_var 0) de_int) (da_cons (de_ty bb_str m_str (by rfl)) da_nil))) (de_one (de_callN n_is_name G_is_name hr (by rfl) (da_cons (de_ix (de_var 0) de_int) da_nil))))))) dss_nil) (dss_cons (ds_if (dt_cmp (od_eq hr.u200) (de_ix (de_var 0) de_int) de_str (nomark _)) (dss_one (ds_ret (de_and (de_cmp (od_eq hr.u200) (de_callB cd_len (by rfl) m_len bb_len (da_cons (de_var 0) da_nil)) de_int (nomark _)) (de_and (de_callB cd_isi (by rfl) m_isinstance bb_isinstance (da_cons (de_ix (de_var 0) de_int) (da_cons (de_ty bb_str m_str (by rfl)) da_nil))) (de_and (de_callN n_is_name G_is_name hr (by rfl) (da_cons (de_ix (de_var 0) de_int) da_nil)) (de_one (de_callN n_is_kind G_is_kind hr (by rfl) (da_cons (de_ix (de_var 0) de_int) da_nil)))))))) dss_nil) (dss_cons (ds_if (dt_cmp (od_in hr.u200) (de_ix (de_var 0) de_int) (de_tup (da_cons de_str (da_cons de_str da_nil))) (by rfl)) (dss_one (ds_ret (de_cmp (od_eq hr.u200) (de_callB cd_len (by rfl) m_len bb_len (da_cons (de_var 0) da_nil)) de_int (nomark _)))) dss_nil) (dss_cons (ds_if (dt_cmp (od_in hr.u200) (de_ix (de_var 0) de_int) (de_tup (da_cons de_str (da_cons de_str da_nil))) (by rfl)) (dss_one (ds_ret (de_cmp (od_eq hr.u200) (de_callB cd_len (by rfl) m_len bb_len (da_cons (de_var 0) da_nil)) de_int (nomark _)))) dss_nil) (dss_one (ds_ret (de_cmp (od_eq hr.u200) (de_var 0) (de_cst c_THING (by rfl)) (nomark _))))))))))
/-! ### parts_left -/
abbrev s_parts_left : Stmt := topS 23
abbrev N_parts_left : List Str := ["thing", "room", "left", "gaps", "part"]
abbrev P_parts_left : List Str := ["thing", "room", "left", "gaps"]
theorem sc_parts_left : FnScope N_parts_left P_parts_left (defScope s_parts_left) := ⟨rfl, rfl, rfl, by decide +kernel, rfl, by decide +kernel, by decide +kernel⟩
def g_parts_left (sp_has_head sp_inner sp_parts_left : DSp) : GS :=
  (gSeq (gIf (fOr (fTest (fOp rLtD (fVar 2) (fC (.int 1)))) (fOr (fTest (fOp rLtD (fVar 1) (fC (.int 0)))) (fNot (fTest (fCall sp_has_head (fCons (fVar 0) (fCons (fVar 3) fNil))))))) (gRet (fUn rNeg (fC (.int 1)))) gNext) (gSeq (gSet (fOp rSubD (fVar 2) (fC (.int 1))) 2) (gSeq (gFor (fiList (fFrz (fCall sp_inner (fCons (fVar 0) fNil)))) (.nm 4) (gIf (fTest (fOp rGeD (fVar 2) (fC (.int 0)))) (gSet (fCall sp_parts_left (fCons (fVar 4) (fCons (fOp rSubD (fVar 1) (fC (.int 1))) (fCons (fVar 2) (fCons (fVar 3) fNil))))) 2) gNext)) (gRet (fVar 2)))))
theorem der_parts_left {P : Program} {w : World} {K : PySem.W.Frag} {mg : Str → Option Value} {base : Heap} {k : Nat} {f : Addr} {sp_has_head sp_inner sp_parts_left : DSp} {a_has_head : Addr} {fd_has_head : FuncData} (n_has_head : Fn K mg "has_head" s_has_head P_has_head a_has_head fd_has_head) (G_has_head : FnOk P w K mg base CX0 k a_has_head fd_has_head P_has_head (liftSp K sp_has_head)) {a_inner : Addr} {fd_inner : FuncData} (n_inner : Fn K mg "inner" s_inner P_inner a_inner fd_inner) (G_inner : FnOk P w K mg base CX0 k a_inner fd_inner P_inner (liftSp K sp_inner)) {a_parts_left : Addr} {fd_parts_left : FuncData} (n_parts_left : Fn K mg "parts_left" s_parts_left P_parts_left a_parts_left fd_parts_left) (G_parts_left : FnOk P w K mg base CX0 k a_parts_left fd_parts_left P_parts_left (liftSp K sp_parts_left))
    (cdv : Value) (A : Around) (outer : List Env) (s : Shared) (H : Hp) (E : XK) (hr : Room k (A.deeper (envOfC "parts_left" (defScope s_parts_left) s.heap.objs.size f cdv))) :
    DSs MT (cxOf CX0 P w K mg base N_parts_left "parts_left" (defScope s_parts_left) f cdv A outer s H E).nox (defBody s_parts_left) (g_parts_left sp_has_head sp_inner sp_parts_left) :=
  (dss_cons (ds_if (dt_of (dw_or (dt_cmp od_lt (de_var 2) de_int (nomark _)) (dw_or (dt_cmp od_lt (de_var 1) de_int (nomark _)) (dw_or1 (dt_not (dt_val (de_callN n_has_head G_has_head hr (by rfl) (da_cons (de_var 0) (da_cons (de_var 3) da_nil))))))))) (dss_one (ds_ret (de_neg de_int))) dss_nil) (dss_cons (ds_set (i := 2) sc_parts_left.nd rfl (by first | exact Or.inl rfl | exact Or.inr rfl) (de_op od_sub (de_var 2) de_int)) (dss_cons (ds_for PassesOwn.never rfl (di_list (de_frz (de_callN n_inner G_inner hr (by rfl) (da_cons (de_var 0) da_nil)))) (dp_name (i := 4) sc_parts_left.nd (by rfl) (by first | exact Or.inl rfl | exact Or.inr rfl)) (dss_one (ds_if (dt_cmp od_ge (de_var 2) de_int (nomark _)) (dss_one (ds_set (i := 2) sc_parts_left.nd rfl (by first | exact Or.inl rfl | exact Or.inr rfl) (de_callN n_parts_left G_parts_left hr (by rfl) (da_cons (de_var 4) (da_cons (de_op od_sub (de_var 1) de_int) (da_cons (de_var 2) (da_cons (de_var 3) da_nil))))))) dss_nil))) (dss_one (ds_ret (de_var 2))))))
/-! ### is_program -/
abbrev s_is_program : Stmt := topS 24
abbrev N_is_program : List Str := ["thing"]
abbrev P_is_program : List Str := ["thing"]
theorem sc_is_program : FnScope N_is_program P_is_program (defScope s_is_program) := ⟨rfl, rfl, rfl, by decide +kernel, rfl, by decide +kernel, by decide +kernel⟩
def g_is_program (sp_parts_left : DSp) (d_MOST_DEEP d_MOST_PARTS : D) : GS :=
  (gRet (fOp rGeD (fCall sp_parts_left (fCons (fVar 0) (fCons (fC d_MOST_DEEP) (fCons (fC d_MOST_PARTS) (fCons (fC (.bl false)) fNil))))) (fC (.int 0))))
theorem der_is_program {P : Program} {w : World} {K : PySem.W.Frag} {mg : Str → Option Value} {base : Heap} {k : Nat} {f : Addr} {sp_parts_left : DSp} {d_MOST_DEEP d_MOST_PARTS : D} {a_parts_left : Addr} {fd_parts_left : FuncData} (n_parts_left : Fn K mg "parts_left" s_parts_left P_parts_left a_parts_left fd_parts_left) (G_parts_left : FnOk P w K mg base CX0 k a_parts_left fd_parts_left P_parts_left (liftSp K sp_parts_left)) (c_MOST_DEEP : Cst K mg "MOST_DEEP" d_MOST_DEEP) (c_MOST_PARTS : Cst K mg "MOST_PARTS" d_MOST_PARTS)
    (cdv : Value) (A : Around) (outer : List Env) (s : Shared) (H : Hp) (E : XK) (hr : Room k (A.deeper (envOfC "is_program" (defScope s_is_program) s.heap.objs.size f cdv))) :
    DSs MT (cxOf CX0 P w K mg base N_is_program "is_program" (defScope s_is_program) f cdv A outer s H E).nox (defBody s_is_program) (g_is_program sp_parts_left d_MOST_DEEP d_MOST_PARTS) :=
  (dss_one (ds_ret (de_cmp od_ge (de_callN n_parts_left G_parts_left hr (by rfl) (da_cons (de_var 0) (da_cons (de_cst c_MOST_DEEP (by rfl)) (da_cons (de_cst c_MOST_PARTS (by rfl)) (da_cons de_bl da_nil))))) de_int (nomark _))))
/-! ### part_at -/
abbrev s_part_at : Stmt := topS 25
abbrev N_part_at : List Str := ["program", "place", "step", "some"]
abbrev P_part_at : List Str := ["program", "place"]
theorem sc_part_at : FnScope N_part_at P_part_at (defScope s_part_at) := ⟨rfl, rfl, rfl, by decide +kernel, rfl, by decide +kernel, by decide +kernel⟩
def g_part_at (sp_inner : DSp) : GS :=
  (gSeq (gForE (fVar 1) (.nm 2) (gSeq (gSet (fFrz (fCall sp_inner (fCons (fVar 0) fNil))) 3) (gSeq (gIf (fNot (fTest (fChain rLeD rLtD (fC (.int 0)) (fVar 2) (fCB rLenD (fCons (fVar 3) fNil))))) (gRet (fC .non)) gNext) (gSet (fOp rIxD (fVar 3) (fVar 2)) 0)))) (gRet (fVar 0)))
theorem der_part_at {P : Program} {w : World} {K : PySem.W.Frag} {mg : Str → Option Value} {base : Heap} {k : Nat} {f : Addr} {sp_inner : DSp} {a_inner : Addr} {fd_inner : FuncData} (n_inner : Fn K mg "inner" s_inner P_inner a_inner fd_inner) (G_inner : FnOk P w K mg base CX0 k a_inner fd_inner P_inner (liftSp K sp_inner)) (m_len : mg "len" = none)
    (cdv : Value) (A : Around) (outer : List Env) (s : Shared) (H : Hp) (E : XK) (hr : Room k (A.deeper (envOfC "part_at" (defScope s_part_at) s.heap.objs.size f cdv))) :
    DSs MT (cxOf CX0 P w K mg base N_part_at "part_at" (defScope s_part_at) f cdv A outer s H E).nox (defBody s_part_at) (g_part_at sp_inner) :=
  (dss_cons (ds_forE PassesOwn.never rfl (de_var 1) (dp_name (i := 2) sc_part_at.nd (by rfl) (by first | exact Or.inl rfl | exact Or.inr rfl)) (dss_cons (ds_set (i := 3) sc_part_at.nd rfl (by first | exact Or.inl rfl | exact Or.inr rfl) (de_frz (de_callN n_inner G_inner hr (by rfl) (da_cons (de_var 0) da_nil)))) (dss_cons (ds_if (dt_not (dt_chain od_le od_lt de_int (de_var 2) (de_callB cd_len (by rfl) m_len bb_len (da_cons (de_var 3) da_nil)))) (dss_one (ds_ret de_non)) dss_nil) (dss_one (ds_set (i := 0) sc_part_at.nd rfl (by first | exact Or.inl rfl | exact Or.inr rfl) (de_ix (de_var 3) (de_var 2))))))) (dss_one (ds_ret (de_var 0))))
/-! ### known_as -/
abbrev s_known_as : Stmt := topS 27
abbrev N_known_as : List Str := ["known", "name", "one", "kind"]
abbrev P_known_as : List Str := ["known", "name"]
theorem sc_known_as : FnScope N_known_as P_known_as (defScope s_known_as) := ⟨rfl, rfl, rfl, by decide +kernel, rfl, by decide +kernel, by decide +kernel⟩
def g_known_as : GS :=
  (gSeq (gFor (fiRev (fCons (fVar 0) fNil)) (.tp [(.nm 2), (.nm 3)]) (gIf (fTest (fOp (rEqD false) (fVar 2) (fVar 1))) (gRet (fVar 3)) gNext)) (gRet (fC .non)))
theorem der_known_as {P : Program} {w : World} {K : PySem.W.Frag} {mg : Str → Option Value} {base : Heap} {k : Nat} {f : Addr} (m_reversed : mg "reversed" = none)
    (cdv : Value) (A : Around) (outer : List Env) (s : Shared) (H : Hp) (E : XK) (hr : Room k (A.deeper (envOfC "known_as" (defScope s_known_as) s.heap.objs.size f cdv))) :
    DSs MT (cxOf CX0 P w K mg base N_known_as "known_as" (defScope s_known_as) f cdv A outer s H E).nox (defBody s_known_as) (g_known_as) :=
  (dss_cons (ds_for PassesOwn.never rfl (di_rev (by rfl) m_reversed (da_cons (de_var 0) da_nil)) (dp_tup (by rfl) (dps_cons (dp_name (i := 2) sc_known_as.nd (by rfl) (by first | exact Or.inl rfl | exact Or.inr rfl)) (dps_cons (dp_name (i := 3) sc_known_as.nd (by rfl) (by first | exact Or.inl rfl | exact Or.inr rfl)) dps_nil))) (dss_one (ds_if (dt_cmp (od_eq hr.u200) (de_var 2) (de_var 1) (nomark _)) (dss_one (ds_ret (de_var 3))) dss_nil))) (dss_one (ds_ret de_non)))
/-! ### kind_here -/
abbrev s_kind_here : Stmt := topS 28
abbrev N_kind_here : List Str := ["known", "program", "some", "word"]
abbrev P_kind_here : List Str := ["known", "program", "some"]
theorem sc_kind_here : FnScope N_kind_here P_kind_here (defScope s_kind_here) := ⟨rfl, rfl, rfl, by decide +kernel, rfl, by decide +kernel, by decide +kernel⟩
def g_kind_here (sp_known_as : DSp) (d_ONE : D) : GS :=
  (gSeq (gSet (fOp rIxD (fVar 1) (fC (.int 0))) 3) (gSeq (gIf (fTest (fOp (rEqD false) (fVar 3) (fC (.str "name")))) (gRet (fCall sp_known_as (fCons (fVar 0) (fCons (fOp rIxD (fVar 1) (fC (.int 1))) fNil)))) gNext) (gSeq (gIf (fTest (fOp (rEqD false) (fVar 3) (fC (.str "take")))) (gRet (fTup (fCons (fC (.str "to")) (fCons (fOp rIxD (fVar 1) (fC (.int 2))) (fCons (fOp rIxD (fVar 2) (fC (.int 0))) fNil))))) gNext) (gSeq (gIf (fTest (fOp (rEqD false) (fVar 3) (fC (.str "pair")))) (gRet (fTup (fCons (fC (.str "both")) (fCons (fOp rIxD (fVar 2) (fC (.int 0))) (fCons (fOp rIxD (fVar 2) (fC (.int 1))) fNil))))) gNext) (gSeq (gIf (fTest (fOp (rEqD false) (fVar 3) (fC (.str "thing")))) (gRet (fC d_ONE)) gNext) (gSeq (gIf (fTest (fOp (rEqD false) (fVar 3) (fC (.str "gap")))) (gRet (fOp rIxD (fVar 1) (fC (.int 1)))) gNext) (gSeq (gIf (fTest (fOp (rEqD false) (fVar 3) (fC (.str "give")))) (gSeq (gIf (fAnd (fTest (fOp (rEqD false) (fOp rIxD (fOp rIxD (fVar 2) (fC (.int 0))) (fC (.int 0))) (fC (.str "to")))) (fTest (fOp (rEqD false) (fOp rIxD (fOp rIxD (fVar 2) (fC (.int 0))) (fC (.int 1))) (fOp rIxD (fVar 2) (fC (.int 1)))))) (gRet (fOp rIxD (fOp rIxD (fVar 2) (fC (.int 0))) (fC (.int 2)))) gNext) (gRet (fC .non))) gNext) (gSeq (gIf (fTest (fOp (rEqD true) (fOp rIxD (fOp rIxD (fVar 2) (fC (.int 0))) (fC (.int 0))) (fC (.str "both")))) (gRet (fC .non)) gNext) (gRet (fOp rIxD (fOp rIxD (fVar 2) (fC (.int 0))) (fOp rAddD (fC (.int 1)) (fCB rInt1 (fCons (fOp (rEqD false) (fVar 3) (fC (.str "second"))) fNil)))))))))))))
theorem der_kind_here {P : Program} {w : World} {K : PySem.W.Frag} {mg : Str → Option Value} {base : Heap} {k : Nat} {f : Addr} {sp_known_as : DSp} {d_ONE : D} {a_known_as : Addr} {fd_known_as : FuncData} (n_known_as : Fn K mg "known_as" s_known_as P_known_as a_known_as fd_known_as) (G_known_as : FnOk P w K mg base CX0 k a_known_as fd_known_as P_known_as (liftSp K sp_known_as)) (m_int : mg "int" = none) (c_ONE : Cst K mg "ONE" d_ONE)
    (cdv : Value) (A : Around) (outer : List Env) (s : Shared) (H : Hp) (E : XK) (hr : Room k (A.deeper (envOfC "kind_here" (defScope s_kind_here) s.heap.objs.size f cdv))) :
    DSs MT (cxOf CX0 P w K mg base N_kind_here "kind_here" (defScope s_kind_here) f cdv A outer s H E).nox (defBody s_kind_here) (g_kind_here sp_known_as d_ONE) :=
  (dss_cons (ds_set (i := 3) sc_kind_here.nd rfl (by first | exact Or.inl rfl | exact Or.inr rfl) (de_ix (de_var 1) de_int)) (dss_cons (ds_if (dt_cmp (od_eq hr.u200) (de_var 3) de_str (nomark _)) (dss_one (ds_ret (de_callN n_known_as G_known_as hr (by rfl) (da_cons (de_var 0) (da_cons (de_ix (de_var 1) de_int) da_nil))))) dss_nil) (dss_cons (ds_if (dt_cmp (od_eq hr.u200) (de_var 3) de_str (nomark _)) (dss_one (ds_ret (de_tup (da_cons de_str (da_cons (de_ix (de_var 1) de_int) (da_cons (de_ix (de_var 2) de_int) da_nil)))))) dss_nil) (dss_cons (ds_if (dt_cmp (od_eq hr.u200) (de_var 3) de_str (nomark _)) (dss_one (ds_ret (de_tup (da_cons de_str (da_cons (de_ix (de_var 2) de_int) (da_cons (de_ix (de_var 2) de_int) da_nil)))))) dss_nil) (dss_cons (ds_if (dt_cmp (od_eq hr.u200) (de_var 3) de_str (nomark _)) (dss_one (ds_ret (de_cst c_ONE (by rfl)))) dss_nil) (dss_cons (ds_if (dt_cmp (od_eq hr.u200) (de_var 3) de_str (nomark _)) (dss_one (ds_ret (de_ix (de_var 1) de_int))) dss_nil) (dss_cons (ds_if (dt_cmp (od_eq hr.u200) (de_var 3) de_str (nomark _)) (dss_cons (ds_if (dt_of (dw_and (dt_cmp (od_eq hr.u200) (de_ix (de_ix (de_var 2) de_int) de_int) de_str (nomark _)) (dw_and1 (dt_cmp (od_eq hr.u200) (de_ix (de_ix (de_var 2) de_int) de_int) (de_ix (de_var 2) de_int) (nomark _))))) (dss_one (ds_ret (de_ix (de_ix (de_var 2) de_int) de_int))) dss_nil) (dss_one (ds_ret de_non))) dss_nil) (dss_cons (ds_if (dt_cmp (od_ne hr.u200) (de_ix (de_ix (de_var 2) de_int) de_int) de_str (nomark _)) (dss_one (ds_ret de_non)) dss_nil) (dss_one (ds_ret (de_ix (de_ix (de_var 2) de_int) (de_op od_add de_int (de_callTy cd_int1 (by rfl) m_int bb_int (da_cons (de_cmp (od_eq hr.u200) (de_var 3) de_str (nomark _)) da_nil))))))))))))))
/-! ### kind_within -/
abbrev s_kind_within : Stmt := topS 29
abbrev N_kind_within : List Str := ["known", "program", "place", "some", "found", "k", "part"]
abbrev P_kind_within : List Str := ["known", "program", "place"]
theorem sc_kind_within : FnScope N_kind_within P_kind_within (defScope s_kind_within) := ⟨rfl, rfl, rfl, by decide +kernel, rfl, by decide +kernel, by decide +kernel⟩
def g_kind_within (sp_inner sp_kind_within sp_kind_here : DSp) : GS :=
  (gSeq (gIf (fTest (fOp (rEqD false) (fOp rIxD (fVar 1) (fC (.int 0))) (fC (.str "take")))) (gSet (fOp rAddD (fVar 0) (fLst (fCons (fTup (fCons (fOp rIxD (fVar 1) (fC (.int 1))) (fCons (fOp rIxD (fVar 1) (fC (.int 2))) fNil))) fNil))) 0) gNext) (gSeq (gSet (fLc (fiEnum (fCons (fFrz (fCall sp_inner (fCons (fVar 1) fNil))) fNil)) (.tp [(.nm 5), (.nm 6)]) fYes (fCall sp_kind_within (fCons (fVar 0) (fCons (fVar 6) (fCons (fOp rAddD (fVar 2) (fLst (fCons (fVar 5) fNil))) fNil)))) [5, 6]) 3) (gSeq (gSet (fCall sp_kind_here (fCons (fVar 0) (fCons (fVar 1) (fCons (fVar 3) fNil)))) 4) (gSeq (gIf (fTest (fOp (rIsN false) (fVar 4) (fC .non))) gNever gNext) (gRet (fVar 4))))))
theorem der_kind_within {P : Program} {w : World} {K : PySem.W.Frag} {mg : Str → Option Value} {base : Heap} {k : Nat} {f : Addr} {sp_inner sp_kind_within sp_kind_here : DSp} {a_inner : Addr} {fd_inner : FuncData} (n_inner : Fn K mg "inner" s_inner P_inner a_inner fd_inner) (G_inner : FnOk P w K mg base CX0 k a_inner fd_inner P_inner (liftSp K sp_inner)) {a_kind_within : Addr} {fd_kind_within : FuncData} (n_kind_within : Fn K mg "kind_within" s_kind_within P_kind_within a_kind_within fd_kind_within) (G_kind_within : FnOk P w K mg base CX0 k a_kind_within fd_kind_within P_kind_within (liftSp K sp_kind_within)) {a_kind_here : Addr} {fd_kind_here : FuncData} (n_kind_here : Fn K mg "kind_here" s_kind_here P_kind_here a_kind_here fd_kind_here) (G_kind_here : FnOk P w K mg base CX0 k a_kind_here fd_kind_here P_kind_here (liftSp K sp_kind_here)) (m_enumerate : mg "enumerate" = none)
    (cdv : Value) (A : Around) (outer : List Env) (s : Shared) (H : Hp) (E : XK) (hr : Room k (A.deeper (envOfC "kind_within" (defScope s_kind_within) s.heap.objs.size f cdv))) :
    DSs MT (cxOf CX0 P w K mg base N_kind_within "kind_within" (defScope s_kind_within) f cdv A outer s H E).nox (defBody s_kind_within) (g_kind_within sp_inner sp_kind_within sp_kind_here) :=
  (dss_cons (ds_if (dt_cmp (od_eq hr.u200) (de_ix (de_var 1) de_int) de_str (nomark _)) (dss_one (ds_set (i := 0) sc_kind_within.nd rfl (by first | exact Or.inl rfl | exact Or.inr rfl) (de_op od_add (de_var 0) (de_lst (da_cons (de_tup (da_cons (de_ix (de_var 1) de_int) (da_cons (de_ix (de_var 1) de_int) da_nil))) da_nil))))) dss_nil) (dss_cons (ds_setLc (i := 3) rfl sc_kind_within.nd rfl rfl (sw_true rfl rfl rfl (by decide +kernel)) (di_enum (by rfl) m_enumerate (da_cons (de_frz (de_callN n_inner G_inner hr (by rfl) (da_cons (de_var 1) da_nil))) da_nil)) (blkOk_by (own := [("k", 5), ("part", 6)]) (N := N_kind_within) (sc := defScope s_kind_within) (by decide +kernel)) (fun _ _ _ _ _ => (dp_tup (by rfl) (dps_cons (dp_name (i := 5) sc_kind_within.nd (by rfl) (by first | exact Or.inl rfl | exact Or.inr rfl)) (dps_cons (dp_name (i := 6) sc_kind_within.nd (by rfl) (by first | exact Or.inl rfl | exact Or.inr rfl)) dps_nil)))) (fun _ _ _ _ _ => dts_nil) (fun _ _ _ _ _ => (de_callN n_kind_within G_kind_within hr (by rfl) (da_cons (de_var 0) (da_cons (de_var 6) (da_cons (de_op od_add (de_var 2) (de_lst (da_cons (de_var 5) da_nil))) da_nil)))))) (dss_cons (ds_set (i := 4) sc_kind_within.nd rfl (by first | exact Or.inl rfl | exact Or.inr rfl) (de_callN n_kind_here G_kind_here hr (by rfl) (da_cons (de_var 0) (da_cons (de_var 1) (da_cons (de_var 3) da_nil))))) (dss_cons (ds_if (dt_cmp od_is (de_var 4) de_non (nomark _)) (dss_one ds_never) dss_nil) (dss_one (ds_ret (de_var 4)))))))
/-! ### kind_of -/
abbrev s_kind_of : Stmt := topS 30
abbrev N_kind_of : List Str := ["row", "program"]
abbrev P_kind_of : List Str := ["row", "program"]
theorem sc_kind_of : FnScope N_kind_of P_kind_of (defScope s_kind_of) := ⟨rfl, rfl, rfl, by decide +kernel, rfl, by decide +kernel, by decide +kernel⟩
def g_kind_of (sp_kind_within : DSp) : GS :=
  (gRet (fCall sp_kind_within (fCons (fCB rList1 (fCons (fVar 0) fNil)) (fCons (fVar 1) (fCons (fLst fNil) fNil)))))
theorem der_kind_of {P : Program} {w : World} {K : PySem.W.Frag} {mg : Str → Option Value} {base : Heap} {k : Nat} {f : Addr} {sp_kind_within : DSp} {a_kind_within : Addr} {fd_kind_within : FuncData} (n_kind_within : Fn K mg "kind_within" s_kind_within P_kind_within a_kind_within fd_kind_within) (G_kind_within : FnOk P w K mg base CX0 k a_kind_within fd_kind_within P_kind_within (liftSp K sp_kind_within)) (m_list : mg "list" = none)
    (cdv : Value) (A : Around) (outer : List Env) (s : Shared) (H : Hp) (E : XK) (hr : Room k (A.deeper (envOfC "kind_of" (defScope s_kind_of) s.heap.objs.size f cdv))) :
    DSs MT (cxOf CX0 P w K mg base N_kind_of "kind_of" (defScope s_kind_of) f cdv A outer s H E).nox (defBody s_kind_of) (g_kind_of sp_kind_within) :=
  (dss_one (ds_ret (de_callN n_kind_within G_kind_within hr (by rfl) (da_cons (de_callTy cd_list1 (by rfl) m_list bb_list (da_cons (de_var 0) da_nil)) (da_cons (de_var 1) (da_cons (de_lst da_nil) da_nil))))))
/-! ### taken_name -/
abbrev s_taken_name : Stmt := topS 32
abbrev N_taken_name : List Str := ["takes"]
abbrev P_taken_name : List Str := ["takes"]
theorem sc_taken_name : FnScope N_taken_name P_taken_name (defScope s_taken_name) := ⟨rfl, rfl, rfl, by decide +kernel, rfl, by decide +kernel, by decide +kernel⟩
def g_taken_name : GS :=
  (gRet (fOp rAddD (fC (.str "x")) (fCB rStr1 (fCons (fVar 0) fNil))))
theorem der_taken_name {P : Program} {w : World} {K : PySem.W.Frag} {mg : Str → Option Value} {base : Heap} {k : Nat} {f : Addr} (m_str : mg "str" = none)
    (cdv : Value) (A : Around) (outer : List Env) (s : Shared) (H : Hp) (E : XK) (hr : Room k (A.deeper (envOfC "taken_name" (defScope s_taken_name) s.heap.objs.size f cdv))) :
    DSs MT (cxOf CX0 P w K mg base N_taken_name "taken_name" (defScope s_taken_name) f cdv A outer s H E).nox (defBody s_taken_name) (g_taken_name) :=
  (dss_one (ds_ret (de_op od_add de_str (de_callTy cd_str1 (by rfl) m_str bb_str (da_cons (de_var 0) da_nil)))))
/-! ### is_long_here -/
abbrev s_is_long_here : Stmt := topS 33
abbrev N_is_long_here : List Str := ["known", "kind", "program", "takes", "name"]
abbrev P_is_long_here : List Str := ["known", "kind", "program", "takes"]
theorem sc_is_long_here : FnScope N_is_long_here P_is_long_here (defScope s_is_long_here) := ⟨rfl, rfl, rfl, by decide +kernel, rfl, by decide +kernel, by decide +kernel⟩
def g_is_long_here (sp_gone_along sp_is_long_here sp_taken_name : DSp) (d_THING : D) : GS :=
  (gSeq (gIf (fTest (fOp (rEqD false) (fOp rIxD (fVar 1) (fC (.int 0))) (fC (.str "one")))) (gRet (fOp (rEqD false) (fVar 2) (fC d_THING))) gNext) (gSeq (gIf (fTest (fOp (rEqD false) (fOp rIxD (fVar 1) (fC (.int 0))) (fC (.str "mark")))) (gRet (fOp (rEqD false) (fCall sp_gone_along (fCons (fVar 0) (fCons (fVar 2) (fCons (fVar 3) fNil)))) (fVar 1))) gNext) (gSeq (gIf (fTest (fOp (rEqD false) (fOp rIxD (fVar 1) (fC (.int 0))) (fC (.str "both")))) (gSeq (gIf (fOr (fTest (fOp (rEqD true) (fOp rIxD (fVar 2) (fC (.int 0))) (fC (.str "pair")))) (fNot (fTest (fCall sp_is_long_here (fCons (fVar 0) (fCons (fOp rIxD (fVar 1) (fC (.int 1))) (fCons (fOp rIxD (fVar 2) (fC (.int 1))) (fCons (fVar 3) fNil)))))))) (gRet (fC (.bl false))) gNext) (gRet (fCall sp_is_long_here (fCons (fVar 0) (fCons (fOp rIxD (fVar 1) (fC (.int 2))) (fCons (fOp rIxD (fVar 2) (fC (.int 2))) (fCons (fVar 3) fNil))))))) gNext) (gSeq (gSet (fCall sp_taken_name (fCons (fVar 3) fNil)) 4) (gSeq (gIf (fOr (fTest (fOp (rEqD true) (fOp rIxD (fVar 2) (fC (.int 0))) (fC (.str "take")))) (fOr (fTest (fOp (rEqD true) (fOp rIxD (fVar 2) (fC (.int 1))) (fVar 4))) (fTest (fOp (rEqD true) (fOp rIxD (fVar 2) (fC (.int 2))) (fOp rIxD (fVar 1) (fC (.int 1))))))) (gRet (fC (.bl false))) gNext) (gRet (fCall sp_is_long_here (fCons (fOp rAddD (fVar 0) (fLst (fCons (fTup (fCons (fVar 4) (fCons (fOp rIxD (fVar 1) (fC (.int 1))) fNil))) fNil))) (fCons (fOp rIxD (fVar 1) (fC (.int 2))) (fCons (fOp rIxD (fVar 2) (fC (.int 3))) (fCons (fOp rAddD (fVar 3) (fC (.int 1))) fNil)))))))))))
theorem der_is_long_here {P : Program} {w : World} {K : PySem.W.Frag} {mg : Str → Option Value} {base : Heap} {k : Nat} {f : Addr} {sp_gone_along sp_is_long_here sp_taken_name : DSp} {d_THING : D} {a_gone_along : Addr} {fd_gone_along : FuncData} (n_gone_along : Fn K mg "gone_along" s_gone_along P_gone_along a_gone_along fd_gone_along) (G_gone_along : FnOk P w K mg base CX0 k a_gone_along fd_gone_along P_gone_along (liftSp K sp_gone_along)) {a_is_long_here : Addr} {fd_is_long_here : FuncData} (n_is_long_here : Fn K mg "is_long_here" s_is_long_here P_is_long_here a_is_long_here fd_is_long_here) (G_is_long_here : FnOk P w K mg base CX0 k a_is_long_here fd_is_long_here P_is_long_here (liftSp K sp_is_long_here)) {a_taken_name : Addr} {fd_taken_name : FuncData} (n_taken_name : Fn K mg "taken_name" s_taken_name P_taken_name a_taken_name fd_taken_name) (G_taken_name : FnOk P w K mg base CX0 k a_taken_name fd_taken_name P_taken_name (liftSp K sp_taken_name)) (c_THING : Cst K mg "THING" d_THING)
    (cdv : Value) (A : Around) (outer : List Env) (s : Shared) (H : Hp) (E : XK) (hr : Room k (A.deeper (envOfC "is_long_here" (defScope s_is_long_here) s.heap.objs.size f cdv))) :
    DSs MT (cxOf CX0 P w K mg base N_is_long_here "is_long_here" (defScope s_is_long_here) f cdv A outer s H E).nox (defBody s_is_long_here) (g_is_long_here sp_gone_along sp_is_long_here sp_taken_name d_THING) :=
  (dss_cons (ds_if (dt_cmp (od_eq hr.u200) (de_ix (de_var 1) de_int) de_str (nomark _)) (dss_one (ds_ret (de_cmp (od_eq hr.u200) (de_var 2) (de_cst c_THING (by rfl)) (nomark _)))) dss_nil) (dss_cons (ds_if (dt_cmp (od_eq hr.u200) (de_ix (de_var 1) de_int) de_str (nomark _)) (dss_one (ds_ret (de_cmp (od_eq hr.u200) (de_callN n_gone_along G_gone_along hr (by rfl) (da_cons (de_var 0) (da_cons (de_var 2) (da_cons (de_var 3) da_nil)))) (de_var 1) (nomark _)))) dss_nil) (dss_cons (ds_if (dt_cmp (od_eq hr.u200) (de_ix (de_var 1) de_int) de_str (nomark _)) (dss_cons (ds_if (dt_of (dw_or (dt_cmp (od_ne hr.u200) (de_ix (de_var 2) de_int) de_str (nomark _)) (dw_or1 (dt_not (dt_val (de_callN n_is_long_here G_is_long_here hr (by rfl) (da_cons (de_var 0) (da_cons (de_ix (de_var 1) de_int) (da_cons (de_ix (de_var 2) de_int) (da_cons (de_var 3) da_nil)))))))))) (dss_one (ds_ret de_bl)) dss_nil) (dss_one (ds_ret (de_callN n_is_long_here G_is_long_here hr (by rfl) (da_cons (de_var 0) (da_cons (de_ix (de_var 1) de_int) (da_cons (de_ix (de_var 2) de_int) (da_cons (de_var 3) da_nil)))))))) dss_nil) (dss_cons (ds_set (i := 4) sc_is_long_here.nd rfl (by first | exact Or.inl rfl | exact Or.inr rfl) (de_callN n_taken_name G_taken_name hr (by rfl) (da_cons (de_var 3) da_nil))) (dss_cons (ds_if (dt_of (dw_or (dt_cmp (od_ne hr.u200) (de_ix (de_var 2) de_int) de_str (nomark _)) (dw_or (dt_cmp (od_ne hr.u200) (de_ix (de_var 2) de_int) (de_var 4) (nomark _)) (dw_or1 (dt_cmp (od_ne hr.u200) (de_ix (de_var 2) de_int) (de_ix (de_var 1) de_int) (nomark _)))))) (dss_one (ds_ret de_bl)) dss_nil) (dss_one (ds_ret (de_callN n_is_long_here G_is_long_here hr (by rfl) (da_cons (de_op od_add (de_var 0) (de_lst (da_cons (de_tup (da_cons (de_var 4) (da_cons (de_ix (de_var 1) de_int) da_nil))) da_nil))) (da_cons (de_ix (de_var 1) de_int) (da_cons (de_ix (de_var 2) de_int) (da_cons (de_op od_add (de_var 3) de_int) da_nil))))))))))))
/-! ### gone_along -/
abbrev s_gone_along : Stmt := topS 34
abbrev N_gone_along : List Str := ["known", "program", "takes", "kind"]
abbrev P_gone_along : List Str := ["known", "program", "takes"]
theorem sc_gone_along : FnScope N_gone_along P_gone_along (defScope s_gone_along) := ⟨rfl, rfl, rfl, by decide +kernel, rfl, by decide +kernel, by decide +kernel⟩
def g_gone_along (sp_known_as sp_gone_along sp_is_long_here : DSp) : GS :=
  (gSeq (gIf (fTest (fOp (rEqD false) (fOp rIxD (fVar 1) (fC (.int 0))) (fC (.str "name")))) (gRet (fCall sp_known_as (fCons (fVar 0) (fCons (fOp rIxD (fVar 1) (fC (.int 1))) fNil)))) gNext) (gSeq (gIf (fTest (fOp (rInD true) (fOp rIxD (fVar 1) (fC (.int 0))) (fTup (fCons (fC (.str "first")) (fCons (fC (.str "second")) (fCons (fC (.str "give")) fNil)))))) (gRet (fC .non)) gNext) (gSeq (gSet (fCall sp_gone_along (fCons (fVar 0) (fCons (fOp rIxD (fVar 1) (fC (.int 1))) (fCons (fVar 2) fNil)))) 3) (gSeq (gIf (fTest (fOp (rIsN false) (fVar 3) (fC .non))) (gRet (fC .non)) gNext) (gSeq (gIf (fTest (fOp (rEqD false) (fOp rIxD (fVar 1) (fC (.int 0))) (fC (.str "give")))) (gSeq (gIf (fAnd (fTest (fOp (rEqD false) (fOp rIxD (fVar 3) (fC (.int 0))) (fC (.str "to")))) (fTest (fCall sp_is_long_here (fCons (fVar 0) (fCons (fOp rIxD (fVar 3) (fC (.int 1))) (fCons (fOp rIxD (fVar 1) (fC (.int 2))) (fCons (fVar 2) fNil))))))) (gRet (fOp rIxD (fVar 3) (fC (.int 2)))) gNext) (gRet (fC .non))) gNext) (gSeq (gIf (fTest (fOp (rEqD true) (fOp rIxD (fVar 3) (fC (.int 0))) (fC (.str "both")))) (gRet (fC .non)) gNext) (gRet (fOp rIxD (fVar 3) (fOp rAddD (fC (.int 1)) (fCB rInt1 (fCons (fOp (rEqD false) (fOp rIxD (fVar 1) (fC (.int 0))) (fC (.str "second"))) fNil)))))))))))
theorem der_gone_along {P : Program} {w : World} {K : PySem.W.Frag} {mg : Str → Option Value} {base : Heap} {k : Nat} {f : Addr} {sp_known_as sp_gone_along sp_is_long_here : DSp} {a_known_as : Addr} {fd_known_as : FuncData} (n_known_as : Fn K mg "known_as" s_known_as P_known_as a_known_as fd_known_as) (G_known_as : FnOk P w K mg base CX0 k a_known_as fd_known_as P_known_as (liftSp K sp_known_as)) {a_gone_along : Addr} {fd_gone_along : FuncData} (n_gone_along : Fn K mg "gone_along" s_gone_along P_gone_along a_gone_along fd_gone_along) (G_gone_along : FnOk P w K mg base CX0 k a_gone_along fd_gone_along P_gone_along (liftSp K sp_gone_along)) {a_is_long_here : Addr} {fd_is_long_here : FuncData} (n_is_long_here : Fn K mg "is_long_here" s_is_long_here P_is_long_here a_is_long_here fd_is_long_here) (G_is_long_here : FnOk P w K mg base CX0 k a_is_long_here fd_is_long_here P_is_long_here (liftSp K sp_is_long_here)) (m_int : mg "int" = none)
    (cdv : Value) (A : Around) (outer : List Env) (s : Shared) (H : Hp) (E : XK) (hr : Room k (A.deeper (envOfC "gone_along" (defScope s_gone_along) s.heap.objs.size f cdv))) :
    DSs MT (cxOf CX0 P w K mg base N_gone_along "gone_along" (defScope s_gone_along) f cdv A outer s H E).nox (defBody s_gone_along) (g_gone_along sp_known_as sp_gone_along sp_is_long_here) :=
  (dss_cons (ds_if (dt_cmp (od_eq hr.u200) (de_ix (de_var 1) de_int) de_str (nomark _)) (dss_one (ds_ret (de_callN n_known_as G_known_as hr (by rfl) (da_cons (de_var 0) (da_cons (de_ix (de_var 1) de_int) da_nil))))) dss_nil) (dss_cons (ds_if (dt_cmp (od_notin hr.u200) (de_ix (de_var 1) de_int) (de_tup (da_cons de_str (da_cons de_str (da_cons de_str da_nil)))) (by rfl)) (dss_one (ds_ret de_non)) dss_nil) (dss_cons (ds_set (i := 3) sc_gone_along.nd rfl (by first | exact Or.inl rfl | exact Or.inr rfl) (de_callN n_gone_along G_gone_along hr (by rfl) (da_cons (de_var 0) (da_cons (de_ix (de_var 1) de_int) (da_cons (de_var 2) da_nil))))) (dss_cons (ds_if (dt_cmp od_is (de_var 3) de_non (nomark _)) (dss_one (ds_ret de_non)) dss_nil) (dss_cons (ds_if (dt_cmp (od_eq hr.u200) (de_ix (de_var 1) de_int) de_str (nomark _)) (dss_cons (ds_if (dt_of (dw_and (dt_cmp (od_eq hr.u200) (de_ix (de_var 3) de_int) de_str (nomark _)) (dw_and1 (dt_val (de_callN n_is_long_here G_is_long_here hr (by rfl) (da_cons (de_var 0) (da_cons (de_ix (de_var 3) de_int) (da_cons (de_ix (de_var 1) de_int) (da_cons (de_var 2) da_nil))))))))) (dss_one (ds_ret (de_ix (de_var 3) de_int))) dss_nil) (dss_one (ds_ret de_non))) dss_nil) (dss_cons (ds_if (dt_cmp (od_ne hr.u200) (de_ix (de_var 3) de_int) de_str (nomark _)) (dss_one (ds_ret de_non)) dss_nil) (dss_one (ds_ret (de_ix (de_var 3) (de_op od_add de_int (de_callTy cd_int1 (by rfl) m_int bb_int (da_cons (de_cmp (od_eq hr.u200) (de_ix (de_var 1) de_int) de_str (nomark _)) da_nil))))))))))))
/-! ### is_long -/
abbrev s_is_long : Stmt := topS 35
abbrev N_is_long : List Str := ["row", "kind", "program"]
abbrev P_is_long : List Str := ["row", "kind", "program"]
theorem sc_is_long : FnScope N_is_long P_is_long (defScope s_is_long) := ⟨rfl, rfl, rfl, by decide +kernel, rfl, by decide +kernel, by decide +kernel⟩
def g_is_long (sp_is_long_here : DSp) : GS :=
  (gRet (fCall sp_is_long_here (fCons (fCB rList1 (fCons (fVar 0) fNil)) (fCons (fVar 1) (fCons (fVar 2) (fCons (fC (.int 0)) fNil))))))
theorem der_is_long {P : Program} {w : World} {K : PySem.W.Frag} {mg : Str → Option Value} {base : Heap} {k : Nat} {f : Addr} {sp_is_long_here : DSp} {a_is_long_here : Addr} {fd_is_long_here : FuncData} (n_is_long_here : Fn K mg "is_long_here" s_is_long_here P_is_long_here a_is_long_here fd_is_long_here) (G_is_long_here : FnOk P w K mg base CX0 k a_is_long_here fd_is_long_here P_is_long_here (liftSp K sp_is_long_here)) (m_list : mg "list" = none)
    (cdv : Value) (A : Around) (outer : List Env) (s : Shared) (H : Hp) (E : XK) (hr : Room k (A.deeper (envOfC "is_long" (defScope s_is_long) s.heap.objs.size f cdv))) :
    DSs MT (cxOf CX0 P w K mg base N_is_long "is_long" (defScope s_is_long) f cdv A outer s H E).nox (defBody s_is_long) (g_is_long sp_is_long_here) :=
  (dss_one (ds_ret (de_callN n_is_long_here G_is_long_here hr (by rfl) (da_cons (de_callTy cd_list1 (by rfl) m_list bb_list (da_cons (de_var 0) da_nil)) (da_cons (de_var 1) (da_cons (de_var 2) (da_cons de_int da_nil)))))))
/-! ### is_whole -/
abbrev s_is_whole : Stmt := topS 37
abbrev N_is_whole : List Str := ["thing"]
abbrev P_is_whole : List Str := ["thing"]
theorem sc_is_whole : FnScope N_is_whole P_is_whole (defScope s_is_whole) := ⟨rfl, rfl, rfl, by decide +kernel, rfl, by decide +kernel, by decide +kernel⟩
def g_is_whole : GS :=
  (gRet (fAndV (fCB rIsiD (fCons (fVar 0) (fCons (fC (.ty "int")) fNil))) (fNotV (fCB rIsiD (fCons (fVar 0) (fCons (fC (.ty "bool")) fNil))))))
theorem der_is_whole {P : Program} {w : World} {K : PySem.W.Frag} {mg : Str → Option Value} {base : Heap} {k : Nat} {f : Addr} (m_int : mg "int" = none) (m_isinstance : mg "isinstance" = none) (m_bool : mg "bool" = none)
    (cdv : Value) (A : Around) (outer : List Env) (s : Shared) (H : Hp) (E : XK) (hr : Room k (A.deeper (envOfC "is_whole" (defScope s_is_whole) s.heap.objs.size f cdv))) :
    DSs MT (cxOf CX0 P w K mg base N_is_whole "is_whole" (defScope s_is_whole) f cdv A outer s H E).nox (defBody s_is_whole) (g_is_whole) :=
  (dss_one (ds_ret (de_and (de_callB cd_isi (by rfl) m_isinstance bb_isinstance (da_cons (de_var 0) (da_cons (de_ty bb_int m_int (by rfl)) da_nil))) (de_one (de_not (de_callB cd_isi (by rfl) m_isinstance bb_isinstance (da_cons (de_var 0) (da_cons (de_ty bb_bool m_bool (by rfl)) da_nil))))))))
/-! ### is_place -/
abbrev s_is_place : Stmt := topS 39
abbrev N_is_place : List Str := ["program", "thing", "step"]
abbrev P_is_place : List Str := ["program", "thing"]
theorem sc_is_place : FnScope N_is_place P_is_place (defScope s_is_place) := ⟨rfl, rfl, rfl, by decide +kernel, rfl, by decide +kernel, by decide +kernel⟩
def g_is_place (sp_is_whole sp_part_at : DSp) : GS :=
  (gSeq (gIf (fOr (fNot (fTest (fCB rIsiD (fCons (fVar 1) (fCons (fC (.ty "list")) fNil))))) (fTest (fOp (rEqD true) (fLc (fiList (fVar 1)) (.nm 2) (fNot (fTest (fCall sp_is_whole (fCons (fVar 2) fNil)))) (fVar 2) [2]) (fLst fNil)))) (gRet (fC (.bl false))) gNext) (gRet (fOp (rIsN true) (fCall sp_part_at (fCons (fVar 0) (fCons (fVar 1) fNil))) (fC .non))))
theorem der_is_place {P : Program} {w : World} {K : PySem.W.Frag} {mg : Str → Option Value} {base : Heap} {k : Nat} {f : Addr} {sp_is_whole sp_part_at : DSp} {a_is_whole : Addr} {fd_is_whole : FuncData} (n_is_whole : Fn K mg "is_whole" s_is_whole P_is_whole a_is_whole fd_is_whole) (G_is_whole : FnOk P w K mg base CX0 k a_is_whole fd_is_whole P_is_whole (liftSp K sp_is_whole)) {a_part_at : Addr} {fd_part_at : FuncData} (n_part_at : Fn K mg "part_at" s_part_at P_part_at a_part_at fd_part_at) (G_part_at : FnOk P w K mg base CX0 k a_part_at fd_part_at P_part_at (liftSp K sp_part_at)) (m_list : mg "list" = none) (m_isinstance : mg "isinstance" = none)
    (cdv : Value) (A : Around) (outer : List Env) (s : Shared) (H : Hp) (E : XK) (hr : Room k (A.deeper (envOfC "is_place" (defScope s_is_place) s.heap.objs.size f cdv))) :
    DSs MT (cxOf CX0 P w K mg base N_is_place "is_place" (defScope s_is_place) f cdv A outer s H E).nox (defBody s_is_place) (g_is_place sp_is_whole sp_part_at) :=
  (dss_cons (ds_if (dt_of (dw_or (dt_not (dt_val (de_callB cd_isi (by rfl) m_isinstance bb_isinstance (da_cons (de_var 1) (da_cons (de_ty bb_list m_list (by rfl)) da_nil))))) (dw_or1 (dt_cmp (od_ne hr.u200) (de_lc (by rfl) sc_is_place.nd (di_list (de_var 1)) (blkOk_by (own := [("step", 2)]) (N := N_is_place) (sc := defScope s_is_place) (by decide +kernel)) (fun _ _ _ _ _ => (dp_name (i := 2) sc_is_place.nd (by rfl) (by first | exact Or.inl rfl | exact Or.inr rfl))) (fun _ _ _ _ _ => (dts_one (dt_not (dt_val (de_callN n_is_whole G_is_whole hr (by rfl) (da_cons (de_var 2) da_nil)))))) (fun _ _ _ _ _ => (de_var 2))) (de_lst da_nil) (nomark _))))) (dss_one (ds_ret de_bl)) dss_nil) (dss_one (ds_ret (de_cmp od_isnot (de_callN n_part_at G_part_at hr (by rfl) (da_cons (de_var 0) (da_cons (de_var 1) da_nil))) de_non (nomark _)))))
/-! ### kind_at -/
abbrev s_kind_at : Stmt := topS 40
abbrev N_kind_at : List Str := ["row", "program", "place", "known", "step"]
abbrev P_kind_at : List Str := ["row", "program", "place"]
theorem sc_kind_at : FnScope N_kind_at P_kind_at (defScope s_kind_at) := ⟨rfl, rfl, rfl, by decide +kernel, rfl, by decide +kernel, by decide +kernel⟩
def g_kind_at (sp_inner sp_kind_of : DSp) : GS :=
  (gSeq (gSet (fCB rList1 (fCons (fVar 0) fNil)) 3) (gSeq (gFor (fiList (fVar 2)) (.nm 4) (gSeq (gIf (fTest (fOp (rEqD false) (fOp rIxD (fVar 1) (fC (.int 0))) (fC (.str "take")))) (gSet (fOp rAddD (fVar 3) (fLst (fCons (fTup (fCons (fOp rIxD (fVar 1) (fC (.int 1))) (fCons (fOp rIxD (fVar 1) (fC (.int 2))) fNil))) fNil))) 3) gNext) (gSet (fOp rIxD (fFrz (fCall sp_inner (fCons (fVar 1) fNil))) (fVar 4)) 1))) (gRet (fCall sp_kind_of (fCons (fVar 3) (fCons (fVar 1) fNil))))))
theorem der_kind_at {P : Program} {w : World} {K : PySem.W.Frag} {mg : Str → Option Value} {base : Heap} {k : Nat} {f : Addr} {sp_inner sp_kind_of : DSp} {a_inner : Addr} {fd_inner : FuncData} (n_inner : Fn K mg "inner" s_inner P_inner a_inner fd_inner) (G_inner : FnOk P w K mg base CX0 k a_inner fd_inner P_inner (liftSp K sp_inner)) {a_kind_of : Addr} {fd_kind_of : FuncData} (n_kind_of : Fn K mg "kind_of" s_kind_of P_kind_of a_kind_of fd_kind_of) (G_kind_of : FnOk P w K mg base CX0 k a_kind_of fd_kind_of P_kind_of (liftSp K sp_kind_of)) (m_list : mg "list" = none)
    (cdv : Value) (A : Around) (outer : List Env) (s : Shared) (H : Hp) (E : XK) (hr : Room k (A.deeper (envOfC "kind_at" (defScope s_kind_at) s.heap.objs.size f cdv))) :
    DSs MT (cxOf CX0 P w K mg base N_kind_at "kind_at" (defScope s_kind_at) f cdv A outer s H E).nox (defBody s_kind_at) (g_kind_at sp_inner sp_kind_of) :=
  (dss_cons (ds_set (i := 3) sc_kind_at.nd rfl (by first | exact Or.inl rfl | exact Or.inr rfl) (de_callTy cd_list1 (by rfl) m_list bb_list (da_cons (de_var 0) da_nil))) (dss_cons (ds_for PassesOwn.never rfl (di_list (de_var 2)) (dp_name (i := 4) sc_kind_at.nd (by rfl) (by first | exact Or.inl rfl | exact Or.inr rfl)) (dss_cons (ds_if (dt_cmp (od_eq hr.u200) (de_ix (de_var 1) de_int) de_str (nomark _)) (dss_one (ds_set (i := 3) sc_kind_at.nd rfl (by first | exact Or.inl rfl | exact Or.inr rfl) (de_op od_add (de_var 3) (de_lst (da_cons (de_tup (da_cons (de_ix (de_var 1) de_int) (da_cons (de_ix (de_var 1) de_int) da_nil))) da_nil))))) dss_nil) (dss_one (ds_set (i := 1) sc_kind_at.nd rfl (by first | exact Or.inl rfl | exact Or.inr rfl) (de_ix (de_frz (de_callN n_inner G_inner hr (by rfl) (da_cons (de_var 1) da_nil))) (de_var 4)))))) (dss_one (ds_ret (de_callN n_kind_of G_kind_of hr (by rfl) (da_cons (de_var 3) (da_cons (de_var 1) da_nil)))))))
/-! ### is_ring -/
abbrev s_is_ring : Stmt := topS 41
abbrev N_is_ring : List Str := ["row", "kind", "program", "above", "below", "mark"]
abbrev P_is_ring : List Str := ["row", "kind", "program", "above", "below"]
theorem sc_is_ring : FnScope N_is_ring P_is_ring (defScope s_is_ring) := ⟨rfl, rfl, rfl, by decide +kernel, rfl, by decide +kernel, by decide +kernel⟩
def g_is_ring (sp_is_program sp_is_long sp_is_place sp_kind_at : DSp) : GS :=
  (gSeq (gIf (fOr (fNot (fTest (fCall sp_is_program (fCons (fVar 2) fNil)))) (fNot (fTest (fCall sp_is_long (fCons (fVar 0) (fCons (fVar 1) (fCons (fVar 2) fNil))))))) (gRet (fC (.bl false))) gNext) (gSeq (gIf (fOr (fNot (fTest (fCall sp_is_place (fCons (fVar 2) (fCons (fVar 3) fNil))))) (fNot (fTest (fCall sp_is_place (fCons (fVar 2) (fCons (fVar 4) fNil)))))) (gRet (fC (.bl false))) gNext) (gSeq (gIf (fOr (fTest (fOp rGeD (fCB rLenD (fCons (fVar 3) fNil)) (fCB rLenD (fCons (fVar 4) fNil)))) (fTest (fOp (rEqD true) (fSl rSlD (fVar 4) fNoPart (fPart (fCB rLenD (fCons (fVar 3) fNil)))) (fVar 3)))) (gRet (fC (.bl false))) gNext) (gSeq (gSet (fCall sp_kind_at (fCons (fVar 0) (fCons (fVar 2) (fCons (fVar 3) fNil)))) 5) (gRet (fAndV (fOp (rEqD false) (fOp rIxD (fVar 5) (fC (.int 0))) (fC (.str "mark"))) (fOp (rEqD false) (fCall sp_kind_at (fCons (fVar 0) (fCons (fVar 2) (fCons (fVar 4) fNil)))) (fVar 5))))))))
theorem der_is_ring {P : Program} {w : World} {K : PySem.W.Frag} {mg : Str → Option Value} {base : Heap} {k : Nat} {f : Addr} {sp_is_program sp_is_long sp_is_place sp_kind_at : DSp} {a_is_program : Addr} {fd_is_program : FuncData} (n_is_program : Fn K mg "is_program" s_is_program P_is_program a_is_program fd_is_program) (G_is_program : FnOk P w K mg base CX0 k a_is_program fd_is_program P_is_program (liftSp K sp_is_program)) {a_is_long : Addr} {fd_is_long : FuncData} (n_is_long : Fn K mg "is_long" s_is_long P_is_long a_is_long fd_is_long) (G_is_long : FnOk P w K mg base CX0 k a_is_long fd_is_long P_is_long (liftSp K sp_is_long)) {a_is_place : Addr} {fd_is_place : FuncData} (n_is_place : Fn K mg "is_place" s_is_place P_is_place a_is_place fd_is_place) (G_is_place : FnOk P w K mg base CX0 k a_is_place fd_is_place P_is_place (liftSp K sp_is_place)) {a_kind_at : Addr} {fd_kind_at : FuncData} (n_kind_at : Fn K mg "kind_at" s_kind_at P_kind_at a_kind_at fd_kind_at) (G_kind_at : FnOk P w K mg base CX0 k a_kind_at fd_kind_at P_kind_at (liftSp K sp_kind_at)) (m_len : mg "len" = none)
    (cdv : Value) (A : Around) (outer : List Env) (s : Shared) (H : Hp) (E : XK) (hr : Room k (A.deeper (envOfC "is_ring" (defScope s_is_ring) s.heap.objs.size f cdv))) :
    DSs MT (cxOf CX0 P w K mg base N_is_ring "is_ring" (defScope s_is_ring) f cdv A outer s H E).nox (defBody s_is_ring) (g_is_ring sp_is_program sp_is_long sp_is_place sp_kind_at) :=
  (dss_cons (ds_if (dt_of (dw_or (dt_not (dt_val (de_callN n_is_program G_is_program hr (by rfl) (da_cons (de_var 2) da_nil)))) (dw_or1 (dt_not (dt_val (de_callN n_is_long G_is_long hr (by rfl) (da_cons (de_var 0) (da_cons (de_var 1) (da_cons (de_var 2) da_nil))))))))) (dss_one (ds_ret de_bl)) dss_nil) (dss_cons (ds_if (dt_of (dw_or (dt_not (dt_val (de_callN n_is_place G_is_place hr (by rfl) (da_cons (de_var 2) (da_cons (de_var 3) da_nil))))) (dw_or1 (dt_not (dt_val (de_callN n_is_place G_is_place hr (by rfl) (da_cons (de_var 2) (da_cons (de_var 4) da_nil)))))))) (dss_one (ds_ret de_bl)) dss_nil) (dss_cons (ds_if (dt_of (dw_or (dt_cmp od_ge (de_callB cd_len (by rfl) m_len bb_len (da_cons (de_var 3) da_nil)) (de_callB cd_len (by rfl) m_len bb_len (da_cons (de_var 4) da_nil)) (nomark _)) (dw_or1 (dt_cmp (od_ne hr.u200) (de_slice (de_var 4) do_none (do_some (de_callB cd_len (by rfl) m_len bb_len (da_cons (de_var 3) da_nil)))) (de_var 3) (nomark _))))) (dss_one (ds_ret de_bl)) dss_nil) (dss_cons (ds_set (i := 5) sc_is_ring.nd rfl (by first | exact Or.inl rfl | exact Or.inr rfl) (de_callN n_kind_at G_kind_at hr (by rfl) (da_cons (de_var 0) (da_cons (de_var 2) (da_cons (de_var 3) da_nil))))) (dss_one (ds_ret (de_and (de_cmp (od_eq hr.u200) (de_ix (de_var 5) de_int) de_str (nomark _)) (de_one (de_cmp (od_eq hr.u200) (de_callN n_kind_at G_kind_at hr (by rfl) (da_cons (de_var 0) (da_cons (de_var 2) (da_cons (de_var 4) da_nil)))) (de_var 5) (nomark _))))))))))
/-! ### _law_pool -/
abbrev s__law_pool : Stmt := topS 43
abbrev N__law_pool : List Str := ["_law_script", "_law_k", "_law_cell", "_law_number"]
abbrev P__law_pool : List Str := ["_law_script", "_law_k"]
theorem sc__law_pool : FnScope N__law_pool P__law_pool (defScope s__law_pool) := ⟨rfl, rfl, rfl, by decide +kernel, rfl, by decide +kernel, by decide +kernel⟩
def g__law_pool : GS :=
  (gSeq (gSet (fC (.int 0)) 2) (gSeq (gIf (fTest (fOp rLtD (fVar 1) (fCB rLenD (fCons (fVar 0) fNil)))) (gSet (fOp rIxD (fVar 0) (fVar 1)) 2) gNext) (gSeq (gSet (fOp rModD (fOp rPowD (fOp rAddD (fOp rAddD (fOp rModD (fVar 2) (fC (.int 2147483629))) (fOp rMulD (fOp rMulD (fC (.int 104729)) (fVar 1)) (fVar 1))) (fC (.int 11))) (fC (.int 3))) (fC (.int 2147483647))) 3) (gSeq (gIf (fTest (fOp rLtD (fVar 2) (fOp rPowD (fC (.int 10)) (fC (.int 18))))) (gSet (fC (.int 0)) 2) gNext) (gRet (fPool (fCons (fVar 2) (fCons (fVar 3) fNil))))))))
theorem der__law_pool {P : Program} {w : World} {K : PySem.W.Frag} {mg : Str → Option Value} {base : Heap} {k : Nat} {f : Addr} (m_len : mg "len" = none)
    (cdv : Value) (A : Around) (outer : List Env) (s : Shared) (H : Hp) (E : XK) (hr : Room k (A.deeper (envOfC "_law_pool" (defScope s__law_pool) s.heap.objs.size f cdv))) :
    DSs MT (cxOf CX0 P w K mg base N__law_pool "_law_pool" (defScope s__law_pool) f cdv A outer s H E).nox (defBody s__law_pool) (g__law_pool) :=
  (dss_cons (ds_set (i := 2) sc__law_pool.nd rfl (by first | exact Or.inl rfl | exact Or.inr rfl) de_int) (dss_cons (ds_if (dt_cmp od_lt (de_var 1) (de_callB cd_len (by rfl) m_len bb_len (da_cons (de_var 0) da_nil)) (nomark _)) (dss_one (ds_set (i := 2) sc__law_pool.nd rfl (by first | exact Or.inl rfl | exact Or.inr rfl) (de_ix (de_var 0) (de_var 1)))) dss_nil) (dss_cons (ds_set (i := 3) sc__law_pool.nd rfl (by first | exact Or.inl rfl | exact Or.inr rfl) (de_op od_mod (de_op od_pow (de_op od_add (de_op od_add (de_op od_mod (de_var 2) de_int) (de_op od_mul (de_op od_mul de_int (de_var 1)) (de_var 1))) de_int) de_int) de_int)) (dss_cons (ds_if (dt_cmp od_lt (de_var 2) (de_op od_pow de_int de_int) (nomark _)) (dss_one (ds_set (i := 2) sc__law_pool.nd rfl (by first | exact Or.inl rfl | exact Or.inr rfl) de_int)) dss_nil) (dss_one (ds_ret (de_pool (da_cons (de_var 2) (da_cons (de_var 3) da_nil)))))))))
/-! ### _law_take -/
abbrev s__law_take : Stmt := topS 44
abbrev N__law_take : List Str := ["_law_pool_here", "_law_many", "_law_found"]
abbrev P__law_take : List Str := ["_law_pool_here", "_law_many"]
theorem sc__law_take : FnScope N__law_take P__law_take (defScope s__law_take) := ⟨rfl, rfl, rfl, by decide +kernel, rfl, by decide +kernel, by decide +kernel⟩
def g__law_take : GS :=
  (gSeq (gIf (fTest (fOp rGtD (fOp rIxD (fVar 0) (fC (.int 0))) (fC (.int 0)))) (gSeq (gSet (fOp rModD (fOp rIxD (fVar 0) (fC (.int 0))) (fVar 1)) 2) (gSeq (gSetIx (fVar 0) (fC (.int 0)) (fOp rDivD (fOp rIxD (fVar 0) (fC (.int 0))) (fVar 1))) (gRet (fVar 2)))) gNext) (gSeq (gSetIx (fVar 0) (fC (.int 1)) (fOp rModD (fOp rAddD (fOp rMulD (fOp rIxD (fVar 0) (fC (.int 1))) (fC (.int 48271))) (fC (.int 11))) (fC (.int 2147483647)))) (gRet (fOp rModD (fOp rDivD (fOp rModD (fOp rMulD (fOp rIxD (fVar 0) (fC (.int 1))) (fOp rIxD (fVar 0) (fC (.int 1)))) (fC (.int 2147483629))) (fC (.int 64))) (fVar 1)))))
theorem der__law_take {P : Program} {w : World} {K : PySem.W.Frag} {mg : Str → Option Value} {base : Heap} {k : Nat} {f : Addr} 
    (cdv : Value) (A : Around) (outer : List Env) (s : Shared) (H : Hp) (E : XK) (hr : Room k (A.deeper (envOfC "_law_take" (defScope s__law_take) s.heap.objs.size f cdv))) :
    DSs MT (cxOf CX0 P w K mg base N__law_take "_law_take" (defScope s__law_take) f cdv A outer s H E).nox (defBody s__law_take) (g__law_take) :=
  (dss_cons (ds_if (dt_cmp od_gt (de_ix (de_var 0) de_int) de_int (nomark _)) (dss_cons (ds_set (i := 2) sc__law_take.nd rfl (by first | exact Or.inl rfl | exact Or.inr rfl) (de_op od_mod (de_ix (de_var 0) de_int) (de_var 1))) (dss_cons (ds_setIx (de_var 0) de_int (de_op od_div (de_ix (de_var 0) de_int) (de_var 1))) (dss_one (ds_ret (de_var 2))))) dss_nil) (dss_cons (ds_setIx (de_var 0) de_int (de_op od_mod (de_op od_add (de_op od_mul (de_ix (de_var 0) de_int) de_int) de_int) de_int)) (dss_one (ds_ret (de_op od_mod (de_op od_div (de_op od_mod (de_op od_mul (de_ix (de_var 0) de_int) (de_ix (de_var 0) de_int)) de_int) de_int) (de_var 1))))))
/-! ### _law_kind -/
abbrev s__law_kind : Stmt := topS 45
abbrev N__law_kind : List Str := ["_law_pool_here", "_law_leaves", "_law_marks", "_law_one", "_law_word"]
abbrev P__law_kind : List Str := ["_law_pool_here", "_law_leaves", "_law_marks"]
theorem sc__law_kind : FnScope N__law_kind P__law_kind (defScope s__law_kind) := ⟨rfl, rfl, rfl, by decide +kernel, rfl, by decide +kernel, by decide +kernel⟩
def g__law_kind (sp__law_take sp__law_kind : DSp) : GS :=
  (gSeq (gIf (fTest (fOp (rEqD false) (fVar 1) (fC (.int 1)))) (gSeq (gIf (fTest (fOp (rEqD false) (fCall sp__law_take (fCons (fVar 0) (fCons (fC (.int 9)) fNil))) (fC (.int 8)))) (gRet (fTup (fCons (fC (.str "one")) fNil))) gNext) (gRet (fTup (fCons (fC (.str "mark")) (fCons (fOp rIxD (fVar 2) (fCall sp__law_take (fCons (fVar 0) (fCons (fCB rLenD (fCons (fVar 2) fNil)) fNil)))) fNil))))) gNext) (gSeq (gSet (fOp rAddD (fC (.int 1)) (fCall sp__law_take (fCons (fVar 0) (fCons (fOp rSubD (fVar 1) (fC (.int 1))) fNil)))) 3) (gSeq (gSet (fOp rIxD (fLst (fCons (fC (.str "to")) (fCons (fC (.str "to")) (fCons (fC (.str "both")) fNil)))) (fCall sp__law_take (fCons (fVar 0) (fCons (fC (.int 3)) fNil)))) 4) (gRet (fTup (fCons (fVar 4) (fCons (fCall sp__law_kind (fCons (fVar 0) (fCons (fVar 3) (fCons (fVar 2) fNil)))) (fCons (fCall sp__law_kind (fCons (fVar 0) (fCons (fOp rSubD (fVar 1) (fVar 3)) (fCons (fVar 2) fNil)))) fNil))))))))
theorem der__law_kind {P : Program} {w : World} {K : PySem.W.Frag} {mg : Str → Option Value} {base : Heap} {k : Nat} {f : Addr} {sp__law_take sp__law_kind : DSp} {a__law_take : Addr} {fd__law_take : FuncData} (n__law_take : Fn K mg "_law_take" s__law_take P__law_take a__law_take fd__law_take) (G__law_take : FnOk P w K mg base CX0 k a__law_take fd__law_take P__law_take (liftSp K sp__law_take)) {a__law_kind : Addr} {fd__law_kind : FuncData} (n__law_kind : Fn K mg "_law_kind" s__law_kind P__law_kind a__law_kind fd__law_kind) (G__law_kind : FnOk P w K mg base CX0 k a__law_kind fd__law_kind P__law_kind (liftSp K sp__law_kind)) (m_len : mg "len" = none)
    (cdv : Value) (A : Around) (outer : List Env) (s : Shared) (H : Hp) (E : XK) (hr : Room k (A.deeper (envOfC "_law_kind" (defScope s__law_kind) s.heap.objs.size f cdv))) :
    DSs MT (cxOf CX0 P w K mg base N__law_kind "_law_kind" (defScope s__law_kind) f cdv A outer s H E).nox (defBody s__law_kind) (g__law_kind sp__law_take sp__law_kind) :=
  (dss_cons (ds_if (dt_cmp (od_eq hr.u200) (de_var 1) de_int (nomark _)) (dss_cons (ds_if (dt_cmp (od_eq hr.u200) (de_callN n__law_take G__law_take hr (by rfl) (da_cons (de_var 0) (da_cons de_int da_nil))) de_int (nomark _)) (dss_one (ds_ret (de_tup (da_cons de_str da_nil)))) dss_nil) (dss_one (ds_ret (de_tup (da_cons de_str (da_cons (de_ix (de_var 2) (de_callN n__law_take G__law_take hr (by rfl) (da_cons (de_var 0) (da_cons (de_callB cd_len (by rfl) m_len bb_len (da_cons (de_var 2) da_nil)) da_nil)))) da_nil)))))) dss_nil) (dss_cons (ds_set (i := 3) sc__law_kind.nd rfl (by first | exact Or.inl rfl | exact Or.inr rfl) (de_op od_add de_int (de_callN n__law_take G__law_take hr (by rfl) (da_cons (de_var 0) (da_cons (de_op od_sub (de_var 1) de_int) da_nil))))) (dss_cons (ds_set (i := 4) sc__law_kind.nd rfl (by first | exact Or.inl rfl | exact Or.inr rfl) (de_ix (de_lst (da_cons de_str (da_cons de_str (da_cons de_str da_nil)))) (de_callN n__law_take G__law_take hr (by rfl) (da_cons (de_var 0) (da_cons de_int da_nil))))) (dss_one (ds_ret (de_tup (da_cons (de_var 4) (da_cons (de_callN n__law_kind G__law_kind hr (by rfl) (da_cons (de_var 0) (da_cons (de_var 3) (da_cons (de_var 2) da_nil)))) (da_cons (de_callN n__law_kind G__law_kind hr (by rfl) (da_cons (de_var 0) (da_cons (de_op od_sub (de_var 1) (de_var 3)) (da_cons (de_var 2) da_nil)))) da_nil)))))))))
/-! ### _law_ways -/
abbrev s__law_ways : Stmt := topS 46
abbrev N__law_ways : List Str := ["_law_kind_here", "_law_found", "_law_moves", "_law_mark"]
abbrev P__law_ways : List Str := ["_law_kind_here"]
theorem sc__law_ways : FnScope N__law_ways P__law_ways (defScope s__law_ways) := ⟨rfl, rfl, rfl, by decide +kernel, rfl, by decide +kernel, by decide +kernel⟩
def g__law_ways (sp__law_ways : DSp) : GS :=
  (gSeq (gIf (fTest (fOp (rEqD false) (fCB rLenD (fCons (fVar 0) fNil)) (fC (.int 1)))) (gRet (fLst fNil)) gNext) (gSeq (gIf (fTest (fOp (rEqD false) (fCB rLenD (fCons (fVar 0) fNil)) (fC (.int 2)))) (gRet (fLst (fCons (fTup (fCons (fLst fNil) (fCons (fOp rIxD (fVar 0) (fC (.int 1))) fNil))) fNil))) gNext) (gSeq (gIf (fTest (fOp (rEqD false) (fOp rIxD (fVar 0) (fC (.int 0))) (fC (.str "to")))) (gRet (fLc (fiList (fCall sp__law_ways (fCons (fOp rIxD (fVar 0) (fC (.int 2))) fNil))) (.tp [(.nm 2), (.nm 3)]) fYes (fTup (fCons (fOp rAddD (fLst (fCons (fOp rIxD (fVar 0) (fC (.int 1))) fNil)) (fVar 2)) (fCons (fVar 3) fNil))) [2, 3])) gNext) (gSeq (gSet (fLc (fiList (fCall sp__law_ways (fCons (fOp rIxD (fVar 0) (fC (.int 1))) fNil))) (.tp [(.nm 2), (.nm 3)]) fYes (fTup (fCons (fOp rAddD (fLst (fCons (fC (.int 1)) fNil)) (fVar 2)) (fCons (fVar 3) fNil))) [2, 3]) 1) (gRet (fOp rAddD (fVar 1) (fLc (fiList (fCall sp__law_ways (fCons (fOp rIxD (fVar 0) (fC (.int 2))) fNil))) (.tp [(.nm 2), (.nm 3)]) fYes (fTup (fCons (fOp rAddD (fLst (fCons (fC (.int 2)) fNil)) (fVar 2)) (fCons (fVar 3) fNil))) [2, 3])))))))
theorem der__law_ways {P : Program} {w : World} {K : PySem.W.Frag} {mg : Str → Option Value} {base : Heap} {k : Nat} {f : Addr} {sp__law_ways : DSp} {a__law_ways : Addr} {fd__law_ways : FuncData} (n__law_ways : Fn K mg "_law_ways" s__law_ways P__law_ways a__law_ways fd__law_ways) (G__law_ways : FnOk P w K mg base CX0 k a__law_ways fd__law_ways P__law_ways (liftSp K sp__law_ways)) (m_len : mg "len" = none)
    (cdv : Value) (A : Around) (outer : List Env) (s : Shared) (H : Hp) (E : XK) (hr : Room k (A.deeper (envOfC "_law_ways" (defScope s__law_ways) s.heap.objs.size f cdv))) :
    DSs MT (cxOf CX0 P w K mg base N__law_ways "_law_ways" (defScope s__law_ways) f cdv A outer s H E).nox (defBody s__law_ways) (g__law_ways sp__law_ways) :=
  (dss_cons (ds_if (dt_cmp (od_eq hr.u200) (de_callB cd_len (by rfl) m_len bb_len (da_cons (de_var 0) da_nil)) de_int (nomark _)) (dss_one (ds_ret (de_lst da_nil))) dss_nil) (dss_cons (ds_if (dt_cmp (od_eq hr.u200) (de_callB cd_len (by rfl) m_len bb_len (da_cons (de_var 0) da_nil)) de_int (nomark _)) (dss_one (ds_ret (de_lst (da_cons (de_tup (da_cons (de_lst da_nil) (da_cons (de_ix (de_var 0) de_int) da_nil))) da_nil)))) dss_nil) (dss_cons (ds_if (dt_cmp (od_eq hr.u200) (de_ix (de_var 0) de_int) de_str (nomark _)) (dss_one (ds_ret (de_lc (by rfl) sc__law_ways.nd (di_list (de_callN n__law_ways G__law_ways hr (by rfl) (da_cons (de_ix (de_var 0) de_int) da_nil))) (blkOk_by (own := [("_law_moves", 2), ("_law_mark", 3)]) (N := N__law_ways) (sc := defScope s__law_ways) (by decide +kernel)) (fun _ _ _ _ _ => (dp_tup (by rfl) (dps_cons (dp_name (i := 2) sc__law_ways.nd (by rfl) (by first | exact Or.inl rfl | exact Or.inr rfl)) (dps_cons (dp_name (i := 3) sc__law_ways.nd (by rfl) (by first | exact Or.inl rfl | exact Or.inr rfl)) dps_nil)))) (fun _ _ _ _ _ => dts_nil) (fun _ _ _ _ _ => (de_tup (da_cons (de_op od_add (de_lst (da_cons (de_ix (de_var 0) de_int) da_nil)) (de_var 2)) (da_cons (de_var 3) da_nil))))))) dss_nil) (dss_cons (ds_setLc (i := 1) rfl sc__law_ways.nd rfl rfl (sw_true rfl rfl rfl (by decide +kernel)) (di_list (de_callN n__law_ways G__law_ways hr (by rfl) (da_cons (de_ix (de_var 0) de_int) da_nil))) (blkOk_by (own := [("_law_moves", 2), ("_law_mark", 3)]) (N := N__law_ways) (sc := defScope s__law_ways) (by decide +kernel)) (fun _ _ _ _ _ => (dp_tup (by rfl) (dps_cons (dp_name (i := 2) sc__law_ways.nd (by rfl) (by first | exact Or.inl rfl | exact Or.inr rfl)) (dps_cons (dp_name (i := 3) sc__law_ways.nd (by rfl) (by first | exact Or.inl rfl | exact Or.inr rfl)) dps_nil)))) (fun _ _ _ _ _ => dts_nil) (fun _ _ _ _ _ => (de_tup (da_cons (de_op od_add (de_lst (da_cons de_int da_nil)) (de_var 2)) (da_cons (de_var 3) da_nil))))) (dss_one (ds_ret (de_op od_add (de_var 1) (de_lc (by rfl) sc__law_ways.nd (di_list (de_callN n__law_ways G__law_ways hr (by rfl) (da_cons (de_ix (de_var 0) de_int) da_nil))) (blkOk_by (own := [("_law_moves", 2), ("_law_mark", 3)]) (N := N__law_ways) (sc := defScope s__law_ways) (by decide +kernel)) (fun _ _ _ _ _ => (dp_tup (by rfl) (dps_cons (dp_name (i := 2) sc__law_ways.nd (by rfl) (by first | exact Or.inl rfl | exact Or.inr rfl)) (dps_cons (dp_name (i := 3) sc__law_ways.nd (by rfl) (by first | exact Or.inl rfl | exact Or.inr rfl)) dps_nil)))) (fun _ _ _ _ _ => dts_nil) (fun _ _ _ _ _ => (de_tup (da_cons (de_op od_add (de_lst (da_cons de_int da_nil)) (de_var 2)) (da_cons (de_var 3) da_nil))))))))))))
/-! ### _law_longed -/
abbrev s__law_longed : Stmt := topS 47
abbrev N__law_longed : List Str := ["_law_pool_here", "_law_known", "_law_kind_here", "_law_rest", "_law_takes", "_law_room", "_law_name", "_law_some", "_law_one", "_law_moves", "_law_found", "_law_move", "_law_mark"]
abbrev P__law_longed : List Str := ["_law_pool_here", "_law_known", "_law_kind_here", "_law_rest"]
theorem sc__law_longed : FnScope N__law_longed P__law_longed (defScope s__law_longed) := ⟨rfl, rfl, rfl, by decide +kernel, rfl, by decide +kernel, by decide +kernel⟩
def g__law_longed (sp__law_longed sp__law_ways sp__law_take : DSp) : GS :=
  (gSeq (gAsg (fVar 3) (.tp [(.nm 4), (.nm 5)])) (gSeq (gIf (fTest (fOp (rEqD false) (fOp rIxD (fVar 2) (fC (.int 0))) (fC (.str "one")))) (gRet (fTup (fCons (fC (.str "thing")) fNil))) gNext) (gSeq (gIf (fTest (fOp (rEqD false) (fOp rIxD (fVar 2) (fC (.int 0))) (fC (.str "both")))) (gRet (fTup (fCons (fC (.str "pair")) (fCons (fCall sp__law_longed (fCons (fVar 0) (fCons (fVar 1) (fCons (fOp rIxD (fVar 2) (fC (.int 1))) (fCons (fVar 3) fNil))))) (fCons (fCall sp__law_longed (fCons (fVar 0) (fCons (fVar 1) (fCons (fOp rIxD (fVar 2) (fC (.int 2))) (fCons (fVar 3) fNil))))) fNil))))) gNext) (gSeq (gIf (fTest (fOp (rEqD false) (fOp rIxD (fVar 2) (fC (.int 0))) (fC (.str "to")))) (gSeq (gSet (fOp rAddD (fC (.str "x")) (fCB rStr1 (fCons (fVar 4) fNil))) 6) (gRet (fTup (fCons (fC (.str "take")) (fCons (fVar 6) (fCons (fOp rIxD (fVar 2) (fC (.int 1))) (fCons (fCall sp__law_longed (fCons (fVar 0) (fCons (fOp rAddD (fVar 1) (fLst (fCons (fTup (fCons (fVar 6) (fCons (fOp rIxD (fVar 2) (fC (.int 1))) fNil))) fNil))) (fCons (fOp rIxD (fVar 2) (fC (.int 2))) (fCons (fTup (fCons (fOp rAddD (fVar 4) (fC (.int 1))) (fCons (fVar 5) fNil))) fNil))))) fNil))))))) gNext) (gSeq (gSet (fLst fNil) 7) (gSeq (gFor (fiList (fVar 1)) (.tp [(.nm 6), (.nm 8)]) (gSet (fOp rAddD (fVar 7) (fLc (fiList (fCall sp__law_ways (fCons (fVar 8) fNil))) (.tp [(.nm 9), (.nm 12)]) (fTest (fOp (rEqD false) (fVar 12) (fOp rIxD (fVar 2) (fC (.int 1))))) (fTup (fCons (fVar 6) (fCons (fVar 9) fNil))) [9, 12])) 7)) (gSeq (gIf (fTest (fOp rLtD (fVar 5) (fC (.int 1)))) (gSet (fLc (fiList (fVar 7)) (.nm 8) (fTest (fOp (rEqD false) (fOp rIxD (fVar 8) (fC (.int 1))) (fLst fNil))) (fVar 8) [8]) 7) gNext) (gSeq (gAsg (fOp rIxD (fVar 7) (fCall sp__law_take (fCons (fVar 0) (fCons (fCB rLenD (fCons (fVar 7) fNil)) fNil)))) (.tp [(.nm 6), (.nm 9)])) (gSeq (gSet (fTup (fCons (fC (.str "name")) (fCons (fVar 6) fNil))) 10) (gSeq (gFor (fiList (fVar 9)) (.nm 11) (gIf (fOr (fTest (fOp (rEqD false) (fVar 11) (fC (.int 1)))) (fTest (fOp (rEqD false) (fVar 11) (fC (.int 2))))) (gSet (fTup (fCons (fOp rIxD (fLst (fCons (fC (.str "first")) (fCons (fC (.str "second")) fNil))) (fOp rSubD (fVar 11) (fC (.int 1)))) (fCons (fVar 10) fNil))) 10) (gSet (fTup (fCons (fC (.str "give")) (fCons (fVar 10) (fCons (fCall sp__law_longed (fCons (fVar 0) (fCons (fVar 1) (fCons (fVar 11) (fCons (fTup (fCons (fVar 4) (fCons (fOp rSubD (fVar 5) (fC (.int 1))) fNil))) fNil))))) fNil)))) 10))) (gRet (fVar 10))))))))))))
theorem der__law_longed {P : Program} {w : World} {K : PySem.W.Frag} {mg : Str → Option Value} {base : Heap} {k : Nat} {f : Addr} {sp__law_longed sp__law_ways sp__law_take : DSp} {a__law_longed : Addr} {fd__law_longed : FuncData} (n__law_longed : Fn K mg "_law_longed" s__law_longed P__law_longed a__law_longed fd__law_longed) (G__law_longed : FnOk P w K mg base CX0 k a__law_longed fd__law_longed P__law_longed (liftSp K sp__law_longed)) {a__law_ways : Addr} {fd__law_ways : FuncData} (n__law_ways : Fn K mg "_law_ways" s__law_ways P__law_ways a__law_ways fd__law_ways) (G__law_ways : FnOk P w K mg base CX0 k a__law_ways fd__law_ways P__law_ways (liftSp K sp__law_ways)) {a__law_take : Addr} {fd__law_take : FuncData} (n__law_take : Fn K mg "_law_take" s__law_take P__law_take a__law_take fd__law_take) (G__law_take : FnOk P w K mg base CX0 k a__law_take fd__law_take P__law_take (liftSp K sp__law_take)) (m_str : mg "str" = none) (m_len : mg "len" = none)
    (cdv : Value) (A : Around) (outer : List Env) (s : Shared) (H : Hp) (E : XK) (hr : Room k (A.deeper (envOfC "_law_longed" (defScope s__law_longed) s.heap.objs.size f cdv))) :
    DSs MT (cxOf CX0 P w K mg base N__law_longed "_law_longed" (defScope s__law_longed) f cdv A outer s H E).nox (defBody s__law_longed) (g__law_longed sp__law_longed sp__law_ways sp__law_take) :=
  (dss_cons (ds_asg (de_var 3) (dp_tup (by rfl) (dps_cons (dp_name (i := 4) sc__law_longed.nd (by rfl) (by first | exact Or.inl rfl | exact Or.inr rfl)) (dps_cons (dp_name (i := 5) sc__law_longed.nd (by rfl) (by first | exact Or.inl rfl | exact Or.inr rfl)) dps_nil)))) (dss_cons (ds_if (dt_cmp (od_eq hr.u200) (de_ix (de_var 2) de_int) de_str (nomark _)) (dss_one (ds_ret (de_tup (da_cons de_str da_nil)))) dss_nil) (dss_cons (ds_if (dt_cmp (od_eq hr.u200) (de_ix (de_var 2) de_int) de_str (nomark _)) (dss_one (ds_ret (de_tup (da_cons de_str (da_cons (de_callN n__law_longed G__law_longed hr (by rfl) (da_cons (de_var 0) (da_cons (de_var 1) (da_cons (de_ix (de_var 2) de_int) (da_cons (de_var 3) da_nil))))) (da_cons (de_callN n__law_longed G__law_longed hr (by rfl) (da_cons (de_var 0) (da_cons (de_var 1) (da_cons (de_ix (de_var 2) de_int) (da_cons (de_var 3) da_nil))))) da_nil)))))) dss_nil) (dss_cons (ds_if (dt_cmp (od_eq hr.u200) (de_ix (de_var 2) de_int) de_str (nomark _)) (dss_cons (ds_set (i := 6) sc__law_longed.nd rfl (by first | exact Or.inl rfl | exact Or.inr rfl) (de_op od_add de_str (de_callTy cd_str1 (by rfl) m_str bb_str (da_cons (de_var 4) da_nil)))) (dss_one (ds_ret (de_tup (da_cons de_str (da_cons (de_var 6) (da_cons (de_ix (de_var 2) de_int) (da_cons (de_callN n__law_longed G__law_longed hr (by rfl) (da_cons (de_var 0) (da_cons (de_op od_add (de_var 1) (de_lst (da_cons (de_tup (da_cons (de_var 6) (da_cons (de_ix (de_var 2) de_int) da_nil))) da_nil))) (da_cons (de_ix (de_var 2) de_int) (da_cons (de_tup (da_cons (de_op od_add (de_var 4) de_int) (da_cons (de_var 5) da_nil))) da_nil))))) da_nil)))))))) dss_nil) (dss_cons (ds_set (i := 7) sc__law_longed.nd rfl (by first | exact Or.inl rfl | exact Or.inr rfl) (de_lst da_nil)) (dss_cons (ds_for PassesOwn.never rfl (di_list (de_var 1)) (dp_tup (by rfl) (dps_cons (dp_name (i := 6) sc__law_longed.nd (by rfl) (by first | exact Or.inl rfl | exact Or.inr rfl)) (dps_cons (dp_name (i := 8) sc__law_longed.nd (by rfl) (by first | exact Or.inl rfl | exact Or.inr rfl)) dps_nil))) (dss_one (ds_set (i := 7) sc__law_longed.nd rfl (by first | exact Or.inl rfl | exact Or.inr rfl) (de_op od_add (de_var 7) (de_lc (by rfl) sc__law_longed.nd (di_list (de_callN n__law_ways G__law_ways hr (by rfl) (da_cons (de_var 8) da_nil))) (blkOk_by (own := [("_law_moves", 9), ("_law_mark", 12)]) (N := N__law_longed) (sc := defScope s__law_longed) (by decide +kernel)) (fun _ _ _ _ _ => (dp_tup (by rfl) (dps_cons (dp_name (i := 9) sc__law_longed.nd (by rfl) (by first | exact Or.inl rfl | exact Or.inr rfl)) (dps_cons (dp_name (i := 12) sc__law_longed.nd (by rfl) (by first | exact Or.inl rfl | exact Or.inr rfl)) dps_nil)))) (fun _ _ _ _ _ => (dts_one (dt_cmp (od_eq hr.u200) (de_var 12) (de_ix (de_var 2) de_int) (nomark _)))) (fun _ _ _ _ _ => (de_tup (da_cons (de_var 6) (da_cons (de_var 9) da_nil))))))))) (dss_cons (ds_if (dt_cmp od_lt (de_var 5) de_int (nomark _)) (dss_one (ds_setLc (i := 7) rfl sc__law_longed.nd rfl rfl (sw_true rfl rfl rfl (by decide +kernel)) (di_list (de_var 7)) (blkOk_by (own := [("_law_one", 8)]) (N := N__law_longed) (sc := defScope s__law_longed) (by decide +kernel)) (fun _ _ _ _ _ => (dp_name (i := 8) sc__law_longed.nd (by rfl) (by first | exact Or.inl rfl | exact Or.inr rfl))) (fun _ _ _ _ _ => (dts_one (dt_cmp (od_eq hr.u200) (de_ix (de_var 8) de_int) (de_lst da_nil) (nomark _)))) (fun _ _ _ _ _ => (de_var 8)))) dss_nil) (dss_cons (ds_asg (de_ix (de_var 7) (de_callN n__law_take G__law_take hr (by rfl) (da_cons (de_var 0) (da_cons (de_callB cd_len (by rfl) m_len bb_len (da_cons (de_var 7) da_nil)) da_nil)))) (dp_tup (by rfl) (dps_cons (dp_name (i := 6) sc__law_longed.nd (by rfl) (by first | exact Or.inl rfl | exact Or.inr rfl)) (dps_cons (dp_name (i := 9) sc__law_longed.nd (by rfl) (by first | exact Or.inl rfl | exact Or.inr rfl)) dps_nil)))) (dss_cons (ds_set (i := 10) sc__law_longed.nd rfl (by first | exact Or.inl rfl | exact Or.inr rfl) (de_tup (da_cons de_str (da_cons (de_var 6) da_nil)))) (dss_cons (ds_for PassesOwn.never rfl (di_list (de_var 9)) (dp_name (i := 11) sc__law_longed.nd (by rfl) (by first | exact Or.inl rfl | exact Or.inr rfl)) (dss_one (ds_if (dt_of (dw_or (dt_cmp (od_eq hr.u200) (de_var 11) de_int (nomark _)) (dw_or1 (dt_cmp (od_eq hr.u200) (de_var 11) de_int (nomark _))))) (dss_one (ds_set (i := 10) sc__law_longed.nd rfl (by first | exact Or.inl rfl | exact Or.inr rfl) (de_tup (da_cons (de_ix (de_lst (da_cons de_str (da_cons de_str da_nil))) (de_op od_sub (de_var 11) de_int)) (da_cons (de_var 10) da_nil))))) (dss_one (ds_set (i := 10) sc__law_longed.nd rfl (by first | exact Or.inl rfl | exact Or.inr rfl) (de_tup (da_cons de_str (da_cons (de_var 10) (da_cons (de_callN n__law_longed G__law_longed hr (by rfl) (da_cons (de_var 0) (da_cons (de_var 1) (da_cons (de_var 11) (da_cons (de_tup (da_cons (de_var 4) (da_cons (de_op od_sub (de_var 5) de_int) da_nil))) da_nil))))) da_nil))))))))) (dss_one (ds_ret (de_var 10)))))))))))))
/-! ### _law_is_long -/
abbrev s__law_is_long : Stmt := topS 48
abbrev N__law_is_long : List Str := ["_law_known", "_law_kind_here", "_law_program", "_law_takes", "_law_name"]
abbrev P__law_is_long : List Str := ["_law_known", "_law_kind_here", "_law_program", "_law_takes"]
theorem sc__law_is_long : FnScope N__law_is_long P__law_is_long (defScope s__law_is_long) := ⟨rfl, rfl, rfl, by decide +kernel, rfl, by decide +kernel, by decide +kernel⟩
def g__law_is_long (sp__law_along sp__law_is_long : DSp) : GS :=
  (gSeq (gIf (fTest (fOp (rEqD false) (fOp rIxD (fVar 1) (fC (.int 0))) (fC (.str "one")))) (gRet (fOp (rEqD false) (fVar 2) (fTup (fCons (fC (.str "thing")) fNil)))) gNext) (gSeq (gIf (fTest (fOp (rEqD false) (fOp rIxD (fVar 1) (fC (.int 0))) (fC (.str "mark")))) (gRet (fOp (rEqD false) (fCall sp__law_along (fCons (fVar 0) (fCons (fVar 2) (fCons (fVar 3) fNil)))) (fVar 1))) gNext) (gSeq (gIf (fTest (fOp (rEqD false) (fOp rIxD (fVar 1) (fC (.int 0))) (fC (.str "both")))) (gSeq (gIf (fOr (fTest (fOp (rEqD true) (fOp rIxD (fVar 2) (fC (.int 0))) (fC (.str "pair")))) (fNot (fTest (fCall sp__law_is_long (fCons (fVar 0) (fCons (fOp rIxD (fVar 1) (fC (.int 1))) (fCons (fOp rIxD (fVar 2) (fC (.int 1))) (fCons (fVar 3) fNil)))))))) (gRet (fC (.bl false))) gNext) (gRet (fCall sp__law_is_long (fCons (fVar 0) (fCons (fOp rIxD (fVar 1) (fC (.int 2))) (fCons (fOp rIxD (fVar 2) (fC (.int 2))) (fCons (fVar 3) fNil))))))) gNext) (gSeq (gSet (fOp rAddD (fC (.str "x")) (fCB rStr1 (fCons (fVar 3) fNil))) 4) (gSeq (gIf (fTest (fOp (rEqD true) (fSl rSlAD (fVar 2) fNoPart (fPart (fC (.int 3)))) (fTup (fCons (fC (.str "take")) (fCons (fVar 4) (fCons (fOp rIxD (fVar 1) (fC (.int 1))) fNil)))))) (gRet (fC (.bl false))) gNext) (gRet (fCall sp__law_is_long (fCons (fOp rAddD (fVar 0) (fLst (fCons (fTup (fCons (fVar 4) (fCons (fOp rIxD (fVar 1) (fC (.int 1))) fNil))) fNil))) (fCons (fOp rIxD (fVar 1) (fC (.int 2))) (fCons (fOp rIxD (fVar 2) (fC (.int 3))) (fCons (fOp rAddD (fVar 3) (fC (.int 1))) fNil)))))))))))
theorem der__law_is_long {P : Program} {w : World} {K : PySem.W.Frag} {mg : Str → Option Value} {base : Heap} {k : Nat} {f : Addr} {sp__law_along sp__law_is_long : DSp} {a__law_along : Addr} {fd__law_along : FuncData} (n__law_along : Fn K mg "_law_along" s__law_along P__law_along a__law_along fd__law_along) (G__law_along : FnOk P w K mg base CX0 k a__law_along fd__law_along P__law_along (liftSp K sp__law_along)) {a__law_is_long : Addr} {fd__law_is_long : FuncData} (n__law_is_long : Fn K mg "_law_is_long" s__law_is_long P__law_is_long a__law_is_long fd__law_is_long) (G__law_is_long : FnOk P w K mg base CX0 k a__law_is_long fd__law_is_long P__law_is_long (liftSp K sp__law_is_long)) (m_str : mg "str" = none)
    (cdv : Value) (A : Around) (outer : List Env) (s : Shared) (H : Hp) (E : XK) (hr : Room k (A.deeper (envOfC "_law_is_long" (defScope s__law_is_long) s.heap.objs.size f cdv))) :
    DSs MT (cxOf CX0 P w K mg base N__law_is_long "_law_is_long" (defScope s__law_is_long) f cdv A outer s H E).nox (defBody s__law_is_long) (g__law_is_long sp__law_along sp__law_is_long) :=
  (dss_cons (ds_if (dt_cmp (od_eq hr.u200) (de_ix (de_var 1) de_int) de_str (nomark _)) (dss_one (ds_ret (de_cmp (od_eq hr.u200) (de_var 2) (de_tup (da_cons de_str da_nil)) (nomark _)))) dss_nil) (dss_cons (ds_if (dt_cmp (od_eq hr.u200) (de_ix (de_var 1) de_int) de_str (nomark _)) (dss_one (ds_ret (de_cmp (od_eq hr.u200) (de_callN n__law_along G__law_along hr (by rfl) (da_cons (de_var 0) (da_cons (de_var 2) (da_cons (de_var 3) da_nil)))) (de_var 1) (nomark _)))) dss_nil) (dss_cons (ds_if (dt_cmp (od_eq hr.u200) (de_ix (de_var 1) de_int) de_str (nomark _)) (dss_cons (ds_if (dt_of (dw_or (dt_cmp (od_ne hr.u200) (de_ix (de_var 2) de_int) de_str (nomark _)) (dw_or1 (dt_not (dt_val (de_callN n__law_is_long G__law_is_long hr (by rfl) (da_cons (de_var 0) (da_cons (de_ix (de_var 1) de_int) (da_cons (de_ix (de_var 2) de_int) (da_cons (de_var 3) da_nil)))))))))) (dss_one (ds_ret de_bl)) dss_nil) (dss_one (ds_ret (de_callN n__law_is_long G__law_is_long hr (by rfl) (da_cons (de_var 0) (da_cons (de_ix (de_var 1) de_int) (da_cons (de_ix (de_var 2) de_int) (da_cons (de_var 3) da_nil)))))))) dss_nil) (dss_cons (ds_set (i := 4) sc__law_is_long.nd rfl (by first | exact Or.inl rfl | exact Or.inr rfl) (de_op od_add de_str (de_callTy cd_str1 (by rfl) m_str bb_str (da_cons (de_var 3) da_nil)))) (dss_cons (ds_if (dt_cmp (od_ne hr.u200) (de_sliceR sd_slA (de_var 2) do_none (do_some de_int)) (de_tup (da_cons de_str (da_cons (de_var 4) (da_cons (de_ix (de_var 1) de_int) da_nil)))) (nomark _)) (dss_one (ds_ret de_bl)) dss_nil) (dss_one (ds_ret (de_callN n__law_is_long G__law_is_long hr (by rfl) (da_cons (de_op od_add (de_var 0) (de_lst (da_cons (de_tup (da_cons (de_var 4) (da_cons (de_ix (de_var 1) de_int) da_nil))) da_nil))) (da_cons (de_ix (de_var 1) de_int) (da_cons (de_ix (de_var 2) de_int) (da_cons (de_op od_add (de_var 3) de_int) da_nil))))))))))))
/-! ### _law_along -/
abbrev s__law_along : Stmt := topS 49
abbrev N__law_along : List Str := ["_law_known", "_law_program", "_law_takes", "_law_kind_here", "_law_name"]
abbrev P__law_along : List Str := ["_law_known", "_law_program", "_law_takes"]
theorem sc__law_along : FnScope N__law_along P__law_along (defScope s__law_along) := ⟨rfl, rfl, rfl, by decide +kernel, rfl, by decide +kernel, by decide +kernel⟩
def g__law_along (sp__law_along sp__law_is_long : DSp) : GS :=
  (gSeq (gIf (fTest (fOp (rEqD false) (fOp rIxD (fVar 1) (fC (.int 0))) (fC (.str "name")))) (gRet (fOp rIxD (fOrL (fLc (fiList (fVar 0)) (.tp [(.nm 4), (.nm 3)]) (fTest (fOp (rEqD false) (fVar 4) (fOp rIxD (fVar 1) (fC (.int 1))))) (fVar 3) [4, 3]) (fLst (fCons (fTup (fCons (fC (.str "none")) fNil)) fNil))) (fUn rNeg (fC (.int 1))))) gNext) (gSeq (gIf (fTest (fOp (rInD true) (fOp rIxD (fVar 1) (fC (.int 0))) (fLst (fCons (fC (.str "first")) (fCons (fC (.str "second")) (fCons (fC (.str "give")) fNil)))))) (gRet (fTup (fCons (fC (.str "none")) fNil))) gNext) (gSeq (gSet (fCall sp__law_along (fCons (fVar 0) (fCons (fOp rIxD (fVar 1) (fC (.int 1))) (fCons (fVar 2) fNil)))) 3) (gSeq (gIf (fAnd (fTest (fOp (rEqD false) (fOp rIxD (fVar 1) (fC (.int 0))) (fC (.str "give")))) (fAnd (fTest (fOp (rEqD false) (fOp rIxD (fVar 3) (fC (.int 0))) (fC (.str "to")))) (fTest (fCall sp__law_is_long (fCons (fVar 0) (fCons (fOp rIxD (fVar 3) (fC (.int 1))) (fCons (fOp rIxD (fVar 1) (fC (.int 2))) (fCons (fVar 2) fNil)))))))) (gRet (fOp rIxD (fVar 3) (fC (.int 2)))) gNext) (gSeq (gIf (fAnd (fTest (fOp (rEqD true) (fOp rIxD (fVar 1) (fC (.int 0))) (fC (.str "give")))) (fTest (fOp (rEqD false) (fOp rIxD (fVar 3) (fC (.int 0))) (fC (.str "both"))))) (gRet (fOp rIxD (fVar 3) (fOp rAddD (fBM "list" rIndexD (fLst (fCons (fC (.str "first")) (fCons (fC (.str "second")) fNil))) (fCons (fOp rIxD (fVar 1) (fC (.int 0))) fNil)) (fC (.int 1))))) gNext) (gRet (fTup (fCons (fC (.str "none")) fNil))))))))
theorem der__law_along {P : Program} {w : World} {K : PySem.W.Frag} {mg : Str → Option Value} {base : Heap} {k : Nat} {f : Addr} {sp__law_along sp__law_is_long : DSp} {a__law_along : Addr} {fd__law_along : FuncData} (n__law_along : Fn K mg "_law_along" s__law_along P__law_along a__law_along fd__law_along) (G__law_along : FnOk P w K mg base CX0 k a__law_along fd__law_along P__law_along (liftSp K sp__law_along)) {a__law_is_long : Addr} {fd__law_is_long : FuncData} (n__law_is_long : Fn K mg "_law_is_long" s__law_is_long P__law_is_long a__law_is_long fd__law_is_long) (G__law_is_long : FnOk P w K mg base CX0 k a__law_is_long fd__law_is_long P__law_is_long (liftSp K sp__law_is_long))
    (cdv : Value) (A : Around) (outer : List Env) (s : Shared) (H : Hp) (E : XK) (hr : Room k (A.deeper (envOfC "_law_along" (defScope s__law_along) s.heap.objs.size f cdv))) :
    DSs MT (cxOf CX0 P w K mg base N__law_along "_law_along" (defScope s__law_along) f cdv A outer s H E).nox (defBody s__law_along) (g__law_along sp__law_along sp__law_is_long) :=
  (dss_cons (ds_if (dt_cmp (od_eq hr.u200) (de_ix (de_var 1) de_int) de_str (nomark _)) (dss_one (ds_ret (de_ix (de_orL (de_lc (by rfl) sc__law_along.nd (di_list (de_var 0)) (blkOk_by (own := [("_law_name", 4), ("_law_kind_here", 3)]) (N := N__law_along) (sc := defScope s__law_along) (by decide +kernel)) (fun _ _ _ _ _ => (dp_tup (by rfl) (dps_cons (dp_name (i := 4) sc__law_along.nd (by rfl) (by first | exact Or.inl rfl | exact Or.inr rfl)) (dps_cons (dp_name (i := 3) sc__law_along.nd (by rfl) (by first | exact Or.inl rfl | exact Or.inr rfl)) dps_nil)))) (fun _ _ _ _ _ => (dts_one (dt_cmp (od_eq hr.u200) (de_var 4) (de_ix (de_var 1) de_int) (nomark _)))) (fun _ _ _ _ _ => (de_var 3))) (de_one (de_lst (da_cons (de_tup (da_cons de_str da_nil)) da_nil)))) (de_neg de_int)))) dss_nil) (dss_cons (ds_if (dt_cmp (od_notin hr.u200) (de_ix (de_var 1) de_int) (de_lst (da_cons de_str (da_cons de_str (da_cons de_str da_nil)))) (by rfl)) (dss_one (ds_ret (de_tup (da_cons de_str da_nil)))) dss_nil) (dss_cons (ds_set (i := 3) sc__law_along.nd rfl (by first | exact Or.inl rfl | exact Or.inr rfl) (de_callN n__law_along G__law_along hr (by rfl) (da_cons (de_var 0) (da_cons (de_ix (de_var 1) de_int) (da_cons (de_var 2) da_nil))))) (dss_cons (ds_if (dt_of (dw_and (dt_cmp (od_eq hr.u200) (de_ix (de_var 1) de_int) de_str (nomark _)) (dw_and (dt_cmp (od_eq hr.u200) (de_ix (de_var 3) de_int) de_str (nomark _)) (dw_and1 (dt_val (de_callN n__law_is_long G__law_is_long hr (by rfl) (da_cons (de_var 0) (da_cons (de_ix (de_var 3) de_int) (da_cons (de_ix (de_var 1) de_int) (da_cons (de_var 2) da_nil)))))))))) (dss_one (ds_ret (de_ix (de_var 3) de_int))) dss_nil) (dss_cons (ds_if (dt_of (dw_and (dt_cmp (od_ne hr.u200) (de_ix (de_var 1) de_int) de_str (nomark _)) (dw_and1 (dt_cmp (od_eq hr.u200) (de_ix (de_var 3) de_int) de_str (nomark _))))) (dss_one (ds_ret (de_ix (de_var 3) (de_op od_add (de_bm PySem.F.plainAttrs_list PySem.F.slot_list_index PySem.F.type_list_index (md_index hr.u200) (de_lst (da_cons de_str (da_cons de_str da_nil))) (da_cons (de_ix (de_var 1) de_int) da_nil)) de_int)))) dss_nil) (dss_one (ds_ret (de_tup (da_cons de_str da_nil)))))))))
/-! ### _law_at -/
abbrev s__law_at : Stmt := topS 50
abbrev N__law_at : List Str := ["_law_program", "_law_place", "_law_step", "_law_some"]
abbrev P__law_at : List Str := ["_law_program", "_law_place"]
theorem sc__law_at : FnScope N__law_at P__law_at (defScope s__law_at) := ⟨rfl, rfl, rfl, by decide +kernel, rfl, by decide +kernel, by decide +kernel⟩
def g__law_at : GS :=
  (gSeq (gFor (fiList (fVar 1)) (.nm 2) (gSeq (gSet (fLst fNil) 3) (gSeq (gIf (fTest (fOp (rEqD false) (fOp rIxD (fVar 0) (fC (.int 0))) (fC (.str "take")))) (gSet (fLst (fCons (fOp rIxD (fVar 0) (fC (.int 3))) fNil)) 3) (gIf (fTest (fOp (rInD true) (fOp rIxD (fVar 0) (fC (.int 0))) (fLst (fCons (fC (.str "name")) (fCons (fC (.str "thing")) fNil))))) (gSet (fCB rList1 (fCons (fSl rSlD (fVar 0) (fPart (fC (.int 1))) fNoPart) fNil)) 3) gNext)) (gSeq (gIf (fOr (fNot (fTest (fCB rIsiD (fCons (fVar 2) (fCons (fC (.ty "int")) fNil))))) (fOr (fTest (fCB rIsiD (fCons (fVar 2) (fCons (fC (.ty "bool")) fNil)))) (fNot (fTest (fChain rLeD rLtD (fC (.int 0)) (fVar 2) (fCB rLenD (fCons (fVar 3) fNil))))))) (gRet (fC .non)) gNext) (gSet (fOp rIxD (fVar 3) (fVar 2)) 0))))) (gRet (fVar 0)))
theorem der__law_at {P : Program} {w : World} {K : PySem.W.Frag} {mg : Str → Option Value} {base : Heap} {k : Nat} {f : Addr} (m_list : mg "list" = none) (m_int : mg "int" = none) (m_isinstance : mg "isinstance" = none) (m_bool : mg "bool" = none) (m_len : mg "len" = none)
    (cdv : Value) (A : Around) (outer : List Env) (s : Shared) (H : Hp) (E : XK) (hr : Room k (A.deeper (envOfC "_law_at" (defScope s__law_at) s.heap.objs.size f cdv))) :
    DSs MT (cxOf CX0 P w K mg base N__law_at "_law_at" (defScope s__law_at) f cdv A outer s H E).nox (defBody s__law_at) (g__law_at) :=
  (dss_cons (ds_for PassesOwn.never rfl (di_list (de_var 1)) (dp_name (i := 2) sc__law_at.nd (by rfl) (by first | exact Or.inl rfl | exact Or.inr rfl)) (dss_cons (ds_set (i := 3) sc__law_at.nd rfl (by first | exact Or.inl rfl | exact Or.inr rfl) (de_lst da_nil)) (dss_cons (ds_if (dt_cmp (od_eq hr.u200) (de_ix (de_var 0) de_int) de_str (nomark _)) (dss_one (ds_set (i := 3) sc__law_at.nd rfl (by first | exact Or.inl rfl | exact Or.inr rfl) (de_lst (da_cons (de_ix (de_var 0) de_int) da_nil)))) (dss_one (ds_if (dt_cmp (od_notin hr.u200) (de_ix (de_var 0) de_int) (de_lst (da_cons de_str (da_cons de_str da_nil))) (by rfl)) (dss_one (ds_set (i := 3) sc__law_at.nd rfl (by first | exact Or.inl rfl | exact Or.inr rfl) (de_callTy cd_list1 (by rfl) m_list bb_list (da_cons (de_slice (de_var 0) (do_some de_int) do_none) da_nil)))) dss_nil))) (dss_cons (ds_if (dt_of (dw_or (dt_not (dt_val (de_callB cd_isi (by rfl) m_isinstance bb_isinstance (da_cons (de_var 2) (da_cons (de_ty bb_int m_int (by rfl)) da_nil))))) (dw_or (dt_val (de_callB cd_isi (by rfl) m_isinstance bb_isinstance (da_cons (de_var 2) (da_cons (de_ty bb_bool m_bool (by rfl)) da_nil)))) (dw_or1 (dt_not (dt_chain od_le od_lt de_int (de_var 2) (de_callB cd_len (by rfl) m_len bb_len (da_cons (de_var 3) da_nil)))))))) (dss_one (ds_ret de_non)) dss_nil) (dss_one (ds_set (i := 0) sc__law_at.nd rfl (by first | exact Or.inl rfl | exact Or.inr rfl) (de_ix (de_var 3) (de_var 2)))))))) (dss_one (ds_ret (de_var 0))))
/-! ### _law_mark_at -/
abbrev s__law_mark_at : Stmt := topS 51
abbrev N__law_mark_at : List Str := ["_law_row_here", "_law_program", "_law_place", "_law_known", "_law_step", "_law_kind_here"]
abbrev P__law_mark_at : List Str := ["_law_row_here", "_law_program", "_law_place"]
theorem sc__law_mark_at : FnScope N__law_mark_at P__law_mark_at (defScope s__law_mark_at) := ⟨rfl, rfl, rfl, by decide +kernel, rfl, by decide +kernel, by decide +kernel⟩
def g__law_mark_at (sp__law_along : DSp) : GS :=
  (gSeq (gSet (fCB rList1 (fCons (fVar 0) fNil)) 3) (gSeq (gFor (fiList (fVar 2)) (.nm 4) (gIf (fTest (fOp (rEqD false) (fOp rIxD (fVar 1) (fC (.int 0))) (fC (.str "take")))) (gSeq (gSet (fOp rAddD (fVar 3) (fLst (fCons (fTup (fCons (fOp rIxD (fVar 1) (fC (.int 1))) (fCons (fOp rIxD (fVar 1) (fC (.int 2))) fNil))) fNil))) 3) (gSet (fOp rIxD (fVar 1) (fC (.int 3))) 1)) (gSet (fOp rIxD (fVar 1) (fOp rAddD (fC (.int 1)) (fVar 4))) 1))) (gSeq (gSet (fCall sp__law_along (fCons (fVar 3) (fCons (fVar 1) (fCons (fOp rSubD (fCB rLenD (fCons (fVar 3) fNil)) (fCB rLenD (fCons (fVar 0) fNil))) fNil)))) 5) (gSeq (gIf (fTest (fOp (rEqD false) (fCB rLenD (fCons (fVar 5) fNil)) (fC (.int 2)))) (gRet (fOp rIxD (fVar 5) (fC (.int 1)))) gNext) (gRet (fC .non))))))
theorem der__law_mark_at {P : Program} {w : World} {K : PySem.W.Frag} {mg : Str → Option Value} {base : Heap} {k : Nat} {f : Addr} {sp__law_along : DSp} {a__law_along : Addr} {fd__law_along : FuncData} (n__law_along : Fn K mg "_law_along" s__law_along P__law_along a__law_along fd__law_along) (G__law_along : FnOk P w K mg base CX0 k a__law_along fd__law_along P__law_along (liftSp K sp__law_along)) (m_list : mg "list" = none) (m_len : mg "len" = none)
    (cdv : Value) (A : Around) (outer : List Env) (s : Shared) (H : Hp) (E : XK) (hr : Room k (A.deeper (envOfC "_law_mark_at" (defScope s__law_mark_at) s.heap.objs.size f cdv))) :
    DSs MT (cxOf CX0 P w K mg base N__law_mark_at "_law_mark_at" (defScope s__law_mark_at) f cdv A outer s H E).nox (defBody s__law_mark_at) (g__law_mark_at sp__law_along) :=
  (dss_cons (ds_set (i := 3) sc__law_mark_at.nd rfl (by first | exact Or.inl rfl | exact Or.inr rfl) (de_callTy cd_list1 (by rfl) m_list bb_list (da_cons (de_var 0) da_nil))) (dss_cons (ds_for PassesOwn.never rfl (di_list (de_var 2)) (dp_name (i := 4) sc__law_mark_at.nd (by rfl) (by first | exact Or.inl rfl | exact Or.inr rfl)) (dss_one (ds_if (dt_cmp (od_eq hr.u200) (de_ix (de_var 1) de_int) de_str (nomark _)) (dss_cons (ds_set (i := 3) sc__law_mark_at.nd rfl (by first | exact Or.inl rfl | exact Or.inr rfl) (de_op od_add (de_var 3) (de_lst (da_cons (de_tup (da_cons (de_ix (de_var 1) de_int) (da_cons (de_ix (de_var 1) de_int) da_nil))) da_nil)))) (dss_one (ds_set (i := 1) sc__law_mark_at.nd rfl (by first | exact Or.inl rfl | exact Or.inr rfl) (de_ix (de_var 1) de_int)))) (dss_one (ds_set (i := 1) sc__law_mark_at.nd rfl (by first | exact Or.inl rfl | exact Or.inr rfl) (de_ix (de_var 1) (de_op od_add de_int (de_var 4)))))))) (dss_cons (ds_set (i := 5) sc__law_mark_at.nd rfl (by first | exact Or.inl rfl | exact Or.inr rfl) (de_callN n__law_along G__law_along hr (by rfl) (da_cons (de_var 3) (da_cons (de_var 1) (da_cons (de_op od_sub (de_callB cd_len (by rfl) m_len bb_len (da_cons (de_var 3) da_nil)) (de_callB cd_len (by rfl) m_len bb_len (da_cons (de_var 0) da_nil))) da_nil))))) (dss_cons (ds_if (dt_cmp (od_eq hr.u200) (de_callB cd_len (by rfl) m_len bb_len (da_cons (de_var 5) da_nil)) de_int (nomark _)) (dss_one (ds_ret (de_ix (de_var 5) de_int))) dss_nil) (dss_one (ds_ret de_non))))))
/-! ### _law_is_ring -/
abbrev s__law_is_ring : Stmt := topS 52
abbrev N__law_is_ring : List Str := ["_law_row_here", "_law_kind_here", "_law_program", "_law_above", "_law_below", "_law_mark"]
abbrev P__law_is_ring : List Str := ["_law_row_here", "_law_kind_here", "_law_program", "_law_above", "_law_below"]
theorem sc__law_is_ring : FnScope N__law_is_ring P__law_is_ring (defScope s__law_is_ring) := ⟨rfl, rfl, rfl, by decide +kernel, rfl, by decide +kernel, by decide +kernel⟩
def g__law_is_ring (sp__law_is_long sp__law_at sp__law_mark_at : DSp) : GS :=
  (gSeq (gIf (fNot (fTest (fCall sp__law_is_long (fCons (fVar 0) (fCons (fVar 1) (fCons (fVar 2) (fCons (fC (.int 0)) fNil))))))) (gRet (fC (.bl false))) gNext) (gSeq (gIf (fOr (fNot (fTest (fCB rIsiD (fCons (fVar 3) (fCons (fC (.ty "list")) fNil))))) (fOr (fNot (fTest (fCB rIsiD (fCons (fVar 4) (fCons (fC (.ty "list")) fNil))))) (fTest (fOp (rEqD true) (fSl rSlD (fVar 4) fNoPart (fPart (fCB rLenD (fCons (fVar 3) fNil)))) (fVar 3))))) (gRet (fC (.bl false))) gNext) (gSeq (gIf (fOr (fTest (fOp rGeD (fCB rLenD (fCons (fVar 3) fNil)) (fCB rLenD (fCons (fVar 4) fNil)))) (fOr (fTest (fOp (rIsN false) (fCall sp__law_at (fCons (fVar 2) (fCons (fVar 3) fNil))) (fC .non))) (fTest (fOp (rIsN false) (fCall sp__law_at (fCons (fVar 2) (fCons (fVar 4) fNil))) (fC .non))))) (gRet (fC (.bl false))) gNext) (gSeq (gSet (fCall sp__law_mark_at (fCons (fVar 0) (fCons (fVar 2) (fCons (fVar 3) fNil)))) 5) (gRet (fAndV (fOp (rIsN true) (fVar 5) (fC .non)) (fOp (rEqD false) (fCall sp__law_mark_at (fCons (fVar 0) (fCons (fVar 2) (fCons (fVar 4) fNil)))) (fVar 5))))))))
theorem der__law_is_ring {P : Program} {w : World} {K : PySem.W.Frag} {mg : Str → Option Value} {base : Heap} {k : Nat} {f : Addr} {sp__law_is_long sp__law_at sp__law_mark_at : DSp} {a__law_is_long : Addr} {fd__law_is_long : FuncData} (n__law_is_long : Fn K mg "_law_is_long" s__law_is_long P__law_is_long a__law_is_long fd__law_is_long) (G__law_is_long : FnOk P w K mg base CX0 k a__law_is_long fd__law_is_long P__law_is_long (liftSp K sp__law_is_long)) {a__law_at : Addr} {fd__law_at : FuncData} (n__law_at : Fn K mg "_law_at" s__law_at P__law_at a__law_at fd__law_at) (G__law_at : FnOk P w K mg base CX0 k a__law_at fd__law_at P__law_at (liftSp K sp__law_at)) {a__law_mark_at : Addr} {fd__law_mark_at : FuncData} (n__law_mark_at : Fn K mg "_law_mark_at" s__law_mark_at P__law_mark_at a__law_mark_at fd__law_mark_at) (G__law_mark_at : FnOk P w K mg base CX0 k a__law_mark_at fd__law_mark_at P__law_mark_at (liftSp K sp__law_mark_at)) (m_list : mg "list" = none) (m_isinstance : mg "isinstance" = none) (m_len : mg "len" = none)
    (cdv : Value) (A : Around) (outer : List Env) (s : Shared) (H : Hp) (E : XK) (hr : Room k (A.deeper (envOfC "_law_is_ring" (defScope s__law_is_ring) s.heap.objs.size f cdv))) :
    DSs MT (cxOf CX0 P w K mg base N__law_is_ring "_law_is_ring" (defScope s__law_is_ring) f cdv A outer s H E).nox (defBody s__law_is_ring) (g__law_is_ring sp__law_is_long sp__law_at sp__law_mark_at) :=
  (dss_cons (ds_if (dt_not (dt_val (de_callN n__law_is_long G__law_is_long hr (by rfl) (da_cons (de_var 0) (da_cons (de_var 1) (da_cons (de_var 2) (da_cons de_int da_nil))))))) (dss_one (ds_ret de_bl)) dss_nil) (dss_cons (ds_if (dt_of (dw_or (dt_not (dt_val (de_callB cd_isi (by rfl) m_isinstance bb_isinstance (da_cons (de_var 3) (da_cons (de_ty bb_list m_list (by rfl)) da_nil))))) (dw_or (dt_not (dt_val (de_callB cd_isi (by rfl) m_isinstance bb_isinstance (da_cons (de_var 4) (da_cons (de_ty bb_list m_list (by rfl)) da_nil))))) (dw_or1 (dt_cmp (od_ne hr.u200) (de_slice (de_var 4) do_none (do_some (de_callB cd_len (by rfl) m_len bb_len (da_cons (de_var 3) da_nil)))) (de_var 3) (nomark _)))))) (dss_one (ds_ret de_bl)) dss_nil) (dss_cons (ds_if (dt_of (dw_or (dt_cmp od_ge (de_callB cd_len (by rfl) m_len bb_len (da_cons (de_var 3) da_nil)) (de_callB cd_len (by rfl) m_len bb_len (da_cons (de_var 4) da_nil)) (nomark _)) (dw_or (dt_cmp od_is (de_callN n__law_at G__law_at hr (by rfl) (da_cons (de_var 2) (da_cons (de_var 3) da_nil))) de_non (nomark _)) (dw_or1 (dt_cmp od_is (de_callN n__law_at G__law_at hr (by rfl) (da_cons (de_var 2) (da_cons (de_var 4) da_nil))) de_non (nomark _)))))) (dss_one (ds_ret de_bl)) dss_nil) (dss_cons (ds_set (i := 5) sc__law_is_ring.nd rfl (by first | exact Or.inl rfl | exact Or.inr rfl) (de_callN n__law_mark_at G__law_mark_at hr (by rfl) (da_cons (de_var 0) (da_cons (de_var 2) (da_cons (de_var 3) da_nil))))) (dss_one (ds_ret (de_and (de_cmp od_isnot (de_var 5) de_non (nomark _)) (de_one (de_cmp (od_eq hr.u200) (de_callN n__law_mark_at G__law_mark_at hr (by rfl) (da_cons (de_var 0) (da_cons (de_var 2) (da_cons (de_var 4) da_nil)))) (de_var 5) (nomark _))))))))))
/-! ### _law_places -/
abbrev s__law_places : Stmt := topS 53
abbrev N__law_places : List Str := ["_law_program", "_law_place", "_law_found", "_law_some", "_law_k", "_law_part"]
abbrev P__law_places : List Str := ["_law_program", "_law_place"]
theorem sc__law_places : FnScope N__law_places P__law_places (defScope s__law_places) := ⟨rfl, rfl, rfl, by decide +kernel, rfl, by decide +kernel, by decide +kernel⟩
def g__law_places (sp__law_places : DSp) : GS :=
  (gSeq (gSet (fLst (fCons (fVar 1) fNil)) 2) (gSeq (gSet (fLst fNil) 3) (gSeq (gIf (fTest (fOp (rEqD false) (fOp rIxD (fVar 0) (fC (.int 0))) (fC (.str "take")))) (gSet (fLst (fCons (fOp rIxD (fVar 0) (fC (.int 3))) fNil)) 3) (gIf (fTest (fOp (rInD true) (fOp rIxD (fVar 0) (fC (.int 0))) (fLst (fCons (fC (.str "name")) (fCons (fC (.str "thing")) fNil))))) (gSet (fCB rList1 (fCons (fSl rSlD (fVar 0) (fPart (fC (.int 1))) fNoPart) fNil)) 3) gNext)) (gSeq (gFor (fiEnum (fCons (fVar 3) fNil)) (.tp [(.nm 4), (.nm 5)]) (gSet (fOp rAddD (fVar 2) (fCall sp__law_places (fCons (fVar 5) (fCons (fOp rAddD (fVar 1) (fLst (fCons (fVar 4) fNil))) fNil)))) 2)) (gRet (fVar 2))))))
theorem der__law_places {P : Program} {w : World} {K : PySem.W.Frag} {mg : Str → Option Value} {base : Heap} {k : Nat} {f : Addr} {sp__law_places : DSp} {a__law_places : Addr} {fd__law_places : FuncData} (n__law_places : Fn K mg "_law_places" s__law_places P__law_places a__law_places fd__law_places) (G__law_places : FnOk P w K mg base CX0 k a__law_places fd__law_places P__law_places (liftSp K sp__law_places)) (m_list : mg "list" = none) (m_enumerate : mg "enumerate" = none)
    (cdv : Value) (A : Around) (outer : List Env) (s : Shared) (H : Hp) (E : XK) (hr : Room k (A.deeper (envOfC "_law_places" (defScope s__law_places) s.heap.objs.size f cdv))) :
    DSs MT (cxOf CX0 P w K mg base N__law_places "_law_places" (defScope s__law_places) f cdv A outer s H E).nox (defBody s__law_places) (g__law_places sp__law_places) :=
  (dss_cons (ds_set (i := 2) sc__law_places.nd rfl (by first | exact Or.inl rfl | exact Or.inr rfl) (de_lst (da_cons (de_var 1) da_nil))) (dss_cons (ds_set (i := 3) sc__law_places.nd rfl (by first | exact Or.inl rfl | exact Or.inr rfl) (de_lst da_nil)) (dss_cons (ds_if (dt_cmp (od_eq hr.u200) (de_ix (de_var 0) de_int) de_str (nomark _)) (dss_one (ds_set (i := 3) sc__law_places.nd rfl (by first | exact Or.inl rfl | exact Or.inr rfl) (de_lst (da_cons (de_ix (de_var 0) de_int) da_nil)))) (dss_one (ds_if (dt_cmp (od_notin hr.u200) (de_ix (de_var 0) de_int) (de_lst (da_cons de_str (da_cons de_str da_nil))) (by rfl)) (dss_one (ds_set (i := 3) sc__law_places.nd rfl (by first | exact Or.inl rfl | exact Or.inr rfl) (de_callTy cd_list1 (by rfl) m_list bb_list (da_cons (de_slice (de_var 0) (do_some de_int) do_none) da_nil)))) dss_nil))) (dss_cons (ds_for PassesOwn.never rfl (di_enum (by rfl) m_enumerate (da_cons (de_var 3) da_nil)) (dp_tup (by rfl) (dps_cons (dp_name (i := 4) sc__law_places.nd (by rfl) (by first | exact Or.inl rfl | exact Or.inr rfl)) (dps_cons (dp_name (i := 5) sc__law_places.nd (by rfl) (by first | exact Or.inl rfl | exact Or.inr rfl)) dps_nil))) (dss_one (ds_set (i := 2) sc__law_places.nd rfl (by first | exact Or.inl rfl | exact Or.inr rfl) (de_op od_add (de_var 2) (de_callN n__law_places G__law_places hr (by rfl) (da_cons (de_var 5) (da_cons (de_op od_add (de_var 1) (de_lst (da_cons (de_var 4) da_nil))) da_nil))))))) (dss_one (ds_ret (de_var 2)))))))
/-! ### _law_row -/
abbrev s__law_row : Stmt := topS 54
abbrev N__law_row : List Str := ["_law_pool_here", "_law_row_here", "_law_leaves", "_law_name", "_law_one"]
abbrev P__law_row : List Str := ["_law_pool_here"]
theorem sc__law_row : FnScope N__law_row P__law_row (defScope s__law_row) := ⟨rfl, rfl, rfl, by decide +kernel, rfl, by decide +kernel, by decide +kernel⟩
def g__law_row (sp__law_take sp__law_kind : DSp) : GS :=
  (gSeq (gSet (fLstO (fCons (fTup (fCons (fC (.str "p")) (fCons (fTup (fCons (fC (.str "mark")) (fCons (fC (.str "a")) fNil))) fNil))) (fCons (fTup (fCons (fC (.str "q")) (fCons (fTup (fCons (fC (.str "mark")) (fCons (fC (.str "b")) fNil))) fNil))) fNil))) 1) (gSeq (gSet (fC (.int 2)) 2) (gSeq (gFor (fiList (fSl rSlD (fLst (fCons (fC (.str "f")) (fCons (fC (.str "g")) fNil))) fNoPart (fPart (fCall sp__law_take (fCons (fVar 0) (fCons (fC (.int 3)) fNil)))))) (.nm 3) (gSeq (gSet (fOp rAddD (fC (.int 1)) (fCall sp__law_take (fCons (fVar 0) (fCons (fC (.int 4)) fNil)))) 4) (gIf (fTest (fOp rLtD (fOp rAddD (fVar 2) (fVar 4)) (fC (.int 8)))) (gSeq (gSet (fOp rAddD (fVar 2) (fVar 4)) 2) (gDrop (fBM "list" rAppendD (fVar 1) (fCons (fTup (fCons (fVar 3) (fCons (fCall sp__law_kind (fCons (fVar 0) (fCons (fVar 4) (fCons (fLst (fCons (fC (.str "a")) (fCons (fC (.str "b")) fNil))) fNil)))) fNil))) fNil)))) gNext))) (gRetF (fVar 1)))))
theorem der__law_row {P : Program} {w : World} {K : PySem.W.Frag} {mg : Str → Option Value} {base : Heap} {k : Nat} {f : Addr} {sp__law_take sp__law_kind : DSp} {a__law_take : Addr} {fd__law_take : FuncData} (n__law_take : Fn K mg "_law_take" s__law_take P__law_take a__law_take fd__law_take) (G__law_take : FnOk P w K mg base CX0 k a__law_take fd__law_take P__law_take (liftSp K sp__law_take)) {a__law_kind : Addr} {fd__law_kind : FuncData} (n__law_kind : Fn K mg "_law_kind" s__law_kind P__law_kind a__law_kind fd__law_kind) (G__law_kind : FnOk P w K mg base CX0 k a__law_kind fd__law_kind P__law_kind (liftSp K sp__law_kind))
    (cdv : Value) (A : Around) (outer : List Env) (s : Shared) (H : Hp) (E : XK) (hr : Room k (A.deeper (envOfC "_law_row" (defScope s__law_row) s.heap.objs.size f cdv))) :
    DSs MT (cxOf CX0 P w K mg base N__law_row "_law_row" (defScope s__law_row) f cdv A outer s H E).nox (defBody s__law_row) (g__law_row sp__law_take sp__law_kind) :=
  (dss_cons (ds_set (i := 1) sc__law_row.nd rfl (by first | exact Or.inl rfl | exact Or.inr rfl) (de_lstO (da_cons (de_tup (da_cons de_str (da_cons (de_tup (da_cons de_str (da_cons de_str da_nil))) da_nil))) (da_cons (de_tup (da_cons de_str (da_cons (de_tup (da_cons de_str (da_cons de_str da_nil))) da_nil))) da_nil)))) (dss_cons (ds_set (i := 2) sc__law_row.nd rfl (by first | exact Or.inl rfl | exact Or.inr rfl) de_int) (dss_cons (ds_for PassesOwn.never rfl (di_list (de_slice (de_lst (da_cons de_str (da_cons de_str da_nil))) do_none (do_some (de_callN n__law_take G__law_take hr (by rfl) (da_cons (de_var 0) (da_cons de_int da_nil)))))) (dp_name (i := 3) sc__law_row.nd (by rfl) (by first | exact Or.inl rfl | exact Or.inr rfl)) (dss_cons (ds_set (i := 4) sc__law_row.nd rfl (by first | exact Or.inl rfl | exact Or.inr rfl) (de_op od_add de_int (de_callN n__law_take G__law_take hr (by rfl) (da_cons (de_var 0) (da_cons de_int da_nil))))) (dss_one (ds_if (dt_cmp od_lt (de_op od_add (de_var 2) (de_var 4)) de_int (nomark _)) (dss_cons (ds_set (i := 2) sc__law_row.nd rfl (by first | exact Or.inl rfl | exact Or.inr rfl) (de_op od_add (de_var 2) (de_var 4))) (dss_one (ds_expr (de_bm PySem.F.plainAttrs_list PySem.F.slot_list_append PySem.F.type_list_append md_append (de_var 1) (da_cons (de_tup (da_cons (de_var 3) (da_cons (de_callN n__law_kind G__law_kind hr (by rfl) (da_cons (de_var 0) (da_cons (de_var 4) (da_cons (de_lst (da_cons de_str (da_cons de_str da_nil))) da_nil)))) da_nil))) da_nil))))) dss_nil)))) (dss_one (ds_retF (de_var 1))))))
/-! ### _law_odd -/
abbrev s__law_odd : Stmt := topS 55
abbrev N__law_odd : List Str := ["_law_pool_here", "_law_place", "_law_some"]
abbrev P__law_odd : List Str := ["_law_pool_here", "_law_place"]
theorem sc__law_odd : FnScope N__law_odd P__law_odd (defScope s__law_odd) := ⟨rfl, rfl, rfl, by decide +kernel, rfl, by decide +kernel, by decide +kernel⟩
def g__law_odd (sp__law_take : DSp) : GS :=
  (gSeq (gSet (fLst (fCons (fC .non) (fCons (fCB rTup1 (fCons (fVar 1) fNil)) (fCons (fOp rAddD (fVar 1) (fLst (fCons (fC (.int 7)) fNil))) (fCons (fOp rAddD (fVar 1) (fLst (fCons (fC .non) fNil))) (fCons (fOp rAddD (fVar 1) (fLst (fCons (fC (.bl true)) fNil))) (fCons (fC (.str "0")) (fCons (fC (.int 7)) (fCons (fOp rAddD (fVar 1) (fLst (fCons (fUn rNeg (fC (.int 1))) fNil))) fNil))))))))) 2) (gSeq (gSet (fOp rAddD (fVar 2) (fLst (fCons (fLst (fCons (fVar 1) fNil)) (fCons (fOp rAddD (fVar 1) (fLst (fCons (fC (.str "0")) fNil))) fNil)))) 2) (gRet (fOp rIxD (fVar 2) (fCall sp__law_take (fCons (fVar 0) (fCons (fCB rLenD (fCons (fVar 2) fNil)) fNil)))))))
theorem der__law_odd {P : Program} {w : World} {K : PySem.W.Frag} {mg : Str → Option Value} {base : Heap} {k : Nat} {f : Addr} {sp__law_take : DSp} {a__law_take : Addr} {fd__law_take : FuncData} (n__law_take : Fn K mg "_law_take" s__law_take P__law_take a__law_take fd__law_take) (G__law_take : FnOk P w K mg base CX0 k a__law_take fd__law_take P__law_take (liftSp K sp__law_take)) (m_tuple : mg "tuple" = none) (m_len : mg "len" = none)
    (cdv : Value) (A : Around) (outer : List Env) (s : Shared) (H : Hp) (E : XK) (hr : Room k (A.deeper (envOfC "_law_odd" (defScope s__law_odd) s.heap.objs.size f cdv))) :
    DSs MT (cxOf CX0 P w K mg base N__law_odd "_law_odd" (defScope s__law_odd) f cdv A outer s H E).nox (defBody s__law_odd) (g__law_odd sp__law_take) :=
  (dss_cons (ds_set (i := 2) sc__law_odd.nd rfl (by first | exact Or.inl rfl | exact Or.inr rfl) (de_lst (da_cons de_non (da_cons (de_callTy cd_tup1 (by rfl) m_tuple bb_tuple (da_cons (de_var 1) da_nil)) (da_cons (de_op od_add (de_var 1) (de_lst (da_cons de_int da_nil))) (da_cons (de_op od_add (de_var 1) (de_lst (da_cons de_non da_nil))) (da_cons (de_op od_add (de_var 1) (de_lst (da_cons de_bl da_nil))) (da_cons de_str (da_cons de_int (da_cons (de_op od_add (de_var 1) (de_lst (da_cons (de_neg de_int) da_nil))) da_nil)))))))))) (dss_cons (ds_set (i := 2) sc__law_odd.nd rfl (by first | exact Or.inl rfl | exact Or.inr rfl) (de_op od_add (de_var 2) (de_lst (da_cons (de_lst (da_cons (de_var 1) da_nil)) (da_cons (de_op od_add (de_var 1) (de_lst (da_cons de_str da_nil))) da_nil))))) (dss_one (ds_ret (de_ix (de_var 2) (de_callN n__law_take G__law_take hr (by rfl) (da_cons (de_var 0) (da_cons (de_callB cd_len (by rfl) m_len bb_len (da_cons (de_var 2) da_nil)) da_nil))))))))
/-! ### _law_right -/
abbrev s__law_right : Stmt := topS 56
abbrev N__law_right : List Str := ["_law_row_here", "_law_kind_here", "_law_program", "_law_above", "_law_below", "_law_due", "_law_found"]
abbrev P__law_right : List Str := ["_law_row_here", "_law_kind_here", "_law_program", "_law_above", "_law_below"]
theorem sc__law_right : FnScope N__law_right P__law_right (defScope s__law_right) := ⟨rfl, rfl, rfl, by decide +kernel, rfl, by decide +kernel, by decide +kernel⟩
def g__law_right (sp__law_is_ring sp_is_ring : DSp) : GS :=
  (gSeq (gSet (fCall sp__law_is_ring (fCons (fVar 0) (fCons (fVar 1) (fCons (fVar 2) (fCons (fVar 3) (fCons (fVar 4) fNil)))))) 5) (gSeq (gSet (fCall sp_is_ring (fCons (fCB rList1 (fCons (fVar 0) fNil)) (fCons (fVar 1) (fCons (fVar 2) (fCons (fVar 3) (fCons (fVar 4) fNil)))))) 6) (gRet (fAndV (fCB rIsiD (fCons (fVar 6) (fCons (fC (.ty "bool")) fNil))) (fOp (rEqD false) (fVar 6) (fVar 5))))))
theorem der__law_right {P : Program} {w : World} {K : PySem.W.Frag} {mg : Str → Option Value} {base : Heap} {k : Nat} {f : Addr} {sp__law_is_ring sp_is_ring : DSp} {a__law_is_ring : Addr} {fd__law_is_ring : FuncData} (n__law_is_ring : Fn K mg "_law_is_ring" s__law_is_ring P__law_is_ring a__law_is_ring fd__law_is_ring) (G__law_is_ring : FnOk P w K mg base CX0 k a__law_is_ring fd__law_is_ring P__law_is_ring (liftSp K sp__law_is_ring)) {a_is_ring : Addr} {fd_is_ring : FuncData} (n_is_ring : Fn K mg "is_ring" s_is_ring P_is_ring a_is_ring fd_is_ring) (G_is_ring : FnOk P w K mg base CX0 k a_is_ring fd_is_ring P_is_ring (liftSp K sp_is_ring)) (m_list : mg "list" = none) (m_bool : mg "bool" = none) (m_isinstance : mg "isinstance" = none)
    (cdv : Value) (A : Around) (outer : List Env) (s : Shared) (H : Hp) (E : XK) (hr : Room k (A.deeper (envOfC "_law_right" (defScope s__law_right) s.heap.objs.size f cdv))) :
    DSs MT (cxOf CX0 P w K mg base N__law_right "_law_right" (defScope s__law_right) f cdv A outer s H E).nox (defBody s__law_right) (g__law_right sp__law_is_ring sp_is_ring) :=
  (dss_cons (ds_set (i := 5) sc__law_right.nd rfl (by first | exact Or.inl rfl | exact Or.inr rfl) (de_callN n__law_is_ring G__law_is_ring hr (by rfl) (da_cons (de_var 0) (da_cons (de_var 1) (da_cons (de_var 2) (da_cons (de_var 3) (da_cons (de_var 4) da_nil))))))) (dss_cons (ds_set (i := 6) sc__law_right.nd rfl (by first | exact Or.inl rfl | exact Or.inr rfl) (de_callN n_is_ring G_is_ring hr (by rfl) (da_cons (de_callTy cd_list1 (by rfl) m_list bb_list (da_cons (de_var 0) da_nil)) (da_cons (de_var 1) (da_cons (de_var 2) (da_cons (de_var 3) (da_cons (de_var 4) da_nil))))))) (dss_one (ds_ret (de_and (de_callB cd_isi (by rfl) m_isinstance bb_isinstance (da_cons (de_var 6) (da_cons (de_ty bb_bool m_bool (by rfl)) da_nil))) (de_one (de_cmp (od_eq hr.u200) (de_var 6) (de_var 5) (nomark _))))))))
/-! ### law -/
abbrev s_law : Stmt := topS 57
abbrev N_law : List Str := ["_law_script", "_law_k", "_law_pool_here", "_law_row_here", "_law_kind_here", "_law_program", "_law_places_here", "_law_above", "_law_some", "_law_below", "_law_lower", "_law_one", "_law_other"]
abbrev P_law : List Str := ["_law_script"]
theorem sc_law : FnScope N_law P_law (defScope s_law) := ⟨rfl, rfl, rfl, by decide +kernel, rfl, by decide +kernel, by decide +kernel⟩
def g_law (sp__law_pool sp__law_row sp__law_kind sp__law_take sp__law_longed sp__law_places sp__law_odd sp_is_ring sp__law_right : DSp) : GS :=
  (gSeq (gFor (fiRng1 (fCons (fCB rMax2 (fCons (fC (.int 1)) (fCons (fCB rMin2 (fCons (fCB rLenD (fCons (fVar 0) fNil)) (fCons (fC (.int 8)) fNil))) fNil))) fNil)) (.nm 1) (gSeq (gSet (fCall sp__law_pool (fCons (fVar 0) (fCons (fVar 1) fNil))) 2) (gSeq (gSet (fCall sp__law_row (fCons (fVar 2) fNil)) 3) (gSeq (gSet (fCall sp__law_kind (fCons (fVar 2) (fCons (fOp rAddD (fC (.int 1)) (fCall sp__law_take (fCons (fVar 2) (fCons (fC (.int 4)) fNil)))) (fCons (fLst (fCons (fC (.str "a")) (fCons (fC (.str "b")) fNil))) fNil)))) 4) (gSeq (gSet (fCall sp__law_longed (fCons (fVar 2) (fCons (fVar 3) (fCons (fVar 4) (fCons (fTup (fCons (fC (.int 0)) (fCons (fOp rAddD (fC (.int 1)) (fCall sp__law_take (fCons (fVar 2) (fCons (fC (.int 3)) fNil)))) fNil))) fNil))))) 5) (gSeq (gSet (fCall sp__law_places (fCons (fVar 5) (fCons (fLst fNil) fNil))) 6) (gSeq (gSet (fOp rIxD (fVar 6) (fCall sp__law_take (fCons (fVar 2) (fCons (fCB rLenD (fCons (fVar 6) fNil)) fNil)))) 7) (gSeq (gSet (fLc (fiList (fVar 6)) (.nm 11) (fTest (fOp (rEqD false) (fSl rSlD (fVar 11) fNoPart (fPart (fCB rLenD (fCons (fVar 7) fNil)))) (fVar 7))) (fVar 11) [11]) 8) (gSeq (gSet (fOp rIxD (fVar 8) (fCall sp__law_take (fCons (fVar 2) (fCons (fCB rLenD (fCons (fVar 8) fNil)) fNil)))) 9) (gSeq (gSet (fOp rAddD (fLst (fCons (fC (.int 1)) fNil)) (fVar 9)) 10) (gSeq (gIf (fTest (fOp (rEqD false) (fCall sp__law_take (fCons (fVar 2) (fCons (fC (.int 3)) fNil))) (fC (.int 0)))) (gSeq (gSet (fLst (fCons (fLst (fCons (fCall sp__law_odd (fCons (fVar 2) (fCons (fVar 7) fNil))) (fCons (fVar 9) fNil))) (fCons (fLst (fCons (fVar 7) (fCons (fCall sp__law_odd (fCons (fVar 2) (fCons (fVar 9) fNil))) fNil))) (fCons (fLst (fCons (fVar 9) (fCons (fVar 7) fNil))) fNil)))) 8) (gAsgL (fOp rIxD (fVar 8) (fCall sp__law_take (fCons (fVar 2) (fCons (fC (.int 3)) fNil)))) [(.nm 7), (.nm 9)])) gNext) (gIf (fTest (fOp (rEqD false) (fCall sp__law_take (fCons (fVar 2) (fCons (fC (.int 6)) fNil))) (fC (.int 0)))) (gSeq (gSet (fTup (fCons (fC (.str "give")) (fCons (fTup (fCons (fC (.str "take")) (fCons (fC (.str "y")) (fCons (fVar 4) (fCons (fTup (fCons (fC (.str "name")) (fCons (fC (.str "y")) fNil))) fNil))))) (fCons (fVar 5) fNil)))) 5) (gFor (fiList (fLst (fCons (fTup (fCons (fVar 7) (fCons (fVar 9) fNil))) (fCons (fTup (fCons (fLst fNil) (fCons (fLst (fCons (fC (.int 1)) fNil)) fNil))) (fCons (fTup (fCons (fLst fNil) (fCons (fVar 10) fNil))) (fCons (fTup (fCons (fLst (fCons (fC (.int 1)) fNil)) (fCons (fLst (fCons (fC (.int 1)) (fCons (fC (.int 1)) fNil))) fNil))) fNil)))))) (.tp [(.nm 11), (.nm 12)]) (gIf (fTest (fOp (rIsB true) (fCall sp_is_ring (fCons (fCB rList1 (fCons (fVar 3) fNil)) (fCons (fVar 4) (fCons (fVar 5) (fCons (fVar 11) (fCons (fVar 12) fNil)))))) (fC (.bl false)))) (gRet (fC (.bl false))) gNext))) (gIf (fTest (fOp (rEqD false) (fCall sp__law_take (fCons (fVar 2) (fCons (fC (.int 6)) fNil))) (fC (.int 0)))) (gSeq (gSet (fOp rIxD (fLst (fCons (fC .non) (fCons (fC (.int 7)) (fCons (fTup (fCons (fC (.str "name")) fNil)) (fCons (fTup (fCons (fC (.str "first")) (fCons (fVar 5) fNil))) (fCons (fCB rList1 (fCons (fVar 5) fNil)) fNil)))))) (fCall sp__law_take (fCons (fVar 2) (fCons (fC (.int 5)) fNil)))) 5) (gIf (fTest (fOp (rIsB true) (fCall sp_is_ring (fCons (fCB rList1 (fCons (fVar 3) fNil)) (fCons (fVar 4) (fCons (fVar 5) (fCons (fLst fNil) (fCons (fLst (fCons (fC (.int 1)) fNil)) fNil)))))) (fC (.bl false)))) (gRet (fC (.bl false))) gNext)) (gIf (fNot (fTest (fCall sp__law_right (fCons (fVar 3) (fCons (fVar 4) (fCons (fVar 5) (fCons (fVar 7) (fCons (fVar 9) fNil)))))))) (gRet (fC (.bl false))) (gIf (fTest (fOp rLtD (fCB rLenD (fCons (fVar 6) fNil)) (fC (.int 9)))) (gFor (fiList (fVar 6)) (.nm 11) (gFor (fiList (fVar 6)) (.nm 12) (gIf (fNot (fTest (fCall sp__law_right (fCons (fVar 3) (fCons (fVar 4) (fCons (fVar 5) (fCons (fCB rList1 (fCons (fVar 11) fNil)) (fCons (fCB rList1 (fCons (fVar 12) fNil)) fNil)))))))) (gRet (fC (.bl false))) gNext))) gNext))))))))))))))) (gRet (fC (.bl true))))
theorem der_law {P : Program} {w : World} {K : PySem.W.Frag} {mg : Str → Option Value} {base : Heap} {k : Nat} {f : Addr} {sp__law_pool sp__law_row sp__law_kind sp__law_take sp__law_longed sp__law_places sp__law_odd sp_is_ring sp__law_right : DSp} {a__law_pool : Addr} {fd__law_pool : FuncData} (n__law_pool : Fn K mg "_law_pool" s__law_pool P__law_pool a__law_pool fd__law_pool) (G__law_pool : FnOk P w K mg base CX0 k a__law_pool fd__law_pool P__law_pool (liftSp K sp__law_pool)) {a__law_row : Addr} {fd__law_row : FuncData} (n__law_row : Fn K mg "_law_row" s__law_row P__law_row a__law_row fd__law_row) (G__law_row : FnOk P w K mg base CX0 k a__law_row fd__law_row P__law_row (liftSp K sp__law_row)) {a__law_kind : Addr} {fd__law_kind : FuncData} (n__law_kind : Fn K mg "_law_kind" s__law_kind P__law_kind a__law_kind fd__law_kind) (G__law_kind : FnOk P w K mg base CX0 k a__law_kind fd__law_kind P__law_kind (liftSp K sp__law_kind)) {a__law_take : Addr} {fd__law_take : FuncData} (n__law_take : Fn K mg "_law_take" s__law_take P__law_take a__law_take fd__law_take) (G__law_take : FnOk P w K mg base CX0 k a__law_take fd__law_take P__law_take (liftSp K sp__law_take)) {a__law_longed : Addr} {fd__law_longed : FuncData} (n__law_longed : Fn K mg "_law_longed" s__law_longed P__law_longed a__law_longed fd__law_longed) (G__law_longed : FnOk P w K mg base CX0 k a__law_longed fd__law_longed P__law_longed (liftSp K sp__law_longed)) {a__law_places : Addr} {fd__law_places : FuncData} (n__law_places : Fn K mg "_law_places" s__law_places P__law_places a__law_places fd__law_places) (G__law_places : FnOk P w K mg base CX0 k a__law_places fd__law_places P__law_places (liftSp K sp__law_places)) {a__law_odd : Addr} {fd__law_odd : FuncData} (n__law_odd : Fn K mg "_law_odd" s__law_odd P__law_odd a__law_odd fd__law_odd) (G__law_odd : FnOk P w K mg base CX0 k a__law_odd fd__law_odd P__law_odd (liftSp K sp__law_odd)) {a_is_ring : Addr} {fd_is_ring : FuncData} (n_is_ring : Fn K mg "is_ring" s_is_ring P_is_ring a_is_ring fd_is_ring) (G_is_ring : FnOk P w K mg base CX0 k a_is_ring fd_is_ring P_is_ring (liftSp K sp_is_ring)) {a__law_right : Addr} {fd__law_right : FuncData} (n__law_right : Fn K mg "_law_right" s__law_right P__law_right a__law_right fd__law_right) (G__law_right : FnOk P w K mg base CX0 k a__law_right fd__law_right P__law_right (liftSp K sp__law_right)) (m_range : mg "range" = none) (m_len : mg "len" = none) (m_min : mg "min" = none) (m_max : mg "max" = none) (m_list : mg "list" = none)
    (cdv : Value) (A : Around) (outer : List Env) (s : Shared) (H : Hp) (E : XK) (hr : Room k (A.deeper (envOfC "law" (defScope s_law) s.heap.objs.size f cdv))) :
    DSs MT (cxOf CX0 P w K mg base N_law "law" (defScope s_law) f cdv A outer s H E).nox (defBody s_law) (g_law sp__law_pool sp__law_row sp__law_kind sp__law_take sp__law_longed sp__law_places sp__law_odd sp_is_ring sp__law_right) :=
  (dss_cons (ds_for PassesOwn.never rfl (di_range1 (by rfl) m_range (da_cons (de_callB (cd_max2 (by rfl)) (by rfl) m_max bb_max (da_cons de_int (da_cons (de_callB (cd_min2 (by rfl)) (by rfl) m_min bb_min (da_cons (de_callB cd_len (by rfl) m_len bb_len (da_cons (de_var 0) da_nil)) (da_cons de_int da_nil))) da_nil))) da_nil)) (dp_name (i := 1) sc_law.nd (by rfl) (by first | exact Or.inl rfl | exact Or.inr rfl)) (dss_cons (ds_set (i := 2) sc_law.nd rfl (by first | exact Or.inl rfl | exact Or.inr rfl) (de_callN n__law_pool G__law_pool hr (by rfl) (da_cons (de_var 0) (da_cons (de_var 1) da_nil)))) (dss_cons (ds_set (i := 3) sc_law.nd rfl (by first | exact Or.inl rfl | exact Or.inr rfl) (de_callN n__law_row G__law_row hr (by rfl) (da_cons (de_var 2) da_nil))) (dss_cons (ds_set (i := 4) sc_law.nd rfl (by first | exact Or.inl rfl | exact Or.inr rfl) (de_callN n__law_kind G__law_kind hr (by rfl) (da_cons (de_var 2) (da_cons (de_op od_add de_int (de_callN n__law_take G__law_take hr (by rfl) (da_cons (de_var 2) (da_cons de_int da_nil)))) (da_cons (de_lst (da_cons de_str (da_cons de_str da_nil))) da_nil))))) (dss_cons (ds_set (i := 5) sc_law.nd rfl (by first | exact Or.inl rfl | exact Or.inr rfl) (de_callN n__law_longed G__law_longed hr (by rfl) (da_cons (de_var 2) (da_cons (de_var 3) (da_cons (de_var 4) (da_cons (de_tup (da_cons de_int (da_cons (de_op od_add de_int (de_callN n__law_take G__law_take hr (by rfl) (da_cons (de_var 2) (da_cons de_int da_nil)))) da_nil))) da_nil)))))) (dss_cons (ds_set (i := 6) sc_law.nd rfl (by first | exact Or.inl rfl | exact Or.inr rfl) (de_callN n__law_places G__law_places hr (by rfl) (da_cons (de_var 5) (da_cons (de_lst da_nil) da_nil)))) (dss_cons (ds_set (i := 7) sc_law.nd rfl (by first | exact Or.inl rfl | exact Or.inr rfl) (de_ix (de_var 6) (de_callN n__law_take G__law_take hr (by rfl) (da_cons (de_var 2) (da_cons (de_callB cd_len (by rfl) m_len bb_len (da_cons (de_var 6) da_nil)) da_nil))))) (dss_cons (ds_setLc (i := 8) rfl sc_law.nd rfl rfl (sw_true rfl rfl rfl (by decide +kernel)) (di_list (de_var 6)) (blkOk_by (own := [("_law_one", 11)]) (N := N_law) (sc := defScope s_law) (by decide +kernel)) (fun _ _ _ _ _ => (dp_name (i := 11) sc_law.nd (by rfl) (by first | exact Or.inl rfl | exact Or.inr rfl))) (fun _ _ _ _ _ => (dts_one (dt_cmp (od_eq hr.u200) (de_slice (de_var 11) do_none (do_some (de_callB cd_len (by rfl) m_len bb_len (da_cons (de_var 7) da_nil)))) (de_var 7) (nomark _)))) (fun _ _ _ _ _ => (de_var 11))) (dss_cons (ds_set (i := 9) sc_law.nd rfl (by first | exact Or.inl rfl | exact Or.inr rfl) (de_ix (de_var 8) (de_callN n__law_take G__law_take hr (by rfl) (da_cons (de_var 2) (da_cons (de_callB cd_len (by rfl) m_len bb_len (da_cons (de_var 8) da_nil)) da_nil))))) (dss_cons (ds_set (i := 10) sc_law.nd rfl (by first | exact Or.inl rfl | exact Or.inr rfl) (de_op od_add (de_lst (da_cons de_int da_nil)) (de_var 9))) (dss_cons (ds_if (dt_cmp (od_eq hr.u200) (de_callN n__law_take G__law_take hr (by rfl) (da_cons (de_var 2) (da_cons de_int da_nil))) de_int (nomark _)) (dss_cons (ds_set (i := 8) sc_law.nd rfl (by first | exact Or.inl rfl | exact Or.inr rfl) (de_lst (da_cons (de_lst (da_cons (de_callN n__law_odd G__law_odd hr (by rfl) (da_cons (de_var 2) (da_cons (de_var 7) da_nil))) (da_cons (de_var 9) da_nil))) (da_cons (de_lst (da_cons (de_var 7) (da_cons (de_callN n__law_odd G__law_odd hr (by rfl) (da_cons (de_var 2) (da_cons (de_var 9) da_nil))) da_nil))) (da_cons (de_lst (da_cons (de_var 9) (da_cons (de_var 7) da_nil))) da_nil))))) (dss_one (ds_asgL (by rfl) (de_ix (de_var 8) (de_callN n__law_take G__law_take hr (by rfl) (da_cons (de_var 2) (da_cons de_int da_nil)))) (dps_cons (dp_name (i := 7) sc_law.nd (by rfl) (by first | exact Or.inl rfl | exact Or.inr rfl)) (dps_cons (dp_name (i := 9) sc_law.nd (by rfl) (by first | exact Or.inl rfl | exact Or.inr rfl)) dps_nil))))) dss_nil) (dss_one (ds_if (dt_cmp (od_eq hr.u200) (de_callN n__law_take G__law_take hr (by rfl) (da_cons (de_var 2) (da_cons de_int da_nil))) de_int (nomark _)) (dss_cons (ds_set (i := 5) sc_law.nd rfl (by first | exact Or.inl rfl | exact Or.inr rfl) (de_tup (da_cons de_str (da_cons (de_tup (da_cons de_str (da_cons de_str (da_cons (de_var 4) (da_cons (de_tup (da_cons de_str (da_cons de_str da_nil))) da_nil))))) (da_cons (de_var 5) da_nil))))) (dss_one (ds_for PassesOwn.never rfl (di_list (de_lst (da_cons (de_tup (da_cons (de_var 7) (da_cons (de_var 9) da_nil))) (da_cons (de_tup (da_cons (de_lst da_nil) (da_cons (de_lst (da_cons de_int da_nil)) da_nil))) (da_cons (de_tup (da_cons (de_lst da_nil) (da_cons (de_var 10) da_nil))) (da_cons (de_tup (da_cons (de_lst (da_cons de_int da_nil)) (da_cons (de_lst (da_cons de_int (da_cons de_int da_nil))) da_nil))) da_nil)))))) (dp_tup (by rfl) (dps_cons (dp_name (i := 11) sc_law.nd (by rfl) (by first | exact Or.inl rfl | exact Or.inr rfl)) (dps_cons (dp_name (i := 12) sc_law.nd (by rfl) (by first | exact Or.inl rfl | exact Or.inr rfl)) dps_nil))) (dss_one (ds_if (dt_cmp od_isnotB (de_callN n_is_ring G_is_ring hr (by rfl) (da_cons (de_callTy cd_list1 (by rfl) m_list bb_list (da_cons (de_var 3) da_nil)) (da_cons (de_var 4) (da_cons (de_var 5) (da_cons (de_var 11) (da_cons (de_var 12) da_nil)))))) de_bl (nomark _)) (dss_one (ds_ret de_bl)) dss_nil))))) (dss_one (ds_if (dt_cmp (od_eq hr.u200) (de_callN n__law_take G__law_take hr (by rfl) (da_cons (de_var 2) (da_cons de_int da_nil))) de_int (nomark _)) (dss_cons (ds_set (i := 5) sc_law.nd rfl (by first | exact Or.inl rfl | exact Or.inr rfl) (de_ix (de_lst (da_cons de_non (da_cons de_int (da_cons (de_tup (da_cons de_str da_nil)) (da_cons (de_tup (da_cons de_str (da_cons (de_var 5) da_nil))) (da_cons (de_callTy cd_list1 (by rfl) m_list bb_list (da_cons (de_var 5) da_nil)) da_nil)))))) (de_callN n__law_take G__law_take hr (by rfl) (da_cons (de_var 2) (da_cons de_int da_nil))))) (dss_one (ds_if (dt_cmp od_isnotB (de_callN n_is_ring G_is_ring hr (by rfl) (da_cons (de_callTy cd_list1 (by rfl) m_list bb_list (da_cons (de_var 3) da_nil)) (da_cons (de_var 4) (da_cons (de_var 5) (da_cons (de_lst da_nil) (da_cons (de_lst (da_cons de_int da_nil)) da_nil)))))) de_bl (nomark _)) (dss_one (ds_ret de_bl)) dss_nil))) (dss_one (ds_if (dt_not (dt_val (de_callN n__law_right G__law_right hr (by rfl) (da_cons (de_var 3) (da_cons (de_var 4) (da_cons (de_var 5) (da_cons (de_var 7) (da_cons (de_var 9) da_nil)))))))) (dss_one (ds_ret de_bl)) (dss_one (ds_if (dt_cmp od_lt (de_callB cd_len (by rfl) m_len bb_len (da_cons (de_var 6) da_nil)) de_int (nomark _)) (dss_one (ds_for PassesOwn.never rfl (di_list (de_var 6)) (dp_name (i := 11) sc_law.nd (by rfl) (by first | exact Or.inl rfl | exact Or.inr rfl)) (dss_one (ds_for PassesOwn.never rfl (di_list (de_var 6)) (dp_name (i := 12) sc_law.nd (by rfl) (by first | exact Or.inl rfl | exact Or.inr rfl)) (dss_one (ds_if (dt_not (dt_val (de_callN n__law_right G__law_right hr (by rfl) (da_cons (de_var 3) (da_cons (de_var 4) (da_cons (de_var 5) (da_cons (de_callTy cd_list1 (by rfl) m_list bb_list (da_cons (de_var 11) da_nil)) (da_cons (de_callTy cd_list1 (by rfl) m_list bb_list (da_cons (de_var 12) da_nil)) da_nil)))))))) (dss_one (ds_ret de_bl)) dss_nil)))))) dss_nil))))))))))))))))))) (dss_one (ds_ret de_bl)))
/-! ### all facts of the text -/
structure Tx (K : PySem.W.Frag) (mg : Str → Option Value) where
  a_is_mark : Addr
  fd_is_mark : FuncData
  n_is_mark : Fn K mg "is_mark" s_is_mark P_is_mark a_is_mark fd_is_mark
  a_is_number : Addr
  fd_is_number : FuncData
  n_is_number : Fn K mg "is_number" s_is_number P_is_number a_is_number fd_is_number
  a_is_name : Addr
  fd_is_name : FuncData
  n_is_name : Fn K mg "is_name" s_is_name P_is_name a_is_name fd_is_name
  a_has_form : Addr
  fd_has_form : FuncData
  n_has_form : Fn K mg "has_form" s_has_form P_has_form a_has_form fd_has_form
  a_is_kind : Addr
  fd_is_kind : FuncData
  n_is_kind : Fn K mg "is_kind" s_is_kind P_is_kind a_is_kind fd_is_kind
  a_leaves_of : Addr
  fd_leaves_of : FuncData
  n_leaves_of : Fn K mg "leaves_of" s_leaves_of P_leaves_of a_leaves_of fd_leaves_of
  a_inner : Addr
  fd_inner : FuncData
  n_inner : Fn K mg "inner" s_inner P_inner a_inner fd_inner
  a_has_head : Addr
  fd_has_head : FuncData
  n_has_head : Fn K mg "has_head" s_has_head P_has_head a_has_head fd_has_head
  a_parts_left : Addr
  fd_parts_left : FuncData
  n_parts_left : Fn K mg "parts_left" s_parts_left P_parts_left a_parts_left fd_parts_left
  a_is_program : Addr
  fd_is_program : FuncData
  n_is_program : Fn K mg "is_program" s_is_program P_is_program a_is_program fd_is_program
  a_part_at : Addr
  fd_part_at : FuncData
  n_part_at : Fn K mg "part_at" s_part_at P_part_at a_part_at fd_part_at
  a_known_as : Addr
  fd_known_as : FuncData
  n_known_as : Fn K mg "known_as" s_known_as P_known_as a_known_as fd_known_as
  a_kind_here : Addr
  fd_kind_here : FuncData
  n_kind_here : Fn K mg "kind_here" s_kind_here P_kind_here a_kind_here fd_kind_here
  a_kind_within : Addr
  fd_kind_within : FuncData
  n_kind_within : Fn K mg "kind_within" s_kind_within P_kind_within a_kind_within fd_kind_within
  a_kind_of : Addr
  fd_kind_of : FuncData
  n_kind_of : Fn K mg "kind_of" s_kind_of P_kind_of a_kind_of fd_kind_of
  a_taken_name : Addr
  fd_taken_name : FuncData
  n_taken_name : Fn K mg "taken_name" s_taken_name P_taken_name a_taken_name fd_taken_name
  a_is_long_here : Addr
  fd_is_long_here : FuncData
  n_is_long_here : Fn K mg "is_long_here" s_is_long_here P_is_long_here a_is_long_here fd_is_long_here
  a_gone_along : Addr
  fd_gone_along : FuncData
  n_gone_along : Fn K mg "gone_along" s_gone_along P_gone_along a_gone_along fd_gone_along
  a_is_long : Addr
  fd_is_long : FuncData
  n_is_long : Fn K mg "is_long" s_is_long P_is_long a_is_long fd_is_long
  a_is_whole : Addr
  fd_is_whole : FuncData
  n_is_whole : Fn K mg "is_whole" s_is_whole P_is_whole a_is_whole fd_is_whole
  a_is_place : Addr
  fd_is_place : FuncData
  n_is_place : Fn K mg "is_place" s_is_place P_is_place a_is_place fd_is_place
  a_kind_at : Addr
  fd_kind_at : FuncData
  n_kind_at : Fn K mg "kind_at" s_kind_at P_kind_at a_kind_at fd_kind_at
  a_is_ring : Addr
  fd_is_ring : FuncData
  n_is_ring : Fn K mg "is_ring" s_is_ring P_is_ring a_is_ring fd_is_ring
  a__law_pool : Addr
  fd__law_pool : FuncData
  n__law_pool : Fn K mg "_law_pool" s__law_pool P__law_pool a__law_pool fd__law_pool
  a__law_take : Addr
  fd__law_take : FuncData
  n__law_take : Fn K mg "_law_take" s__law_take P__law_take a__law_take fd__law_take
  a__law_kind : Addr
  fd__law_kind : FuncData
  n__law_kind : Fn K mg "_law_kind" s__law_kind P__law_kind a__law_kind fd__law_kind
  a__law_ways : Addr
  fd__law_ways : FuncData
  n__law_ways : Fn K mg "_law_ways" s__law_ways P__law_ways a__law_ways fd__law_ways
  a__law_longed : Addr
  fd__law_longed : FuncData
  n__law_longed : Fn K mg "_law_longed" s__law_longed P__law_longed a__law_longed fd__law_longed
  a__law_is_long : Addr
  fd__law_is_long : FuncData
  n__law_is_long : Fn K mg "_law_is_long" s__law_is_long P__law_is_long a__law_is_long fd__law_is_long
  a__law_along : Addr
  fd__law_along : FuncData
  n__law_along : Fn K mg "_law_along" s__law_along P__law_along a__law_along fd__law_along
  a__law_at : Addr
  fd__law_at : FuncData
  n__law_at : Fn K mg "_law_at" s__law_at P__law_at a__law_at fd__law_at
  a__law_mark_at : Addr
  fd__law_mark_at : FuncData
  n__law_mark_at : Fn K mg "_law_mark_at" s__law_mark_at P__law_mark_at a__law_mark_at fd__law_mark_at
  a__law_is_ring : Addr
  fd__law_is_ring : FuncData
  n__law_is_ring : Fn K mg "_law_is_ring" s__law_is_ring P__law_is_ring a__law_is_ring fd__law_is_ring
  a__law_places : Addr
  fd__law_places : FuncData
  n__law_places : Fn K mg "_law_places" s__law_places P__law_places a__law_places fd__law_places
  a__law_row : Addr
  fd__law_row : FuncData
  n__law_row : Fn K mg "_law_row" s__law_row P__law_row a__law_row fd__law_row
  a__law_odd : Addr
  fd__law_odd : FuncData
  n__law_odd : Fn K mg "_law_odd" s__law_odd P__law_odd a__law_odd fd__law_odd
  a__law_right : Addr
  fd__law_right : FuncData
  n__law_right : Fn K mg "_law_right" s__law_right P__law_right a__law_right fd__law_right
  a_law : Addr
  fd_law : FuncData
  n_law : Fn K mg "law" s_law P_law a_law fd_law
  m_len : mg "len" = none
  m_tuple : mg "tuple" = none
  m_isinstance : mg "isinstance" = none
  m_str : mg "str" = none
  m_list : mg "list" = none
  m_reversed : mg "reversed" = none
  m_int : mg "int" = none
  m_enumerate : mg "enumerate" = none
  m_bool : mg "bool" = none
  m_range : mg "range" = none
  m_min : mg "min" = none
  m_max : mg "max" = none
  c_LETTERS : Cst K mg "LETTERS" (.str "abcdefghijklmnopqrstuvwxyz")
  c_LONGEST : Cst K mg "LONGEST" (.int 6)
  c_FIGURES : Cst K mg "FIGURES" (.str "0123456789")
  c_ONE : Cst K mg "ONE" (.tup [(.str "one")])
  c_MOST_DEPTH : Cst K mg "MOST_DEPTH" (.int 12)
  c_MOST_LEAVES : Cst K mg "MOST_LEAVES" (.int 24)
  c_THING : Cst K mg "THING" (.tup [(.str "thing")])
  c_MOST_DEEP : Cst K mg "MOST_DEEP" (.int 80)
  c_MOST_PARTS : Cst K mg "MOST_PARTS" (.int 400)
section
variable {P : Program} {w : World} {K : PySem.W.Frag} {mg : Str → Option Value} {base : Heap}
abbrev FO_is_mark (P : Program) (w : World) (base : Heap) (T : Tx K mg) (k : Nat) (sp : DSp) : Prop := FnOk P w K mg base CX0 k T.a_is_mark T.fd_is_mark P_is_mark (liftSp K sp)
abbrev FO_is_name (P : Program) (w : World) (base : Heap) (T : Tx K mg) (k : Nat) (sp : DSp) : Prop := FnOk P w K mg base CX0 k T.a_is_name T.fd_is_name P_is_name (liftSp K sp)
abbrev FO_has_form (P : Program) (w : World) (base : Heap) (T : Tx K mg) (k : Nat) (sp : DSp) : Prop := FnOk P w K mg base CX0 k T.a_has_form T.fd_has_form P_has_form (liftSp K sp)
abbrev FO_is_kind (P : Program) (w : World) (base : Heap) (T : Tx K mg) (k : Nat) (sp : DSp) : Prop := FnOk P w K mg base CX0 k T.a_is_kind T.fd_is_kind P_is_kind (liftSp K sp)
abbrev FO_leaves_of (P : Program) (w : World) (base : Heap) (T : Tx K mg) (k : Nat) (sp : DSp) : Prop := FnOk P w K mg base CX0 k T.a_leaves_of T.fd_leaves_of P_leaves_of (liftSp K sp)
abbrev FO_inner (P : Program) (w : World) (base : Heap) (T : Tx K mg) (k : Nat) (sp : DSp) : Prop := FnOk P w K mg base CX0 k T.a_inner T.fd_inner P_inner (liftSp K sp)
abbrev FO_has_head (P : Program) (w : World) (base : Heap) (T : Tx K mg) (k : Nat) (sp : DSp) : Prop := FnOk P w K mg base CX0 k T.a_has_head T.fd_has_head P_has_head (liftSp K sp)
abbrev FO_parts_left (P : Program) (w : World) (base : Heap) (T : Tx K mg) (k : Nat) (sp : DSp) : Prop := FnOk P w K mg base CX0 k T.a_parts_left T.fd_parts_left P_parts_left (liftSp K sp)
abbrev FO_is_program (P : Program) (w : World) (base : Heap) (T : Tx K mg) (k : Nat) (sp : DSp) : Prop := FnOk P w K mg base CX0 k T.a_is_program T.fd_is_program P_is_program (liftSp K sp)
abbrev FO_part_at (P : Program) (w : World) (base : Heap) (T : Tx K mg) (k : Nat) (sp : DSp) : Prop := FnOk P w K mg base CX0 k T.a_part_at T.fd_part_at P_part_at (liftSp K sp)
abbrev FO_known_as (P : Program) (w : World) (base : Heap) (T : Tx K mg) (k : Nat) (sp : DSp) : Prop := FnOk P w K mg base CX0 k T.a_known_as T.fd_known_as P_known_as (liftSp K sp)
abbrev FO_kind_here (P : Program) (w : World) (base : Heap) (T : Tx K mg) (k : Nat) (sp : DSp) : Prop := FnOk P w K mg base CX0 k T.a_kind_here T.fd_kind_here P_kind_here (liftSp K sp)
abbrev FO_kind_within (P : Program) (w : World) (base : Heap) (T : Tx K mg) (k : Nat) (sp : DSp) : Prop := FnOk P w K mg base CX0 k T.a_kind_within T.fd_kind_within P_kind_within (liftSp K sp)
abbrev FO_kind_of (P : Program) (w : World) (base : Heap) (T : Tx K mg) (k : Nat) (sp : DSp) : Prop := FnOk P w K mg base CX0 k T.a_kind_of T.fd_kind_of P_kind_of (liftSp K sp)
abbrev FO_taken_name (P : Program) (w : World) (base : Heap) (T : Tx K mg) (k : Nat) (sp : DSp) : Prop := FnOk P w K mg base CX0 k T.a_taken_name T.fd_taken_name P_taken_name (liftSp K sp)
abbrev FO_is_long_here (P : Program) (w : World) (base : Heap) (T : Tx K mg) (k : Nat) (sp : DSp) : Prop := FnOk P w K mg base CX0 k T.a_is_long_here T.fd_is_long_here P_is_long_here (liftSp K sp)
abbrev FO_gone_along (P : Program) (w : World) (base : Heap) (T : Tx K mg) (k : Nat) (sp : DSp) : Prop := FnOk P w K mg base CX0 k T.a_gone_along T.fd_gone_along P_gone_along (liftSp K sp)
abbrev FO_is_long (P : Program) (w : World) (base : Heap) (T : Tx K mg) (k : Nat) (sp : DSp) : Prop := FnOk P w K mg base CX0 k T.a_is_long T.fd_is_long P_is_long (liftSp K sp)
abbrev FO_is_whole (P : Program) (w : World) (base : Heap) (T : Tx K mg) (k : Nat) (sp : DSp) : Prop := FnOk P w K mg base CX0 k T.a_is_whole T.fd_is_whole P_is_whole (liftSp K sp)
abbrev FO_is_place (P : Program) (w : World) (base : Heap) (T : Tx K mg) (k : Nat) (sp : DSp) : Prop := FnOk P w K mg base CX0 k T.a_is_place T.fd_is_place P_is_place (liftSp K sp)
abbrev FO_kind_at (P : Program) (w : World) (base : Heap) (T : Tx K mg) (k : Nat) (sp : DSp) : Prop := FnOk P w K mg base CX0 k T.a_kind_at T.fd_kind_at P_kind_at (liftSp K sp)
abbrev FO_is_ring (P : Program) (w : World) (base : Heap) (T : Tx K mg) (k : Nat) (sp : DSp) : Prop := FnOk P w K mg base CX0 k T.a_is_ring T.fd_is_ring P_is_ring (liftSp K sp)
abbrev FO__law_pool (P : Program) (w : World) (base : Heap) (T : Tx K mg) (k : Nat) (sp : DSp) : Prop := FnOk P w K mg base CX0 k T.a__law_pool T.fd__law_pool P__law_pool (liftSp K sp)
abbrev FO__law_take (P : Program) (w : World) (base : Heap) (T : Tx K mg) (k : Nat) (sp : DSp) : Prop := FnOk P w K mg base CX0 k T.a__law_take T.fd__law_take P__law_take (liftSp K sp)
abbrev FO__law_kind (P : Program) (w : World) (base : Heap) (T : Tx K mg) (k : Nat) (sp : DSp) : Prop := FnOk P w K mg base CX0 k T.a__law_kind T.fd__law_kind P__law_kind (liftSp K sp)
abbrev FO__law_ways (P : Program) (w : World) (base : Heap) (T : Tx K mg) (k : Nat) (sp : DSp) : Prop := FnOk P w K mg base CX0 k T.a__law_ways T.fd__law_ways P__law_ways (liftSp K sp)
abbrev FO__law_longed (P : Program) (w : World) (base : Heap) (T : Tx K mg) (k : Nat) (sp : DSp) : Prop := FnOk P w K mg base CX0 k T.a__law_longed T.fd__law_longed P__law_longed (liftSp K sp)
abbrev FO__law_is_long (P : Program) (w : World) (base : Heap) (T : Tx K mg) (k : Nat) (sp : DSp) : Prop := FnOk P w K mg base CX0 k T.a__law_is_long T.fd__law_is_long P__law_is_long (liftSp K sp)
abbrev FO__law_along (P : Program) (w : World) (base : Heap) (T : Tx K mg) (k : Nat) (sp : DSp) : Prop := FnOk P w K mg base CX0 k T.a__law_along T.fd__law_along P__law_along (liftSp K sp)
abbrev FO__law_at (P : Program) (w : World) (base : Heap) (T : Tx K mg) (k : Nat) (sp : DSp) : Prop := FnOk P w K mg base CX0 k T.a__law_at T.fd__law_at P__law_at (liftSp K sp)
abbrev FO__law_mark_at (P : Program) (w : World) (base : Heap) (T : Tx K mg) (k : Nat) (sp : DSp) : Prop := FnOk P w K mg base CX0 k T.a__law_mark_at T.fd__law_mark_at P__law_mark_at (liftSp K sp)
abbrev FO__law_is_ring (P : Program) (w : World) (base : Heap) (T : Tx K mg) (k : Nat) (sp : DSp) : Prop := FnOk P w K mg base CX0 k T.a__law_is_ring T.fd__law_is_ring P__law_is_ring (liftSp K sp)
abbrev FO__law_places (P : Program) (w : World) (base : Heap) (T : Tx K mg) (k : Nat) (sp : DSp) : Prop := FnOk P w K mg base CX0 k T.a__law_places T.fd__law_places P__law_places (liftSp K sp)
abbrev FO__law_row (P : Program) (w : World) (base : Heap) (T : Tx K mg) (k : Nat) (sp : DSp) : Prop := FnOk P w K mg base CX0 k T.a__law_row T.fd__law_row P__law_row (liftSp K sp)
abbrev FO__law_odd (P : Program) (w : World) (base : Heap) (T : Tx K mg) (k : Nat) (sp : DSp) : Prop := FnOk P w K mg base CX0 k T.a__law_odd T.fd__law_odd P__law_odd (liftSp K sp)
abbrev FO__law_right (P : Program) (w : World) (base : Heap) (T : Tx K mg) (k : Nat) (sp : DSp) : Prop := FnOk P w K mg base CX0 k T.a__law_right T.fd__law_right P__law_right (liftSp K sp)
abbrev FO_law (P : Program) (w : World) (base : Heap) (T : Tx K mg) (k : Nat) (sp : DSp) : Prop := FnOk P w K mg base CX0 k T.a_law T.fd_law P_law (liftSp K sp)
theorem fnd_has_form {k : Nat} {dsp sp_is_mark sp_has_form : DSp} (T : Tx K mg) (G_is_mark : FO_is_mark P w base T k sp_is_mark) (G_has_form : FO_has_form P w base T k sp_has_form)
    (len : ∀ ds O R RE, dsp ds O R RE → ds.length = 2) (hread : ∀ ds O R RE, dsp ds O R RE → g_has_form sp_is_mark sp_has_form (.tup [(.str "one")]) { nx := fun _ O' => R .non O', rt := R } (startD N_has_form ds) O) : FO_has_form P w base T (k + 1) dsp :=
  fn_d (g := g_has_form sp_is_mark sp_has_form (.tup [(.str "one")])) T.n_has_form.F sc_has_form len (der_has_form T.n_is_mark G_is_mark T.n_has_form G_has_form T.m_tuple T.m_isinstance T.m_len T.m_str T.c_ONE) hread
theorem fnd_is_kind {k : Nat} {dsp sp_has_form sp_leaves_of : DSp} (T : Tx K mg) (G_has_form : FO_has_form P w base T k sp_has_form) (G_leaves_of : FO_leaves_of P w base T k sp_leaves_of)
    (len : ∀ ds O R RE, dsp ds O R RE → ds.length = 1) (hread : ∀ ds O R RE, dsp ds O R RE → g_is_kind sp_has_form sp_leaves_of (.int 12) (.int 24) { nx := fun _ O' => R .non O', rt := R } (startD N_is_kind ds) O) : FO_is_kind P w base T (k + 1) dsp :=
  fn_d (g := g_is_kind sp_has_form sp_leaves_of (.int 12) (.int 24)) T.n_is_kind.F sc_is_kind len (der_is_kind T.n_has_form G_has_form T.n_leaves_of G_leaves_of T.c_MOST_DEPTH T.c_MOST_LEAVES) hread
theorem fnd_inner {k : Nat} {dsp  : DSp} (T : Tx K mg) 
    (len : ∀ ds O R RE, dsp ds O R RE → ds.length = 1) (hread : ∀ ds O R RE, dsp ds O R RE → g_inner  { nx := fun _ O' => R .non O', rt := R } (startD N_inner ds) O) : FO_inner P w base T (k + 1) dsp :=
  fn_d (g := g_inner ) T.n_inner.F sc_inner len (der_inner T.m_list) hread
theorem fnd_has_head {k : Nat} {dsp sp_is_kind sp_is_name : DSp} (T : Tx K mg) (G_is_kind : FO_is_kind P w base T k sp_is_kind) (G_is_name : FO_is_name P w base T k sp_is_name)
    (len : ∀ ds O R RE, dsp ds O R RE → ds.length = 2) (hread : ∀ ds O R RE, dsp ds O R RE → g_has_head sp_is_kind sp_is_name (.tup [(.str "thing")]) { nx := fun _ O' => R .non O', rt := R } (startD N_has_head ds) O) : FO_has_head P w base T (k + 1) dsp :=
  fn_d (g := g_has_head sp_is_kind sp_is_name (.tup [(.str "thing")])) T.n_has_head.F sc_has_head len (der_has_head T.n_is_kind G_is_kind T.n_is_name G_is_name T.m_tuple T.m_isinstance T.m_len T.m_str T.c_THING) hread
theorem fnd_parts_left {k : Nat} {dsp sp_has_head sp_inner sp_parts_left : DSp} (T : Tx K mg) (G_has_head : FO_has_head P w base T k sp_has_head) (G_inner : FO_inner P w base T k sp_inner) (G_parts_left : FO_parts_left P w base T k sp_parts_left)
    (len : ∀ ds O R RE, dsp ds O R RE → ds.length = 4) (hread : ∀ ds O R RE, dsp ds O R RE → g_parts_left sp_has_head sp_inner sp_parts_left { nx := fun _ O' => R .non O', rt := R } (startD N_parts_left ds) O) : FO_parts_left P w base T (k + 1) dsp :=
  fn_d (g := g_parts_left sp_has_head sp_inner sp_parts_left) T.n_parts_left.F sc_parts_left len (der_parts_left T.n_has_head G_has_head T.n_inner G_inner T.n_parts_left G_parts_left) hread
theorem fnd_is_program {k : Nat} {dsp sp_parts_left : DSp} (T : Tx K mg) (G_parts_left : FO_parts_left P w base T k sp_parts_left)
    (len : ∀ ds O R RE, dsp ds O R RE → ds.length = 1) (hread : ∀ ds O R RE, dsp ds O R RE → g_is_program sp_parts_left (.int 80) (.int 400) { nx := fun _ O' => R .non O', rt := R } (startD N_is_program ds) O) : FO_is_program P w base T (k + 1) dsp :=
  fn_d (g := g_is_program sp_parts_left (.int 80) (.int 400)) T.n_is_program.F sc_is_program len (der_is_program T.n_parts_left G_parts_left T.c_MOST_DEEP T.c_MOST_PARTS) hread
theorem fnd_part_at {k : Nat} {dsp sp_inner : DSp} (T : Tx K mg) (G_inner : FO_inner P w base T k sp_inner)
    (len : ∀ ds O R RE, dsp ds O R RE → ds.length = 2) (hread : ∀ ds O R RE, dsp ds O R RE → g_part_at sp_inner { nx := fun _ O' => R .non O', rt := R } (startD N_part_at ds) O) : FO_part_at P w base T (k + 1) dsp :=
  fn_d (g := g_part_at sp_inner) T.n_part_at.F sc_part_at len (der_part_at T.n_inner G_inner T.m_len) hread
theorem fnd_known_as {k : Nat} {dsp  : DSp} (T : Tx K mg) 
    (len : ∀ ds O R RE, dsp ds O R RE → ds.length = 2) (hread : ∀ ds O R RE, dsp ds O R RE → g_known_as  { nx := fun _ O' => R .non O', rt := R } (startD N_known_as ds) O) : FO_known_as P w base T (k + 1) dsp :=
  fn_d (g := g_known_as ) T.n_known_as.F sc_known_as len (der_known_as T.m_reversed) hread
theorem fnd_kind_here {k : Nat} {dsp sp_known_as : DSp} (T : Tx K mg) (G_known_as : FO_known_as P w base T k sp_known_as)
    (len : ∀ ds O R RE, dsp ds O R RE → ds.length = 3) (hread : ∀ ds O R RE, dsp ds O R RE → g_kind_here sp_known_as (.tup [(.str "one")]) { nx := fun _ O' => R .non O', rt := R } (startD N_kind_here ds) O) : FO_kind_here P w base T (k + 1) dsp :=
  fn_d (g := g_kind_here sp_known_as (.tup [(.str "one")])) T.n_kind_here.F sc_kind_here len (der_kind_here T.n_known_as G_known_as T.m_int T.c_ONE) hread
theorem fnd_kind_within {k : Nat} {dsp sp_inner sp_kind_within sp_kind_here : DSp} (T : Tx K mg) (G_inner : FO_inner P w base T k sp_inner) (G_kind_within : FO_kind_within P w base T k sp_kind_within) (G_kind_here : FO_kind_here P w base T k sp_kind_here)
    (len : ∀ ds O R RE, dsp ds O R RE → ds.length = 3) (hread : ∀ ds O R RE, dsp ds O R RE → g_kind_within sp_inner sp_kind_within sp_kind_here { nx := fun _ O' => R .non O', rt := R } (startD N_kind_within ds) O) : FO_kind_within P w base T (k + 1) dsp :=
  fn_d (g := g_kind_within sp_inner sp_kind_within sp_kind_here) T.n_kind_within.F sc_kind_within len (der_kind_within T.n_inner G_inner T.n_kind_within G_kind_within T.n_kind_here G_kind_here T.m_enumerate) hread
theorem fnd_kind_of {k : Nat} {dsp sp_kind_within : DSp} (T : Tx K mg) (G_kind_within : FO_kind_within P w base T k sp_kind_within)
    (len : ∀ ds O R RE, dsp ds O R RE → ds.length = 2) (hread : ∀ ds O R RE, dsp ds O R RE → g_kind_of sp_kind_within { nx := fun _ O' => R .non O', rt := R } (startD N_kind_of ds) O) : FO_kind_of P w base T (k + 1) dsp :=
  fn_d (g := g_kind_of sp_kind_within) T.n_kind_of.F sc_kind_of len (der_kind_of T.n_kind_within G_kind_within T.m_list) hread
theorem fnd_taken_name {k : Nat} {dsp  : DSp} (T : Tx K mg) 
    (len : ∀ ds O R RE, dsp ds O R RE → ds.length = 1) (hread : ∀ ds O R RE, dsp ds O R RE → g_taken_name  { nx := fun _ O' => R .non O', rt := R } (startD N_taken_name ds) O) : FO_taken_name P w base T (k + 1) dsp :=
  fn_d (g := g_taken_name ) T.n_taken_name.F sc_taken_name len (der_taken_name T.m_str) hread
theorem fnd_is_long_here {k : Nat} {dsp sp_gone_along sp_is_long_here sp_taken_name : DSp} (T : Tx K mg) (G_gone_along : FO_gone_along P w base T k sp_gone_along) (G_is_long_here : FO_is_long_here P w base T k sp_is_long_here) (G_taken_name : FO_taken_name P w base T k sp_taken_name)
    (len : ∀ ds O R RE, dsp ds O R RE → ds.length = 4) (hread : ∀ ds O R RE, dsp ds O R RE → g_is_long_here sp_gone_along sp_is_long_here sp_taken_name (.tup [(.str "thing")]) { nx := fun _ O' => R .non O', rt := R } (startD N_is_long_here ds) O) : FO_is_long_here P w base T (k + 1) dsp :=
  fn_d (g := g_is_long_here sp_gone_along sp_is_long_here sp_taken_name (.tup [(.str "thing")])) T.n_is_long_here.F sc_is_long_here len (der_is_long_here T.n_gone_along G_gone_along T.n_is_long_here G_is_long_here T.n_taken_name G_taken_name T.c_THING) hread
theorem fnd_gone_along {k : Nat} {dsp sp_known_as sp_gone_along sp_is_long_here : DSp} (T : Tx K mg) (G_known_as : FO_known_as P w base T k sp_known_as) (G_gone_along : FO_gone_along P w base T k sp_gone_along) (G_is_long_here : FO_is_long_here P w base T k sp_is_long_here)
    (len : ∀ ds O R RE, dsp ds O R RE → ds.length = 3) (hread : ∀ ds O R RE, dsp ds O R RE → g_gone_along sp_known_as sp_gone_along sp_is_long_here { nx := fun _ O' => R .non O', rt := R } (startD N_gone_along ds) O) : FO_gone_along P w base T (k + 1) dsp :=
  fn_d (g := g_gone_along sp_known_as sp_gone_along sp_is_long_here) T.n_gone_along.F sc_gone_along len (der_gone_along T.n_known_as G_known_as T.n_gone_along G_gone_along T.n_is_long_here G_is_long_here T.m_int) hread
theorem fnd_is_long {k : Nat} {dsp sp_is_long_here : DSp} (T : Tx K mg) (G_is_long_here : FO_is_long_here P w base T k sp_is_long_here)
    (len : ∀ ds O R RE, dsp ds O R RE → ds.length = 3) (hread : ∀ ds O R RE, dsp ds O R RE → g_is_long sp_is_long_here { nx := fun _ O' => R .non O', rt := R } (startD N_is_long ds) O) : FO_is_long P w base T (k + 1) dsp :=
  fn_d (g := g_is_long sp_is_long_here) T.n_is_long.F sc_is_long len (der_is_long T.n_is_long_here G_is_long_here T.m_list) hread
theorem fnd_is_whole {k : Nat} {dsp  : DSp} (T : Tx K mg) 
    (len : ∀ ds O R RE, dsp ds O R RE → ds.length = 1) (hread : ∀ ds O R RE, dsp ds O R RE → g_is_whole  { nx := fun _ O' => R .non O', rt := R } (startD N_is_whole ds) O) : FO_is_whole P w base T (k + 1) dsp :=
  fn_d (g := g_is_whole ) T.n_is_whole.F sc_is_whole len (der_is_whole T.m_int T.m_isinstance T.m_bool) hread
theorem fnd_is_place {k : Nat} {dsp sp_is_whole sp_part_at : DSp} (T : Tx K mg) (G_is_whole : FO_is_whole P w base T k sp_is_whole) (G_part_at : FO_part_at P w base T k sp_part_at)
    (len : ∀ ds O R RE, dsp ds O R RE → ds.length = 2) (hread : ∀ ds O R RE, dsp ds O R RE → g_is_place sp_is_whole sp_part_at { nx := fun _ O' => R .non O', rt := R } (startD N_is_place ds) O) : FO_is_place P w base T (k + 1) dsp :=
  fn_d (g := g_is_place sp_is_whole sp_part_at) T.n_is_place.F sc_is_place len (der_is_place T.n_is_whole G_is_whole T.n_part_at G_part_at T.m_list T.m_isinstance) hread
theorem fnd_kind_at {k : Nat} {dsp sp_inner sp_kind_of : DSp} (T : Tx K mg) (G_inner : FO_inner P w base T k sp_inner) (G_kind_of : FO_kind_of P w base T k sp_kind_of)
    (len : ∀ ds O R RE, dsp ds O R RE → ds.length = 3) (hread : ∀ ds O R RE, dsp ds O R RE → g_kind_at sp_inner sp_kind_of { nx := fun _ O' => R .non O', rt := R } (startD N_kind_at ds) O) : FO_kind_at P w base T (k + 1) dsp :=
  fn_d (g := g_kind_at sp_inner sp_kind_of) T.n_kind_at.F sc_kind_at len (der_kind_at T.n_inner G_inner T.n_kind_of G_kind_of T.m_list) hread
theorem fnd_is_ring {k : Nat} {dsp sp_is_program sp_is_long sp_is_place sp_kind_at : DSp} (T : Tx K mg) (G_is_program : FO_is_program P w base T k sp_is_program) (G_is_long : FO_is_long P w base T k sp_is_long) (G_is_place : FO_is_place P w base T k sp_is_place) (G_kind_at : FO_kind_at P w base T k sp_kind_at)
    (len : ∀ ds O R RE, dsp ds O R RE → ds.length = 5) (hread : ∀ ds O R RE, dsp ds O R RE → g_is_ring sp_is_program sp_is_long sp_is_place sp_kind_at { nx := fun _ O' => R .non O', rt := R } (startD N_is_ring ds) O) : FO_is_ring P w base T (k + 1) dsp :=
  fn_d (g := g_is_ring sp_is_program sp_is_long sp_is_place sp_kind_at) T.n_is_ring.F sc_is_ring len (der_is_ring T.n_is_program G_is_program T.n_is_long G_is_long T.n_is_place G_is_place T.n_kind_at G_kind_at T.m_len) hread
theorem fnd__law_kind {k : Nat} {dsp sp__law_take sp__law_kind : DSp} (T : Tx K mg) (G__law_take : FO__law_take P w base T k sp__law_take) (G__law_kind : FO__law_kind P w base T k sp__law_kind)
    (len : ∀ ds O R RE, dsp ds O R RE → ds.length = 3) (hread : ∀ ds O R RE, dsp ds O R RE → g__law_kind sp__law_take sp__law_kind { nx := fun _ O' => R .non O', rt := R } (startD N__law_kind ds) O) : FO__law_kind P w base T (k + 1) dsp :=
  fn_d (g := g__law_kind sp__law_take sp__law_kind) T.n__law_kind.F sc__law_kind len (der__law_kind T.n__law_take G__law_take T.n__law_kind G__law_kind T.m_len) hread
theorem fnd__law_ways {k : Nat} {dsp sp__law_ways : DSp} (T : Tx K mg) (G__law_ways : FO__law_ways P w base T k sp__law_ways)
    (len : ∀ ds O R RE, dsp ds O R RE → ds.length = 1) (hread : ∀ ds O R RE, dsp ds O R RE → g__law_ways sp__law_ways { nx := fun _ O' => R .non O', rt := R } (startD N__law_ways ds) O) : FO__law_ways P w base T (k + 1) dsp :=
  fn_d (g := g__law_ways sp__law_ways) T.n__law_ways.F sc__law_ways len (der__law_ways T.n__law_ways G__law_ways T.m_len) hread
theorem fnd__law_longed {k : Nat} {dsp sp__law_longed sp__law_ways sp__law_take : DSp} (T : Tx K mg) (G__law_longed : FO__law_longed P w base T k sp__law_longed) (G__law_ways : FO__law_ways P w base T k sp__law_ways) (G__law_take : FO__law_take P w base T k sp__law_take)
    (len : ∀ ds O R RE, dsp ds O R RE → ds.length = 4) (hread : ∀ ds O R RE, dsp ds O R RE → g__law_longed sp__law_longed sp__law_ways sp__law_take { nx := fun _ O' => R .non O', rt := R } (startD N__law_longed ds) O) : FO__law_longed P w base T (k + 1) dsp :=
  fn_d (g := g__law_longed sp__law_longed sp__law_ways sp__law_take) T.n__law_longed.F sc__law_longed len (der__law_longed T.n__law_longed G__law_longed T.n__law_ways G__law_ways T.n__law_take G__law_take T.m_str T.m_len) hread
theorem fnd__law_is_long {k : Nat} {dsp sp__law_along sp__law_is_long : DSp} (T : Tx K mg) (G__law_along : FO__law_along P w base T k sp__law_along) (G__law_is_long : FO__law_is_long P w base T k sp__law_is_long)
    (len : ∀ ds O R RE, dsp ds O R RE → ds.length = 4) (hread : ∀ ds O R RE, dsp ds O R RE → g__law_is_long sp__law_along sp__law_is_long { nx := fun _ O' => R .non O', rt := R } (startD N__law_is_long ds) O) : FO__law_is_long P w base T (k + 1) dsp :=
  fn_d (g := g__law_is_long sp__law_along sp__law_is_long) T.n__law_is_long.F sc__law_is_long len (der__law_is_long T.n__law_along G__law_along T.n__law_is_long G__law_is_long T.m_str) hread
theorem fnd__law_along {k : Nat} {dsp sp__law_along sp__law_is_long : DSp} (T : Tx K mg) (G__law_along : FO__law_along P w base T k sp__law_along) (G__law_is_long : FO__law_is_long P w base T k sp__law_is_long)
    (len : ∀ ds O R RE, dsp ds O R RE → ds.length = 3) (hread : ∀ ds O R RE, dsp ds O R RE → g__law_along sp__law_along sp__law_is_long { nx := fun _ O' => R .non O', rt := R } (startD N__law_along ds) O) : FO__law_along P w base T (k + 1) dsp :=
  fn_d (g := g__law_along sp__law_along sp__law_is_long) T.n__law_along.F sc__law_along len (der__law_along T.n__law_along G__law_along T.n__law_is_long G__law_is_long) hread
theorem fnd__law_at {k : Nat} {dsp  : DSp} (T : Tx K mg) 
    (len : ∀ ds O R RE, dsp ds O R RE → ds.length = 2) (hread : ∀ ds O R RE, dsp ds O R RE → g__law_at  { nx := fun _ O' => R .non O', rt := R } (startD N__law_at ds) O) : FO__law_at P w base T (k + 1) dsp :=
  fn_d (g := g__law_at ) T.n__law_at.F sc__law_at len (der__law_at T.m_list T.m_int T.m_isinstance T.m_bool T.m_len) hread
theorem fnd__law_mark_at {k : Nat} {dsp sp__law_along : DSp} (T : Tx K mg) (G__law_along : FO__law_along P w base T k sp__law_along)
    (len : ∀ ds O R RE, dsp ds O R RE → ds.length = 3) (hread : ∀ ds O R RE, dsp ds O R RE → g__law_mark_at sp__law_along { nx := fun _ O' => R .non O', rt := R } (startD N__law_mark_at ds) O) : FO__law_mark_at P w base T (k + 1) dsp :=
  fn_d (g := g__law_mark_at sp__law_along) T.n__law_mark_at.F sc__law_mark_at len (der__law_mark_at T.n__law_along G__law_along T.m_list T.m_len) hread
theorem fnd__law_is_ring {k : Nat} {dsp sp__law_is_long sp__law_at sp__law_mark_at : DSp} (T : Tx K mg) (G__law_is_long : FO__law_is_long P w base T k sp__law_is_long) (G__law_at : FO__law_at P w base T k sp__law_at) (G__law_mark_at : FO__law_mark_at P w base T k sp__law_mark_at)
    (len : ∀ ds O R RE, dsp ds O R RE → ds.length = 5) (hread : ∀ ds O R RE, dsp ds O R RE → g__law_is_ring sp__law_is_long sp__law_at sp__law_mark_at { nx := fun _ O' => R .non O', rt := R } (startD N__law_is_ring ds) O) : FO__law_is_ring P w base T (k + 1) dsp :=
  fn_d (g := g__law_is_ring sp__law_is_long sp__law_at sp__law_mark_at) T.n__law_is_ring.F sc__law_is_ring len (der__law_is_ring T.n__law_is_long G__law_is_long T.n__law_at G__law_at T.n__law_mark_at G__law_mark_at T.m_list T.m_isinstance T.m_len) hread
theorem fnd__law_places {k : Nat} {dsp sp__law_places : DSp} (T : Tx K mg) (G__law_places : FO__law_places P w base T k sp__law_places)
    (len : ∀ ds O R RE, dsp ds O R RE → ds.length = 2) (hread : ∀ ds O R RE, dsp ds O R RE → g__law_places sp__law_places { nx := fun _ O' => R .non O', rt := R } (startD N__law_places ds) O) : FO__law_places P w base T (k + 1) dsp :=
  fn_d (g := g__law_places sp__law_places) T.n__law_places.F sc__law_places len (der__law_places T.n__law_places G__law_places T.m_list T.m_enumerate) hread
theorem fnd__law_row {k : Nat} {dsp sp__law_take sp__law_kind : DSp} (T : Tx K mg) (G__law_take : FO__law_take P w base T k sp__law_take) (G__law_kind : FO__law_kind P w base T k sp__law_kind)
    (len : ∀ ds O R RE, dsp ds O R RE → ds.length = 1) (hread : ∀ ds O R RE, dsp ds O R RE → g__law_row sp__law_take sp__law_kind { nx := fun _ O' => R .non O', rt := R } (startD N__law_row ds) O) : FO__law_row P w base T (k + 1) dsp :=
  fn_d (g := g__law_row sp__law_take sp__law_kind) T.n__law_row.F sc__law_row len (der__law_row T.n__law_take G__law_take T.n__law_kind G__law_kind) hread
theorem fnd__law_odd {k : Nat} {dsp sp__law_take : DSp} (T : Tx K mg) (G__law_take : FO__law_take P w base T k sp__law_take)
    (len : ∀ ds O R RE, dsp ds O R RE → ds.length = 2) (hread : ∀ ds O R RE, dsp ds O R RE → g__law_odd sp__law_take { nx := fun _ O' => R .non O', rt := R } (startD N__law_odd ds) O) : FO__law_odd P w base T (k + 1) dsp :=
  fn_d (g := g__law_odd sp__law_take) T.n__law_odd.F sc__law_odd len (der__law_odd T.n__law_take G__law_take T.m_tuple T.m_len) hread
theorem fnd__law_right {k : Nat} {dsp sp__law_is_ring sp_is_ring : DSp} (T : Tx K mg) (G__law_is_ring : FO__law_is_ring P w base T k sp__law_is_ring) (G_is_ring : FO_is_ring P w base T k sp_is_ring)
    (len : ∀ ds O R RE, dsp ds O R RE → ds.length = 5) (hread : ∀ ds O R RE, dsp ds O R RE → g__law_right sp__law_is_ring sp_is_ring { nx := fun _ O' => R .non O', rt := R } (startD N__law_right ds) O) : FO__law_right P w base T (k + 1) dsp :=
  fn_d (g := g__law_right sp__law_is_ring sp_is_ring) T.n__law_right.F sc__law_right len (der__law_right T.n__law_is_ring G__law_is_ring T.n_is_ring G_is_ring T.m_list T.m_bool T.m_isinstance) hread
theorem fndG_law {k : Nat} {dsp sp__law_pool sp__law_row sp__law_kind sp__law_take sp__law_longed sp__law_places sp__law_odd sp_is_ring sp__law_right : DSp} (T : Tx K mg) (G__law_pool : FO__law_pool P w base T k sp__law_pool) (G__law_row : FO__law_row P w base T k sp__law_row) (G__law_kind : FO__law_kind P w base T k sp__law_kind) (G__law_take : FO__law_take P w base T k sp__law_take) (G__law_longed : FO__law_longed P w base T k sp__law_longed) (G__law_places : FO__law_places P w base T k sp__law_places) (G__law_odd : FO__law_odd P w base T k sp__law_odd) (G_is_ring : FO_is_ring P w base T k sp_is_ring) (G__law_right : FO__law_right P w base T k sp__law_right)
    (len : ∀ ds O R RE, dsp ds O R RE → ds.length = 1) (hread : ∀ ds O R RE, dsp ds O R RE → g_law sp__law_pool sp__law_row sp__law_kind sp__law_take sp__law_longed sp__law_places sp__law_odd sp_is_ring sp__law_right { nx := fun _ O' => VG R .non O', rt := VG R } (startD N_law ds) O) : FO_law P w base T (k + 1) dsp :=
  fn_dG (g := g_law sp__law_pool sp__law_row sp__law_kind sp__law_take sp__law_longed sp__law_places sp__law_odd sp_is_ring sp__law_right) T.n_law.F sc_law len (der_law T.n__law_pool G__law_pool T.n__law_row G__law_row T.n__law_kind G__law_kind T.n__law_take G__law_take T.n__law_longed G__law_longed T.n__law_places G__law_places T.n__law_odd G__law_odd T.n_is_ring G_is_ring T.n__law_right G__law_right T.m_range T.m_len T.m_min T.m_max T.m_list) hread
end
end Kf
/-! Kpg: programs as data. -/
namespace Kf
open PySem PySem.Spec L2
open PyProof.Rows hiding St
/-! ### words -/
section
variable {neg : Bool} {O : Ow} {Q : VD}
theorem rIn_ws {z : Str} {ts : List Str} (hz : PyData.strOk z = true) (h : ∀ t ∈ ts, PyData.strOk t = true) : rInD neg (.str z) (.tup (ts.map .str)) O Q = Q (.bl (neg ^^ decide (z ∈ ts))) O := by
  have h1 : isPys (ts.map D.str) = true := by
    rw [isPys_all, List.all_eq_true]
    intro d hd
    obtain ⟨t, ht, rfl⟩ := List.mem_map.mp hd
    simp only [isPy, h t ht]
  have h2 : (ts.map D.str).any (fun x => PyData.eqv (toPy x) (toPy (.str z))) = decide (z ∈ ts) := by
    clear h h1
    induction ts with
    | nil => simp
    | cons t ts ih =>
      have e : PyData.eqv (toPy (.str t)) (toPy (.str z)) = decide (t = z) := deq_s
      rw [List.map_cons, List.any_cons, ih, e]
      by_cases h : t = z
      · subst h; simp
      · have h' : ¬ z = t := fun q => h q.symm
        simp [h, h']
  simp only [rInD, deref_str, deref_tup, isPy, hz, h1, h2, true_and]
  first | rfl | simp [dp, toPy, PyData.depth]
theorem sw_name : PyData.strOk (Str.ofString "name") = true := by decide +kernel
theorem sw_thing : PyData.strOk (Str.ofString "thing") = true := by decide +kernel
theorem sw_take : PyData.strOk (Str.ofString "take") = true := by decide +kernel
theorem sw_give : PyData.strOk (Str.ofString "give") = true := by decide +kernel
theorem sw_pair : PyData.strOk (Str.ofString "pair") = true := by decide +kernel
theorem sw_first : PyData.strOk (Str.ofString "first") = true := by decide +kernel
theorem sw_second : PyData.strOk (Str.ofString "second") = true := by decide +kernel
theorem sw_mark : PyData.strOk (Str.ofString "mark") = true := by decide +kernel
theorem sw_one : PyData.strOk (Str.ofString "one") = true := by decide +kernel
theorem sw_to : PyData.strOk (Str.ofString "to") = true := by decide +kernel
theorem sw_both : PyData.strOk (Str.ofString "both") = true := by decide +kernel
theorem sw_at : PyData.strOk (Str.ofString "at") = true := by decide +kernel
theorem te_name_take : rEqD neg (.str (Str.ofString "name")) (.str (Str.ofString "take")) O Q = Q (.bl neg) O := by
  rw [rEq_s sw_name sw_take, show decide (Str.ofString "name" = Str.ofString "take") = false by decide +kernel]; cases neg <;> rfl
theorem te_name_give : rEqD neg (.str (Str.ofString "name")) (.str (Str.ofString "give")) O Q = Q (.bl neg) O := by
  rw [rEq_s sw_name sw_give, show decide (Str.ofString "name" = Str.ofString "give") = false by decide +kernel]; cases neg <;> rfl
theorem te_name_pair : rEqD neg (.str (Str.ofString "name")) (.str (Str.ofString "pair")) O Q = Q (.bl neg) O := by
  rw [rEq_s sw_name sw_pair, show decide (Str.ofString "name" = Str.ofString "pair") = false by decide +kernel]; cases neg <;> rfl
theorem te_name_first : rEqD neg (.str (Str.ofString "name")) (.str (Str.ofString "first")) O Q = Q (.bl neg) O := by
  rw [rEq_s sw_name sw_first, show decide (Str.ofString "name" = Str.ofString "first") = false by decide +kernel]; cases neg <;> rfl
theorem te_name_second : rEqD neg (.str (Str.ofString "name")) (.str (Str.ofString "second")) O Q = Q (.bl neg) O := by
  rw [rEq_s sw_name sw_second, show decide (Str.ofString "name" = Str.ofString "second") = false by decide +kernel]; cases neg <;> rfl
theorem te_name_to : rEqD neg (.str (Str.ofString "name")) (.str (Str.ofString "to")) O Q = Q (.bl neg) O := by
  rw [rEq_s sw_name sw_to, show decide (Str.ofString "name" = Str.ofString "to") = false by decide +kernel]; cases neg <;> rfl
theorem te_name_both : rEqD neg (.str (Str.ofString "name")) (.str (Str.ofString "both")) O Q = Q (.bl neg) O := by
  rw [rEq_s sw_name sw_both, show decide (Str.ofString "name" = Str.ofString "both") = false by decide +kernel]; cases neg <;> rfl
theorem te_name_one : rEqD neg (.str (Str.ofString "name")) (.str (Str.ofString "one")) O Q = Q (.bl neg) O := by
  rw [rEq_s sw_name sw_one, show decide (Str.ofString "name" = Str.ofString "one") = false by decide +kernel]; cases neg <;> rfl
theorem te_name_mark : rEqD neg (.str (Str.ofString "name")) (.str (Str.ofString "mark")) O Q = Q (.bl neg) O := by
  rw [rEq_s sw_name sw_mark, show decide (Str.ofString "name" = Str.ofString "mark") = false by decide +kernel]; cases neg <;> rfl
theorem te_name_name : rEqD neg (.str (Str.ofString "name")) (.str (Str.ofString "name")) O Q = Q (.bl !neg) O := by
  rw [rEq_s sw_name sw_name, show decide (Str.ofString "name" = Str.ofString "name") = true by decide +kernel]; cases neg <;> rfl
theorem te_name_thing : rEqD neg (.str (Str.ofString "name")) (.str (Str.ofString "thing")) O Q = Q (.bl neg) O := by
  rw [rEq_s sw_name sw_thing, show decide (Str.ofString "name" = Str.ofString "thing") = false by decide +kernel]; cases neg <;> rfl
theorem te_name_at : rEqD neg (.str (Str.ofString "name")) (.str (Str.ofString "at")) O Q = Q (.bl neg) O := by
  rw [rEq_s sw_name sw_at, show decide (Str.ofString "name" = Str.ofString "at") = false by decide +kernel]; cases neg <;> rfl
theorem te_thing_take : rEqD neg (.str (Str.ofString "thing")) (.str (Str.ofString "take")) O Q = Q (.bl neg) O := by
  rw [rEq_s sw_thing sw_take, show decide (Str.ofString "thing" = Str.ofString "take") = false by decide +kernel]; cases neg <;> rfl
theorem te_thing_give : rEqD neg (.str (Str.ofString "thing")) (.str (Str.ofString "give")) O Q = Q (.bl neg) O := by
  rw [rEq_s sw_thing sw_give, show decide (Str.ofString "thing" = Str.ofString "give") = false by decide +kernel]; cases neg <;> rfl
theorem te_thing_pair : rEqD neg (.str (Str.ofString "thing")) (.str (Str.ofString "pair")) O Q = Q (.bl neg) O := by
  rw [rEq_s sw_thing sw_pair, show decide (Str.ofString "thing" = Str.ofString "pair") = false by decide +kernel]; cases neg <;> rfl
theorem te_thing_first : rEqD neg (.str (Str.ofString "thing")) (.str (Str.ofString "first")) O Q = Q (.bl neg) O := by
  rw [rEq_s sw_thing sw_first, show decide (Str.ofString "thing" = Str.ofString "first") = false by decide +kernel]; cases neg <;> rfl
theorem te_thing_second : rEqD neg (.str (Str.ofString "thing")) (.str (Str.ofString "second")) O Q = Q (.bl neg) O := by
  rw [rEq_s sw_thing sw_second, show decide (Str.ofString "thing" = Str.ofString "second") = false by decide +kernel]; cases neg <;> rfl
theorem te_thing_to : rEqD neg (.str (Str.ofString "thing")) (.str (Str.ofString "to")) O Q = Q (.bl neg) O := by
  rw [rEq_s sw_thing sw_to, show decide (Str.ofString "thing" = Str.ofString "to") = false by decide +kernel]; cases neg <;> rfl
theorem te_thing_both : rEqD neg (.str (Str.ofString "thing")) (.str (Str.ofString "both")) O Q = Q (.bl neg) O := by
  rw [rEq_s sw_thing sw_both, show decide (Str.ofString "thing" = Str.ofString "both") = false by decide +kernel]; cases neg <;> rfl
theorem te_thing_one : rEqD neg (.str (Str.ofString "thing")) (.str (Str.ofString "one")) O Q = Q (.bl neg) O := by
  rw [rEq_s sw_thing sw_one, show decide (Str.ofString "thing" = Str.ofString "one") = false by decide +kernel]; cases neg <;> rfl
theorem te_thing_mark : rEqD neg (.str (Str.ofString "thing")) (.str (Str.ofString "mark")) O Q = Q (.bl neg) O := by
  rw [rEq_s sw_thing sw_mark, show decide (Str.ofString "thing" = Str.ofString "mark") = false by decide +kernel]; cases neg <;> rfl
theorem te_thing_name : rEqD neg (.str (Str.ofString "thing")) (.str (Str.ofString "name")) O Q = Q (.bl neg) O := by
  rw [rEq_s sw_thing sw_name, show decide (Str.ofString "thing" = Str.ofString "name") = false by decide +kernel]; cases neg <;> rfl
theorem te_thing_thing : rEqD neg (.str (Str.ofString "thing")) (.str (Str.ofString "thing")) O Q = Q (.bl !neg) O := by
  rw [rEq_s sw_thing sw_thing, show decide (Str.ofString "thing" = Str.ofString "thing") = true by decide +kernel]; cases neg <;> rfl
theorem te_thing_at : rEqD neg (.str (Str.ofString "thing")) (.str (Str.ofString "at")) O Q = Q (.bl neg) O := by
  rw [rEq_s sw_thing sw_at, show decide (Str.ofString "thing" = Str.ofString "at") = false by decide +kernel]; cases neg <;> rfl
theorem te_take_take : rEqD neg (.str (Str.ofString "take")) (.str (Str.ofString "take")) O Q = Q (.bl !neg) O := by
  rw [rEq_s sw_take sw_take, show decide (Str.ofString "take" = Str.ofString "take") = true by decide +kernel]; cases neg <;> rfl
theorem te_take_give : rEqD neg (.str (Str.ofString "take")) (.str (Str.ofString "give")) O Q = Q (.bl neg) O := by
  rw [rEq_s sw_take sw_give, show decide (Str.ofString "take" = Str.ofString "give") = false by decide +kernel]; cases neg <;> rfl
theorem te_take_pair : rEqD neg (.str (Str.ofString "take")) (.str (Str.ofString "pair")) O Q = Q (.bl neg) O := by
  rw [rEq_s sw_take sw_pair, show decide (Str.ofString "take" = Str.ofString "pair") = false by decide +kernel]; cases neg <;> rfl
theorem te_take_first : rEqD neg (.str (Str.ofString "take")) (.str (Str.ofString "first")) O Q = Q (.bl neg) O := by
  rw [rEq_s sw_take sw_first, show decide (Str.ofString "take" = Str.ofString "first") = false by decide +kernel]; cases neg <;> rfl
theorem te_take_second : rEqD neg (.str (Str.ofString "take")) (.str (Str.ofString "second")) O Q = Q (.bl neg) O := by
  rw [rEq_s sw_take sw_second, show decide (Str.ofString "take" = Str.ofString "second") = false by decide +kernel]; cases neg <;> rfl
theorem te_take_to : rEqD neg (.str (Str.ofString "take")) (.str (Str.ofString "to")) O Q = Q (.bl neg) O := by
  rw [rEq_s sw_take sw_to, show decide (Str.ofString "take" = Str.ofString "to") = false by decide +kernel]; cases neg <;> rfl
theorem te_take_both : rEqD neg (.str (Str.ofString "take")) (.str (Str.ofString "both")) O Q = Q (.bl neg) O := by
  rw [rEq_s sw_take sw_both, show decide (Str.ofString "take" = Str.ofString "both") = false by decide +kernel]; cases neg <;> rfl
theorem te_take_one : rEqD neg (.str (Str.ofString "take")) (.str (Str.ofString "one")) O Q = Q (.bl neg) O := by
  rw [rEq_s sw_take sw_one, show decide (Str.ofString "take" = Str.ofString "one") = false by decide +kernel]; cases neg <;> rfl
theorem te_take_mark : rEqD neg (.str (Str.ofString "take")) (.str (Str.ofString "mark")) O Q = Q (.bl neg) O := by
  rw [rEq_s sw_take sw_mark, show decide (Str.ofString "take" = Str.ofString "mark") = false by decide +kernel]; cases neg <;> rfl
theorem te_take_name : rEqD neg (.str (Str.ofString "take")) (.str (Str.ofString "name")) O Q = Q (.bl neg) O := by
  rw [rEq_s sw_take sw_name, show decide (Str.ofString "take" = Str.ofString "name") = false by decide +kernel]; cases neg <;> rfl
theorem te_take_thing : rEqD neg (.str (Str.ofString "take")) (.str (Str.ofString "thing")) O Q = Q (.bl neg) O := by
  rw [rEq_s sw_take sw_thing, show decide (Str.ofString "take" = Str.ofString "thing") = false by decide +kernel]; cases neg <;> rfl
theorem te_take_at : rEqD neg (.str (Str.ofString "take")) (.str (Str.ofString "at")) O Q = Q (.bl neg) O := by
  rw [rEq_s sw_take sw_at, show decide (Str.ofString "take" = Str.ofString "at") = false by decide +kernel]; cases neg <;> rfl
theorem te_give_take : rEqD neg (.str (Str.ofString "give")) (.str (Str.ofString "take")) O Q = Q (.bl neg) O := by
  rw [rEq_s sw_give sw_take, show decide (Str.ofString "give" = Str.ofString "take") = false by decide +kernel]; cases neg <;> rfl
theorem te_give_give : rEqD neg (.str (Str.ofString "give")) (.str (Str.ofString "give")) O Q = Q (.bl !neg) O := by
  rw [rEq_s sw_give sw_give, show decide (Str.ofString "give" = Str.ofString "give") = true by decide +kernel]; cases neg <;> rfl
theorem te_give_pair : rEqD neg (.str (Str.ofString "give")) (.str (Str.ofString "pair")) O Q = Q (.bl neg) O := by
  rw [rEq_s sw_give sw_pair, show decide (Str.ofString "give" = Str.ofString "pair") = false by decide +kernel]; cases neg <;> rfl
theorem te_give_first : rEqD neg (.str (Str.ofString "give")) (.str (Str.ofString "first")) O Q = Q (.bl neg) O := by
  rw [rEq_s sw_give sw_first, show decide (Str.ofString "give" = Str.ofString "first") = false by decide +kernel]; cases neg <;> rfl
theorem te_give_second : rEqD neg (.str (Str.ofString "give")) (.str (Str.ofString "second")) O Q = Q (.bl neg) O := by
  rw [rEq_s sw_give sw_second, show decide (Str.ofString "give" = Str.ofString "second") = false by decide +kernel]; cases neg <;> rfl
theorem te_give_to : rEqD neg (.str (Str.ofString "give")) (.str (Str.ofString "to")) O Q = Q (.bl neg) O := by
  rw [rEq_s sw_give sw_to, show decide (Str.ofString "give" = Str.ofString "to") = false by decide +kernel]; cases neg <;> rfl
theorem te_give_both : rEqD neg (.str (Str.ofString "give")) (.str (Str.ofString "both")) O Q = Q (.bl neg) O := by
  rw [rEq_s sw_give sw_both, show decide (Str.ofString "give" = Str.ofString "both") = false by decide +kernel]; cases neg <;> rfl
theorem te_give_one : rEqD neg (.str (Str.ofString "give")) (.str (Str.ofString "one")) O Q = Q (.bl neg) O := by
  rw [rEq_s sw_give sw_one, show decide (Str.ofString "give" = Str.ofString "one") = false by decide +kernel]; cases neg <;> rfl
theorem te_give_mark : rEqD neg (.str (Str.ofString "give")) (.str (Str.ofString "mark")) O Q = Q (.bl neg) O := by
  rw [rEq_s sw_give sw_mark, show decide (Str.ofString "give" = Str.ofString "mark") = false by decide +kernel]; cases neg <;> rfl
theorem te_give_name : rEqD neg (.str (Str.ofString "give")) (.str (Str.ofString "name")) O Q = Q (.bl neg) O := by
  rw [rEq_s sw_give sw_name, show decide (Str.ofString "give" = Str.ofString "name") = false by decide +kernel]; cases neg <;> rfl
theorem te_give_thing : rEqD neg (.str (Str.ofString "give")) (.str (Str.ofString "thing")) O Q = Q (.bl neg) O := by
  rw [rEq_s sw_give sw_thing, show decide (Str.ofString "give" = Str.ofString "thing") = false by decide +kernel]; cases neg <;> rfl
theorem te_give_at : rEqD neg (.str (Str.ofString "give")) (.str (Str.ofString "at")) O Q = Q (.bl neg) O := by
  rw [rEq_s sw_give sw_at, show decide (Str.ofString "give" = Str.ofString "at") = false by decide +kernel]; cases neg <;> rfl
theorem te_pair_take : rEqD neg (.str (Str.ofString "pair")) (.str (Str.ofString "take")) O Q = Q (.bl neg) O := by
  rw [rEq_s sw_pair sw_take, show decide (Str.ofString "pair" = Str.ofString "take") = false by decide +kernel]; cases neg <;> rfl
theorem te_pair_give : rEqD neg (.str (Str.ofString "pair")) (.str (Str.ofString "give")) O Q = Q (.bl neg) O := by
  rw [rEq_s sw_pair sw_give, show decide (Str.ofString "pair" = Str.ofString "give") = false by decide +kernel]; cases neg <;> rfl
theorem te_pair_pair : rEqD neg (.str (Str.ofString "pair")) (.str (Str.ofString "pair")) O Q = Q (.bl !neg) O := by
  rw [rEq_s sw_pair sw_pair, show decide (Str.ofString "pair" = Str.ofString "pair") = true by decide +kernel]; cases neg <;> rfl
theorem te_pair_first : rEqD neg (.str (Str.ofString "pair")) (.str (Str.ofString "first")) O Q = Q (.bl neg) O := by
  rw [rEq_s sw_pair sw_first, show decide (Str.ofString "pair" = Str.ofString "first") = false by decide +kernel]; cases neg <;> rfl
theorem te_pair_second : rEqD neg (.str (Str.ofString "pair")) (.str (Str.ofString "second")) O Q = Q (.bl neg) O := by
  rw [rEq_s sw_pair sw_second, show decide (Str.ofString "pair" = Str.ofString "second") = false by decide +kernel]; cases neg <;> rfl
theorem te_pair_to : rEqD neg (.str (Str.ofString "pair")) (.str (Str.ofString "to")) O Q = Q (.bl neg) O := by
  rw [rEq_s sw_pair sw_to, show decide (Str.ofString "pair" = Str.ofString "to") = false by decide +kernel]; cases neg <;> rfl
theorem te_pair_both : rEqD neg (.str (Str.ofString "pair")) (.str (Str.ofString "both")) O Q = Q (.bl neg) O := by
  rw [rEq_s sw_pair sw_both, show decide (Str.ofString "pair" = Str.ofString "both") = false by decide +kernel]; cases neg <;> rfl
theorem te_pair_one : rEqD neg (.str (Str.ofString "pair")) (.str (Str.ofString "one")) O Q = Q (.bl neg) O := by
  rw [rEq_s sw_pair sw_one, show decide (Str.ofString "pair" = Str.ofString "one") = false by decide +kernel]; cases neg <;> rfl
theorem te_pair_mark : rEqD neg (.str (Str.ofString "pair")) (.str (Str.ofString "mark")) O Q = Q (.bl neg) O := by
  rw [rEq_s sw_pair sw_mark, show decide (Str.ofString "pair" = Str.ofString "mark") = false by decide +kernel]; cases neg <;> rfl
theorem te_pair_name : rEqD neg (.str (Str.ofString "pair")) (.str (Str.ofString "name")) O Q = Q (.bl neg) O := by
  rw [rEq_s sw_pair sw_name, show decide (Str.ofString "pair" = Str.ofString "name") = false by decide +kernel]; cases neg <;> rfl
theorem te_pair_thing : rEqD neg (.str (Str.ofString "pair")) (.str (Str.ofString "thing")) O Q = Q (.bl neg) O := by
  rw [rEq_s sw_pair sw_thing, show decide (Str.ofString "pair" = Str.ofString "thing") = false by decide +kernel]; cases neg <;> rfl
theorem te_pair_at : rEqD neg (.str (Str.ofString "pair")) (.str (Str.ofString "at")) O Q = Q (.bl neg) O := by
  rw [rEq_s sw_pair sw_at, show decide (Str.ofString "pair" = Str.ofString "at") = false by decide +kernel]; cases neg <;> rfl
theorem te_first_take : rEqD neg (.str (Str.ofString "first")) (.str (Str.ofString "take")) O Q = Q (.bl neg) O := by
  rw [rEq_s sw_first sw_take, show decide (Str.ofString "first" = Str.ofString "take") = false by decide +kernel]; cases neg <;> rfl
theorem te_first_give : rEqD neg (.str (Str.ofString "first")) (.str (Str.ofString "give")) O Q = Q (.bl neg) O := by
  rw [rEq_s sw_first sw_give, show decide (Str.ofString "first" = Str.ofString "give") = false by decide +kernel]; cases neg <;> rfl
theorem te_first_pair : rEqD neg (.str (Str.ofString "first")) (.str (Str.ofString "pair")) O Q = Q (.bl neg) O := by
  rw [rEq_s sw_first sw_pair, show decide (Str.ofString "first" = Str.ofString "pair") = false by decide +kernel]; cases neg <;> rfl
theorem te_first_first : rEqD neg (.str (Str.ofString "first")) (.str (Str.ofString "first")) O Q = Q (.bl !neg) O := by
  rw [rEq_s sw_first sw_first, show decide (Str.ofString "first" = Str.ofString "first") = true by decide +kernel]; cases neg <;> rfl
theorem te_first_second : rEqD neg (.str (Str.ofString "first")) (.str (Str.ofString "second")) O Q = Q (.bl neg) O := by
  rw [rEq_s sw_first sw_second, show decide (Str.ofString "first" = Str.ofString "second") = false by decide +kernel]; cases neg <;> rfl
theorem te_first_to : rEqD neg (.str (Str.ofString "first")) (.str (Str.ofString "to")) O Q = Q (.bl neg) O := by
  rw [rEq_s sw_first sw_to, show decide (Str.ofString "first" = Str.ofString "to") = false by decide +kernel]; cases neg <;> rfl
theorem te_first_both : rEqD neg (.str (Str.ofString "first")) (.str (Str.ofString "both")) O Q = Q (.bl neg) O := by
  rw [rEq_s sw_first sw_both, show decide (Str.ofString "first" = Str.ofString "both") = false by decide +kernel]; cases neg <;> rfl
theorem te_first_one : rEqD neg (.str (Str.ofString "first")) (.str (Str.ofString "one")) O Q = Q (.bl neg) O := by
  rw [rEq_s sw_first sw_one, show decide (Str.ofString "first" = Str.ofString "one") = false by decide +kernel]; cases neg <;> rfl
theorem te_first_mark : rEqD neg (.str (Str.ofString "first")) (.str (Str.ofString "mark")) O Q = Q (.bl neg) O := by
  rw [rEq_s sw_first sw_mark, show decide (Str.ofString "first" = Str.ofString "mark") = false by decide +kernel]; cases neg <;> rfl
theorem te_first_name : rEqD neg (.str (Str.ofString "first")) (.str (Str.ofString "name")) O Q = Q (.bl neg) O := by
  rw [rEq_s sw_first sw_name, show decide (Str.ofString "first" = Str.ofString "name") = false by decide +kernel]; cases neg <;> rfl
theorem te_first_thing : rEqD neg (.str (Str.ofString "first")) (.str (Str.ofString "thing")) O Q = Q (.bl neg) O := by
  rw [rEq_s sw_first sw_thing, show decide (Str.ofString "first" = Str.ofString "thing") = false by decide +kernel]; cases neg <;> rfl
theorem te_first_at : rEqD neg (.str (Str.ofString "first")) (.str (Str.ofString "at")) O Q = Q (.bl neg) O := by
  rw [rEq_s sw_first sw_at, show decide (Str.ofString "first" = Str.ofString "at") = false by decide +kernel]; cases neg <;> rfl
theorem te_second_take : rEqD neg (.str (Str.ofString "second")) (.str (Str.ofString "take")) O Q = Q (.bl neg) O := by
  rw [rEq_s sw_second sw_take, show decide (Str.ofString "second" = Str.ofString "take") = false by decide +kernel]; cases neg <;> rfl
theorem te_second_give : rEqD neg (.str (Str.ofString "second")) (.str (Str.ofString "give")) O Q = Q (.bl neg) O := by
  rw [rEq_s sw_second sw_give, show decide (Str.ofString "second" = Str.ofString "give") = false by decide +kernel]; cases neg <;> rfl
theorem te_second_pair : rEqD neg (.str (Str.ofString "second")) (.str (Str.ofString "pair")) O Q = Q (.bl neg) O := by
  rw [rEq_s sw_second sw_pair, show decide (Str.ofString "second" = Str.ofString "pair") = false by decide +kernel]; cases neg <;> rfl
theorem te_second_first : rEqD neg (.str (Str.ofString "second")) (.str (Str.ofString "first")) O Q = Q (.bl neg) O := by
  rw [rEq_s sw_second sw_first, show decide (Str.ofString "second" = Str.ofString "first") = false by decide +kernel]; cases neg <;> rfl
theorem te_second_second : rEqD neg (.str (Str.ofString "second")) (.str (Str.ofString "second")) O Q = Q (.bl !neg) O := by
  rw [rEq_s sw_second sw_second, show decide (Str.ofString "second" = Str.ofString "second") = true by decide +kernel]; cases neg <;> rfl
theorem te_second_to : rEqD neg (.str (Str.ofString "second")) (.str (Str.ofString "to")) O Q = Q (.bl neg) O := by
  rw [rEq_s sw_second sw_to, show decide (Str.ofString "second" = Str.ofString "to") = false by decide +kernel]; cases neg <;> rfl
theorem te_second_both : rEqD neg (.str (Str.ofString "second")) (.str (Str.ofString "both")) O Q = Q (.bl neg) O := by
  rw [rEq_s sw_second sw_both, show decide (Str.ofString "second" = Str.ofString "both") = false by decide +kernel]; cases neg <;> rfl
theorem te_second_one : rEqD neg (.str (Str.ofString "second")) (.str (Str.ofString "one")) O Q = Q (.bl neg) O := by
  rw [rEq_s sw_second sw_one, show decide (Str.ofString "second" = Str.ofString "one") = false by decide +kernel]; cases neg <;> rfl
theorem te_second_mark : rEqD neg (.str (Str.ofString "second")) (.str (Str.ofString "mark")) O Q = Q (.bl neg) O := by
  rw [rEq_s sw_second sw_mark, show decide (Str.ofString "second" = Str.ofString "mark") = false by decide +kernel]; cases neg <;> rfl
theorem te_second_name : rEqD neg (.str (Str.ofString "second")) (.str (Str.ofString "name")) O Q = Q (.bl neg) O := by
  rw [rEq_s sw_second sw_name, show decide (Str.ofString "second" = Str.ofString "name") = false by decide +kernel]; cases neg <;> rfl
theorem te_second_thing : rEqD neg (.str (Str.ofString "second")) (.str (Str.ofString "thing")) O Q = Q (.bl neg) O := by
  rw [rEq_s sw_second sw_thing, show decide (Str.ofString "second" = Str.ofString "thing") = false by decide +kernel]; cases neg <;> rfl
theorem te_second_at : rEqD neg (.str (Str.ofString "second")) (.str (Str.ofString "at")) O Q = Q (.bl neg) O := by
  rw [rEq_s sw_second sw_at, show decide (Str.ofString "second" = Str.ofString "at") = false by decide +kernel]; cases neg <;> rfl
theorem te_mark_take : rEqD neg (.str (Str.ofString "mark")) (.str (Str.ofString "take")) O Q = Q (.bl neg) O := by
  rw [rEq_s sw_mark sw_take, show decide (Str.ofString "mark" = Str.ofString "take") = false by decide +kernel]; cases neg <;> rfl
theorem te_mark_give : rEqD neg (.str (Str.ofString "mark")) (.str (Str.ofString "give")) O Q = Q (.bl neg) O := by
  rw [rEq_s sw_mark sw_give, show decide (Str.ofString "mark" = Str.ofString "give") = false by decide +kernel]; cases neg <;> rfl
theorem te_mark_pair : rEqD neg (.str (Str.ofString "mark")) (.str (Str.ofString "pair")) O Q = Q (.bl neg) O := by
  rw [rEq_s sw_mark sw_pair, show decide (Str.ofString "mark" = Str.ofString "pair") = false by decide +kernel]; cases neg <;> rfl
theorem te_mark_first : rEqD neg (.str (Str.ofString "mark")) (.str (Str.ofString "first")) O Q = Q (.bl neg) O := by
  rw [rEq_s sw_mark sw_first, show decide (Str.ofString "mark" = Str.ofString "first") = false by decide +kernel]; cases neg <;> rfl
theorem te_mark_second : rEqD neg (.str (Str.ofString "mark")) (.str (Str.ofString "second")) O Q = Q (.bl neg) O := by
  rw [rEq_s sw_mark sw_second, show decide (Str.ofString "mark" = Str.ofString "second") = false by decide +kernel]; cases neg <;> rfl
theorem te_mark_to : rEqD neg (.str (Str.ofString "mark")) (.str (Str.ofString "to")) O Q = Q (.bl neg) O := by
  rw [rEq_s sw_mark sw_to, show decide (Str.ofString "mark" = Str.ofString "to") = false by decide +kernel]; cases neg <;> rfl
theorem te_mark_both : rEqD neg (.str (Str.ofString "mark")) (.str (Str.ofString "both")) O Q = Q (.bl neg) O := by
  rw [rEq_s sw_mark sw_both, show decide (Str.ofString "mark" = Str.ofString "both") = false by decide +kernel]; cases neg <;> rfl
theorem te_mark_one : rEqD neg (.str (Str.ofString "mark")) (.str (Str.ofString "one")) O Q = Q (.bl neg) O := by
  rw [rEq_s sw_mark sw_one, show decide (Str.ofString "mark" = Str.ofString "one") = false by decide +kernel]; cases neg <;> rfl
theorem te_mark_mark : rEqD neg (.str (Str.ofString "mark")) (.str (Str.ofString "mark")) O Q = Q (.bl !neg) O := by
  rw [rEq_s sw_mark sw_mark, show decide (Str.ofString "mark" = Str.ofString "mark") = true by decide +kernel]; cases neg <;> rfl
theorem te_mark_name : rEqD neg (.str (Str.ofString "mark")) (.str (Str.ofString "name")) O Q = Q (.bl neg) O := by
  rw [rEq_s sw_mark sw_name, show decide (Str.ofString "mark" = Str.ofString "name") = false by decide +kernel]; cases neg <;> rfl
theorem te_mark_thing : rEqD neg (.str (Str.ofString "mark")) (.str (Str.ofString "thing")) O Q = Q (.bl neg) O := by
  rw [rEq_s sw_mark sw_thing, show decide (Str.ofString "mark" = Str.ofString "thing") = false by decide +kernel]; cases neg <;> rfl
theorem te_mark_at : rEqD neg (.str (Str.ofString "mark")) (.str (Str.ofString "at")) O Q = Q (.bl neg) O := by
  rw [rEq_s sw_mark sw_at, show decide (Str.ofString "mark" = Str.ofString "at") = false by decide +kernel]; cases neg <;> rfl
theorem te_one_take : rEqD neg (.str (Str.ofString "one")) (.str (Str.ofString "take")) O Q = Q (.bl neg) O := by
  rw [rEq_s sw_one sw_take, show decide (Str.ofString "one" = Str.ofString "take") = false by decide +kernel]; cases neg <;> rfl
theorem te_one_give : rEqD neg (.str (Str.ofString "one")) (.str (Str.ofString "give")) O Q = Q (.bl neg) O := by
  rw [rEq_s sw_one sw_give, show decide (Str.ofString "one" = Str.ofString "give") = false by decide +kernel]; cases neg <;> rfl
theorem te_one_pair : rEqD neg (.str (Str.ofString "one")) (.str (Str.ofString "pair")) O Q = Q (.bl neg) O := by
  rw [rEq_s sw_one sw_pair, show decide (Str.ofString "one" = Str.ofString "pair") = false by decide +kernel]; cases neg <;> rfl
theorem te_one_first : rEqD neg (.str (Str.ofString "one")) (.str (Str.ofString "first")) O Q = Q (.bl neg) O := by
  rw [rEq_s sw_one sw_first, show decide (Str.ofString "one" = Str.ofString "first") = false by decide +kernel]; cases neg <;> rfl
theorem te_one_second : rEqD neg (.str (Str.ofString "one")) (.str (Str.ofString "second")) O Q = Q (.bl neg) O := by
  rw [rEq_s sw_one sw_second, show decide (Str.ofString "one" = Str.ofString "second") = false by decide +kernel]; cases neg <;> rfl
theorem te_one_to : rEqD neg (.str (Str.ofString "one")) (.str (Str.ofString "to")) O Q = Q (.bl neg) O := by
  rw [rEq_s sw_one sw_to, show decide (Str.ofString "one" = Str.ofString "to") = false by decide +kernel]; cases neg <;> rfl
theorem te_one_both : rEqD neg (.str (Str.ofString "one")) (.str (Str.ofString "both")) O Q = Q (.bl neg) O := by
  rw [rEq_s sw_one sw_both, show decide (Str.ofString "one" = Str.ofString "both") = false by decide +kernel]; cases neg <;> rfl
theorem te_one_one : rEqD neg (.str (Str.ofString "one")) (.str (Str.ofString "one")) O Q = Q (.bl !neg) O := by
  rw [rEq_s sw_one sw_one, show decide (Str.ofString "one" = Str.ofString "one") = true by decide +kernel]; cases neg <;> rfl
theorem te_one_mark : rEqD neg (.str (Str.ofString "one")) (.str (Str.ofString "mark")) O Q = Q (.bl neg) O := by
  rw [rEq_s sw_one sw_mark, show decide (Str.ofString "one" = Str.ofString "mark") = false by decide +kernel]; cases neg <;> rfl
theorem te_one_name : rEqD neg (.str (Str.ofString "one")) (.str (Str.ofString "name")) O Q = Q (.bl neg) O := by
  rw [rEq_s sw_one sw_name, show decide (Str.ofString "one" = Str.ofString "name") = false by decide +kernel]; cases neg <;> rfl
theorem te_one_thing : rEqD neg (.str (Str.ofString "one")) (.str (Str.ofString "thing")) O Q = Q (.bl neg) O := by
  rw [rEq_s sw_one sw_thing, show decide (Str.ofString "one" = Str.ofString "thing") = false by decide +kernel]; cases neg <;> rfl
theorem te_one_at : rEqD neg (.str (Str.ofString "one")) (.str (Str.ofString "at")) O Q = Q (.bl neg) O := by
  rw [rEq_s sw_one sw_at, show decide (Str.ofString "one" = Str.ofString "at") = false by decide +kernel]; cases neg <;> rfl
theorem te_to_take : rEqD neg (.str (Str.ofString "to")) (.str (Str.ofString "take")) O Q = Q (.bl neg) O := by
  rw [rEq_s sw_to sw_take, show decide (Str.ofString "to" = Str.ofString "take") = false by decide +kernel]; cases neg <;> rfl
theorem te_to_give : rEqD neg (.str (Str.ofString "to")) (.str (Str.ofString "give")) O Q = Q (.bl neg) O := by
  rw [rEq_s sw_to sw_give, show decide (Str.ofString "to" = Str.ofString "give") = false by decide +kernel]; cases neg <;> rfl
theorem te_to_pair : rEqD neg (.str (Str.ofString "to")) (.str (Str.ofString "pair")) O Q = Q (.bl neg) O := by
  rw [rEq_s sw_to sw_pair, show decide (Str.ofString "to" = Str.ofString "pair") = false by decide +kernel]; cases neg <;> rfl
theorem te_to_first : rEqD neg (.str (Str.ofString "to")) (.str (Str.ofString "first")) O Q = Q (.bl neg) O := by
  rw [rEq_s sw_to sw_first, show decide (Str.ofString "to" = Str.ofString "first") = false by decide +kernel]; cases neg <;> rfl
theorem te_to_second : rEqD neg (.str (Str.ofString "to")) (.str (Str.ofString "second")) O Q = Q (.bl neg) O := by
  rw [rEq_s sw_to sw_second, show decide (Str.ofString "to" = Str.ofString "second") = false by decide +kernel]; cases neg <;> rfl
theorem te_to_to : rEqD neg (.str (Str.ofString "to")) (.str (Str.ofString "to")) O Q = Q (.bl !neg) O := by
  rw [rEq_s sw_to sw_to, show decide (Str.ofString "to" = Str.ofString "to") = true by decide +kernel]; cases neg <;> rfl
theorem te_to_both : rEqD neg (.str (Str.ofString "to")) (.str (Str.ofString "both")) O Q = Q (.bl neg) O := by
  rw [rEq_s sw_to sw_both, show decide (Str.ofString "to" = Str.ofString "both") = false by decide +kernel]; cases neg <;> rfl
theorem te_to_one : rEqD neg (.str (Str.ofString "to")) (.str (Str.ofString "one")) O Q = Q (.bl neg) O := by
  rw [rEq_s sw_to sw_one, show decide (Str.ofString "to" = Str.ofString "one") = false by decide +kernel]; cases neg <;> rfl
theorem te_to_mark : rEqD neg (.str (Str.ofString "to")) (.str (Str.ofString "mark")) O Q = Q (.bl neg) O := by
  rw [rEq_s sw_to sw_mark, show decide (Str.ofString "to" = Str.ofString "mark") = false by decide +kernel]; cases neg <;> rfl
theorem te_to_name : rEqD neg (.str (Str.ofString "to")) (.str (Str.ofString "name")) O Q = Q (.bl neg) O := by
  rw [rEq_s sw_to sw_name, show decide (Str.ofString "to" = Str.ofString "name") = false by decide +kernel]; cases neg <;> rfl
theorem te_to_thing : rEqD neg (.str (Str.ofString "to")) (.str (Str.ofString "thing")) O Q = Q (.bl neg) O := by
  rw [rEq_s sw_to sw_thing, show decide (Str.ofString "to" = Str.ofString "thing") = false by decide +kernel]; cases neg <;> rfl
theorem te_to_at : rEqD neg (.str (Str.ofString "to")) (.str (Str.ofString "at")) O Q = Q (.bl neg) O := by
  rw [rEq_s sw_to sw_at, show decide (Str.ofString "to" = Str.ofString "at") = false by decide +kernel]; cases neg <;> rfl
theorem te_both_take : rEqD neg (.str (Str.ofString "both")) (.str (Str.ofString "take")) O Q = Q (.bl neg) O := by
  rw [rEq_s sw_both sw_take, show decide (Str.ofString "both" = Str.ofString "take") = false by decide +kernel]; cases neg <;> rfl
theorem te_both_give : rEqD neg (.str (Str.ofString "both")) (.str (Str.ofString "give")) O Q = Q (.bl neg) O := by
  rw [rEq_s sw_both sw_give, show decide (Str.ofString "both" = Str.ofString "give") = false by decide +kernel]; cases neg <;> rfl
theorem te_both_pair : rEqD neg (.str (Str.ofString "both")) (.str (Str.ofString "pair")) O Q = Q (.bl neg) O := by
  rw [rEq_s sw_both sw_pair, show decide (Str.ofString "both" = Str.ofString "pair") = false by decide +kernel]; cases neg <;> rfl
theorem te_both_first : rEqD neg (.str (Str.ofString "both")) (.str (Str.ofString "first")) O Q = Q (.bl neg) O := by
  rw [rEq_s sw_both sw_first, show decide (Str.ofString "both" = Str.ofString "first") = false by decide +kernel]; cases neg <;> rfl
theorem te_both_second : rEqD neg (.str (Str.ofString "both")) (.str (Str.ofString "second")) O Q = Q (.bl neg) O := by
  rw [rEq_s sw_both sw_second, show decide (Str.ofString "both" = Str.ofString "second") = false by decide +kernel]; cases neg <;> rfl
theorem te_both_to : rEqD neg (.str (Str.ofString "both")) (.str (Str.ofString "to")) O Q = Q (.bl neg) O := by
  rw [rEq_s sw_both sw_to, show decide (Str.ofString "both" = Str.ofString "to") = false by decide +kernel]; cases neg <;> rfl
theorem te_both_both : rEqD neg (.str (Str.ofString "both")) (.str (Str.ofString "both")) O Q = Q (.bl !neg) O := by
  rw [rEq_s sw_both sw_both, show decide (Str.ofString "both" = Str.ofString "both") = true by decide +kernel]; cases neg <;> rfl
theorem te_both_one : rEqD neg (.str (Str.ofString "both")) (.str (Str.ofString "one")) O Q = Q (.bl neg) O := by
  rw [rEq_s sw_both sw_one, show decide (Str.ofString "both" = Str.ofString "one") = false by decide +kernel]; cases neg <;> rfl
theorem te_both_mark : rEqD neg (.str (Str.ofString "both")) (.str (Str.ofString "mark")) O Q = Q (.bl neg) O := by
  rw [rEq_s sw_both sw_mark, show decide (Str.ofString "both" = Str.ofString "mark") = false by decide +kernel]; cases neg <;> rfl
theorem te_both_name : rEqD neg (.str (Str.ofString "both")) (.str (Str.ofString "name")) O Q = Q (.bl neg) O := by
  rw [rEq_s sw_both sw_name, show decide (Str.ofString "both" = Str.ofString "name") = false by decide +kernel]; cases neg <;> rfl
theorem te_both_thing : rEqD neg (.str (Str.ofString "both")) (.str (Str.ofString "thing")) O Q = Q (.bl neg) O := by
  rw [rEq_s sw_both sw_thing, show decide (Str.ofString "both" = Str.ofString "thing") = false by decide +kernel]; cases neg <;> rfl
theorem te_both_at : rEqD neg (.str (Str.ofString "both")) (.str (Str.ofString "at")) O Q = Q (.bl neg) O := by
  rw [rEq_s sw_both sw_at, show decide (Str.ofString "both" = Str.ofString "at") = false by decide +kernel]; cases neg <;> rfl
theorem te_at_take : rEqD neg (.str (Str.ofString "at")) (.str (Str.ofString "take")) O Q = Q (.bl neg) O := by
  rw [rEq_s sw_at sw_take, show decide (Str.ofString "at" = Str.ofString "take") = false by decide +kernel]; cases neg <;> rfl
theorem te_at_give : rEqD neg (.str (Str.ofString "at")) (.str (Str.ofString "give")) O Q = Q (.bl neg) O := by
  rw [rEq_s sw_at sw_give, show decide (Str.ofString "at" = Str.ofString "give") = false by decide +kernel]; cases neg <;> rfl
theorem te_at_pair : rEqD neg (.str (Str.ofString "at")) (.str (Str.ofString "pair")) O Q = Q (.bl neg) O := by
  rw [rEq_s sw_at sw_pair, show decide (Str.ofString "at" = Str.ofString "pair") = false by decide +kernel]; cases neg <;> rfl
theorem te_at_first : rEqD neg (.str (Str.ofString "at")) (.str (Str.ofString "first")) O Q = Q (.bl neg) O := by
  rw [rEq_s sw_at sw_first, show decide (Str.ofString "at" = Str.ofString "first") = false by decide +kernel]; cases neg <;> rfl
theorem te_at_second : rEqD neg (.str (Str.ofString "at")) (.str (Str.ofString "second")) O Q = Q (.bl neg) O := by
  rw [rEq_s sw_at sw_second, show decide (Str.ofString "at" = Str.ofString "second") = false by decide +kernel]; cases neg <;> rfl
theorem te_at_to : rEqD neg (.str (Str.ofString "at")) (.str (Str.ofString "to")) O Q = Q (.bl neg) O := by
  rw [rEq_s sw_at sw_to, show decide (Str.ofString "at" = Str.ofString "to") = false by decide +kernel]; cases neg <;> rfl
theorem te_at_both : rEqD neg (.str (Str.ofString "at")) (.str (Str.ofString "both")) O Q = Q (.bl neg) O := by
  rw [rEq_s sw_at sw_both, show decide (Str.ofString "at" = Str.ofString "both") = false by decide +kernel]; cases neg <;> rfl
theorem te_at_one : rEqD neg (.str (Str.ofString "at")) (.str (Str.ofString "one")) O Q = Q (.bl neg) O := by
  rw [rEq_s sw_at sw_one, show decide (Str.ofString "at" = Str.ofString "one") = false by decide +kernel]; cases neg <;> rfl
theorem te_at_mark : rEqD neg (.str (Str.ofString "at")) (.str (Str.ofString "mark")) O Q = Q (.bl neg) O := by
  rw [rEq_s sw_at sw_mark, show decide (Str.ofString "at" = Str.ofString "mark") = false by decide +kernel]; cases neg <;> rfl
theorem te_at_name : rEqD neg (.str (Str.ofString "at")) (.str (Str.ofString "name")) O Q = Q (.bl neg) O := by
  rw [rEq_s sw_at sw_name, show decide (Str.ofString "at" = Str.ofString "name") = false by decide +kernel]; cases neg <;> rfl
theorem te_at_thing : rEqD neg (.str (Str.ofString "at")) (.str (Str.ofString "thing")) O Q = Q (.bl neg) O := by
  rw [rEq_s sw_at sw_thing, show decide (Str.ofString "at" = Str.ofString "thing") = false by decide +kernel]; cases neg <;> rfl
theorem te_at_at : rEqD neg (.str (Str.ofString "at")) (.str (Str.ofString "at")) O Q = Q (.bl !neg) O := by
  rw [rEq_s sw_at sw_at, show decide (Str.ofString "at" = Str.ofString "at") = true by decide +kernel]; cases neg <;> rfl
theorem ti4_name : rInD neg (.str (Str.ofString "name")) (.tup [.str (Str.ofString "give"), .str (Str.ofString "pair"), .str (Str.ofString "first"), .str (Str.ofString "second")]) O Q = Q (.bl neg) O := by
  have e := rIn_ws (neg := neg) (O := O) (Q := Q) (z := Str.ofString "name") (ts := [Str.ofString "give", Str.ofString "pair", Str.ofString "first", Str.ofString "second"]) (by decide +kernel) (by decide +kernel)
  rw [show decide (Str.ofString "name" ∈ ([Str.ofString "give", Str.ofString "pair", Str.ofString "first", Str.ofString "second"] : List Str)) = false by decide +kernel] at e
  exact e.trans (by cases neg <;> rfl)
theorem ti4_thing : rInD neg (.str (Str.ofString "thing")) (.tup [.str (Str.ofString "give"), .str (Str.ofString "pair"), .str (Str.ofString "first"), .str (Str.ofString "second")]) O Q = Q (.bl neg) O := by
  have e := rIn_ws (neg := neg) (O := O) (Q := Q) (z := Str.ofString "thing") (ts := [Str.ofString "give", Str.ofString "pair", Str.ofString "first", Str.ofString "second"]) (by decide +kernel) (by decide +kernel)
  rw [show decide (Str.ofString "thing" ∈ ([Str.ofString "give", Str.ofString "pair", Str.ofString "first", Str.ofString "second"] : List Str)) = false by decide +kernel] at e
  exact e.trans (by cases neg <;> rfl)
theorem ti4_take : rInD neg (.str (Str.ofString "take")) (.tup [.str (Str.ofString "give"), .str (Str.ofString "pair"), .str (Str.ofString "first"), .str (Str.ofString "second")]) O Q = Q (.bl neg) O := by
  have e := rIn_ws (neg := neg) (O := O) (Q := Q) (z := Str.ofString "take") (ts := [Str.ofString "give", Str.ofString "pair", Str.ofString "first", Str.ofString "second"]) (by decide +kernel) (by decide +kernel)
  rw [show decide (Str.ofString "take" ∈ ([Str.ofString "give", Str.ofString "pair", Str.ofString "first", Str.ofString "second"] : List Str)) = false by decide +kernel] at e
  exact e.trans (by cases neg <;> rfl)
theorem ti4_give : rInD neg (.str (Str.ofString "give")) (.tup [.str (Str.ofString "give"), .str (Str.ofString "pair"), .str (Str.ofString "first"), .str (Str.ofString "second")]) O Q = Q (.bl !neg) O := by
  have e := rIn_ws (neg := neg) (O := O) (Q := Q) (z := Str.ofString "give") (ts := [Str.ofString "give", Str.ofString "pair", Str.ofString "first", Str.ofString "second"]) (by decide +kernel) (by decide +kernel)
  rw [show decide (Str.ofString "give" ∈ ([Str.ofString "give", Str.ofString "pair", Str.ofString "first", Str.ofString "second"] : List Str)) = true by decide +kernel] at e
  exact e.trans (by cases neg <;> rfl)
theorem ti4_pair : rInD neg (.str (Str.ofString "pair")) (.tup [.str (Str.ofString "give"), .str (Str.ofString "pair"), .str (Str.ofString "first"), .str (Str.ofString "second")]) O Q = Q (.bl !neg) O := by
  have e := rIn_ws (neg := neg) (O := O) (Q := Q) (z := Str.ofString "pair") (ts := [Str.ofString "give", Str.ofString "pair", Str.ofString "first", Str.ofString "second"]) (by decide +kernel) (by decide +kernel)
  rw [show decide (Str.ofString "pair" ∈ ([Str.ofString "give", Str.ofString "pair", Str.ofString "first", Str.ofString "second"] : List Str)) = true by decide +kernel] at e
  exact e.trans (by cases neg <;> rfl)
theorem ti4_first : rInD neg (.str (Str.ofString "first")) (.tup [.str (Str.ofString "give"), .str (Str.ofString "pair"), .str (Str.ofString "first"), .str (Str.ofString "second")]) O Q = Q (.bl !neg) O := by
  have e := rIn_ws (neg := neg) (O := O) (Q := Q) (z := Str.ofString "first") (ts := [Str.ofString "give", Str.ofString "pair", Str.ofString "first", Str.ofString "second"]) (by decide +kernel) (by decide +kernel)
  rw [show decide (Str.ofString "first" ∈ ([Str.ofString "give", Str.ofString "pair", Str.ofString "first", Str.ofString "second"] : List Str)) = true by decide +kernel] at e
  exact e.trans (by cases neg <;> rfl)
theorem ti4_second : rInD neg (.str (Str.ofString "second")) (.tup [.str (Str.ofString "give"), .str (Str.ofString "pair"), .str (Str.ofString "first"), .str (Str.ofString "second")]) O Q = Q (.bl !neg) O := by
  have e := rIn_ws (neg := neg) (O := O) (Q := Q) (z := Str.ofString "second") (ts := [Str.ofString "give", Str.ofString "pair", Str.ofString "first", Str.ofString "second"]) (by decide +kernel) (by decide +kernel)
  rw [show decide (Str.ofString "second" ∈ ([Str.ofString "give", Str.ofString "pair", Str.ofString "first", Str.ofString "second"] : List Str)) = true by decide +kernel] at e
  exact e.trans (by cases neg <;> rfl)
theorem ti2_name : rInD neg (.str (Str.ofString "name")) (.tup [.str (Str.ofString "first"), .str (Str.ofString "second")]) O Q = Q (.bl neg) O := by
  have e := rIn_ws (neg := neg) (O := O) (Q := Q) (z := Str.ofString "name") (ts := [Str.ofString "first", Str.ofString "second"]) (by decide +kernel) (by decide +kernel)
  rw [show decide (Str.ofString "name" ∈ ([Str.ofString "first", Str.ofString "second"] : List Str)) = false by decide +kernel] at e
  exact e.trans (by cases neg <;> rfl)
theorem ti2_thing : rInD neg (.str (Str.ofString "thing")) (.tup [.str (Str.ofString "first"), .str (Str.ofString "second")]) O Q = Q (.bl neg) O := by
  have e := rIn_ws (neg := neg) (O := O) (Q := Q) (z := Str.ofString "thing") (ts := [Str.ofString "first", Str.ofString "second"]) (by decide +kernel) (by decide +kernel)
  rw [show decide (Str.ofString "thing" ∈ ([Str.ofString "first", Str.ofString "second"] : List Str)) = false by decide +kernel] at e
  exact e.trans (by cases neg <;> rfl)
theorem ti2_take : rInD neg (.str (Str.ofString "take")) (.tup [.str (Str.ofString "first"), .str (Str.ofString "second")]) O Q = Q (.bl neg) O := by
  have e := rIn_ws (neg := neg) (O := O) (Q := Q) (z := Str.ofString "take") (ts := [Str.ofString "first", Str.ofString "second"]) (by decide +kernel) (by decide +kernel)
  rw [show decide (Str.ofString "take" ∈ ([Str.ofString "first", Str.ofString "second"] : List Str)) = false by decide +kernel] at e
  exact e.trans (by cases neg <;> rfl)
theorem ti2_give : rInD neg (.str (Str.ofString "give")) (.tup [.str (Str.ofString "first"), .str (Str.ofString "second")]) O Q = Q (.bl neg) O := by
  have e := rIn_ws (neg := neg) (O := O) (Q := Q) (z := Str.ofString "give") (ts := [Str.ofString "first", Str.ofString "second"]) (by decide +kernel) (by decide +kernel)
  rw [show decide (Str.ofString "give" ∈ ([Str.ofString "first", Str.ofString "second"] : List Str)) = false by decide +kernel] at e
  exact e.trans (by cases neg <;> rfl)
theorem ti2_pair : rInD neg (.str (Str.ofString "pair")) (.tup [.str (Str.ofString "first"), .str (Str.ofString "second")]) O Q = Q (.bl neg) O := by
  have e := rIn_ws (neg := neg) (O := O) (Q := Q) (z := Str.ofString "pair") (ts := [Str.ofString "first", Str.ofString "second"]) (by decide +kernel) (by decide +kernel)
  rw [show decide (Str.ofString "pair" ∈ ([Str.ofString "first", Str.ofString "second"] : List Str)) = false by decide +kernel] at e
  exact e.trans (by cases neg <;> rfl)
theorem ti2_first : rInD neg (.str (Str.ofString "first")) (.tup [.str (Str.ofString "first"), .str (Str.ofString "second")]) O Q = Q (.bl !neg) O := by
  have e := rIn_ws (neg := neg) (O := O) (Q := Q) (z := Str.ofString "first") (ts := [Str.ofString "first", Str.ofString "second"]) (by decide +kernel) (by decide +kernel)
  rw [show decide (Str.ofString "first" ∈ ([Str.ofString "first", Str.ofString "second"] : List Str)) = true by decide +kernel] at e
  exact e.trans (by cases neg <;> rfl)
theorem ti2_second : rInD neg (.str (Str.ofString "second")) (.tup [.str (Str.ofString "first"), .str (Str.ofString "second")]) O Q = Q (.bl !neg) O := by
  have e := rIn_ws (neg := neg) (O := O) (Q := Q) (z := Str.ofString "second") (ts := [Str.ofString "first", Str.ofString "second"]) (by decide +kernel) (by decide +kernel)
  rw [show decide (Str.ofString "second" ∈ ([Str.ofString "first", Str.ofString "second"] : List Str)) = true by decide +kernel] at e
  exact e.trans (by cases neg <;> rfl)
end
/-! ### small sizes -/
theorem szT_0 : ((0 : Nat) ≤ sizeLine) = True := eq_true (sz_small (by decide))
theorem szT_1 : ((1 : Nat) ≤ sizeLine) = True := eq_true (sz_small (by decide))
theorem szT_2 : ((2 : Nat) ≤ sizeLine) = True := eq_true (sz_small (by decide))
theorem szT_3 : ((3 : Nat) ≤ sizeLine) = True := eq_true (sz_small (by decide))
theorem szT_4 : ((4 : Nat) ≤ sizeLine) = True := eq_true (sz_small (by decide))
theorem szT_5 : ((5 : Nat) ≤ sizeLine) = True := eq_true (sz_small (by decide))
theorem szT_6 : ((6 : Nat) ≤ sizeLine) = True := eq_true (sz_small (by decide))
theorem szT_7 : ((7 : Nat) ≤ sizeLine) = True := eq_true (sz_small (by decide))
theorem szT_8 : ((8 : Nat) ≤ sizeLine) = True := eq_true (sz_small (by decide))
theorem szT_9 : ((9 : Nat) ≤ sizeLine) = True := eq_true (sz_small (by decide))
theorem szT_10 : ((10 : Nat) ≤ sizeLine) = True := eq_true (sz_small (by decide))
theorem szT_11 : ((11 : Nat) ≤ sizeLine) = True := eq_true (sz_small (by decide))
theorem szT_12 : ((12 : Nat) ≤ sizeLine) = True := eq_true (sz_small (by decide))
/-! ### programs -/
inductive Pg where
  | nm (x : Str) | thing | take (x : Str) (k : Kd) (b : Pg) | give (f a : Pg) | pair (a b : Pg) | first (p : Pg) | second (p : Pg)
  deriving DecidableEq, Inhabited
def dP : Pg → D
  | .nm x => .tup [.str "name", .str x]
  | .thing => .tup [.str "thing"]
  | .take x k b => .tup [.str "take", .str x, dK k, dP b]
  | .give f a => .tup [.str "give", dP f, dP a]
  | .pair a b => .tup [.str "pair", dP a, dP b]
  | .first p => .tup [.str "first", dP p]
  | .second p => .tup [.str "second", dP p]
def Pg.ins : Pg → List Pg
  | .nm _ => []
  | .thing => []
  | .take _ _ b => [b]
  | .give f a => [f, a]
  | .pair a b => [a, b]
  | .first p => [p]
  | .second p => [p]
def Pg.hgt : Pg → Nat
  | .nm _ => 0
  | .thing => 0
  | .take _ _ b => b.hgt + 1
  | .give f a => max f.hgt a.hgt + 1
  | .pair a b => max a.hgt b.hgt + 1
  | .first p => p.hgt + 1
  | .second p => p.hgt + 1
def Pg.isTake : Pg → Bool
  | .take .. => true
  | _ => false
def Pg.isPair : Pg → Bool
  | .pair .. => true
  | _ => false
def Pg.can : Pg → Bool
  | .give f _ => f.isTake
  | .first p => p.isPair
  | .second p => p.isPair
  | _ => false
/-- the places at which a step can be done -/
def plc : Pg → List Int → List (List Int)
  | .nm _, _ => []
  | .thing, _ => []
  | .take _ _ b, pl => plc b (pl ++ [0])
  | .give f a, pl => (if f.isTake then [pl] else []) ++ plc f (pl ++ [0]) ++ plc a (pl ++ [1])
  | .pair a b, pl => plc a (pl ++ [0]) ++ plc b (pl ++ [1])
  | .first p, pl => (if p.isPair then [pl] else []) ++ plc p (pl ++ [0])
  | .second p, pl => (if p.isPair then [pl] else []) ++ plc p (pl ++ [0])
theorem ins_cases (p : Pg) : p.ins = [] ∨ (∃ x, p.ins = [x]) ∨ ∃ x y, p.ins = [x, y] := by
  cases p <;> simp [Pg.ins]
theorem ins_hgt {p q : Pg} (h : q ∈ p.ins) : q.hgt < p.hgt := by
  cases p <;> simp only [Pg.ins, List.mem_cons, List.not_mem_nil, or_false] at h
  · subst h; simp [Pg.hgt]
  · rcases h with rfl | rfl <;> simp only [Pg.hgt] <;> omega
  · rcases h with rfl | rfl <;> simp only [Pg.hgt] <;> omega
  · subst h; simp [Pg.hgt]
  · subst h; simp [Pg.hgt]
theorem sz_21 {n : Nat} (h : n ≤ 4194304) : n ≤ sizeLine := Nat.le_trans h (by decide)
abbrev dI (q : List Int) : D := .lst (q.map .int)
theorem enum0 : enumD [] = [] := rfl
theorem enum1 (x : D) : enumD [x] = [.tup [.int 0, x]] := rfl
theorem enum2 (x y : D) : enumD [x, y] = [.tup [.int 0, x], .tup [.int 1, y]] := rfl
/-! ### rows of names -/
/-- what a name is by a row: the last one counts -/
def envOf (kn : List (Str × Kd)) (x : Str) : Option Kd := (kn.reverse.find? fun q => decide (q.1 = x)).map (·.2)
theorem envOf_snoc (kn : List (Str × Kd)) (y : Str) (k : Kd) (x : Str) : envOf (kn ++ [(y, k)]) x = if y = x then some k else envOf kn x := by
  unfold envOf
  rw [List.reverse_append, List.reverse_singleton, List.singleton_append, List.find?_cons]
  by_cases h : y = x
  · simp [h]
  · simp [h]
/-- the kind of a program by what its names are -/
def hasK : (Str → Option Kd) → Pg → Kd → Prop
  | e, .nm x, k => e x = some k
  | _, .thing, k => k = .one
  | e, .take x a b, k => ∃ r, k = .to a r ∧ hasK (fun y => if x = y then some a else e y) b r
  | e, .give f a, k => ∃ c, hasK e f (.to c k) ∧ hasK e a c
  | e, .pair a b, k => ∃ c d, k = .both c d ∧ hasK e a c ∧ hasK e b d
  | e, .first p, k => ∃ d, hasK e p (.both k d)
  | e, .second p, k => ∃ c, hasK e p (.both c k)
end Kf
/-! Kdc: tables, rows of names. -/
namespace Kf
open PySem PySem.Spec L2
open PyProof.Rows hiding St
theorem valD_pos {p : Key × D} {r : List (Key × D)} {k : Key} (e : p.1 = k) : valD (p :: r) k = some p.2 := by simp [valD, List.find?_cons, e]
theorem valD_neg {p : Key × D} {r : List (Key × D)} {k : Key} (e : ¬ p.1 = k) : valD (p :: r) k = valD r k := by simp [valD, List.find?_cons, e]
theorem valD_any (k : Key) : ∀ kvs : List (Key × D), (kvs.any fun kv => decide (kv.1 = k)) = (valD kvs k).isSome
  | [] => rfl
  | p :: r => by
    rw [List.any_cons]
    by_cases e : p.1 = k
    · simp only [valD_pos e, decide_eq_true e, Bool.true_or, Option.isSome_some]
    · rw [valD_neg e, decide_eq_false e, Bool.false_or]; exact valD_any k r
theorem valD_map (k j : Key) (y : D) : ∀ kvs : List (Key × D), valD (kvs.map fun kv => if kv.1 = k then (kv.1, y) else kv) j = (valD kvs j).map fun x => if j = k then y else x
  | [] => rfl
  | p :: r => by
    have ih := valD_map k j y r
    rw [List.map_cons]
    by_cases h : p.1 = k
    · rw [if_pos h]
      by_cases e : p.1 = j
      · rw [valD_pos (p := (p.1, y)) e, valD_pos e, Option.map_some, if_pos (e.symm.trans h)]
      · rw [valD_neg (p := (p.1, y)) e, valD_neg e, ih]
    · rw [if_neg h]
      by_cases e : p.1 = j
      · rw [valD_pos (p := p) e, valD_pos e, Option.map_some, if_neg (fun z => h (e.trans z))]
      · rw [valD_neg (p := p) e, valD_neg e, ih]
theorem valD_snoc (k j : Key) (y : D) : ∀ kvs : List (Key × D), valD kvs k = none → valD (kvs ++ [(k, y)]) j = if j = k then some y else valD kvs j
  | [], _ => by
    by_cases e : k = j
    · rw [if_pos e.symm]; exact valD_pos (p := (k, y)) e
    · rw [if_neg (fun z => e z.symm)]; exact valD_neg (p := (k, y)) e
  | p :: r, hn => by
    rw [List.cons_append]
    have hk : ¬ p.1 = k := fun z => by rw [valD_pos z] at hn; cases hn
    rw [valD_neg hk] at hn
    have ih := valD_snoc k j y r hn
    by_cases e : p.1 = j
    · rw [valD_pos e, valD_pos e, if_neg (fun z => hk (e.trans z))]
    · rw [valD_neg e, valD_neg e, ih]
theorem valD_put (kvs : List (Key × D)) (k j : Key) (d : D) : valD (putD kvs k d) j = if j = k then some d else valD kvs j := by
  unfold putD
  rw [valD_any]
  cases h : valD kvs k with
  | none => rw [if_neg (by simp)]; exact valD_snoc k j d kvs h
  | some x =>
    rw [if_pos (by rfl), valD_map]
    by_cases e : j = k
    · subst e; rw [if_pos rfl, h]; simp
    · rw [if_neg e]; simp [e]
theorem keys_put (kvs : List (Key × D)) (k : Key) (d : D) : (putD kvs k d).map (·.1) = if (valD kvs k).isSome then kvs.map (·.1) else kvs.map (·.1) ++ [k] := by
  unfold putD
  rw [valD_any]
  split
  · rw [List.map_map]
    refine List.map_congr_left fun p _ => ?_
    show (if p.1 = k then (p.1, d) else p).1 = p.1
    split <;> rfl
  · rw [List.map_append]; rfl
theorem valD_mem {kvs : List (Key × D)} {k : Key} : k ∈ kvs.map (·.1) ↔ (valD kvs k).isSome = true := by
  rw [← valD_any, List.any_eq_true, List.mem_map]
  constructor
  · rintro ⟨p, h1, h2⟩; exact ⟨p, h1, decide_eq_true h2⟩
  · rintro ⟨p, h1, h2⟩; exact ⟨p, h1, of_decide_eq_true h2⟩
theorem nodup_le {α : Type} [DecidableEq α] : ∀ {ts us : List α}, ts.Nodup → (∀ t ∈ ts, t ∈ us) → ts.length ≤ us.length
  | [], _, _, _ => Nat.zero_le _
  | t :: ts, us, hn, h => by
    have h1 := List.nodup_cons.mp hn
    have ht := h t List.mem_cons_self
    have ih := nodup_le (us := us.erase t) h1.2 fun u hu => by
      have hne : u ≠ t := fun q => h1.1 (q ▸ hu)
      exact (List.mem_erase_of_ne hne).mpr (h u (List.mem_cons_of_mem _ hu))
    rw [List.length_erase_of_mem ht] at ih
    have := List.length_pos_of_mem ht
    rw [List.length_cons]; omega
/-! ### rows -/
abbrev kv (q : Str × Kd) : D := .tup [.str q.1, dK q.2]
def ANames : List Str := ["pa", "fa", "pb", "fb", "x0", "x1", "x2", "y", "z", "x7"]
def XNames : List Str := ["x0", "x1", "x2", "y", "z", "x7"]
abbrev AB : List Str := ["a", "b"]
theorem ab_ok : ∀ t ∈ AB, PyData.strOk t = true := by decide +kernel
theorem xnames : ∀ x ∈ XNames, x ∈ ANames ∧ x ≠ "pa" ∧ x ≠ "pb" ∧ x ≠ "fa" ∧ x ≠ "fb" := by decide +kernel
structure RowOk (kn : List (Str × Kd)) : Prop where
  nm : ∀ q ∈ kn, q.1 ∈ ANames ∧ q.2.over AB ∧ q.2.leaves ≤ 3
  pa : envOf kn "pa" = some (.mk "a")
  pb : envOf kn "pb" = some (.mk "b")
  fa : envOf kn "fa" = some (.to (.mk "a") (.mk "a"))
  fb : envOf kn "fb" = some (.to (.mk "b") (.mk "b"))
theorem RowOk.snoc {kn : List (Str × Kd)} (h : RowOk kn) {x : Str} {k : Kd} (hx : x ∈ XNames) (ho : k.over AB) (hl : k.leaves ≤ 3) : RowOk (kn ++ [(x, k)]) := by
  obtain ⟨h0, h1, h2, h3, h4⟩ := xnames x hx
  refine ⟨fun q hq => ?_, ?_, ?_, ?_, ?_⟩
  · rcases List.mem_append.mp hq with hq | hq
    · exact h.nm q hq
    · rw [List.mem_singleton.mp hq]; exact ⟨h0, ho, hl⟩
  · rw [envOf_snoc, if_neg h1]; exact h.pa
  · rw [envOf_snoc, if_neg h2]; exact h.pb
  · rw [envOf_snoc, if_neg h3]; exact h.fa
  · rw [envOf_snoc, if_neg h4]; exact h.fb
theorem envOf_mem {kn : List (Str × Kd)} {x : Str} {k : Kd} (h : envOf kn x = some k) : (x, k) ∈ kn := by
  unfold envOf at h
  obtain ⟨q, h1, h2⟩ := Option.map_eq_some_iff.mp h
  have h3 := List.find?_some h1
  have h4 := List.mem_of_find?_eq_some h1
  have e : q.1 = x := of_decide_eq_true h3
  rw [← e, ← h2]
  exact List.mem_reverse.mp h4
theorem envOf_ext {kn : List (Str × Kd)} (x : Str) (k : Kd) : envOf (kn ++ [(x, k)]) = fun y => if x = y then some k else envOf kn y := by
  funext y; exact envOf_snoc kn x k y
/-- what the names' table holds behind a row's first ones -/
structure DInv (pre : List (Str × Kd)) (kvs : List (Key × D)) (ts : List Str) : Prop where
  ks : kvs.map (·.1) = ts.map Sum.inr
  nd : ts.Nodup
  an : ∀ t ∈ ts, t ∈ ANames
  vl : ∀ x : Str, valD kvs (.inr x) = (envOf pre x).map dK
theorem DInv.nil : DInv [] [] [] := ⟨rfl, List.nodup_nil, fun _ h => (nomatch h), fun _ => rfl⟩
theorem DInv.len {pre : List (Str × Kd)} {kvs : List (Key × D)} {ts : List Str} (h : DInv pre kvs ts) : ts.length ≤ 10 ∧ kvs.length ≤ 10 := by
  have h1 : ts.length ≤ 10 := nodup_le (us := ANames) h.nd h.an
  have h2 : kvs.length = ts.length := by have := congrArg List.length h.ks; simpa using this
  omega
theorem DInv.put {pre : List (Str × Kd)} {kvs : List (Key × D)} {ts : List Str} (h : DInv pre kvs ts) {x : Str} {k : Kd} (hx : x ∈ ANames) : ∃ ts', DInv (pre ++ [(x, k)]) (putD kvs (.inr x) (dK k)) ts' := by
  have hv : ∀ y : Str, valD (putD kvs (.inr x) (dK k)) (.inr y) = (envOf (pre ++ [(x, k)]) y).map dK := fun y => by
    rw [valD_put, envOf_snoc]
    by_cases e : x = y
    · subst e; simp
    · rw [if_neg (fun q => e (Sum.inr.inj q).symm), if_neg e, h.vl]
  have hk := keys_put kvs (.inr x) (dK k)
  by_cases c : (valD kvs (.inr x)).isSome = true
  · rw [if_pos c] at hk
    exact ⟨ts, hk.trans h.ks, h.nd, h.an, hv⟩
  · rw [if_neg c] at hk
    refine ⟨ts ++ [x], by rw [hk, h.ks, List.map_append]; rfl, ?_, ?_, hv⟩
    · refine List.nodup_append.mpr ⟨h.nd, by simp, fun a ha b hb e => c ?_⟩
      rw [List.mem_singleton.mp hb] at e
      subst e
      exact valD_mem.mp (by rw [h.ks]; exact List.mem_map.mpr ⟨a, ha, rfl⟩)
    · intro t ht
      rcases List.mem_append.mp ht with ht | ht
      · exact h.an t ht
      · rw [List.mem_singleton.mp ht]; exact hx
theorem DInv.has {pre : List (Str × Kd)} {kvs : List (Key × D)} {ts : List Str} (h : DInv pre kvs ts) {x : Str} (hx : x ∈ ts) : ∃ k, envOf pre x = some k := by
  have h1 := valD_mem.mp (show Sum.inr x ∈ kvs.map (·.1) by rw [h.ks]; exact List.mem_map.mpr ⟨x, hx, rfl⟩)
  rw [h.vl] at h1
  cases e : envOf pre x with
  | none => rw [e] at h1; simp at h1
  | some k => exact ⟨k, rfl⟩
end Kf
/-! Kdw: as Kdb, to 512: programs with names told by how many takes stand between; steps. -/
namespace Kf
open PySem PySem.Spec L2
open PyProof.Rows hiding St
inductive Db where
  | at (i : Nat) | nm (x : Str) | thing | take (k : Kd) (b : Db) | give (f a : Db) | pair (a b : Db) | first (p : Db) | second (p : Db)
  deriving DecidableEq, Inhabited
/-- x and a number -/
def xn (k : Nat) : Str := Str.ofString "x" ++ Str.ofString (toString (k : Int))
/-- the number of a name -/
def numX (x : Str) : Nat := (x.cps.toList.drop 1).foldl (fun a c => 10 * a + (c - 48)) 0
theorem numX_xn : ∀ k, k < 512 → numX (xn k) = k := by
  have h : ∀ k ∈ List.range 512, numX (xn k) = k := by decide +kernel
  exact fun k hk => h k (List.mem_range.mpr hk)
theorem xn_inj64 (i : Nat) (hi : i < 512) (j : Nat) (hj : j < 512) (e : xn i = xn j) : i = j := by
  rw [← numX_xn i hi, ← numX_xn j hj, e]
/-- a name that is none of these -/
def Fr (x : Str) : Prop := ∀ k, k < 512 → xn k ≠ x
/-- the nearest one called x, the nearest first -/
def ri : List Str → Str → Option Nat
  | [], _ => none
  | y :: r, x => if y = x then some 0 else (ri r x).map (· + 1)
def bare : Pg → List Str → Db
  | .nm x, c => match ri c x with
    | some i => .at i
    | none => .nm x
  | .thing, _ => .thing
  | .take x k b, c => .take k (bare b (x :: c))
  | .give f a, c => .give (bare f c) (bare a c)
  | .pair a b, c => .pair (bare a c) (bare b c)
  | .first p, c => .first (bare p c)
  | .second p, c => .second (bare p c)
def tidy : Pg → List Str → Pg
  | .nm x, c => match ri c x with
    | some i => .nm (xn (c.length - 1 - i))
    | none => .nm x
  | .thing, _ => .thing
  | .take x k b, c => .take (xn c.length) k (tidy b (x :: c))
  | .give f a, c => .give (tidy f c) (tidy a c)
  | .pair a b, c => .pair (tidy a c) (tidy b c)
  | .first p, c => .first (tidy p c)
  | .second p, c => .second (tidy p c)
def moved : Db → Nat → Nat → Db
  | .at i, f, n => .at (i + if f ≤ i then n else 0)
  | .nm x, _, _ => .nm x
  | .thing, _, _ => .thing
  | .take k b, f, n => .take k (moved b (f + 1) n)
  | .give g a, f, n => .give (moved g f n) (moved a f n)
  | .pair a b, f, n => .pair (moved a f n) (moved b f n)
  | .first p, f, n => .first (moved p f n)
  | .second p, f, n => .second (moved p f n)
def put : Db → Nat → Db → Db
  | .at i, t, g => if i = t then moved g 0 t else .at (i - if t < i then 1 else 0)
  | .nm x, _, _ => .nm x
  | .thing, _, _ => .thing
  | .take k b, t, g => .take k (put b (t + 1) g)
  | .give f a, t, g => .give (put f t g) (put a t g)
  | .pair a b, t, g => .pair (put a t g) (put b t g)
  | .first p, t, g => .first (put p t g)
  | .second p, t, g => .second (put p t g)
def Wf : Db → Nat → Prop
  | .at i, m => i < m
  | .nm x, _ => Fr x
  | .thing, _ => True
  | .take _ b, m => Wf b (m + 1)
  | .give f a, m => Wf f m ∧ Wf a m
  | .pair a b, m => Wf a m ∧ Wf b m
  | .first p, m => Wf p m
  | .second p, m => Wf p m
/-! ### where names stand -/
def xr : Nat → List Str
  | 0 => []
  | m + 1 => xn m :: xr m
def mid (m : Nat) : Nat → List Str
  | 0 => xr m
  | j + 1 => xn (m + j + 1) :: mid m j
def own (m j : Nat) : Nat → List Str
  | 0 => mid m j
  | e + 1 => xn (m + e) :: own m j e
/-! ### dressed and bare again -/
/-! ### steps -/
def partAt : Pg → List Int → Option Pg
  | p, [] => some p
  | .take _ _ b, i :: pl => if i = 0 then partAt b pl else none
  | .give f a, i :: pl => if i = 0 then partAt f pl else if i = 1 then partAt a pl else none
  | .pair f a, i :: pl => if i = 0 then partAt f pl else if i = 1 then partAt a pl else none
  | .first p, i :: pl => if i = 0 then partAt p pl else none
  | .second p, i :: pl => if i = 0 then partAt p pl else none
  | _, _ :: _ => none
def withPart : Pg → List Int → Pg → Pg
  | _, [], q => q
  | .take x k b, _ :: pl, q => .take x k (withPart b pl q)
  | .give f a, i :: pl, q => if i = 0 then .give (withPart f pl q) a else .give f (withPart a pl q)
  | .pair f a, i :: pl, q => if i = 0 then .pair (withPart f pl q) a else .pair f (withPart a pl q)
  | .first p, _ :: pl, q => .first (withPart p pl q)
  | .second p, _ :: pl, q => .second (withPart p pl q)
  | p, _ :: _, _ => p
/-! ### places -/
/-! ### well formed -/
end Kf
/-! Kls: lists of lists of numbers, owned ones too. -/
namespace Kf
open PySem PySem.Spec L2
open PyProof.Rows hiding St
theorem isPys_ints (q : List Int) : isPys (q.map D.int) = true := by
  rw [isPys_all, List.all_eq_true]
  intro d hd
  obtain ⟨t, _, rfl⟩ := List.mem_map.mp hd
  simp only [isPy]
theorem isPy_dI (q : List Int) : isPy (dI q) = true := by simp only [dI, isPy, isPys_ints]
theorem deqs_ints : ∀ q : List Int, deqs (q.map D.int) (q.map D.int) = true
  | [] => deqs_nn
  | a :: q => by rw [List.map_cons, deqs_cc, deqs_ints q, deq_i]; simp
theorem dp_int (i : Int) : dp (.int i) = 0 := by simp [dp, toPy, PyData.depth]
theorem dp_ints (q : List Int) : dp (.lst (q.map D.int)) ≤ 1 := by
  simp only [dp, toPy, PyData.depth]
  have : ∀ q : List Int, PyData.depthAll (toPys (q.map D.int)) = 0 := by
    intro q
    induction q with
    | nil => simp [toPys, PyData.depthAll]
    | cons a q ih => simp [toPys, PyData.depthAll, toPy, PyData.depth, ih]
  rw [this]; decide
section
variable {O : Ow} {neg : Bool} {Q : VD}
end
/-! ### the lists within a thing -/
def Ls (O : Ow) : Nat → D → List Addr → Prop
  | _, .int _, rs => rs = []
  | n + 1, .ref a, rs => ∃ ds rss, O a = some (.lst ds) ∧ Paired (fun d r => Ls O n d r) ds rss ∧ rs = a :: rss.flatten
  | _, _, _ => False
theorem Ls.mono {O O' : Ow} (s : Sub O O') : ∀ {n : Nat} {x : D} {rs : List Addr}, Ls O n x rs → Ls O' n x rs
  | n, .int _, rs, h => by cases n <;> simpa only [Ls] using h
  | n + 1, .ref a, rs, h => by
    simp only [Ls] at h ⊢
    obtain ⟨ds, rss, h1, h2, h3⟩ := h
    exact ⟨ds, rss, s _ _ h1, Paired.mapP h2 fun _ _ z => Ls.mono s z, h3⟩
  | 0, .ref a, rs, h => by simp [Ls] at h
  | n, .non, rs, h => by cases n <;> simp [Ls] at h
  | n, .bl _, rs, h => by cases n <;> simp [Ls] at h
  | n, .str _, rs, h => by cases n <;> simp [Ls] at h
  | n, .tup _, rs, h => by cases n <;> simp [Ls] at h
  | n, .lst _, rs, h => by cases n <;> simp [Ls] at h
  | n, .ty _, rs, h => by cases n <;> simp [Ls] at h
  | n, .scr _, rs, h => by cases n <;> simp [Ls] at h
  | n, .edic, rs, h => by cases n <;> simp [Ls] at h
end Kf
/-! Kpw: the parts of a program, put back. -/
namespace Kf
open PySem PySem.Spec L2
open PyProof.Rows hiding St
def setIns : Pg → List Pg → Pg
  | .take x k _, [b] => .take x k b
  | .give _ _, [f, a] => .give f a
  | .pair _ _, [f, a] => .pair f a
  | .first _, [p] => .first p
  | .second _, [p] => .second p
  | p, _ => p
theorem partAt_cons {p q : Pg} {i : Int} {r : List Int} (h : partAt p (i :: r) = some q) : ∃ c, 0 ≤ i ∧ i < p.ins.length ∧ atI p.ins i = some c ∧ ixN p.ins.length i = some i.toNat ∧ c ∈ p.ins ∧ partAt c r = some q ∧ ∀ w, withPart p (i :: r) w = setIns p (p.ins.set i.toNat (withPart c r w)) := by
  cases p with
  | nm x => simp [partAt] at h
  | thing => simp [partAt] at h
  | take x k b =>
    simp only [partAt] at h
    split at h <;> first | cases h; done | skip
    rename_i hi
    subst hi
    exact ⟨b, by decide, by simp [Pg.ins], ixC0 _ _, rfl, by simp [Pg.ins], h, fun w => rfl⟩
  | first b =>
    simp only [partAt] at h
    split at h <;> first | cases h; done | skip
    rename_i hi
    subst hi
    exact ⟨b, by decide, by simp [Pg.ins], ixC0 _ _, rfl, by simp [Pg.ins], h, fun w => rfl⟩
  | second b =>
    simp only [partAt] at h
    split at h <;> first | cases h; done | skip
    rename_i hi
    subst hi
    exact ⟨b, by decide, by simp [Pg.ins], ixC0 _ _, rfl, by simp [Pg.ins], h, fun w => rfl⟩
  | give f a =>
    simp only [partAt] at h
    by_cases hi : i = 0
    · subst hi
      rw [if_pos rfl] at h
      exact ⟨f, by decide, by simp [Pg.ins], ixC0 _ _, rfl, by simp [Pg.ins], h, fun w => rfl⟩
    · rw [if_neg hi] at h
      split at h <;> first | cases h; done | skip
      rename_i h1
      subst h1
      exact ⟨a, by decide, by simp [Pg.ins], ixC1 _ _ _, rfl, by simp [Pg.ins], h, fun w => rfl⟩
  | pair f a =>
    simp only [partAt] at h
    by_cases hi : i = 0
    · subst hi
      rw [if_pos rfl] at h
      exact ⟨f, by decide, by simp [Pg.ins], ixC0 _ _, rfl, by simp [Pg.ins], h, fun w => rfl⟩
    · rw [if_neg hi] at h
      split at h <;> first | cases h; done | skip
      rename_i h1
      subst h1
      exact ⟨a, by decide, by simp [Pg.ins], ixC1 _ _ _, rfl, by simp [Pg.ins], h, fun w => rfl⟩
/-- names and kinds are right texts -/
def Pg.sok : Pg → Bool
  | .nm x => PyData.strOk x
  | .thing => true
  | .take x k b => PyData.strOk x && k.ok && b.sok
  | .give f a => f.sok && a.sok
  | .pair a b => a.sok && b.sok
  | .first p => p.sok
  | .second p => p.sok
theorem isPy_dP : ∀ p : Pg, isPy (dP p) = p.sok
  | .nm x => by simp [dP, isPy, isPys, Pg.sok, sw_name]
  | .thing => by simp [dP, isPy, isPys, Pg.sok, sw_thing]
  | .take x k b => by simp [dP, isPy, isPys, Pg.sok, sw_take, isPy_dK, isPy_dP b, Bool.and_assoc]
  | .give f a => by simp [dP, isPy, isPys, Pg.sok, sw_give, isPy_dP f, isPy_dP a]
  | .pair f a => by simp [dP, isPy, isPys, Pg.sok, sw_pair, isPy_dP f, isPy_dP a]
  | .first f => by simp [dP, isPy, isPys, Pg.sok, sw_first, isPy_dP f]
  | .second f => by simp [dP, isPy, isPys, Pg.sok, sw_second, isPy_dP f]
theorem len2 {α : Type} {l : List α} (h : l.length = 2) : ∃ c d, l = [c, d] := by
  match l, h with
  | [c, d], _ => exact ⟨c, d, rfl⟩
/-- how deep a program is as data -/
def Pg.dpt : Pg → Nat
  | .nm _ => 1
  | .thing => 1
  | .take _ k b => max (k.depth + 1) b.dpt + 1
  | .give f a => max f.dpt a.dpt + 1
  | .pair f a => max f.dpt a.dpt + 1
  | .first p => p.dpt + 1
  | .second p => p.dpt + 1
theorem dp_dP : ∀ p : Pg, dp (dP p) = p.dpt
  | .nm x => by simp [dP, dp, toPy, toPys, PyData.depth, PyData.depthAll, Pg.dpt]
  | .thing => by simp [dP, dp, toPy, toPys, PyData.depth, PyData.depthAll, Pg.dpt]
  | .take x k b => by
    have h1 := dp_dK k
    have h2 := dp_dP b
    simp only [dp] at h1 h2
    simp [dP, dp, toPy, toPys, PyData.depth, PyData.depthAll, Pg.dpt, h1, h2]
  | .give f a => by
    have h1 := dp_dP f
    have h2 := dp_dP a
    simp only [dp] at h1 h2
    simp [dP, dp, toPy, toPys, PyData.depth, PyData.depthAll, Pg.dpt, h1, h2]
  | .pair f a => by
    have h1 := dp_dP f
    have h2 := dp_dP a
    simp only [dp] at h1 h2
    simp [dP, dp, toPy, toPys, PyData.depth, PyData.depthAll, Pg.dpt, h1, h2]
  | .first f => by
    have h1 := dp_dP f
    simp only [dp] at h1
    simp [dP, dp, toPy, toPys, PyData.depth, PyData.depthAll, Pg.dpt, h1]
  | .second f => by
    have h1 := dp_dP f
    simp only [dp] at h1
    simp [dP, dp, toPy, toPys, PyData.depth, PyData.depthAll, Pg.dpt, h1]
theorem ins_ok {p q : Pg} (h : q ∈ p.ins) (hs : p.sok = true) : q.sok = true ∧ q.dpt < p.dpt := by
  cases p <;> simp only [Pg.ins, List.mem_cons, List.not_mem_nil, or_false] at h
  · subst h; simp only [Pg.sok, Bool.and_eq_true] at hs; exact ⟨hs.2, by simp only [Pg.dpt]; omega⟩
  · simp only [Pg.sok, Bool.and_eq_true] at hs
    rcases h with rfl | rfl
    · exact ⟨hs.1, by simp only [Pg.dpt]; omega⟩
    · exact ⟨hs.2, by simp only [Pg.dpt]; omega⟩
  · simp only [Pg.sok, Bool.and_eq_true] at hs
    rcases h with rfl | rfl
    · exact ⟨hs.1, by simp only [Pg.dpt]; omega⟩
    · exact ⟨hs.2, by simp only [Pg.dpt]; omega⟩
  · subst h; exact ⟨hs, by simp only [Pg.dpt]; omega⟩
  · subst h; exact ⟨hs, by simp only [Pg.dpt]; omega⟩
end Kf
/-! Krn: steps one behind another, names told by numbers; how many parts. -/
namespace Kf
open PySem PySem.Spec L2
open PyProof.Rows hiding St
def Db.hgt : Db → Nat
  | .at _ => 0
  | .nm _ => 0
  | .thing => 0
  | .take _ b => b.hgt + 1
  | .give f a => max f.hgt a.hgt + 1
  | .pair a b => max a.hgt b.hgt + 1
  | .first p => p.hgt + 1
  | .second p => p.hgt + 1
/-! ### steps with names told by numbers -/
def Db.ins : Db → List Db
  | .take _ b => [b]
  | .give f a => [f, a]
  | .pair a b => [a, b]
  | .first p => [p]
  | .second p => [p]
  | _ => []
def Db.isTake : Db → Bool
  | .take .. => true
  | _ => false
def Db.isPair : Db → Bool
  | .pair .. => true
  | _ => false
def Db.can : Db → Bool
  | .give f _ => f.isTake
  | .first p => p.isPair
  | .second p => p.isPair
  | _ => false
/-! ### how many parts -/
def Pg.psz : Pg → Nat
  | .nm _ => 1
  | .thing => 1
  | .take _ _ b => b.psz + 1
  | .give f a => f.psz + a.psz + 1
  | .pair a b => a.psz + b.psz + 1
  | .first p => p.psz + 1
  | .second p => p.psz + 1
def Db.psz : Db → Nat
  | .at _ => 1
  | .nm _ => 1
  | .thing => 1
  | .take _ b => b.psz + 1
  | .give f a => f.psz + a.psz + 1
  | .pair a b => a.psz + b.psz + 1
  | .first p => p.psz + 1
  | .second p => p.psz + 1
/-! ### names and kinds are right ones -/
def Db.ok : Db → Prop
  | .at _ => True
  | .nm x => PyData.strOk x = true
  | .thing => True
  | .take k b => k.ok = true ∧ k.depth ≤ 12 ∧ b.ok
  | .give f a => f.ok ∧ a.ok
  | .pair f a => f.ok ∧ a.ok
  | .first p => p.ok
  | .second p => p.ok
/-! ### runs -/
structure Good (b : Db) : Prop where
  wf : Wf b 0
  ok : b.ok
  hg : b.hgt ≤ 100
  sz : b.psz ≤ 4194304
end Kf
/-! Kcf: whichever steps are done, the end is one. -/
namespace Kf
open PySem PySem.Spec L2
open PyProof.Rows hiding St
theorem mv_at_lo {i f n : Nat} (h : i < f) : moved (.at i) f n = .at i := by simp only [moved]; rw [if_neg (by omega)]; rfl
theorem mv_at_hi {i f n : Nat} (h : f ≤ i) : moved (.at i) f n = .at (i + n) := by simp only [moved]; rw [if_pos h]
theorem pt_at_lo {i t : Nat} {g : Db} (h : i < t) : put (.at i) t g = .at i := by simp only [put]; rw [if_neg (by omega), if_neg (by omega)]; rfl
theorem pt_at_eq {t : Nat} {g : Db} : put (.at t) t g = moved g 0 t := by simp [put]
theorem pt_at_hi {i t : Nat} {g : Db} (h : t < i) : put (.at i) t g = .at (i - 1) := by simp only [put]; rw [if_neg (by omega), if_pos h]
theorem mv_mv : ∀ (a : Db) {f f' n m : Nat}, f ≤ f' → f' ≤ f + n → moved (moved a f n) f' m = moved a f (n + m)
  | .at i, f, f', n, m, h1, h2 => by
    by_cases c : f ≤ i
    · rw [mv_at_hi c, mv_at_hi c, mv_at_hi (by omega)]; congr 1; omega
    · rw [mv_at_lo (by omega), mv_at_lo (by omega), mv_at_lo (by omega)]
  | .nm x, _, _, _, _, _, _ => rfl
  | .thing, _, _, _, _, _, _ => rfl
  | .take k b, f, f', n, m, h1, h2 => by simp only [moved]; rw [mv_mv b (by omega) (by omega)]
  | .give g a, f, f', n, m, h1, h2 => by simp only [moved]; rw [mv_mv g h1 h2, mv_mv a h1 h2]
  | .pair g a, f, f', n, m, h1, h2 => by simp only [moved]; rw [mv_mv g h1 h2, mv_mv a h1 h2]
  | .first p, f, f', n, m, h1, h2 => by simp only [moved]; rw [mv_mv p h1 h2]
  | .second p, f, f', n, m, h1, h2 => by simp only [moved]; rw [mv_mv p h1 h2]
theorem mv_comm : ∀ (a : Db) {e f j n : Nat}, e ≤ f → moved (moved a e j) (f + j) n = moved (moved a f n) e j
  | .at i, e, f, j, n, h => by
    by_cases c : f ≤ i
    · rw [mv_at_hi (show e ≤ i by omega), mv_at_hi c, mv_at_hi (by omega), mv_at_hi (by omega)]; congr 1; omega
    · rw [mv_at_lo (show i < f by omega)]
      by_cases d : e ≤ i
      · rw [mv_at_hi d, mv_at_lo (by omega)]
      · rw [mv_at_lo (by omega), mv_at_lo (by omega)]
  | .nm x, _, _, _, _, _ => rfl
  | .thing, _, _, _, _, _ => rfl
  | .take k b, e, f, j, n, h => by
    simp only [moved]
    have := mv_comm b (e := e + 1) (f := f + 1) (j := j) (n := n) (by omega)
    rw [show f + j + 1 = f + 1 + j by omega, this]
  | .give g a, e, f, j, n, h => by simp only [moved]; rw [mv_comm g h, mv_comm a h]
  | .pair g a, e, f, j, n, h => by simp only [moved]; rw [mv_comm g h, mv_comm a h]
  | .first p, e, f, j, n, h => by simp only [moved]; rw [mv_comm p h]
  | .second p, e, f, j, n, h => by simp only [moved]; rw [mv_comm p h]
theorem mv_put : ∀ (b : Db) {a : Db} {j f n : Nat}, moved (put b j a) (f + j) n = put (moved b (f + 1 + j) n) j (moved a f n)
  | .at i, a, j, f, n => by
    by_cases c : i = j
    · subst c
      rw [pt_at_eq, mv_at_lo (show i < f + 1 + i by omega), pt_at_eq, mv_comm a (Nat.zero_le _)]
    · by_cases d : i < j
      · rw [pt_at_lo d, mv_at_lo (by omega), mv_at_lo (by omega), pt_at_lo d]
      · rw [pt_at_hi (by omega)]
        by_cases e : f + 1 + j ≤ i
        · rw [mv_at_hi (by omega), mv_at_hi e, pt_at_hi (by omega)]; congr 1; omega
        · rw [mv_at_lo (by omega), mv_at_lo (by omega), pt_at_hi (by omega)]
  | .nm x, _, _, _, _ => rfl
  | .thing, _, _, _, _ => rfl
  | .take k b, a, j, f, n => by
    simp only [moved, put]
    have := mv_put b (a := a) (j := j + 1) (f := f) (n := n)
    rw [show f + j + 1 = f + (j + 1) by omega, this, show f + 1 + (j + 1) = f + 1 + j + 1 by omega]
  | .give g c, a, j, f, n => by simp only [moved, put]; rw [mv_put g, mv_put c]
  | .pair g c, a, j, f, n => by simp only [moved, put]; rw [mv_put g, mv_put c]
  | .first p, a, j, f, n => by simp only [moved, put]; rw [mv_put p]
  | .second p, a, j, f, n => by simp only [moved, put]; rw [mv_put p]
theorem pt_mv : ∀ (a : Db) {g : Db} {e n t : Nat}, e ≤ t → t ≤ e + n → put (moved a e (n + 1)) t g = moved a e n
  | .at i, g, e, n, t, h1, h2 => by
    by_cases c : e ≤ i
    · rw [mv_at_hi c, mv_at_hi c, pt_at_hi (by omega)]; congr 1
    · rw [mv_at_lo (by omega), mv_at_lo (by omega), pt_at_lo (by omega)]
  | .nm x, _, _, _, _, _, _ => rfl
  | .thing, _, _, _, _, _, _ => rfl
  | .take k b, g, e, n, t, h1, h2 => by simp only [moved, put]; rw [pt_mv b (by omega) (by omega)]
  | .give f a, g, e, n, t, h1, h2 => by simp only [moved, put]; rw [pt_mv f h1 h2, pt_mv a h1 h2]
  | .pair f a, g, e, n, t, h1, h2 => by simp only [moved, put]; rw [pt_mv f h1 h2, pt_mv a h1 h2]
  | .first p, g, e, n, t, h1, h2 => by simp only [moved, put]; rw [pt_mv p h1 h2]
  | .second p, g, e, n, t, h1, h2 => by simp only [moved, put]; rw [pt_mv p h1 h2]
theorem pt_mv2 : ∀ (a : Db) {g : Db} {e j t : Nat}, e ≤ t → put (moved a e j) (t + j) g = moved (put a t g) e j
  | .at i, g, e, j, t, h => by
    by_cases c : i = t
    · subst c
      rw [mv_at_hi h, pt_at_eq, pt_at_eq, mv_mv g (Nat.zero_le _) (by omega)]
    · by_cases d : i < t
      · rw [pt_at_lo d]
        by_cases e' : e ≤ i
        · rw [mv_at_hi e', pt_at_lo (by omega)]
        · rw [mv_at_lo (by omega), pt_at_lo (by omega)]
      · rw [pt_at_hi (by omega), mv_at_hi (by omega), mv_at_hi (by omega), pt_at_hi (by omega)]; congr 1; omega
  | .nm x, _, _, _, _, _ => rfl
  | .thing, _, _, _, _, _ => rfl
  | .take k b, g, e, j, t, h => by
    simp only [moved, put]
    have := pt_mv2 b (g := g) (e := e + 1) (j := j) (t := t + 1) (by omega)
    rw [show t + j + 1 = t + 1 + j by omega, this]
  | .give f a, g, e, j, t, h => by simp only [moved, put]; rw [pt_mv2 f h, pt_mv2 a h]
  | .pair f a, g, e, j, t, h => by simp only [moved, put]; rw [pt_mv2 f h, pt_mv2 a h]
  | .first p, g, e, j, t, h => by simp only [moved, put]; rw [pt_mv2 p h]
  | .second p, g, e, j, t, h => by simp only [moved, put]; rw [pt_mv2 p h]
theorem pt_pt : ∀ (b : Db) {a g : Db} {j t : Nat}, put (put b j a) (t + j) g = put (put b (t + j + 1) g) j (put a t g)
  | .at i, a, g, j, t => by
    by_cases c : i = j
    · subst c
      rw [pt_at_eq, pt_at_lo (show i < t + i + 1 by omega), pt_at_eq, pt_mv2 a (Nat.zero_le _)]
    · by_cases d : i < j
      · rw [pt_at_lo d, pt_at_lo (by omega), pt_at_lo (by omega), pt_at_lo d]
      · rw [pt_at_hi (show j < i by omega)]
        by_cases e : i = t + j + 1
        · subst e
          rw [show t + j + 1 - 1 = t + j by omega, pt_at_eq, pt_at_eq, pt_mv g (Nat.zero_le _) (by omega)]
        · by_cases e2 : i < t + j + 1
          · rw [pt_at_lo (by omega), pt_at_lo (by omega), pt_at_hi (by omega)]
          · rw [pt_at_hi (by omega), pt_at_hi (by omega), pt_at_hi (by omega)]
  | .nm x, _, _, _, _ => rfl
  | .thing, _, _, _, _ => rfl
  | .take k b, a, g, j, t => by
    simp only [put]
    have := pt_pt b (a := a) (g := g) (j := j + 1) (t := t)
    rw [show t + j + 1 = t + (j + 1) by omega, this]
  | .give f c, a, g, j, t => by simp only [put]; rw [pt_pt f, pt_pt c]
  | .pair f c, a, g, j, t => by simp only [put]; rw [pt_pt f, pt_pt c]
  | .first p, a, g, j, t => by simp only [put]; rw [pt_pt p]
  | .second p, a, g, j, t => by simp only [put]; rw [pt_pt p]
/-- some of the steps that can be done, all at once -/
inductive Par : Db → Db → Prop
  | at (i : Nat) : Par (.at i) (.at i)
  | nm (x : Str) : Par (.nm x) (.nm x)
  | thing : Par .thing .thing
  | take (k : Kd) {b b' : Db} : Par b b' → Par (.take k b) (.take k b')
  | give {f f' a a' : Db} : Par f f' → Par a a' → Par (.give f a) (.give f' a')
  | pair {f f' a a' : Db} : Par f f' → Par a a' → Par (.pair f a) (.pair f' a')
  | first {p p' : Db} : Par p p' → Par (.first p) (.first p')
  | second {p p' : Db} : Par p p' → Par (.second p) (.second p')
  | beta (k : Kd) {b b' a a' : Db} : Par b b' → Par a a' → Par (.give (.take k b) a) (put b' 0 a')
  | fst {a a' : Db} (c : Db) : Par a a' → Par (.first (.pair a c)) a'
  | snd {a a' : Db} (c : Db) : Par a a' → Par (.second (.pair c a)) a'
theorem Par.refl : ∀ b : Db, Par b b
  | .at i => .at i
  | .nm x => .nm x
  | .thing => .thing
  | .take k b => .take k (Par.refl b)
  | .give f a => .give (Par.refl f) (Par.refl a)
  | .pair f a => .pair (Par.refl f) (Par.refl a)
  | .first p => .first (Par.refl p)
  | .second p => .second (Par.refl p)
theorem Par.mv {b b' : Db} (h : Par b b') : ∀ (f n : Nat), Par (moved b f n) (moved b' f n) := by
  induction h with
  | «at» i => intro f n; exact Par.refl _
  | nm x => intro f n; exact Par.refl _
  | thing => intro f n; exact Par.refl _
  | take k _ ih => intro f n; exact .take k (ih (f + 1) n)
  | give _ _ ih1 ih2 => intro f n; exact .give (ih1 f n) (ih2 f n)
  | pair _ _ ih1 ih2 => intro f n; exact .pair (ih1 f n) (ih2 f n)
  | first _ ih => intro f n; exact .first (ih f n)
  | second _ ih => intro f n; exact .second (ih f n)
  | @beta k b b' a a' _ _ ih1 ih2 =>
    intro f n
    have e := mv_put b' (a := a') (j := 0) (f := f) (n := n)
    rw [Nat.add_zero, Nat.add_zero] at e
    rw [e]
    exact .beta k (ih1 (f + 1) n) (ih2 f n)
  | fst c _ ih => intro f n; exact .fst _ (ih f n)
  | snd c _ ih => intro f n; exact .snd _ (ih f n)
theorem Par.pt {b b' : Db} (h : Par b b') : ∀ {a a' : Db} (t : Nat), Par a a' → Par (put b t a) (put b' t a') := by
  induction h with
  | «at» i =>
    intro a a' t ha
    by_cases c : i = t
    · subst c; rw [pt_at_eq, pt_at_eq]; exact ha.mv 0 i
    · by_cases d : i < t
      · rw [pt_at_lo d, pt_at_lo d]; exact .at i
      · rw [pt_at_hi (by omega), pt_at_hi (by omega)]; exact .at _
  | nm x => intro a a' t ha; exact .nm x
  | thing => intro a a' t ha; exact .thing
  | take k _ ih => intro a a' t ha; exact .take k (ih (t + 1) ha)
  | give _ _ ih1 ih2 => intro a a' t ha; exact .give (ih1 t ha) (ih2 t ha)
  | pair _ _ ih1 ih2 => intro a a' t ha; exact .pair (ih1 t ha) (ih2 t ha)
  | first _ ih => intro a a' t ha; exact .first (ih t ha)
  | second _ ih => intro a a' t ha; exact .second (ih t ha)
  | @beta k b b' c c' _ _ ih1 ih2 =>
    intro a a' t ha
    have e := pt_pt b' (a := c') (g := a') (j := 0) (t := t)
    rw [Nat.add_zero] at e
    rw [e]
    exact .beta k (ih1 (t + 1) ha) (ih2 t ha)
  | fst c _ ih => intro a a' t ha; exact .fst _ (ih t ha)
  | snd c _ ih => intro a a' t ha; exact .snd _ (ih t ha)
/-- one after another -/
inductive Pars : Db → Db → Prop
  | nil (b : Db) : Pars b b
  | cons {a b c : Db} : Par a b → Pars b c → Pars a c
theorem Pars.trans {a b c : Db} (h : Pars a b) (h' : Pars b c) : Pars a c := by
  induction h with
  | nil _ => exact h'
  | cons h1 _ ih => exact .cons h1 (ih h')
end Kf
/-! Ksz: how great a program becomes by one step; places of a tidied program. -/
namespace Kf
open PySem PySem.Spec L2
open PyProof.Rows hiding St
end Kf
/-! Kty: kinds of programs whose names are numbers; steps keep them. -/
namespace Kf
open PySem PySem.Spec L2
open PyProof.Rows hiding St
section
variable {e : Str → Option Kd}
/-! ### kinds are small -/
def Pg.ka : Pg → Prop
  | .nm _ => True
  | .thing => True
  | .take _ k b => k.ok = true ∧ k.depth ≤ 12 ∧ b.ka
  | .give f a => f.ka ∧ a.ka
  | .pair f a => f.ka ∧ a.ka
  | .first p => p.ka
  | .second p => p.ka
def EOk (e : Str → Option Kd) : Prop := ∀ x k, e x = some k → k.ok = true ∧ k.depth ≤ 12
theorem EOk.ext {e : Str → Option Kd} (h : EOk e) {x : Str} {a : Kd} (h1 : a.ok = true) (h2 : a.depth ≤ 12) : EOk (fun y => if x = y then some a else e y) := fun y k q => by
  dsimp only at q
  split at q
  · cases q; exact ⟨h1, h2⟩
  · exact h y k q
theorem kd_has : ∀ (p : Pg) (e : Str → Option Kd) (k : Kd), hasK e p k → EOk e → p.ka → k.ok = true ∧ k.depth ≤ 12 + p.hgt
  | .nm x, e, k, h, he, _ => he x k h
  | .thing, e, k, h, _, _ => by subst h; exact ⟨rfl, by simp [Kd.depth]⟩
  | .take x a b, e, k, ⟨r, e1, h⟩, he, ⟨h1, h2, h3⟩ => by
    have := kd_has b _ r h (he.ext h1 h2) h3
    subst e1
    simp only [Kd.ok, Kd.depth, Pg.hgt, h1, this.1, Bool.and_self, true_and]
    omega
  | .give f a, e, k, ⟨c, h1, h2⟩, he, hk => by
    have := kd_has f e _ h1 he hk.1
    simp only [Kd.ok, Kd.depth, Bool.and_eq_true] at this
    simp only [Pg.hgt]
    exact ⟨this.1.2, by omega⟩
  | .pair f a, e, k, ⟨c, d, e1, h1, h2⟩, he, hk => by
    have i1 := kd_has f e _ h1 he hk.1
    have i2 := kd_has a e _ h2 he hk.2
    subst e1
    simp only [Kd.ok, Kd.depth, Pg.hgt, i1.1, i2.1, Bool.and_self, true_and]
    omega
  | .first p, e, k, ⟨d, h⟩, he, hk => by
    have := kd_has p e _ h he hk
    simp only [Kd.ok, Kd.depth, Bool.and_eq_true] at this
    simp only [Pg.hgt]
    exact ⟨this.1.1, by omega⟩
  | .second p, e, k, ⟨d, h⟩, he, hk => by
    have := kd_has p e _ h he hk
    simp only [Kd.ok, Kd.depth, Bool.and_eq_true] at this
    simp only [Pg.hgt]
    exact ⟨this.1.2, by omega⟩
/-! ### the kind here -/
def khere (e : Str → Option Kd) : Pg → List Kd → Option Kd
  | .nm x, _ => e x
  | .thing, _ => some .one
  | .take _ k _, [r] => some (.to k r)
  | .pair _ _, [a, b] => some (.both a b)
  | .give _ _, [.to c k, a] => if c = a then some k else none
  | .first _, [.both a _] => some a
  | .second _, [.both _ b] => some b
  | _, _ => none
def dKo : Option Kd → D
  | some k => dK k
  | none => .non
/-! ### going along a run -/
end
end Kf
/-! Kgen: what the laws about any programs draw. -/
namespace Kf
open PySem PySem.Spec L2
open PyProof.Rows hiding St
def UN : List Str := ["p", "q", "f", "g", "u", "v", "x0", "x7"]
def TN : List Str := ["u", "v", "x0", "x7", "f"]
theorem tn_un : ∀ t ∈ TN, t ∈ UN ∧ t ≠ "p" ∧ t ≠ "q" := by decide +kernel
structure RowU (kn : List (Str × Kd)) : Prop where
  nm : ∀ q ∈ kn, q.1 ∈ UN ∧ q.2.over AB ∧ q.2.leaves ≤ 4
  ep : envOf kn "p" = some (.mk "a")
  eq : envOf kn "q" = some (.mk "b")
theorem RowU.snoc {kn : List (Str × Kd)} (h : RowU kn) {x : Str} {k : Kd} (hx : x ∈ TN) (ho : k.over AB) (hl : k.leaves ≤ 4) : RowU (kn ++ [(x, k)]) := by
  obtain ⟨h1, h2, h3⟩ := tn_un x hx
  refine ⟨fun q hq => ?_, ?_, ?_⟩
  · rcases List.mem_append.mp hq with hq | hq
    · exact h.nm q hq
    · rw [List.mem_singleton.mp hq]; exact ⟨h1, ho, hl⟩
  · rw [envOf_snoc, if_neg h2]; exact h.ep
  · rw [envOf_snoc, if_neg h3]; exact h.eq
/-- what the names' table holds behind a row's first ones -/
structure DInvU (pre : List (Str × Kd)) (kvs : List (Key × D)) (ts : List Str) : Prop where
  ks : kvs.map (·.1) = ts.map Sum.inr
  nd : ts.Nodup
  an : ∀ t ∈ ts, t ∈ UN
  vl : ∀ x : Str, valD kvs (.inr x) = (envOf pre x).map dK
theorem DInvU.nil : DInvU [] [] [] := ⟨rfl, List.nodup_nil, fun _ h => (nomatch h), fun _ => rfl⟩
theorem DInvU.len {pre : List (Str × Kd)} {kvs : List (Key × D)} {ts : List Str} (h : DInvU pre kvs ts) : ts.length ≤ 8 ∧ kvs.length ≤ 8 := by
  have h1 : ts.length ≤ 8 := nodup_le (us := UN) h.nd h.an
  have h2 : kvs.length = ts.length := by have := congrArg List.length h.ks; simpa using this
  omega
theorem DInvU.put {pre : List (Str × Kd)} {kvs : List (Key × D)} {ts : List Str} (h : DInvU pre kvs ts) {x : Str} {k : Kd} (hx : x ∈ UN) : ∃ ts', DInvU (pre ++ [(x, k)]) (putD kvs (.inr x) (dK k)) ts' := by
  have hv : ∀ y : Str, valD (putD kvs (.inr x) (dK k)) (.inr y) = (envOf (pre ++ [(x, k)]) y).map dK := fun y => by
    rw [valD_put, envOf_snoc]
    by_cases e : x = y
    · subst e; simp
    · rw [if_neg (fun q => e (Sum.inr.inj q).symm), if_neg e, h.vl]
  have hk := keys_put kvs (.inr x) (dK k)
  by_cases c : (valD kvs (.inr x)).isSome = true
  · rw [if_pos c] at hk
    exact ⟨ts, hk.trans h.ks, h.nd, h.an, hv⟩
  · rw [if_neg c] at hk
    refine ⟨ts ++ [x], by rw [hk, h.ks, List.map_append]; rfl, ?_, ?_, hv⟩
    · refine List.nodup_append.mpr ⟨h.nd, by simp, fun a ha b hb e => c ?_⟩
      rw [List.mem_singleton.mp hb] at e
      subst e
      exact valD_mem.mp (by rw [h.ks]; exact List.mem_map.mpr ⟨a, ha, rfl⟩)
    · intro t ht
      rcases List.mem_append.mp ht with ht | ht
      · exact h.an t ht
      · rw [List.mem_singleton.mp ht]; exact hx
theorem DInvU.has {pre : List (Str × Kd)} {kvs : List (Key × D)} {ts : List Str} (h : DInvU pre kvs ts) {x : Str} (hx : x ∈ ts) : ∃ k, envOf pre x = some k := by
  have h1 := valD_mem.mp (show Sum.inr x ∈ kvs.map (·.1) by rw [h.ks]; exact List.mem_map.mpr ⟨x, hx, rfl⟩)
  rw [h.vl] at h1
  cases e : envOf pre x with
  | none => rw [e] at h1; simp at h1
  | some k => exact ⟨k, rfl⟩
/-! ### uses of a name -/
inductive Mv where
  | k (k : Kd) | one | two
def dMv : Mv → D
  | .k k => dK k
  | .one => .int 1
  | .two => .int 2
/-! ### names and kinds as drawn -/
/-! ### a program's word, a kind's word -/
section
variable {O : Ow} {Q : VD} {neg : Bool}
theorem rEq_Ki {k : Kd} {i : Int} (hk : k.ok = true) : rEqD neg (dK k) (.int i) O Q = Q (.bl neg) O := by
  have e : deq (dK k) (.int i) = false := by cases k <;> exact deq_ti
  rw [rEq_dr (by rw [deref_dK, isPy_dK]; exact hk) (by simp [deref, isPy]) (by simp [deref, dpI]), deref_dK, deref_int, e]
  cases neg <;> rfl
end
end Kf
/-! Klg: plain long programs, ways, spellings. -/
namespace Kf
open PySem PySem.Spec L2
open PyProof.Rows hiding St
/-- the ways of a kind -/
def wys : Kd → List (List Mv × Str)
  | .one => []
  | .mk m => [([], m)]
  | .to a b => (wys b).map fun w => (Mv.k a :: w.1, w.2)
  | .both a b => (wys a).map (fun w => (Mv.one :: w.1, w.2)) ++ (wys b).map (fun w => (Mv.two :: w.1, w.2))
def Pg.isTh : Pg → Bool
  | .thing => true
  | _ => false
mutual
/-- a plain long program of a kind -/
def lg (kn : List (Str × Kd)) (k : Kd) (p : Pg) (t : Nat) : Bool := match k with
  | .one => p.isTh
  | .mk m => decide (gal kn p t = some (.mk m))
  | .both a b => match p with
    | .pair f s => lg kn a f t && lg kn b s t
    | _ => false
  | .to d c => match p with
    | .take x k' b => decide (x = xn t) && (decide (k' = d) && lg (kn ++ [(xn t, d)]) c b (t + 1))
    | _ => false
termination_by (sizeOf p, 1)
/-- the kind to which a name comes -/
def gal (kn : List (Str × Kd)) (p : Pg) (t : Nat) : Option Kd := match p with
  | .nm x => envOf kn x
  | .first q => match gal kn q t with
    | some (.both a _) => some a
    | _ => none
  | .second q => match gal kn q t with
    | some (.both _ b) => some b
    | _ => none
  | .give f a => match gal kn f t with
    | some (.to d c) => if lg kn d a t = true then some c else none
    | _ => none
  | _ => none
termination_by (sizeOf p, 0)
end
section
variable (kn : List (Str × Kd)) (t : Nat)
theorem lg_one (p : Pg) : lg kn .one p t = p.isTh := by rw [lg]
theorem lg_mk (m : Str) (p : Pg) : lg kn (.mk m) p t = decide (gal kn p t = some (.mk m)) := by rw [lg]
theorem lg_pair (a b : Kd) (f s : Pg) : lg kn (.both a b) (.pair f s) t = (lg kn a f t && lg kn b s t) := by rw [lg]
theorem lg_take (d c : Kd) (x : Str) (k' : Kd) (b : Pg) : lg kn (.to d c) (.take x k' b) t = (decide (x = xn t) && (decide (k' = d) && lg (kn ++ [(xn t, d)]) c b (t + 1))) := by rw [lg]
theorem lg_npair (a b : Kd) (p : Pg) (h : ∀ f s, p ≠ .pair f s) : lg kn (.both a b) p t = false := by
  cases p with
  | pair f s => exact absurd rfl (h f s)
  | _ => rw [lg]; exact fun f s e => nomatch e
theorem lg_ntake (d c : Kd) (p : Pg) (h : ∀ x k b, p ≠ .take x k b) : lg kn (.to d c) p t = false := by
  cases p with
  | take x k b => exact absurd rfl (h x k b)
  | _ => rw [lg]; exact fun x k b e => nomatch e
theorem al_nm (x : Str) : gal kn (.nm x) t = envOf kn x := by rw [gal]
theorem al_first (q : Pg) : gal kn (.first q) t = match gal kn q t with | some (.both a _) => some a | _ => none := by rw [gal]
theorem al_second (q : Pg) : gal kn (.second q) t = match gal kn q t with | some (.both _ b) => some b | _ => none := by rw [gal]
theorem al_give (f a : Pg) : gal kn (.give f a) t = match gal kn f t with | some (.to d c) => if lg kn d a t = true then some c else none | _ => none := by rw [gal]
theorem al_thing : gal kn .thing t = none := by rw [gal] <;> intros <;> contradiction
theorem al_take (x : Str) (k : Kd) (b : Pg) : gal kn (.take x k b) t = none := by rw [gal] <;> intros <;> contradiction
theorem al_pair (f s : Pg) : gal kn (.pair f s) t = none := by rw [gal] <;> intros <;> contradiction
end
/-! ### how a name is gone along -/
inductive Sp1 where
  | one | two | gv (a : Pg)
def Pg.hd : Pg → Str
  | .nm x => x
  | .first q => q.hd
  | .second q => q.hd
  | .give f _ => f.hd
  | _ => Str.ofString ""
def Pg.st : Pg → List Sp1
  | .first q => q.st ++ [.one]
  | .second q => q.st ++ [.two]
  | .give f a => f.st ++ [.gv a]
  | _ => []
/-! ### spellings -/
/-- names known, no two alike -/
def KnN (kn : List (Str × Kd)) : Prop := (kn.map (·.1)).Nodup
end Kf
/-! Klj: walks along lists that may be owned. -/
namespace Kf
open PySem PySem.Spec L2
open PyProof.Rows hiding St
section
variable {p : Pat} {ft : FT} {fe : FE} {ρ : DEnv} {O : Ow} {α β : Type} {A : List (Addr × List D)}
end
end Kf
namespace Kf
open PySem PySem.Spec L2
open PyProof.Rows hiding St
local macro_rules | `(tactic| walk_at "kf") => `(tactic| simp (config := { failIfUnchanged := false }) only [startD, ap_fiEnumT, asT1_t, ap_fKGet, asStr_s, ap_fKIn, ap_fKIx, ap_gAsgL, rUnl_l, ap_fiRng3, asR3_i, rSplitO_s, ap_fOrL, rOrL_l, ap_fLcK, ap_gForK, ap_fMaxD, rMaxD_l, rMaxL_l, ap_fCallXD, ap_gForE, asLE_l, ap_fFrz, ap_fDicO, ap_fDGet, ap_fDGet1, ap_fDGet2, ap_gDPut, ap_fIsiT, ap_gForR, rRep_l, isT_i, isT_s, isT_b, isT_n, isT_t, isT_l, ap_gSeq, ap_gIf, ap_gRet, ap_gNext, ap_gSet, ap_gAsg, ap_gPar, ap_gDrop, ap_gRetF, ap_gRetN, ap_gFor, ap_gSetIx, ap_gBreak, ap_fRev, ap_fiRevR, asIR_i, rRev_l, ap_fCallX, ap_gRaise, ap_gTry, ap_gTryAs, ap_gNever, ap_fEdic, ap_fTest, ap_fOp, ap_fVar, envGet_s, patGet_s, ap_fC, ap_fCB, ap_fCons, ap_fNil, ap_fCall, ap_fAnd, ap_fOr, ap_fNot, ap_fAndV, ap_fOrV, ap_fNotV, ap_fIf, ap_fTup, ap_fLst, ap_fLstO, ap_fChain, ap_fUn, ap_fBM, ap_fBM0, ap_fPool, rPool_i, ap_fSl, ap_fPart, ap_fNoPart, asI_i, rSl_l, ap_fiRng1, ap_fiRng2, ap_fiList, ap_fiTup, ap_fiStr, ap_fiEnum, ap_fiZip, ap_fiRev, asL_l, asT_t, asSg_s, asR1_i, asR2_i, asL1_l, asL2_l, ap_fLc, ap_fLcO, ap_fYes, wipeD, lcD, isi_i_int, isi_i_bool, isi_i_str, isi_i_tuple, isi_i_list, isi_i_dict, isi_b_int, isi_b_bool, isi_b_str, isi_b_tuple, isi_b_list, isi_b_dict, isi_s_int, isi_s_bool, isi_s_str, isi_s_tuple, isi_s_list, isi_s_dict, isi_t_int, isi_t_bool, isi_t_str, isi_t_tuple, isi_t_list, isi_t_dict, isi_l_int, isi_l_bool, isi_l_str, isi_l_tuple, isi_l_list, isi_l_dict, isi_n_int, isi_n_bool, isi_n_str, isi_n_tuple, isi_n_list, isi_n_dict, isi_d_int, isi_d_bool, isi_d_str, isi_d_tuple, isi_d_list, isi_d_dict,
  deref_tup, deref_lst, deref_int, deref_str, deref_bl, deref_non, deref_scr, rLt_i, rLt_s, rLe_i, rLe_s, rInts_i, rInts0_i, rAdd_i, rAdd_s, rAdd_l, rAdd_t, rCatO_l, rNeg_i, rLen_t, rLen_l, rLen_c, rLen_s, rMax_i, rMin_i, rInt_i, rInt_b, rDivmod_i, ap_gAug, rStr_i, rList_l, rList_t, rListO_l, rListO_t, rTup_l, rTup_t,
  rIx_t0, rIx_t1, rIx_t2, rIx_t3, rIx_l0, rIx_l1, rIx_l2, rIsN_x, isNon_t, isNon_n, isNon_i, isNon_s, isNon_l, rEq_i, rEq_b, rEq_i2, rEq_b2, rJoin_m, rSplit_s, tyOk_l, tyOk_s, patD_nm, patD_tp, patDs_nil, patDs_cons, Option.bind_some, notX, notX',
  List.map_cons, List.map_nil, List.length_cons, List.length_nil, List.cons_append, List.nil_append, List.append_nil, List.replicate, List.getElem?_cons_zero, List.getElem?_cons_succ, List.set_cons_zero, List.set_cons_succ, updO_same, updO_updO,
  Nat.reduceSub, Nat.reduceAdd, Nat.reduceLeDiff, Nat.zero_add, Int.cast_ofNat_Int, Int.natCast_zero, Int.natCast_one, Int.reduceLT, Int.reduceLE, Int.reduceEq, Int.reduceAdd, Int.reduceSub, Int.reduceNeg, decide_true, decide_false, if_true, if_false, Bool.false_eq_true, eq_self, reduceIte, Bool.true_eq_false, decide_eq_true_eq, Bool.not_true, Bool.not_false, Bool.not_eq_true', decide_eq_false_iff_not, exists_eq_left', exists_eq_left, D.bl.injEq, true_and, and_true, not_true_eq_false, not_false_eq_true])
local macro_rules | `(tactic| walk_at "len") => `(tactic| (intro ds O R RE h; first | (obtain ⟨e, _⟩ := h; subst e; rfl) | (obtain ⟨_, e, _⟩ := h; subst e; rfl) | (obtain ⟨_, _, e, _⟩ := h; subst e; rfl) | (obtain ⟨_, _, _, e, _⟩ := h; subst e; rfl) | (obtain ⟨_, _, _, _, e, _⟩ := h; subst e; rfl) | (obtain ⟨_, _, _, _, _, e, _⟩ := h; subst e; rfl) | (obtain ⟨_, _, _, _, _, _, e, _⟩ := h; subst e; rfl) | (obtain ⟨_, _, _, _, _, _, _, e, _⟩ := h; subst e; rfl) | (obtain ⟨_, _, _, _, _, _, _, _, e, _⟩ := h; subst e; rfl) | (obtain ⟨_, _, _, _, _, _, _, _, _, e, _⟩ := h; subst e; rfl)))
local macro_rules | `(tactic| walk_at "kf1") => `(tactic| simp (config := { failIfUnchanged := false }) only [startD, ap_fiEnumT, asT1_t, ap_fKGet, asStr_s, ap_fKIn, ap_fKIx, ap_gAsgL, rUnl_l, ap_fiRng3, asR3_i, rSplitO_s, ap_fOrL, rOrL_l, ap_fLcK, ap_gForK, ap_fMaxD, rMaxD_l, rMaxL_l, ap_fCallXD, ap_gForE, asLE_l, ap_fFrz, ap_fDicO, ap_fDGet, ap_fDGet1, ap_fDGet2, ap_gDPut, ap_fIsiT, ap_gForR, rRep_l, isT_i, isT_s, isT_b, isT_n, isT_t, isT_l, ap_gIf, ap_gRet, ap_gNext, ap_gSet, ap_gAsg, ap_gPar, ap_gDrop, ap_gRetF, ap_gRetN, ap_gFor, ap_gSetIx, ap_gBreak, ap_fRev, ap_fiRevR, asIR_i, rRev_l, ap_fCallX, ap_gRaise, ap_gTry, ap_gTryAs, ap_gNever, ap_fEdic, ap_fTest, ap_fOp, ap_fVar, envGet_s, patGet_s, ap_fC, ap_fCB, ap_fCons, ap_fNil, ap_fCall, ap_fAnd, ap_fOr, ap_fNot, ap_fAndV, ap_fOrV, ap_fNotV, ap_fIf, ap_fTup, ap_fLst, ap_fLstO, ap_fChain, ap_fUn, ap_fBM, ap_fBM0, ap_fPool, rPool_i, ap_fSl, ap_fPart, ap_fNoPart, asI_i, rSl_l, ap_fiRng1, ap_fiRng2, ap_fiList, ap_fiTup, ap_fiStr, ap_fiEnum, ap_fiZip, ap_fiRev, asL_l, asT_t, asSg_s, asR1_i, asR2_i, asL1_l, asL2_l, ap_fLc, ap_fLcO, ap_fYes, wipeD, lcD, isi_i_int, isi_i_bool, isi_i_str, isi_i_tuple, isi_i_list, isi_i_dict, isi_b_int, isi_b_bool, isi_b_str, isi_b_tuple, isi_b_list, isi_b_dict, isi_s_int, isi_s_bool, isi_s_str, isi_s_tuple, isi_s_list, isi_s_dict, isi_t_int, isi_t_bool, isi_t_str, isi_t_tuple, isi_t_list, isi_t_dict, isi_l_int, isi_l_bool, isi_l_str, isi_l_tuple, isi_l_list, isi_l_dict, isi_n_int, isi_n_bool, isi_n_str, isi_n_tuple, isi_n_list, isi_n_dict, isi_d_int, isi_d_bool, isi_d_str, isi_d_tuple, isi_d_list, isi_d_dict,
  deref_tup, deref_lst, deref_int, deref_str, deref_bl, deref_non, deref_scr, rLt_i, rLt_s, rLe_i, rLe_s, rInts_i, rInts0_i, rAdd_i, rAdd_s, rAdd_l, rAdd_t, rCatO_l, rNeg_i, rLen_t, rLen_l, rLen_c, rLen_s, rMax_i, rMin_i, rInt_i, rInt_b, rDivmod_i, ap_gAug, rStr_i, rList_l, rList_t, rListO_l, rListO_t, rTup_l, rTup_t,
  rIx_t0, rIx_t1, rIx_t2, rIx_t3, rIx_l0, rIx_l1, rIx_l2, rIsN_x, isNon_t, isNon_n, isNon_i, isNon_s, isNon_l, rEq_i, rEq_b, rEq_i2, rEq_b2, rJoin_m, rSplit_s, tyOk_l, tyOk_s, patD_nm, patD_tp, patDs_nil, patDs_cons, Option.bind_some, notX, notX',
  List.map_cons, List.map_nil, List.length_cons, List.length_nil, List.cons_append, List.nil_append, List.append_nil, List.replicate, List.getElem?_cons_zero, List.getElem?_cons_succ, List.set_cons_zero, List.set_cons_succ, updO_same, updO_updO,
  Nat.reduceSub, Nat.reduceAdd, Nat.reduceLeDiff, Nat.zero_add, Int.cast_ofNat_Int, Int.natCast_zero, Int.natCast_one, Int.reduceLT, Int.reduceLE, Int.reduceEq, Int.reduceAdd, Int.reduceSub, Int.reduceNeg, decide_true, decide_false, if_true, if_false, Bool.false_eq_true, eq_self, reduceIte, Bool.true_eq_false, decide_eq_true_eq, Bool.not_true, Bool.not_false, Bool.not_eq_true', decide_eq_false_iff_not, exists_eq_left', exists_eq_left, D.bl.injEq, true_and, and_true, not_true_eq_false, not_false_eq_true])
section
variable {P : Program} {w : World} {K : PySem.W.Frag} {mg : Str → Option Value} {base : Heap}
local macro_rules | `(tactic| walk_at "tg") => `(tactic| simp (config := { failIfUnchanged := false }) only [te_name_take, te_name_give, te_name_pair, te_name_first, te_name_second, te_name_to, te_name_both, te_name_one, te_name_mark, te_name_name, te_name_thing, te_name_at, te_thing_take, te_thing_give, te_thing_pair, te_thing_first, te_thing_second, te_thing_to, te_thing_both, te_thing_one, te_thing_mark, te_thing_name, te_thing_thing, te_thing_at, te_take_take, te_take_give, te_take_pair, te_take_first, te_take_second, te_take_to, te_take_both, te_take_one, te_take_mark, te_take_name, te_take_thing, te_take_at, te_give_take, te_give_give, te_give_pair, te_give_first, te_give_second, te_give_to, te_give_both, te_give_one, te_give_mark, te_give_name, te_give_thing, te_give_at, te_pair_take, te_pair_give, te_pair_pair, te_pair_first, te_pair_second, te_pair_to, te_pair_both, te_pair_one, te_pair_mark, te_pair_name, te_pair_thing, te_pair_at, te_first_take, te_first_give, te_first_pair, te_first_first, te_first_second, te_first_to, te_first_both, te_first_one, te_first_mark, te_first_name, te_first_thing, te_first_at, te_second_take, te_second_give, te_second_pair, te_second_first, te_second_second, te_second_to, te_second_both, te_second_one, te_second_mark, te_second_name, te_second_thing, te_second_at, te_mark_take, te_mark_give, te_mark_pair, te_mark_first, te_mark_second, te_mark_to, te_mark_both, te_mark_one, te_mark_mark, te_mark_name, te_mark_thing, te_mark_at, te_one_take, te_one_give, te_one_pair, te_one_first, te_one_second, te_one_to, te_one_both, te_one_one, te_one_mark, te_one_name, te_one_thing, te_one_at, te_to_take, te_to_give, te_to_pair, te_to_first, te_to_second, te_to_to, te_to_both, te_to_one, te_to_mark, te_to_name, te_to_thing, te_to_at, te_both_take, te_both_give, te_both_pair, te_both_first, te_both_second, te_both_to, te_both_both, te_both_one, te_both_mark, te_both_name, te_both_thing, te_both_at, te_at_take, te_at_give, te_at_pair, te_at_first, te_at_second, te_at_to, te_at_both, te_at_one, te_at_mark, te_at_name, te_at_thing, te_at_at, ti4_name, ti4_thing, ti4_take, ti4_give, ti4_pair, ti4_first, ti4_second, ti2_name, ti2_thing, ti2_take, ti2_give, ti2_pair, ti2_first, ti2_second, szT_0, szT_1, szT_2, szT_3, szT_4, szT_5, szT_6, szT_7, szT_8, szT_9, szT_10, szT_11, szT_12, Bool.not_true, Bool.not_false, true_and])
theorem ok_pool {a : Addr} {fd : FuncData} {k : Nat} (N : Fn K mg "_law_pool" s__law_pool P__law_pool a fd) (m_len : mg "len" = none) : FnOk P w K mg base CX0 (k + 1) a fd P__law_pool (liftSp K spPool) := by
  refine fn_d (g := g__law_pool) N.F sc__law_pool (fun ds O R RE ⟨ns, k, e, _⟩ => by rw [e]; rfl) (der__law_pool m_len) ?_
  rintro ds O R RE ⟨ns, k, rfl, h0, h1, hR⟩
  unfold g__law_pool
  walk_at "kf"
  have c1 : CMul 104729 k := Or.inl ⟨by decide, by decide⟩
  have c2 : CMul (104729 * k) k := Or.inr ⟨by omega, by omega⟩
  have c3 : CPow 10 18 := ⟨by decide, by decide, by decide⟩
  have e18 : (10 : Int) ^ Int.toNat 18 = 1000000000000000000 := by decide
  split
  · obtain ⟨n, e1, _⟩ := atI_some (xs := ns) h0 (by assumption)
    simp only [rIx_c e1]
    walk_at "kf"
    refine ⟨c1, c2, poolNum n h0 h1, c3, ?_⟩
    rw [e18]
    split
    · exact ⟨(poolMod _).1, (poolMod _).2, hR⟩
    · exact ⟨by omega, (poolMod _).1, (poolMod _).2, hR⟩
  · refine ⟨c1, c2, poolNum 0 h0 h1, c3, (poolMod _).1, (poolMod _).2, hR⟩
theorem ok_take {a : Addr} {fd : FuncData} {k : Nat} (N : Fn K mg "_law_take" s__law_take P__law_take a fd) : FnOk P w K mg base CX0 (k + 1) a fd P__law_take (liftSp K spTake) := by
  refine fn_d (g := g__law_take) N.F sc__law_take (fun ds O R RE ⟨ns, k, e, _⟩ => by rw [e]; rfl) der__law_take ?_
  rintro ds O R RE ⟨p, m, rfl, hp, h0, h1, hR⟩
  unfold g__law_take
  walk_at "kf"
  simp only [rIx_p0 hp, rIx_p1 hp]
  intro x hx
  walk_at "kf"
  split
  · simp only [rIx_p0 hp]
    intro y hy
    walk_at "kf"
    refine ⟨h0, ?_⟩
    simp only [rIx_p0 hp]
    intro z hz
    walk_at "kf"
    refine ⟨⟨h0, h1⟩, ?_⟩
    simp only [rSet_p0 hp]
    exact ⟨Int.ediv_nonneg hz (by omega), hR _ (Int.emod_nonneg _ (by omega)) (Int.emod_lt_of_pos _ h0)⟩
  · simp only [rIx_p1 hp]
    intro y hy hy2
    walk_at "kf"
    refine ⟨Or.inr ⟨by decide, by decide⟩, ?_⟩
    simp only [rSet_p1 hp]
    refine ⟨poolMod _, ?_⟩
    walk_at "kf"
    simp only [rIx_p1 hp]
    intro z hz hz2
    intro u hu hu2
    walk_at "kf"
    exact ⟨Or.inl ⟨by omega, by omega⟩, ⟨by decide, by decide⟩, h0, hR _ (Int.emod_nonneg _ (by omega)) (Int.emod_lt_of_pos _ h0)⟩
/-- the law's own kinds: three words -/
def spLKind (n : Nat) : DSp := fun ds O R _ => ∃ (p : Addr) (l : Nat) (ms : List Str), ds = [.ref p, .int l, .lst (ms.map .str)] ∧ O p = some .pool ∧ 1 ≤ l ∧ l ≤ n ∧ l ≤ 1000 ∧ 1 ≤ ms.length ∧ ms.length ≤ 1000 ∧ ∀ k : Kd, k.leaves = l → k.over ms → R (dK k) O
theorem ok_lkind (T : Tx K mg) : ∀ n, FO__law_kind P w base T (n + 1) (spLKind n)
  | 0 => fnUp (none_left fun ds O R RE ⟨p, l, ms, _, _, h1, h2, _⟩ => by omega) (Nat.zero_le _)
  | n + 1 => by
    refine fnd__law_kind T (ok_take T.n__law_take) (ok_lkind T n) (by walk_at "len") ?_
    rintro ds O R RE ⟨p, l, ms, rfl, hp, h1, hn, h1000, hm1, hm2, hR⟩
    unfold g__law_kind
    walk_at "kf"
    by_cases hl : l = 1
    · subst hl
      walk_at "kf"
      refine take_of hp (by decide) (by decide) fun r hr0 hr1 => ?_
      walk_at "kf"
      split
      · exact ⟨sz_small (by decide), hR .one rfl trivial⟩
      · rw [List.length_map]
        refine take_of hp (by omega) (by omega) fun r hr0 hr1 => ?_
        obtain ⟨v, e1, e2⟩ := atI_some (xs := ms) hr0 hr1
        rw [rIx_l (by rw [atI_map, e1]; rfl)]
        exact ⟨sz_small (by decide), hR (.mk v) rfl e2⟩
    · rw [if_neg (by omega)]
      refine take_of hp (by omega) (by omega) fun r hr0 hr1 => ?_
      walk_at "kf"
      obtain ⟨f, hf⟩ : ∃ f : Nat, 1 + r = (f : Int) := ⟨(1 + r).toNat, by omega⟩
      rw [hf]
      refine ⟨sz_small (by decide), ?_⟩
      refine take_of hp (by decide) (by decide) fun r hr0 hr1 => ?_
      have h3 : r = 0 ∨ r = 1 ∨ r = 2 := by omega
      have fin : ∀ z : Str, (∀ k1 k2 : Kd, k1.leaves + k2.leaves = l → k1.over ms → k2.over ms → R (.tup [.str z, dK k1, dK k2]) O) →
          spLKind n [.ref p, .int f, .lst (ms.map .str)] O (fun x O1 => spLKind n [.ref p, .int ((l : Int) - f), .lst (ms.map .str)] O1 (fun x_1 O1 => 3 ≤ sizeLine ∧ R (.tup [.str z, x, x_1]) O1) X0) X0 := by
        intro z hz
        refine ⟨p, f, ms, rfl, hp, by omega, by omega, by omega, hm1, hm2, fun k1 hk1 ho1 => ?_⟩
        dsimp only
        rw [show (l : Int) - (f : Int) = ((l - f : Nat) : Int) by omega]
        refine ⟨p, l - f, ms, rfl, hp, by omega, by omega, by omega, hm1, hm2, fun k2 hk2 ho2 => ?_⟩
        exact ⟨sz_small (by decide), hz k1 k2 (by omega) ho1 ho2⟩
      have hto := fin "to" fun k1 k2 h o1 o2 => hR (.to k1 k2) (by simp only [Kd.leaves]; omega) ⟨o1, o2⟩
      have hbo := fin "both" fun k1 k2 h o1 o2 => hR (.both k1 k2) (by simp only [Kd.leaves]; omega) ⟨o1, o2⟩
      rcases h3 with rfl | rfl | rfl <;> walk_at "kf" <;> first | exact hto | exact hbo
def dWy (w : List Mv × Str) : D := .tup [.lst (w.1.map dMv), .str w.2]
theorem wys_len : ∀ k : Kd, (wys k).length ≤ k.leaves
  | .one => Nat.zero_le _
  | .mk _ => Nat.le_refl _
  | .to a b => by have := wys_len b; simp only [wys, List.length_map, Kd.leaves]; omega
  | .both a b => by have := wys_len a; have := wys_len b; simp only [wys, List.length_append, List.length_map, Kd.leaves]; omega
theorem wys_mvl : ∀ (k : Kd), ∀ w ∈ wys k, w.1.length ≤ k.depth
  | .one, w, h => by cases h
  | .mk m, w, h => by simp only [wys, List.mem_singleton] at h; subst h; exact Nat.zero_le _
  | .to a b, w, h => by
    simp only [wys, List.mem_map] at h
    obtain ⟨w', h1, rfl⟩ := h
    have := wys_mvl b w' h1
    simp only [List.length_cons, Kd.depth]; omega
  | .both a b, w, h => by
    simp only [wys, List.mem_append, List.mem_map] at h
    rcases h with ⟨w', h1, rfl⟩ | ⟨w', h1, rfl⟩
    · have := wys_mvl a w' h1
      simp only [List.length_cons, Kd.depth]; omega
    · have := wys_mvl b w' h1
      simp only [List.length_cons, Kd.depth]; omega
def spWys (n : Nat) : DSp := fun ds O R _ => ∃ k : Kd, ds = [dK k] ∧ k.depth < n ∧ k.depth ≤ 100 ∧ k.leaves ≤ 200 ∧ k.ok = true ∧ R (.lst ((wys k).map dWy)) O
theorem ok_lways (T : Tx K mg) : ∀ n, FO__law_ways P w base T (n + 1) (spWys n)
  | 0 => fnUp (none_left fun ds O R RE ⟨k, _, h, _⟩ => by omega) (Nat.zero_le _)
  | n + 1 => by
    refine fnd__law_ways T (ok_lways T n) (by walk_at "len") ?_
    rintro ds O R RE ⟨k, rfl, hd, h100, hl, ho, hR⟩
    unfold g__law_ways
    cases k with
    | one => simp only [dK]; walk_at "kf"; exact ⟨sz_small (by decide), hR⟩
    | mk m =>
      simp only [dK]
      walk_at "kf"
      exact ⟨sz_small (by decide), sz_small (by decide), sz_small (by decide), hR⟩
    | to a b =>
      simp only [Kd.depth] at hd h100
      simp only [Kd.leaves] at hl
      simp only [Kd.ok, Bool.and_eq_true] at ho
      have hbl := wys_len b
      simp only [dK]
      walk_at "kf"
      walk_at "tg"
      walk_at "kf"
      walk_at "tg"
      walk_at "kf"
      refine ⟨b, rfl, by omega, by omega, by omega, ho.2, ?_⟩
      walk_at "kf"
      refine lcA_map dWy (fun e => dWy (Mv.k a :: e.1, e.2)) (wys b) _ _ (sz_small (by simp only [List.length_nil]; omega)) ?_ ?_
      · intro e he Q' hQ
        have := wys_mvl b e he
        simp only [dWy]
        walk_at "kf"
        exact ⟨sz_small (by decide), sz_small (by simp only [List.length_map, List.length_singleton]; omega), sz_small (by decide), hQ⟩
      · rw [List.nil_append]
        rw [wys, List.map_map] at hR
        exact hR
    | both a b =>
      simp only [Kd.depth] at hd h100
      simp only [Kd.leaves] at hl
      simp only [Kd.ok, Bool.and_eq_true] at ho
      have hal := wys_len a
      have hbl := wys_len b
      simp only [dK]
      walk_at "kf"
      walk_at "tg"
      walk_at "kf"
      walk_at "tg"
      walk_at "kf"
      refine ⟨a, rfl, by omega, by omega, by omega, ho.1, ?_⟩
      walk_at "kf"
      refine lcA_map dWy (fun e => dWy (Mv.one :: e.1, e.2)) (wys a) _ _ (sz_small (by simp only [List.length_nil]; omega)) ?_ ?_
      · intro e he Q' hQ
        have := wys_mvl a e he
        simp only [dWy]
        walk_at "kf"
        exact ⟨sz_small (by decide), sz_small (by simp only [List.length_map, List.length_singleton]; omega), sz_small (by decide), hQ⟩
      · rw [List.nil_append]
        walk_at "kf"
        refine ⟨b, rfl, by omega, by omega, by omega, ho.2, ?_⟩
        walk_at "kf"
        refine lcA_map dWy (fun e => dWy (Mv.two :: e.1, e.2)) (wys b) _ _ (sz_small (by simp only [List.length_nil]; omega)) ?_ ?_
        · intro e he Q' hQ
          have := wys_mvl b e he
          simp only [dWy]
          walk_at "kf"
          exact ⟨sz_small (by decide), sz_small (by simp only [List.length_map, List.length_singleton]; omega), sz_small (by decide), hQ⟩
        · rw [List.nil_append]
          walk_at "kf"
          rw [List.length_map, List.length_map]
          refine ⟨sz_small (by omega), ?_⟩
          rw [wys, List.map_append, List.map_map, List.map_map] at hR
          exact hR
end
end Kf
namespace Kf
open PySem PySem.Spec L2
open PyProof.Rows hiding St
/-! ### words -/
abbrev fig : Str := "0123456789"
theorem strOk_iff (z : Str) : PyData.strOk z = true ↔ ∀ c ∈ z.cps.toList, c < 1114112 := by
  unfold PyData.strOk
  rw [Array.all_eq_true_iff_forall_mem]
  simp
theorem len_tl (z : Str) : z.cps.toList.length = z.length := by simp [Str.length]
theorem tl_app (a b : Str) : (a ++ b).cps.toList = a.cps.toList ++ b.cps.toList := by
  show (a.cps ++ b.cps).toList = _
  simp
theorem tl_cutS (z : Str) (lo hi : Option Int) : (cutS z lo hi).cps.toList = cut z.cps.toList lo hi := by
  unfold cutS cut
  rw [len_tl]
theorem ok_cut {a : Str} (ha : PyData.strOk a = true) (lo hi : Option Int) : PyData.strOk (cutS a lo hi) = true := by
  rw [strOk_iff] at *
  intro c hc
  rw [tl_cutS] at hc
  exact ha c (List.mem_of_mem_drop (List.mem_of_mem_take hc))
theorem len_cut (a : Str) (lo hi : Option Int) : (cutS a lo hi).length ≤ a.length := cutS_length a lo hi
theorem ok_one {c : Nat} (h : c < 1114112) : PyData.strOk ⟨#[c]⟩ = true := by
  rw [strOk_iff]; intro d hd; simp at hd; omega
/-! ### marks, numbers, names -/
def letB (c : Nat) : Bool := decide (c ∈ abc.cps.toList)
def figB (c : Nat) : Bool := decide (c ∈ fig.cps.toList)
def isMarkB (z : Str) : Bool := z.cps.toList.all letB && (decide (1 ≤ z.length) && decide (z.length ≤ 6))
def isNumB (z : Str) : Bool := z.cps.toList.all figB && (decide (z.cps.toList = [48]) || (!decide (z.cps.toList = []) && !decide (z.cps.toList.head? = some 48)))
def isNameB (z : Str) : Bool := isMarkB z || (decide (cut z.cps.toList none (some 1) = [120]) && (decide (z.length ≤ 3) && isNumB (cutS z (some 1) none)))
def spIsMark : DSp := fun ds O R _ => ∃ z : Str, ds = [.str z] ∧ z.length ≤ 1000 ∧ R (.bl (isMarkB z)) O
def spIsNum : DSp := fun ds O R _ => ∃ z : Str, ds = [.str z] ∧ z.length ≤ 1000 ∧ PyData.strOk z = true ∧ R (.bl (isNumB z)) O
def spIsName : DSp := fun ds O R _ => ∃ z : Str, ds = [.str z] ∧ z.length ≤ 1000 ∧ PyData.strOk z = true ∧ R (.bl (isNameB z)) O
/-- a walk that goes on as long as the signs are of a text -/
theorem for_in {j : Nat} {alph : Str} {R : DEnds} {ρ : DEnv} {O : Ow} (hj : j < ρ.length) : ∀ (cs : List Nat) (x : Option D),
    (cs.all (fun c => decide (c ∈ alph.cps.toList)) = true → ∀ x, R.nx (ρ.set j x) O) → (cs.all (fun c => decide (c ∈ alph.cps.toList)) = false → R.rt (.bl false) O) →
    forD (.nm j) (gIf (fTest (fOp (rInD true) (fVar j) (fC (.str alph)))) (gRet (fC (.bl false))) gNext) R (cs.map fun c => .str ⟨#[c]⟩) (ρ.set j x) O
  | [], x, h, _ => h rfl x
  | c :: cs, x, h, h' => by
    rw [List.map_cons]
    unfold forD
    rw [patD_nm, patGet_s, List.set_set]
    simp only [gIf, fTest, fOp, fVar, fC, List.getElem?_set_self hj, envGet_s]
    refine ⟨c, rfl, _, rfl, ?_⟩
    rw [List.all_cons] at h h'
    by_cases hc : c ∈ alph.cps.toList
    · simp only [hc, decide_true, notX, Bool.not_true, gNext, Bool.true_and] at h h' ⊢
      rw [if_neg Bool.false_ne_true]
      exact for_in hj cs _ h h'
    · simp only [hc, decide_false, notX, Bool.not_false, gRet, fC, Bool.false_and] at h h' ⊢
      rw [if_pos trivial]
      exact h' trivial
theorem so_x : PyData.strOk "x" = true := by decide +kernel
theorem so_0 : PyData.strOk "0" = true := by decide +kernel
theorem so_e : PyData.strOk "" = true := by decide +kernel
theorem tl_x : (Str.ofString "x").cps.toList = [120] := by decide +kernel
theorem tl_0 : (Str.ofString "0").cps.toList = [48] := by decide +kernel
theorem tl_e : (Str.ofString "").cps.toList = [] := by decide +kernel
theorem str_eq (a b : Str) : decide (a = b) = decide (a.cps.toList = b.cps.toList) := by
  by_cases h : a = b
  · subst h; simp
  · rw [decide_eq_false h, decide_eq_false fun e => h (str_ext e)]
end Kf
namespace Kf
open PySem PySem.Spec L2
open PyProof.Rows hiding St
/-! ### things that may be kinds -/
def isPlain : D → Bool
  | .ref _ => false
  | .ty _ => false
  | .scr _ => false
  | _ => true
def strB : D → Bool
  | .str s => isMarkB s
  | _ => false
def hf : Nat → D → Bool
  | 0, _ => false
  | _ + 1, .tup [x] => deq x (.str "one")
  | _ + 1, .tup [x, y] => deq x (.str "mark") && strB y
  | n + 1, .tup [x, y, z] => (deq x (.str "to") || deq x (.str "both")) && (hf n y && hf n z)
  | _, _ => false
def HdOk (x : D) : Prop := isPy x = true ∧ dp x ≤ 64
def StOk (y : D) : Prop := isPlain y = true ∧ ∀ s, y = .str s → s.length ≤ 1000 ∧ PyData.strOk s = true
def ThOk : Nat → D → Prop
  | 0, d => isPlain d = true
  | _ + 1, .tup [x] => HdOk x
  | _ + 1, .tup [x, y] => HdOk x ∧ StOk y
  | n + 1, .tup [x, y, z] => HdOk x ∧ ThOk n y ∧ ThOk n z
  | _ + 1, d => isPlain d = true
def ThAll (d : D) : Prop := ∀ n, ThOk n d
theorem deq_str {x : D} {a : Str} (h : isPy x = true) : deq x (.str a) = true ↔ x = .str a := by
  cases x with
  | str b => rw [deq_s, decide_eq_true_eq]; simp
  | non => simp [deq, toPy, PyData.eqv]
  | bl b => simp [deq, toPy, PyData.eqv]
  | int i => simp [deq, toPy, PyData.eqv]
  | tup ds => simp [deq_ts]
  | lst ds => simp [deq_ls]
  | ref a => simp [isPy] at h
  | ty a => simp [isPy] at h
  | scr a => simp [isPy] at h
  | edic => simp [isPy] at h
/-- what has the form is a kind -/
theorem hf_kind : ∀ (n : Nat) (d : D), ThOk n d → hf n d = true → ∃ k : Kd, d = dK k ∧ k.depth < n ∧ k.ok = true ∧ ∀ m ∈ k.marks, isMarkB m = true := by
  intro n
  induction n with
  | zero => intro d _ h; cases h
  | succ n ih =>
    intro d hd h
    match d, hd, h with
    | .tup [x], hd, h =>
      simp only [hf] at h
      simp only [ThOk] at hd
      rw [(deq_str hd.1).mp h]
      exact ⟨.one, rfl, by simp [Kd.depth], rfl, by simp [Kd.marks]⟩
    | .tup [x, y], hd, h =>
      simp only [hf, Bool.and_eq_true] at h
      simp only [ThOk] at hd
      rw [(deq_str hd.1.1).mp h.1]
      obtain ⟨hd1, hd2, hd3⟩ := hd
      match y, h.2, hd3 with
      | .str s, h2, hd3 => exact ⟨.mk s, rfl, by simp [Kd.depth], (hd3 s rfl).2, by intro m hm; simp [Kd.marks] at hm; subst hm; exact h2⟩
    | .tup [x, y, z], hd, h =>
      simp only [hf, Bool.and_eq_true, Bool.or_eq_true] at h
      simp only [ThOk] at hd
      obtain ⟨k1, rfl, h1, o1, m1⟩ := ih y hd.2.1 h.2.1
      obtain ⟨k2, rfl, h2, o2, m2⟩ := ih z hd.2.2 h.2.2
      rcases h.1 with h3 | h3
      · rw [(deq_str hd.1.1).mp h3]
        exact ⟨.to k1 k2, rfl, by simp only [Kd.depth]; omega, by simp [Kd.ok, o1, o2], by intro m hm; simp [Kd.marks] at hm; exact hm.elim (m1 m) (m2 m)⟩
      · rw [(deq_str hd.1.1).mp h3]
        exact ⟨.both k1 k2, rfl, by simp only [Kd.depth]; omega, by simp [Kd.ok, o1, o2], by intro m hm; simp [Kd.marks] at hm; exact hm.elim (m1 m) (m2 m)⟩
theorem hd_str {s : Str} (h : PyData.strOk s = true) : HdOk (.str s) := ⟨by simp [isPy, h], by rw [dpS]; omega⟩
theorem th_dK : ∀ k : Kd, k.ok = true → (∀ m ∈ k.marks, m.length ≤ 1000) → ThAll (dK k)
  | .mk m, h, hl, n => by
    cases n with
    | zero => rfl
    | succ n => exact ⟨hd_str so_mark, rfl, fun s e => by cases e; exact ⟨hl m (by simp [Kd.marks]), h⟩⟩
  | .one, h, hl, n => by
    cases n with
    | zero => rfl
    | succ n => exact hd_str so_one
  | .to a b, h, hl, n => by
    simp only [Kd.ok, Bool.and_eq_true] at h
    cases n with
    | zero => rfl
    | succ n => exact ⟨hd_str so_to, th_dK a h.1 (fun m hm => hl m (by simp [Kd.marks, hm])) n, th_dK b h.2 (fun m hm => hl m (by simp [Kd.marks, hm])) n⟩
  | .both a b, h, hl, n => by
    simp only [Kd.ok, Bool.and_eq_true] at h
    cases n with
    | zero => rfl
    | succ n => exact ⟨hd_str so_both, th_dK a h.1 (fun m hm => hl m (by simp [Kd.marks, hm])) n, th_dK b h.2 (fun m hm => hl m (by simp [Kd.marks, hm])) n⟩
def spForm (n : Nat) : DSp := fun ds O R _ => ∃ (d : D) (r : Nat), ds = [d, .int ((r : Int) - 1)] ∧ r < n ∧ ThOk r d ∧ R (.bl (hf r d)) O
def spIsKd : DSp := fun ds O R _ => ∃ d : D, ds = [d] ∧ ThOk 13 d ∧ (hf 13 d = false → R (.bl false) O) ∧ ∀ k : Kd, d = dK k → hf 13 d = true → R (.bl (decide (k.leaves ≤ 24))) O
end Kf
/-! Ktx: texts of kinds. -/
namespace Kf
open PySem PySem.Spec L2
open PyProof.Rows hiding St
/-! ### joining and splitting -/
/-! ### kinds by words -/
def Kd.mks (k : Kd) : Prop := ∀ m ∈ k.marks, isMarkB m = true
theorem mark_len {m : Str} (h : isMarkB m = true) : m.length ≤ 6 := by
  unfold isMarkB at h
  simp only [Bool.and_eq_true, decide_eq_true_eq] at h
  exact h.2.2
/-! ### reading -/
def sg (s : Str) : Option (Kd → Kd → Kd) := if s = "->" then some .to else if s = "*" then some .both else none
/-- a leaf's word -/
def lfw (w : Str) : Option Kd := if w = "1" then some .one else if isMarkB w = true then some (.mk w) else none
def kp : Nat → List Str → Option (Kd × List Str)
  | _, [] => none
  | 0, w :: r => (lfw w).map fun k => (k, r)
  | n + 1, w :: r => match lfw w with
    | some k => some (k, r)
    | none => if w = "(" then match kp n r with
        | some (a, s :: r2) => match sg s with
          | some f => match kp n r2 with
            | some (b, c :: r3) => if c = ")" then some (f a b, r3) else none
            | _ => none
          | none => none
        | _ => none
      else none
theorem hf_of : ∀ (k : Kd) (n : Nat), k.mks → k.depth < n → hf n (dK k) = true
  | .mk m, n, h, hd => by
    cases n with
    | zero => omega
    | succ n => simp only [dK, hf, deq_s, decide_true, strB, h m (by simp [Kd.marks]), Bool.and_self]
  | .one, n, h, hd => by
    cases n with
    | zero => omega
    | succ n => simp only [dK, hf, deq_s, decide_true]
  | .to a b, n, h, hd => by
    cases n with
    | zero => omega
    | succ n =>
      simp only [Kd.depth] at hd
      simp only [dK, hf, deq_s, decide_true, Bool.true_or, Bool.true_and, hf_of a n (fun m hm => h m (by simp [Kd.marks, hm])) (by omega), hf_of b n (fun m hm => h m (by simp [Kd.marks, hm])) (by omega), Bool.and_self]
  | .both a b, n, h, hd => by
    cases n with
    | zero => omega
    | succ n =>
      simp only [Kd.depth] at hd
      simp only [dK, hf, deq_s, decide_true, Bool.or_true, Bool.true_and, hf_of a n (fun m hm => h m (by simp [Kd.marks, hm])) (by omega), hf_of b n (fun m hm => h m (by simp [Kd.marks, hm])) (by omega), Bool.and_self]
theorem mark_so {m : Str} (h : isMarkB m = true) : PyData.strOk m = true := by
  rw [strOk_iff]
  unfold isMarkB at h
  simp only [Bool.and_eq_true, List.all_eq_true] at h
  intro c hc
  have h1 := h.1 c hc
  unfold letB at h1
  have h2 : ∀ c ∈ abc.cps.toList, c < 1114112 := by decide +kernel
  exact h2 c (of_decide_eq_true h1)
theorem mks_ok : ∀ k : Kd, k.mks → k.ok = true
  | .mk m, h => mark_so (h m (by simp [Kd.marks]))
  | .one, _ => rfl
  | .to a b, h => by simp only [Kd.ok, mks_ok a fun m hm => h m (by simp [Kd.marks, hm]), mks_ok b fun m hm => h m (by simp [Kd.marks, hm]), Bool.and_self]
  | .both a b, h => by simp only [Kd.ok, mks_ok a fun m hm => h m (by simp [Kd.marks, hm]), mks_ok b fun m hm => h m (by simp [Kd.marks, hm]), Bool.and_self]
theorem mks_th {k : Kd} (h : k.mks) : ThAll (dK k) := th_dK k (mks_ok k h) fun m hm => by have := mark_len (h m hm); omega
end Kf
/-! Kpp: texts of programs. -/
namespace Kf
open PySem PySem.Spec L2
open PyProof.Rows hiding St
/-- programs, gaps too -/
inductive Pq where
  | nm (x : Str) | thing | gap (k : Kd) | take (x : Str) (k : Kd) (b : Pq) | give (f a : Pq) | pair (a b : Pq) | first (p : Pq) | second (p : Pq)
  deriving DecidableEq, Inhabited
def dQ : Pq → D
  | .nm x => .tup [.str "name", .str x]
  | .thing => .tup [.str "thing"]
  | .gap k => .tup [.str "gap", dK k]
  | .take x k b => .tup [.str "take", .str x, dK k, dQ b]
  | .give f a => .tup [.str "give", dQ f, dQ a]
  | .pair a b => .tup [.str "pair", dQ a, dQ b]
  | .first p => .tup [.str "first", dQ p]
  | .second p => .tup [.str "second", dQ p]
def Pg.q : Pg → Pq
  | .nm x => .nm x
  | .thing => .thing
  | .take x k b => .take x k b.q
  | .give f a => .give f.q a.q
  | .pair f a => .pair f.q a.q
  | .first p => .first p.q
  | .second p => .second p.q
theorem dQ_q : ∀ p : Pg, dQ p.q = dP p
  | .nm _ => rfl
  | .thing => rfl
  | .take x k b => by simp only [Pg.q, dQ, dP, dQ_q b]
  | .give f a => by simp only [Pg.q, dQ, dP, dQ_q f, dQ_q a]
  | .pair f a => by simp only [Pg.q, dQ, dP, dQ_q f, dQ_q a]
  | .first p => by simp only [Pg.q, dQ, dP, dQ_q p]
  | .second p => by simp only [Pg.q, dQ, dP, dQ_q p]
def Pq.ins : Pq → List Pq
  | .take _ _ b => [b]
  | .give f a => [f, a]
  | .pair a b => [a, b]
  | .first p => [p]
  | .second p => [p]
  | _ => []
def Pq.hgt : Pq → Nat
  | .take _ _ b => b.hgt + 1
  | .give f a => max f.hgt a.hgt + 1
  | .pair a b => max a.hgt b.hgt + 1
  | .first p => p.hgt + 1
  | .second p => p.hgt + 1
  | _ => 0
def Pq.sz : Pq → Nat
  | .take _ _ b => b.sz + 1
  | .give f a => f.sz + a.sz + 1
  | .pair a b => a.sz + b.sz + 1
  | .first p => p.sz + 1
  | .second p => p.sz + 1
  | _ => 1
/-- a kind as is_kind lets by -/
def Kd.kk (k : Kd) : Prop := k.mks ∧ k.depth ≤ 12 ∧ k.leaves ≤ 24
/-- names and kinds are such -/
def Pq.qk : Pq → Prop
  | .nm x => isNameB x = true
  | .thing => True
  | .gap k => k.kk
  | .take x k b => isNameB x = true ∧ k.kk ∧ b.qk
  | .give f a => f.qk ∧ a.qk
  | .pair f a => f.qk ∧ a.qk
  | .first p => p.qk
  | .second p => p.qk
def Pq.hasGap : Pq → Bool
  | .gap _ => true
  | .take _ _ b => b.hasGap
  | .give f a => f.hasGap || a.hasGap
  | .pair f a => f.hasGap || a.hasGap
  | .first p => p.hasGap
  | .second p => p.hasGap
  | _ => false
/-! ### words -/
/-! ### names are words -/
theorem num_sp {z : Str} (h : isNumB z = true) : ∀ c ∈ z.cps.toList, c ∈ fig.cps.toList := by
  unfold isNumB at h
  simp only [Bool.and_eq_true, List.all_eq_true] at h
  exact fun c hc => of_decide_eq_true (h.1 c hc)
theorem name_cs {z : Str} (h : isNameB z = true) : ∀ c ∈ z.cps.toList, c ∈ abc.cps.toList ∨ c ∈ fig.cps.toList := by
  unfold isNameB at h
  rw [Bool.or_eq_true] at h
  rcases h with h | h
  · unfold isMarkB at h
    simp only [Bool.and_eq_true, List.all_eq_true] at h
    exact fun c hc => .inl (of_decide_eq_true (h.1 c hc))
  · simp only [Bool.and_eq_true, decide_eq_true_eq] at h
    intro c hc
    have h1 := h.1
    have h2 := num_sp h.2.2
    rw [tl_cutS] at h2
    have e : z.cps.toList = cut z.cps.toList none (some 1) ++ cut z.cps.toList (some 1) none := by
      cases hz : z.cps.toList with
      | nil => simp [cut, HT.sIx]
      | cons a l => simp [cut, HT.sIx]
    rw [e, h1] at hc
    rcases List.mem_append.mp hc with hc | hc
    · left
      rw [List.mem_singleton.mp hc]
      decide +kernel
    · exact .inr (h2 c hc)
theorem name_len {z : Str} (h : isNameB z = true) : z.length ≤ 6 := by
  unfold isNameB at h
  rw [Bool.or_eq_true] at h
  rcases h with h | h
  · exact mark_len h
  · simp only [Bool.and_eq_true, decide_eq_true_eq] at h
    omega
theorem name_so {z : Str} (h : isNameB z = true) : PyData.strOk z = true := by
  rw [strOk_iff]
  intro c hc
  have h2 : ∀ c ∈ abc.cps.toList, c < 1114112 := by decide +kernel
  have h3 : ∀ c ∈ fig.cps.toList, c < 1114112 := by decide +kernel
  rcases name_cs h c hc with h | h
  · exact h2 c h
  · exact h3 c h
/-- words are well made and short -/
def wOk (w : Str) : Prop := PyData.strOk w = true ∧ w.length ≤ 1000
theorem name_w {x : Str} (h : isNameB x = true) : wOk x := ⟨name_so h, by have := name_len h; omega⟩
/-! ### reading -/
/-- halves behind a program -/
def hlv : Pq → List Str → Pq × List Str
  | q, [] => (q, [])
  | q, w :: r => if w = Str.ofString ".1" then hlv (.first q) r else if w = Str.ofString ".2" then hlv (.second q) r else (q, w :: r)
/-- a kind within a program's text -/
def kpk (l : List Str) : Option (Kd × List Str) := match kp 12 l with
  | some (k, r) => if k.leaves ≤ 24 then some (k, r) else none
  | none => none
abbrev Rd := List Str → Option (Pq × List Str)
def gapF (l : List Str) : Option (Pq × List Str) := match kpk l with
  | some (k, c :: r) => if c = Str.ofString "]" then some (.gap k, r) else none
  | _ => none
def aft (am : Str) (r : List Str) : Option (List Str) := if am = Str.ofString "" then some r else match r with
  | c :: r1 => if c = am then some r1 else none
  | [] => none
def twoF (pf : Rd) (con : Pq → Pq → Pq) (am en : Str) (l : List Str) : Option (Pq × List Str) := match pf l with
  | some (a, r) => match aft am r with
    | some r1 => match pf r1 with
      | some (b, c :: r2) => if c = en then some (con a b, r2) else none
      | _ => none
    | none => none
  | none => none
/-- behind the colon -/
def takeF (pf : Rd) (x : Str) (l : List Str) : Option (Pq × List Str) := match kpk l with
  | some (k, c :: r2) => if c = Str.ofString "=>" then match pf r2 with
      | some (b, d :: r3) => if d = Str.ofString ")" then some (.take x k b, r3) else none
      | _ => none
    else none
  | _ => none
def tkh : List Str → Bool
  | x :: c :: _ => isNameB x && decide (c = Str.ofString ":")
  | _ => false
def hlo (x : Option (Pq × List Str)) : Option (Pq × List Str) := x.map fun y => hlv y.1 y.2
def opF (pf : Rd) (l : List Str) : Option (Pq × List Str) := if tkh l then takeF pf (l.headD (Str.ofString "")) (l.drop 2) else twoF pf .give (Str.ofString "") (Str.ofString ")") l
def bgF (pf : Rd) : List Str → Option (Pq × List Str)
  | [] => none
  | w :: r => if w = Str.ofString "#" then some (.thing, r) else if isNameB w = true then some (.nm w, r) else if w = Str.ofString "[" then gapF r
    else if w = Str.ofString "{" then twoF pf .pair (Str.ofString ",") (Str.ofString "}") r else if w = Str.ofString "(" then opF pf r else none
def pb : Nat → List Str → Option (Pq × List Str)
  | 0, _ => none
  | n + 1, l => bgF (fun l => hlo (pb n l)) l
def pf (n : Nat) (l : List Str) : Option (Pq × List Str) := hlo (pb n l)
/-! ### a program's words are read -/
/-! ### how many parts are left -/
def hdB (g : Bool) : Pq → Bool
  | .gap _ => g
  | _ => true
def okg (g : Bool) (q : Pq) : Bool := g || !q.hasGap
def plv (g : Bool) (q : Pq) (r l : Int) : Int := if okg g q = true ∧ (q.sz : Int) ≤ l ∧ (q.hgt : Int) ≤ r then l - q.sz else -1
theorem sz_pos : ∀ q : Pq, 0 < q.sz := by intro q; cases q <;> simp [Pq.sz]
theorem plv_two {g : Bool} {a b q : Pq} {r l : Int} (h1 : okg g q = (okg g a && okg g b)) (h2 : q.sz = a.sz + b.sz + 1) (h3 : q.hgt = max a.hgt b.hgt + 1) (hl : 1 ≤ l) (hr : 0 ≤ r) :
    (0 ≤ plv g a (r - 1) (l - 1) → plv g q r l = plv g b (r - 1) (plv g a (r - 1) (l - 1))) ∧ (plv g a (r - 1) (l - 1) < 0 → plv g q r l = -1 ∧ plv g a (r - 1) (l - 1) = -1) := by
  have hb := sz_pos b
  have ha := sz_pos a
  unfold plv
  have hand : ((okg g a && okg g b) = true) = (okg g a = true ∧ okg g b = true) := by simp
  simp only [h1, h2, h3, hand]
  by_cases c : okg g a = true ∧ (a.sz : Int) ≤ l - 1 ∧ (a.hgt : Int) ≤ r - 1
  · rw [if_pos c]
    refine ⟨fun _ => ?_, fun h => by omega⟩
    by_cases c2 : okg g b = true ∧ (b.sz : Int) ≤ l - 1 - a.sz ∧ (b.hgt : Int) ≤ r - 1
    · rw [if_pos c2, if_pos ⟨⟨c.1, c2.1⟩, by omega, by omega⟩]; omega
    · rw [if_neg c2, if_neg]
      rintro ⟨⟨_, e2⟩, e3, e4⟩
      exact c2 ⟨e2, by omega, by omega⟩
  · rw [if_neg c]
    refine ⟨fun h => by omega, fun _ => ⟨?_, rfl⟩⟩
    rw [if_neg]
    rintro ⟨⟨e1, _⟩, e3, e4⟩
    exact c ⟨e1, by omega, by omega⟩
theorem plv_one {g : Bool} {a q : Pq} {r l : Int} (h1 : okg g q = okg g a) (h2 : q.sz = a.sz + 1) (h3 : q.hgt = a.hgt + 1) (hl : 1 ≤ l) (hr : 0 ≤ r) : plv g q r l = plv g a (r - 1) (l - 1) := by
  unfold plv
  rw [h1, h2, h3]
  by_cases c : okg g a = true ∧ (a.sz : Int) ≤ l - 1 ∧ (a.hgt : Int) ≤ r - 1
  · rw [if_pos c, if_pos ⟨c.1, by omega, by omega⟩]; omega
  · rw [if_neg c, if_neg]
    rintro ⟨e1, e3, e4⟩
    exact c ⟨e1, by omega, by omega⟩
theorem plv_none {g : Bool} {q : Pq} {r l : Int} (h : l < 1 ∨ r < 0 ∨ hdB g q = false) : plv g q r l = -1 := by
  unfold plv
  rw [if_neg]
  rintro ⟨e1, e2, e3⟩
  have := sz_pos q
  rcases h with h | h | h
  · omega
  · omega
  · cases q with
    | gap k =>
      have h' : g = false := h
      subst h'
      exact absurd e1 (by simp [okg, Pq.hasGap])
    | _ => exact absurd h (by simp [hdB])
theorem plv_leaf {g : Bool} {q : Pq} {r l : Int} (h1 : q.ins = []) (h2 : hdB g q = true) (hl : 1 ≤ l) (hr : 0 ≤ r) : plv g q r l = l - 1 := by
  have hz : q.sz = 1 ∧ q.hgt = 0 ∧ okg g q = true := by
    cases q with
    | nm x => exact ⟨rfl, rfl, by simp [okg, Pq.hasGap]⟩
    | thing => exact ⟨rfl, rfl, by simp [okg, Pq.hasGap]⟩
    | gap k => exact ⟨rfl, rfl, by have : g = true := h2; simp [okg, this]⟩
    | _ => simp [Pq.ins] at h1
  unfold plv
  rw [if_pos ⟨hz.2.2, by omega, by omega⟩]
  omega
end Kf
namespace Kf
open PySem PySem.Spec L2
open PyProof.Rows hiding St
local macro_rules | `(tactic| walk_at "kf") => `(tactic| simp (config := { failIfUnchanged := false }) only [startD, ap_fiEnumT, asT1_t, ap_fKGet, asStr_s, ap_fKIn, ap_fKIx, ap_gAsgL, rUnl_l, ap_fiRng3, asR3_i, rSplitO_s, ap_fOrL, rOrL_l, ap_fLcK, ap_gForK, ap_fMaxD, rMaxD_l, rMaxL_l, ap_fCallXD, ap_gForE, asLE_l, ap_fFrz, ap_fDicO, ap_fDGet, ap_fDGet1, ap_fDGet2, ap_gDPut, ap_fIsiT, ap_gForR, rRep_l, isT_i, isT_s, isT_b, isT_n, isT_t, isT_l, ap_gSeq, ap_gIf, ap_gRet, ap_gNext, ap_gSet, ap_gAsg, ap_gPar, ap_gDrop, ap_gRetF, ap_gRetN, ap_gFor, ap_gSetIx, ap_gBreak, ap_fRev, ap_fiRevR, asIR_i, rRev_l, ap_fCallX, ap_gRaise, ap_gTry, ap_gTryAs, ap_gNever, ap_fEdic, ap_fTest, ap_fOp, ap_fVar, envGet_s, patGet_s, ap_fC, ap_fCB, ap_fCons, ap_fNil, ap_fCall, ap_fAnd, ap_fOr, ap_fNot, ap_fAndV, ap_fOrV, ap_fNotV, ap_fIf, ap_fTup, ap_fLst, ap_fLstO, ap_fChain, ap_fUn, ap_fBM, ap_fBM0, ap_fPool, rPool_i, ap_fSl, ap_fPart, ap_fNoPart, asI_i, rSl_l, ap_fiRng1, ap_fiRng2, ap_fiList, ap_fiTup, ap_fiStr, ap_fiEnum, ap_fiZip, ap_fiRev, asL_l, asT_t, asSg_s, asR1_i, asR2_i, asL1_l, asL2_l, ap_fLc, ap_fLcO, ap_fYes, wipeD, lcD, isi_i_int, isi_i_bool, isi_i_str, isi_i_tuple, isi_i_list, isi_i_dict, isi_b_int, isi_b_bool, isi_b_str, isi_b_tuple, isi_b_list, isi_b_dict, isi_s_int, isi_s_bool, isi_s_str, isi_s_tuple, isi_s_list, isi_s_dict, isi_t_int, isi_t_bool, isi_t_str, isi_t_tuple, isi_t_list, isi_t_dict, isi_l_int, isi_l_bool, isi_l_str, isi_l_tuple, isi_l_list, isi_l_dict, isi_n_int, isi_n_bool, isi_n_str, isi_n_tuple, isi_n_list, isi_n_dict, isi_d_int, isi_d_bool, isi_d_str, isi_d_tuple, isi_d_list, isi_d_dict,
  deref_tup, deref_lst, deref_int, deref_str, deref_bl, deref_non, deref_scr, rLt_i, rLt_s, rLe_i, rLe_s, rInts_i, rInts0_i, rAdd_i, rAdd_s, rAdd_l, rAdd_t, rCatO_l, rNeg_i, rLen_t, rLen_l, rLen_c, rLen_s, rMax_i, rMin_i, rInt_i, rInt_b, rDivmod_i, ap_gAug, rStr_i, rList_l, rList_t, rListO_l, rListO_t, rTup_l, rTup_t,
  rIx_t0, rIx_t1, rIx_t2, rIx_t3, rIx_l0, rIx_l1, rIx_l2, rIsN_x, isNon_t, isNon_n, isNon_i, isNon_s, isNon_l, rEq_i, rEq_b, rEq_i2, rEq_b2, rJoin_m, rSplit_s, tyOk_l, tyOk_s, patD_nm, patD_tp, patDs_nil, patDs_cons, Option.bind_some, notX, notX',
  List.map_cons, List.map_nil, List.length_cons, List.length_nil, List.cons_append, List.nil_append, List.append_nil, List.replicate, List.getElem?_cons_zero, List.getElem?_cons_succ, List.set_cons_zero, List.set_cons_succ, updO_same, updO_updO,
  Nat.reduceSub, Nat.reduceAdd, Nat.reduceLeDiff, Nat.zero_add, Int.cast_ofNat_Int, Int.natCast_zero, Int.natCast_one, Int.reduceLT, Int.reduceLE, Int.reduceEq, Int.reduceAdd, Int.reduceSub, Int.reduceNeg, decide_true, decide_false, if_true, if_false, Bool.false_eq_true, eq_self, reduceIte, Bool.true_eq_false, decide_eq_true_eq, Bool.not_true, Bool.not_false, Bool.not_eq_true', decide_eq_false_iff_not, exists_eq_left', exists_eq_left, D.bl.injEq, true_and, and_true, not_true_eq_false, not_false_eq_true])
local macro_rules | `(tactic| walk_at "len") => `(tactic| (intro ds O R RE h; first | (obtain ⟨e, _⟩ := h; subst e; rfl) | (obtain ⟨_, e, _⟩ := h; subst e; rfl) | (obtain ⟨_, _, e, _⟩ := h; subst e; rfl) | (obtain ⟨_, _, _, e, _⟩ := h; subst e; rfl) | (obtain ⟨_, _, _, _, e, _⟩ := h; subst e; rfl) | (obtain ⟨_, _, _, _, _, e, _⟩ := h; subst e; rfl) | (obtain ⟨_, _, _, _, _, _, e, _⟩ := h; subst e; rfl) | (obtain ⟨_, _, _, _, _, _, _, e, _⟩ := h; subst e; rfl) | (obtain ⟨_, _, _, _, _, _, _, _, e, _⟩ := h; subst e; rfl) | (obtain ⟨_, _, _, _, _, _, _, _, _, e, _⟩ := h; subst e; rfl)))
local macro_rules | `(tactic| walk_at "kf1") => `(tactic| simp (config := { failIfUnchanged := false }) only [startD, ap_fiEnumT, asT1_t, ap_fKGet, asStr_s, ap_fKIn, ap_fKIx, ap_gAsgL, rUnl_l, ap_fiRng3, asR3_i, rSplitO_s, ap_fOrL, rOrL_l, ap_fLcK, ap_gForK, ap_fMaxD, rMaxD_l, rMaxL_l, ap_fCallXD, ap_gForE, asLE_l, ap_fFrz, ap_fDicO, ap_fDGet, ap_fDGet1, ap_fDGet2, ap_gDPut, ap_fIsiT, ap_gForR, rRep_l, isT_i, isT_s, isT_b, isT_n, isT_t, isT_l, ap_gIf, ap_gRet, ap_gNext, ap_gSet, ap_gAsg, ap_gPar, ap_gDrop, ap_gRetF, ap_gRetN, ap_gFor, ap_gSetIx, ap_gBreak, ap_fRev, ap_fiRevR, asIR_i, rRev_l, ap_fCallX, ap_gRaise, ap_gTry, ap_gTryAs, ap_gNever, ap_fEdic, ap_fTest, ap_fOp, ap_fVar, envGet_s, patGet_s, ap_fC, ap_fCB, ap_fCons, ap_fNil, ap_fCall, ap_fAnd, ap_fOr, ap_fNot, ap_fAndV, ap_fOrV, ap_fNotV, ap_fIf, ap_fTup, ap_fLst, ap_fLstO, ap_fChain, ap_fUn, ap_fBM, ap_fBM0, ap_fPool, rPool_i, ap_fSl, ap_fPart, ap_fNoPart, asI_i, rSl_l, ap_fiRng1, ap_fiRng2, ap_fiList, ap_fiTup, ap_fiStr, ap_fiEnum, ap_fiZip, ap_fiRev, asL_l, asT_t, asSg_s, asR1_i, asR2_i, asL1_l, asL2_l, ap_fLc, ap_fLcO, ap_fYes, wipeD, lcD, isi_i_int, isi_i_bool, isi_i_str, isi_i_tuple, isi_i_list, isi_i_dict, isi_b_int, isi_b_bool, isi_b_str, isi_b_tuple, isi_b_list, isi_b_dict, isi_s_int, isi_s_bool, isi_s_str, isi_s_tuple, isi_s_list, isi_s_dict, isi_t_int, isi_t_bool, isi_t_str, isi_t_tuple, isi_t_list, isi_t_dict, isi_l_int, isi_l_bool, isi_l_str, isi_l_tuple, isi_l_list, isi_l_dict, isi_n_int, isi_n_bool, isi_n_str, isi_n_tuple, isi_n_list, isi_n_dict, isi_d_int, isi_d_bool, isi_d_str, isi_d_tuple, isi_d_list, isi_d_dict,
  deref_tup, deref_lst, deref_int, deref_str, deref_bl, deref_non, deref_scr, rLt_i, rLt_s, rLe_i, rLe_s, rInts_i, rInts0_i, rAdd_i, rAdd_s, rAdd_l, rAdd_t, rCatO_l, rNeg_i, rLen_t, rLen_l, rLen_c, rLen_s, rMax_i, rMin_i, rInt_i, rInt_b, rDivmod_i, ap_gAug, rStr_i, rList_l, rList_t, rListO_l, rListO_t, rTup_l, rTup_t,
  rIx_t0, rIx_t1, rIx_t2, rIx_t3, rIx_l0, rIx_l1, rIx_l2, rIsN_x, isNon_t, isNon_n, isNon_i, isNon_s, isNon_l, rEq_i, rEq_b, rEq_i2, rEq_b2, rJoin_m, rSplit_s, tyOk_l, tyOk_s, patD_nm, patD_tp, patDs_nil, patDs_cons, Option.bind_some, notX, notX',
  List.map_cons, List.map_nil, List.length_cons, List.length_nil, List.cons_append, List.nil_append, List.append_nil, List.replicate, List.getElem?_cons_zero, List.getElem?_cons_succ, List.set_cons_zero, List.set_cons_succ, updO_same, updO_updO,
  Nat.reduceSub, Nat.reduceAdd, Nat.reduceLeDiff, Nat.zero_add, Int.cast_ofNat_Int, Int.natCast_zero, Int.natCast_one, Int.reduceLT, Int.reduceLE, Int.reduceEq, Int.reduceAdd, Int.reduceSub, Int.reduceNeg, decide_true, decide_false, if_true, if_false, Bool.false_eq_true, eq_self, reduceIte, Bool.true_eq_false, decide_eq_true_eq, Bool.not_true, Bool.not_false, Bool.not_eq_true', decide_eq_false_iff_not, exists_eq_left', exists_eq_left, D.bl.injEq, true_and, and_true, not_true_eq_false, not_false_eq_true])
section
variable {P : Program} {w : World} {K : PySem.W.Frag} {mg : Str → Option Value} {base : Heap}
local macro_rules | `(tactic| walk_at "tg") => `(tactic| simp (config := { failIfUnchanged := false }) only [te_name_take, te_name_give, te_name_pair, te_name_first, te_name_second, te_name_to, te_name_both, te_name_one, te_name_mark, te_name_name, te_name_thing, te_name_at, te_thing_take, te_thing_give, te_thing_pair, te_thing_first, te_thing_second, te_thing_to, te_thing_both, te_thing_one, te_thing_mark, te_thing_name, te_thing_thing, te_thing_at, te_take_take, te_take_give, te_take_pair, te_take_first, te_take_second, te_take_to, te_take_both, te_take_one, te_take_mark, te_take_name, te_take_thing, te_take_at, te_give_take, te_give_give, te_give_pair, te_give_first, te_give_second, te_give_to, te_give_both, te_give_one, te_give_mark, te_give_name, te_give_thing, te_give_at, te_pair_take, te_pair_give, te_pair_pair, te_pair_first, te_pair_second, te_pair_to, te_pair_both, te_pair_one, te_pair_mark, te_pair_name, te_pair_thing, te_pair_at, te_first_take, te_first_give, te_first_pair, te_first_first, te_first_second, te_first_to, te_first_both, te_first_one, te_first_mark, te_first_name, te_first_thing, te_first_at, te_second_take, te_second_give, te_second_pair, te_second_first, te_second_second, te_second_to, te_second_both, te_second_one, te_second_mark, te_second_name, te_second_thing, te_second_at, te_mark_take, te_mark_give, te_mark_pair, te_mark_first, te_mark_second, te_mark_to, te_mark_both, te_mark_one, te_mark_mark, te_mark_name, te_mark_thing, te_mark_at, te_one_take, te_one_give, te_one_pair, te_one_first, te_one_second, te_one_to, te_one_both, te_one_one, te_one_mark, te_one_name, te_one_thing, te_one_at, te_to_take, te_to_give, te_to_pair, te_to_first, te_to_second, te_to_to, te_to_both, te_to_one, te_to_mark, te_to_name, te_to_thing, te_to_at, te_both_take, te_both_give, te_both_pair, te_both_first, te_both_second, te_both_to, te_both_both, te_both_one, te_both_mark, te_both_name, te_both_thing, te_both_at, te_at_take, te_at_give, te_at_pair, te_at_first, te_at_second, te_at_to, te_at_both, te_at_one, te_at_mark, te_at_name, te_at_thing, te_at_at, ti4_name, ti4_thing, ti4_take, ti4_give, ti4_pair, ti4_first, ti4_second, ti2_name, ti2_thing, ti2_take, ti2_give, ti2_pair, ti2_first, ti2_second, szT_0, szT_1, szT_2, szT_3, szT_4, szT_5, szT_6, szT_7, szT_8, szT_9, szT_10, szT_11, szT_12, Bool.not_true, Bool.not_false, true_and])
theorem ok_is_mark {a : Addr} {fd : FuncData} {k : Nat} (N : Fn K mg "is_mark" s_is_mark P_is_mark a fd) (m_len : mg "len" = none) (c1 : Cst K mg "LETTERS" (.str abc)) (c2 : Cst K mg "LONGEST" (.int 6)) : FnOk P w K mg base CX0 (k + 1) a fd P_is_mark (liftSp K spIsMark) := by
  refine fn_d (g := g_is_mark (.str abc) (.int 6)) N.F sc_is_mark (fun ds O R RE ⟨z, e, _⟩ => by rw [e]; rfl) (der_is_mark m_len c1 c2) ?_
  rintro ds O R RE ⟨z, rfl, hz, hR⟩
  unfold g_is_mark
  simp only [gSeq, gFor]
  walk_at "kf"
  refine for_in (j := 1) (ρ := [some (.str z), none]) (by simp) z.cps.toList none (fun h x => ?_) (fun h => ?_)
  · walk_at "kf"
    refine ⟨sz_small (by omega), ?_⟩
    unfold isMarkB at hR
    rw [show z.cps.toList.all letB = true from h, Bool.true_and] at hR
    by_cases c : (1 : Int) ≤ z.length
    · have c' : 1 ≤ z.length := by omega
      simp only [c, c', decide_true, Bool.true_and, if_true] at hR ⊢
      have e : decide ((z.length : Int) ≤ 6) = decide (z.length ≤ 6) := by
        by_cases q : z.length ≤ 6
        · rw [decide_eq_true q, decide_eq_true (by omega)]
        · rw [decide_eq_false q, decide_eq_false (by omega)]
      rw [e]; exact hR
    · have c' : ¬ 1 ≤ z.length := by omega
      simp only [c, c', decide_false, Bool.false_and] at hR ⊢
      exact hR
  · unfold isMarkB at hR
    rw [show z.cps.toList.all letB = false from h, Bool.false_and] at hR
    exact hR
theorem ok_is_number {a : Addr} {fd : FuncData} {k : Nat} (N : Fn K mg "is_number" s_is_number P_is_number a fd) (c1 : Cst K mg "FIGURES" (.str fig)) : FnOk P w K mg base CX0 (k + 1) a fd P_is_number (liftSp K spIsNum) := by
  refine fn_d (g := g_is_number (.str fig)) N.F sc_is_number (fun ds O R RE ⟨z, e, _⟩ => by rw [e]; rfl) (der_is_number c1) ?_
  rintro ds O R RE ⟨z, rfl, hz, hok, hR⟩
  unfold g_is_number
  simp only [gSeq, gFor]
  walk_at "kf"
  refine for_in (j := 1) (ρ := [some (.str z), none]) (by simp) z.cps.toList none (fun h x => ?_) (fun h => ?_)
  · walk_at "kf"
    rw [rEq_s hok so_0]
    unfold isNumB at hR
    rw [show z.cps.toList.all figB = true from h, Bool.true_and] at hR
    rw [str_eq, tl_0]
    walk_at "kf"
    by_cases c0 : z.cps.toList = [48]
    · rw [if_pos c0]
      simp only [c0, decide_true, Bool.true_or] at hR
      exact hR
    · rw [if_neg c0]
      simp only [c0, decide_false, Bool.false_or] at hR
      rw [rEq_s hok so_e, str_eq, tl_e]
      walk_at "kf"
      cases e : z.cps.toList with
      | nil =>
        rw [e] at hR
        simp only [decide_true, Bool.not_true, Bool.false_and] at hR
        simp only [not_true_eq_false, if_false]
        exact hR
      | cons c r =>
        rw [e] at hR
        simp only [List.head?_cons, reduceCtorEq, decide_false, Bool.not_false, Bool.true_and, Option.some.injEq] at hR
        simp only [reduceCtorEq, not_false_eq_true, if_true]
        rw [rIx_s (c := c) (by rw [e]; exact ixC0 _ _)]
        refine ⟨sz_small (by omega), ?_⟩
        have hc : c < 1114112 := (strOk_iff z).mp hok c (by rw [e]; exact List.mem_cons_self)
        rw [rEq_s (ok_one hc) so_0, str_eq, tl_0]
        simp only [List.cons.injEq, and_true, notX]
        exact hR
  · unfold isNumB at hR
    rw [show z.cps.toList.all figB = false from h, Bool.false_and] at hR
    exact hR
theorem ok_is_name {a a1 a2 : Addr} {fd d1 d2 : FuncData} {k : Nat} (N : Fn K mg "is_name" s_is_name P_is_name a fd) (N1 : Fn K mg "is_mark" s_is_mark P_is_mark a1 d1) (N2 : Fn K mg "is_number" s_is_number P_is_number a2 d2) (m_len : mg "len" = none) (c1 : Cst K mg "LETTERS" (.str abc)) (c2 : Cst K mg "LONGEST" (.int 6)) (c3 : Cst K mg "FIGURES" (.str fig)) : FnOk P w K mg base CX0 (k + 2) a fd P_is_name (liftSp K spIsName) := by
  refine fn_d (g := g_is_name spIsMark spIsNum) N.F sc_is_name (fun ds O R RE ⟨z, e, _⟩ => by rw [e]; rfl) (der_is_name N1 (ok_is_mark N1 m_len c1 c2) N2 (ok_is_number N2 c3) m_len) ?_
  rintro ds O R RE ⟨z, rfl, hz, hok, hR⟩
  unfold g_is_name
  walk_at "kf"
  refine ⟨z, rfl, hz, ?_⟩
  refine ⟨_, rfl, ?_⟩
  unfold isNameB at hR
  cases hm : isMarkB z with
  | true => rw [hm, Bool.true_or] at hR; rw [if_pos rfl]; exact hR
  | false =>
    rw [hm, Bool.false_or] at hR
    rw [if_neg Bool.false_ne_true]
    walk_at "kf"
    rw [rSl_s]
    refine ⟨sz_small (by omega), ?_⟩
    rw [rEq_s (ok_cut hok _ _) so_x, str_eq, tl_cutS, tl_x]
    walk_at "kf"
    by_cases c : cut z.cps.toList none (some 1) = [120]
    · rw [if_pos c]
      simp only [c, decide_true, Bool.true_and] at hR
      refine ⟨sz_small (by omega), ?_⟩
      by_cases q : z.length ≤ 3
      · simp only [q, decide_true, Bool.true_and] at hR
        rw [if_pos (by omega), rSl_s]
        exact ⟨sz_small (by omega), _, rfl, Nat.le_trans (len_cut z _ _) hz, ok_cut hok _ _, hR⟩
      · simp only [q, decide_false, Bool.false_and] at hR
        rw [if_neg (by omega)]; exact hR
    · simp only [c, decide_false, Bool.false_and] at hR
      rw [if_neg c]; exact hR
theorem ok_leaves_of {a : Addr} {fd : FuncData} (N : Fn K mg "leaves_of" s_leaves_of P_leaves_of a fd) (m_len : mg "len" = none) : ∀ n, FnOk P w K mg base CX0 n a fd P_leaves_of (liftSp K (spLeaves n))
  | 0 => none_left fun ds O R RE ⟨k, _, h, _⟩ => by omega
  | n + 1 => by
    refine fn_d (g := g_leaves_of (spLeaves n)) N.F sc_leaves_of (fun ds O R RE ⟨k, e, _⟩ => by rw [e]; rfl) (der_leaves_of N (ok_leaves_of N m_len n) m_len) ?_
    rintro ds O R RE ⟨k, rfl, hd, hR⟩
    unfold g_leaves_of
    cases k <;> simp only [dK, Kd.leaves, Kd.depth, Int.natCast_add] at hR hd ⊢ <;> walk_at "kf"
    · exact hR
    · exact hR
    all_goals
      refine ⟨_, rfl, by omega, ⟨_, rfl, by omega, ?_⟩⟩
      walk_at "kf"
      exact hR
theorem rEq_h {neg : Bool} {x : D} {a : Str} {O : Ow} {Q : VD} (h : HdOk x) (ha : PyData.strOk a = true) : rEqD neg x (.str a) O Q = Q (.bl (neg ^^ deq x (.str a))) O := by
  have hx : deref O x = x := by
    have := h.1
    cases x <;> first | rfl | (simp [isPy] at this)
  rw [rEq_d (by rw [hx]; exact h.1) (by simp [deref, isPy, ha]) (by rw [hx]; have := h.2; omega), hx, deref_str]
theorem rIn_h {neg : Bool} {x : D} {O : Ow} {Q : VD} (h : HdOk x) : rInD neg x (.tup [.str "to", .str "both"]) O Q = Q (.bl (neg ^^ (deq x (.str "to") || deq x (.str "both")))) O := by
  have hx : deref O x = x := by
    have := h.1
    cases x <;> first | rfl | (simp [isPy] at this)
  have h1 : isPys [D.str "to", .str "both"] = true := by simp [isPys, isPy, so_to, so_both]
  have hc : ∀ a : Str, PyData.eqv (toPy (.str a)) (toPy x) = deq x (.str a) := fun a => by
    have h0 := h.1
    by_cases e : x = .str a
    · subst e; rfl
    · have h2 : deq x (.str a) = false := by
        rw [Bool.eq_false_iff]; exact fun q => e ((deq_str h.1).mp q)
      rw [h2]
      cases x with
      | str b =>
        show deq (.str a) (.str b) = false
        rw [deq_s, decide_eq_false]
        intro q; exact e (by rw [q])
      | non => simp [toPy, PyData.eqv]
      | bl b => simp [toPy, PyData.eqv]
      | int i => simp [toPy, PyData.eqv]
      | tup ds => exact deq_st
      | lst ds => exact deq_sl
      | ref a => simp [isPy] at h0
      | ty a => simp [isPy] at h0
      | scr a => simp [isPy] at h0
      | edic => simp [isPy] at h0
  have hd : dp x ≤ 190 := by have := h.2; omega
  simp only [rInD, deref_tup, hx, h.1, h1, true_and, hd, List.any_cons, List.any_nil, Bool.or_false, hc]
theorem ok_form (T : Tx K mg) : ∀ n, FO_has_form P w base T (n + 1) (spForm n)
  | 0 => fnUp (none_left fun ds O R RE ⟨d, r, _, h, _⟩ => by omega) (Nat.zero_le _)
  | n + 1 => by
    refine fnd_has_form T (ok_is_mark T.n_is_mark T.m_len T.c_LETTERS T.c_LONGEST) (ok_form T n) (by walk_at "len") ?_
    rintro ds O R RE ⟨d, r, rfl, hr, hd, hR⟩
    unfold g_has_form
    have fls : ∀ (c : Prop), hf r d = false → R (.bl false) O := fun _ h => by rw [h] at hR; exact hR
    have pl : isPlain d = true := by
      cases r with
      | zero => exact hd
      | succ r =>
        cases d <;> first | rfl | (simp only [ThOk, isPlain] at hd; cases hd)
    cases d with
    | ref a => cases pl
    | ty a => cases pl
    | scr a => cases pl
    | tup xs =>
      walk_at "kf"
      cases r with
      | zero => rw [if_pos (by omega)]; exact hR
      | succ r =>
        rw [if_neg (by omega)]
        match xs, hd, hR with
        | [], hd, hR => walk_at "kf"; exact hR
        | [x], hd, hR =>
          simp only [ThOk] at hd
          simp only [hf] at hR
          walk_at "kf"
          rw [rEq_d (by simp [deref, isPy, isPys, hd.1]) (by simp [deref, isPy, isPys, so_one]) (by rw [deref_tup, dpT, dpC, dpN]; have := hd.2; omega), deref_tup, deref_tup, deq_t, deqs_cc, deqs_nn, Bool.and_true]
          walk_at "kf"
          exact hR
        | [x, y], hd, hR =>
          simp only [ThOk] at hd
          simp only [hf] at hR
          walk_at "kf"
          rw [rEq_h hd.1 so_mark]
          walk_at "kf"
          cases e : deq x (.str "mark") with
          | false => rw [e, Bool.false_and] at hR; walk_at "kf"; exact hR
          | true =>
            rw [e, Bool.true_and] at hR
            walk_at "kf"
            cases y with
            | str s =>
              walk_at "kf"
              exact ⟨s, rfl, (hd.2.2 s rfl).1, hR⟩
            | ref a => cases hd.2.1
            | ty a => cases hd.2.1
            | scr a => cases hd.2.1
            | _ => walk_at "kf"; exact hR
        | [x, y, z], hd, hR =>
          simp only [ThOk] at hd
          simp only [hf] at hR
          walk_at "kf"
          refine ⟨sz_small (by decide), ?_⟩
          rw [rIn_h hd.1]
          walk_at "kf"
          cases e : (deq x (.str "to") || deq x (.str "both")) with
          | false => rw [e, Bool.false_and] at hR; walk_at "kf"; exact hR
          | true =>
            rw [e, Bool.true_and] at hR
            walk_at "kf"
            rw [show ((r + 1 : Nat) : Int) - 1 - 1 = (r : Int) - 1 by omega]
            refine ⟨y, r, rfl, by omega, hd.2.1, ?_⟩
            walk_at "kf"
            cases e2 : hf r y with
            | false => rw [e2, Bool.false_and] at hR; walk_at "kf"; exact hR
            | true =>
              rw [e2, Bool.true_and] at hR
              walk_at "kf"
              exact ⟨z, r, rfl, by omega, hd.2.2, hR⟩
        | x :: y :: z :: u :: us, hd, hR =>
          have e4 : ((us.length + 1 + 1 + 1 + 1 : Nat) : Int) = (us.length : Int) + 4 := by omega
          walk_at "kf"
          rw [if_neg (by omega)]
          walk_at "kf"
          rw [if_neg (by omega)]
          walk_at "kf"
          rw [if_pos (by omega)]
          exact hR
    | _ => walk_at "kf"; exact fls True (by cases r <;> rfl)
theorem ok_is_kind (T : Tx K mg) {k : Nat} : FO_is_kind P w base T (k + 16) spIsKd := by
  refine fnd_is_kind T (fnUp (ok_form T 14) (by omega)) (fnUp (ok_leaves_of T.n_leaves_of T.m_len 14) (by omega)) (by walk_at "len") ?_
  rintro ds O R RE ⟨d, rfl, hd, hR1, hR2⟩
  unfold g_is_kind
  walk_at "kf"
  refine ⟨d, 13, rfl, by decide, hd, ?_⟩
  walk_at "kf"
  cases e : hf 13 d with
  | false => walk_at "kf"; exact hR1 e
  | true =>
    walk_at "kf"
    obtain ⟨kk, rfl, h1, h2, h3⟩ := hf_kind 13 d hd e
    refine ⟨kk, rfl, by omega, ?_⟩
    walk_at "kf"
    have := hR2 kk rfl e
    rw [show decide ((kk.leaves : Int) ≤ 24) = decide (kk.leaves ≤ 24) by rw [decide_eq_decide]; omega]
    exact this
def spInnerO : DSp := fun ds O R _ => ∃ p : Pg, ds = [dP p] ∧ ∀ a, O a = none → R (.ref a) (updO O a (.lst (p.ins.map dP)))
theorem cut1_2 (a b : D) : cut [a, b] (some 1) none = [b] := by simp [cut, HT.sIx]
theorem cut1_3 (a b c : D) : cut [a, b, c] (some 1) none = [b, c] := by simp [cut, HT.sIx]
theorem sl1_2 {a b : D} {O : Ow} {Q : VD} : rSlD (.tup [a, b]) (some 1) none O Q = Q (.tup [b]) O := by
  rw [rSl_t (by simp [HT.sIx]), cut1_2]
theorem sl1_3 {a b c : D} {O : Ow} {Q : VD} : rSlD (.tup [a, b, c]) (some 1) none O Q = Q (.tup [b, c]) O := by
  rw [rSl_t (by simp [HT.sIx]), cut1_3]
theorem ok_innerO (T : Tx K mg) : FO_inner P w base T 1 spInnerO := by
  refine fnd_inner T (by walk_at "len") ?_
  rintro ds O R RE ⟨p, rfl, hR⟩
  unfold g_inner
  cases p <;> simp only [dP, Pg.ins] at hR ⊢ <;> walk_at "kf" <;> walk_at "tg" <;> walk_at "kf" <;> walk_at "tg" <;> walk_at "kf" <;> (try simp only [sl1_2, sl1_3]) <;> walk_at "kf" <;> walk_at "tg" <;> exact hR
theorem sq_gap : PyData.strOk (Str.ofString "gap") = true := by decide +kernel
theorem tq_name_gap {neg : Bool} {O : Ow} {Q : VD} : rEqD neg (.str (Str.ofString "name")) (.str (Str.ofString "gap")) O Q = Q (.bl neg) O := by
  rw [rEq_s sw_name sq_gap, show decide (Str.ofString "name" = Str.ofString "gap") = false by decide +kernel]; cases neg <;> rfl
theorem tq_gap_name {neg : Bool} {O : Ow} {Q : VD} : rEqD neg (.str (Str.ofString "gap")) (.str (Str.ofString "name")) O Q = Q (.bl neg) O := by
  rw [rEq_s sq_gap sw_name, show decide (Str.ofString "gap" = Str.ofString "name") = false by decide +kernel]; cases neg <;> rfl
theorem tq_take_gap {neg : Bool} {O : Ow} {Q : VD} : rEqD neg (.str (Str.ofString "take")) (.str (Str.ofString "gap")) O Q = Q (.bl neg) O := by
  rw [rEq_s sw_take sq_gap, show decide (Str.ofString "take" = Str.ofString "gap") = false by decide +kernel]; cases neg <;> rfl
theorem tq_gap_take {neg : Bool} {O : Ow} {Q : VD} : rEqD neg (.str (Str.ofString "gap")) (.str (Str.ofString "take")) O Q = Q (.bl neg) O := by
  rw [rEq_s sq_gap sw_take, show decide (Str.ofString "gap" = Str.ofString "take") = false by decide +kernel]; cases neg <;> rfl
theorem tq_give_gap {neg : Bool} {O : Ow} {Q : VD} : rEqD neg (.str (Str.ofString "give")) (.str (Str.ofString "gap")) O Q = Q (.bl neg) O := by
  rw [rEq_s sw_give sq_gap, show decide (Str.ofString "give" = Str.ofString "gap") = false by decide +kernel]; cases neg <;> rfl
theorem tq_gap_give {neg : Bool} {O : Ow} {Q : VD} : rEqD neg (.str (Str.ofString "gap")) (.str (Str.ofString "give")) O Q = Q (.bl neg) O := by
  rw [rEq_s sq_gap sw_give, show decide (Str.ofString "gap" = Str.ofString "give") = false by decide +kernel]; cases neg <;> rfl
theorem tq_pair_gap {neg : Bool} {O : Ow} {Q : VD} : rEqD neg (.str (Str.ofString "pair")) (.str (Str.ofString "gap")) O Q = Q (.bl neg) O := by
  rw [rEq_s sw_pair sq_gap, show decide (Str.ofString "pair" = Str.ofString "gap") = false by decide +kernel]; cases neg <;> rfl
theorem tq_gap_pair {neg : Bool} {O : Ow} {Q : VD} : rEqD neg (.str (Str.ofString "gap")) (.str (Str.ofString "pair")) O Q = Q (.bl neg) O := by
  rw [rEq_s sq_gap sw_pair, show decide (Str.ofString "gap" = Str.ofString "pair") = false by decide +kernel]; cases neg <;> rfl
theorem tq_first_gap {neg : Bool} {O : Ow} {Q : VD} : rEqD neg (.str (Str.ofString "first")) (.str (Str.ofString "gap")) O Q = Q (.bl neg) O := by
  rw [rEq_s sw_first sq_gap, show decide (Str.ofString "first" = Str.ofString "gap") = false by decide +kernel]; cases neg <;> rfl
theorem tq_gap_first {neg : Bool} {O : Ow} {Q : VD} : rEqD neg (.str (Str.ofString "gap")) (.str (Str.ofString "first")) O Q = Q (.bl neg) O := by
  rw [rEq_s sq_gap sw_first, show decide (Str.ofString "gap" = Str.ofString "first") = false by decide +kernel]; cases neg <;> rfl
theorem tq_second_gap {neg : Bool} {O : Ow} {Q : VD} : rEqD neg (.str (Str.ofString "second")) (.str (Str.ofString "gap")) O Q = Q (.bl neg) O := by
  rw [rEq_s sw_second sq_gap, show decide (Str.ofString "second" = Str.ofString "gap") = false by decide +kernel]; cases neg <;> rfl
theorem tq_gap_second {neg : Bool} {O : Ow} {Q : VD} : rEqD neg (.str (Str.ofString "gap")) (.str (Str.ofString "second")) O Q = Q (.bl neg) O := by
  rw [rEq_s sq_gap sw_second, show decide (Str.ofString "gap" = Str.ofString "second") = false by decide +kernel]; cases neg <;> rfl
theorem tq_thing_gap {neg : Bool} {O : Ow} {Q : VD} : rEqD neg (.str (Str.ofString "thing")) (.str (Str.ofString "gap")) O Q = Q (.bl neg) O := by
  rw [rEq_s sw_thing sq_gap, show decide (Str.ofString "thing" = Str.ofString "gap") = false by decide +kernel]; cases neg <;> rfl
theorem tq_gap_thing {neg : Bool} {O : Ow} {Q : VD} : rEqD neg (.str (Str.ofString "gap")) (.str (Str.ofString "thing")) O Q = Q (.bl neg) O := by
  rw [rEq_s sq_gap sw_thing, show decide (Str.ofString "gap" = Str.ofString "thing") = false by decide +kernel]; cases neg <;> rfl
theorem tq_gap_gap {neg : Bool} {O : Ow} {Q : VD} : rEqD neg (.str (Str.ofString "gap")) (.str (Str.ofString "gap")) O Q = Q (.bl !neg) O := by
  rw [rEq_s sq_gap sq_gap, show decide (Str.ofString "gap" = Str.ofString "gap") = true by decide +kernel]; cases neg <;> rfl
theorem tqi_gap_2a {neg : Bool} {O : Ow} {Q : VD} : rInD neg (.str (Str.ofString "gap")) (.tup [.str (Str.ofString "give"), .str (Str.ofString "pair")]) O Q = Q (.bl neg) O := by
  have := rIn_ws (neg := neg) (O := O) (Q := Q) (z := Str.ofString "gap") (ts := [Str.ofString "give", Str.ofString "pair"]) sq_gap (by decide +kernel)
  rw [show decide (Str.ofString "gap" ∈ ([Str.ofString "give", Str.ofString "pair"] : List Str)) = false by decide +kernel, Bool.xor_false] at this
  exact this
theorem tqi_gap_2b {neg : Bool} {O : Ow} {Q : VD} : rInD neg (.str (Str.ofString "gap")) (.tup [.str (Str.ofString "first"), .str (Str.ofString "second")]) O Q = Q (.bl neg) O := by
  have := rIn_ws (neg := neg) (O := O) (Q := Q) (z := Str.ofString "gap") (ts := [Str.ofString "first", Str.ofString "second"]) sq_gap (by decide +kernel)
  rw [show decide (Str.ofString "gap" ∈ ([Str.ofString "first", Str.ofString "second"] : List Str)) = false by decide +kernel, Bool.xor_false] at this
  exact this
theorem tqi_gap_4 {neg : Bool} {O : Ow} {Q : VD} : rInD neg (.str (Str.ofString "gap")) (.tup [.str (Str.ofString "give"), .str (Str.ofString "pair"), .str (Str.ofString "first"), .str (Str.ofString "second")]) O Q = Q (.bl neg) O := by
  have := rIn_ws (neg := neg) (O := O) (Q := Q) (z := Str.ofString "gap") (ts := [Str.ofString "give", Str.ofString "pair", Str.ofString "first", Str.ofString "second"]) sq_gap (by decide +kernel)
  rw [show decide (Str.ofString "gap" ∈ ([Str.ofString "give", Str.ofString "pair", Str.ofString "first", Str.ofString "second"] : List Str)) = false by decide +kernel, Bool.xor_false] at this
  exact this
theorem tqi_name_2a {neg : Bool} {O : Ow} {Q : VD} : rInD neg (.str (Str.ofString "name")) (.tup [.str (Str.ofString "give"), .str (Str.ofString "pair")]) O Q = Q (.bl (neg ^^ false)) O := by
  have := rIn_ws (neg := neg) (O := O) (Q := Q) (z := Str.ofString "name") (ts := [Str.ofString "give", Str.ofString "pair"]) sw_name (by decide +kernel)
  rw [show decide (Str.ofString "name" ∈ ([Str.ofString "give", Str.ofString "pair"] : List Str)) = false by decide +kernel] at this
  exact this
theorem tqi_name_2b {neg : Bool} {O : Ow} {Q : VD} : rInD neg (.str (Str.ofString "name")) (.tup [.str (Str.ofString "first"), .str (Str.ofString "second")]) O Q = Q (.bl (neg ^^ false)) O := by
  have := rIn_ws (neg := neg) (O := O) (Q := Q) (z := Str.ofString "name") (ts := [Str.ofString "first", Str.ofString "second"]) sw_name (by decide +kernel)
  rw [show decide (Str.ofString "name" ∈ ([Str.ofString "first", Str.ofString "second"] : List Str)) = false by decide +kernel] at this
  exact this
theorem tqi_take_2a {neg : Bool} {O : Ow} {Q : VD} : rInD neg (.str (Str.ofString "take")) (.tup [.str (Str.ofString "give"), .str (Str.ofString "pair")]) O Q = Q (.bl (neg ^^ false)) O := by
  have := rIn_ws (neg := neg) (O := O) (Q := Q) (z := Str.ofString "take") (ts := [Str.ofString "give", Str.ofString "pair"]) sw_take (by decide +kernel)
  rw [show decide (Str.ofString "take" ∈ ([Str.ofString "give", Str.ofString "pair"] : List Str)) = false by decide +kernel] at this
  exact this
theorem tqi_take_2b {neg : Bool} {O : Ow} {Q : VD} : rInD neg (.str (Str.ofString "take")) (.tup [.str (Str.ofString "first"), .str (Str.ofString "second")]) O Q = Q (.bl (neg ^^ false)) O := by
  have := rIn_ws (neg := neg) (O := O) (Q := Q) (z := Str.ofString "take") (ts := [Str.ofString "first", Str.ofString "second"]) sw_take (by decide +kernel)
  rw [show decide (Str.ofString "take" ∈ ([Str.ofString "first", Str.ofString "second"] : List Str)) = false by decide +kernel] at this
  exact this
theorem tqi_give_2a {neg : Bool} {O : Ow} {Q : VD} : rInD neg (.str (Str.ofString "give")) (.tup [.str (Str.ofString "give"), .str (Str.ofString "pair")]) O Q = Q (.bl (neg ^^ true)) O := by
  have := rIn_ws (neg := neg) (O := O) (Q := Q) (z := Str.ofString "give") (ts := [Str.ofString "give", Str.ofString "pair"]) sw_give (by decide +kernel)
  rw [show decide (Str.ofString "give" ∈ ([Str.ofString "give", Str.ofString "pair"] : List Str)) = true by decide +kernel] at this
  exact this
theorem tqi_give_2b {neg : Bool} {O : Ow} {Q : VD} : rInD neg (.str (Str.ofString "give")) (.tup [.str (Str.ofString "first"), .str (Str.ofString "second")]) O Q = Q (.bl (neg ^^ false)) O := by
  have := rIn_ws (neg := neg) (O := O) (Q := Q) (z := Str.ofString "give") (ts := [Str.ofString "first", Str.ofString "second"]) sw_give (by decide +kernel)
  rw [show decide (Str.ofString "give" ∈ ([Str.ofString "first", Str.ofString "second"] : List Str)) = false by decide +kernel] at this
  exact this
theorem tqi_pair_2a {neg : Bool} {O : Ow} {Q : VD} : rInD neg (.str (Str.ofString "pair")) (.tup [.str (Str.ofString "give"), .str (Str.ofString "pair")]) O Q = Q (.bl (neg ^^ true)) O := by
  have := rIn_ws (neg := neg) (O := O) (Q := Q) (z := Str.ofString "pair") (ts := [Str.ofString "give", Str.ofString "pair"]) sw_pair (by decide +kernel)
  rw [show decide (Str.ofString "pair" ∈ ([Str.ofString "give", Str.ofString "pair"] : List Str)) = true by decide +kernel] at this
  exact this
theorem tqi_pair_2b {neg : Bool} {O : Ow} {Q : VD} : rInD neg (.str (Str.ofString "pair")) (.tup [.str (Str.ofString "first"), .str (Str.ofString "second")]) O Q = Q (.bl (neg ^^ false)) O := by
  have := rIn_ws (neg := neg) (O := O) (Q := Q) (z := Str.ofString "pair") (ts := [Str.ofString "first", Str.ofString "second"]) sw_pair (by decide +kernel)
  rw [show decide (Str.ofString "pair" ∈ ([Str.ofString "first", Str.ofString "second"] : List Str)) = false by decide +kernel] at this
  exact this
theorem tqi_first_2a {neg : Bool} {O : Ow} {Q : VD} : rInD neg (.str (Str.ofString "first")) (.tup [.str (Str.ofString "give"), .str (Str.ofString "pair")]) O Q = Q (.bl (neg ^^ false)) O := by
  have := rIn_ws (neg := neg) (O := O) (Q := Q) (z := Str.ofString "first") (ts := [Str.ofString "give", Str.ofString "pair"]) sw_first (by decide +kernel)
  rw [show decide (Str.ofString "first" ∈ ([Str.ofString "give", Str.ofString "pair"] : List Str)) = false by decide +kernel] at this
  exact this
theorem tqi_first_2b {neg : Bool} {O : Ow} {Q : VD} : rInD neg (.str (Str.ofString "first")) (.tup [.str (Str.ofString "first"), .str (Str.ofString "second")]) O Q = Q (.bl (neg ^^ true)) O := by
  have := rIn_ws (neg := neg) (O := O) (Q := Q) (z := Str.ofString "first") (ts := [Str.ofString "first", Str.ofString "second"]) sw_first (by decide +kernel)
  rw [show decide (Str.ofString "first" ∈ ([Str.ofString "first", Str.ofString "second"] : List Str)) = true by decide +kernel] at this
  exact this
theorem tqi_second_2a {neg : Bool} {O : Ow} {Q : VD} : rInD neg (.str (Str.ofString "second")) (.tup [.str (Str.ofString "give"), .str (Str.ofString "pair")]) O Q = Q (.bl (neg ^^ false)) O := by
  have := rIn_ws (neg := neg) (O := O) (Q := Q) (z := Str.ofString "second") (ts := [Str.ofString "give", Str.ofString "pair"]) sw_second (by decide +kernel)
  rw [show decide (Str.ofString "second" ∈ ([Str.ofString "give", Str.ofString "pair"] : List Str)) = false by decide +kernel] at this
  exact this
theorem tqi_second_2b {neg : Bool} {O : Ow} {Q : VD} : rInD neg (.str (Str.ofString "second")) (.tup [.str (Str.ofString "first"), .str (Str.ofString "second")]) O Q = Q (.bl (neg ^^ true)) O := by
  have := rIn_ws (neg := neg) (O := O) (Q := Q) (z := Str.ofString "second") (ts := [Str.ofString "first", Str.ofString "second"]) sw_second (by decide +kernel)
  rw [show decide (Str.ofString "second" ∈ ([Str.ofString "first", Str.ofString "second"] : List Str)) = true by decide +kernel] at this
  exact this
theorem tqi_thing_2a {neg : Bool} {O : Ow} {Q : VD} : rInD neg (.str (Str.ofString "thing")) (.tup [.str (Str.ofString "give"), .str (Str.ofString "pair")]) O Q = Q (.bl (neg ^^ false)) O := by
  have := rIn_ws (neg := neg) (O := O) (Q := Q) (z := Str.ofString "thing") (ts := [Str.ofString "give", Str.ofString "pair"]) sw_thing (by decide +kernel)
  rw [show decide (Str.ofString "thing" ∈ ([Str.ofString "give", Str.ofString "pair"] : List Str)) = false by decide +kernel] at this
  exact this
theorem tqi_thing_2b {neg : Bool} {O : Ow} {Q : VD} : rInD neg (.str (Str.ofString "thing")) (.tup [.str (Str.ofString "first"), .str (Str.ofString "second")]) O Q = Q (.bl (neg ^^ false)) O := by
  have := rIn_ws (neg := neg) (O := O) (Q := Q) (z := Str.ofString "thing") (ts := [Str.ofString "first", Str.ofString "second"]) sw_thing (by decide +kernel)
  rw [show decide (Str.ofString "thing" ∈ ([Str.ofString "first", Str.ofString "second"] : List Str)) = false by decide +kernel] at this
  exact this
local macro_rules | `(tactic| walk_at "tq") => `(tactic| simp (config := { failIfUnchanged := false }) only [tq_name_gap, tq_gap_name, tq_take_gap, tq_gap_take, tq_give_gap, tq_gap_give, tq_pair_gap, tq_gap_pair, tq_first_gap, tq_gap_first, tq_second_gap, tq_gap_second, tq_thing_gap, tq_gap_thing, tq_gap_gap, tqi_gap_2a, tqi_gap_2b, tqi_gap_4, tqi_name_2a, tqi_name_2b, tqi_take_2a, tqi_take_2b, tqi_give_2a, tqi_give_2b, tqi_pair_2a, tqi_pair_2b, tqi_first_2a, tqi_first_2b, tqi_second_2a, tqi_second_2b, tqi_thing_2a, tqi_thing_2b, Bool.xor_false, Bool.xor_true, Bool.false_xor, Bool.true_xor])
def spInnerQ : DSp := fun ds O R _ => ∃ q : Pq, ds = [dQ q] ∧ ∀ a, O a = none → R (.ref a) (updO O a (.lst (q.ins.map dQ)))
theorem ok_innerQ (T : Tx K mg) : FO_inner P w base T 1 spInnerQ := by
  refine fnd_inner T (by walk_at "len") ?_
  rintro ds O R RE ⟨q, rfl, hR⟩
  unfold g_inner
  cases q <;> simp only [dQ, Pq.ins] at hR ⊢ <;> walk_at "kf" <;> walk_at "tg" <;> walk_at "tq" <;> walk_at "kf" <;> walk_at "tg" <;> walk_at "tq" <;> walk_at "kf" <;> (try simp only [sl1_2, sl1_3]) <;> walk_at "kf" <;> walk_at "tg" <;> exact hR
theorem dK_inj {a b : Kd} (h : dK a = dK b) : a = b := by
  have h1 := deq_K a b
  rw [← h] at h1
  have h2 := deq_K a a
  exact of_decide_eq_true (by rw [← h1, h2]; simp)
theorem isk_of {k : Kd} {O : Ow} {R : VD} {RE : XD} (h : k.mks) (hd : k.depth ≤ 12) (hR : R (.bl (decide (k.leaves ≤ 24))) O) : spIsKd [dK k] O R RE := by
  refine ⟨dK k, rfl, mks_th h 13, fun h2 => ?_, fun k' ek h2 => ?_⟩
  · rw [hf_of k 13 h (by omega)] at h2; cases h2
  · rw [← dK_inj ek]; exact hR
theorem isk_kk {k : Kd} {O : Ow} {R : VD} {RE : XD} (h : k.kk) (hR : R (.bl true) O) : spIsKd [dK k] O R RE := isk_of h.1 h.2.1 (by rw [decide_eq_true h.2.2]; exact hR)
theorem isn_of {x : Str} {O : Ow} {R : VD} {RE : XD} (h : isNameB x = true) (hR : R (.bl true) O) : spIsName [.str x] O R RE := ⟨x, rfl, (name_w h).2, (name_w h).1, by rw [h]; exact hR⟩
def spHead : DSp := fun ds O R _ => ∃ (q : Pq) (g : Bool), ds = [dQ q, .bl g] ∧ q.qk ∧ R (.bl (hdB g q)) O
theorem ok_head (T : Tx K mg) : FO_has_head P w base T 17 spHead := by
  refine fnd_has_head T (ok_is_kind T (k := 0)) (fnUp (ok_is_name (k := 0) T.n_is_name T.n_is_mark T.n_is_number T.m_len T.c_LETTERS T.c_LONGEST T.c_FIGURES) (by omega)) (by walk_at "len") ?_
  rintro ds O R RE ⟨q, g, rfl, hq, hR⟩
  unfold g_has_head
  cases q with
  | nm x =>
    simp only [dQ]
    walk_at "kf"; walk_at "tg"; walk_at "tq"; walk_at "kf"; walk_at "tg"; walk_at "kf"
    exact isn_of hq hR
  | thing =>
    simp only [dQ]
    walk_at "kf"; walk_at "tg"; walk_at "tq"; walk_at "kf"; walk_at "tg"; walk_at "tq"; walk_at "kf"; walk_at "tg"; walk_at "tq"; walk_at "kf"; walk_at "tg"; walk_at "tq"; walk_at "kf"; walk_at "tg"; walk_at "tq"; walk_at "kf"
    rw [rEq_d (by simp [deref, isPy, isPys, sw_thing]) (by simp [deref, isPy, isPys, sw_thing]) (by rw [deref_tup, dpT, dpC, dpN, dpS]; omega), deref_tup, deq_t, deqs_cc, deqs_nn, Bool.and_true, deq_s]
    simp only [decide_true, Bool.false_xor]
    exact hR
  | gap k =>
    simp only [dQ]
    walk_at "kf"; walk_at "tg"; walk_at "tq"; walk_at "kf"
    cases g with
    | false => walk_at "kf"; exact hR
    | true => walk_at "kf"; exact isk_kk hq hR
  | take x k b =>
    simp only [dQ]
    walk_at "kf"; walk_at "tg"; walk_at "tq"; walk_at "kf"; walk_at "tg"; walk_at "tq"; walk_at "kf"; walk_at "tg"; walk_at "tq"; walk_at "kf"
    refine isn_of hq.1 ?_
    walk_at "kf"
    exact isk_kk hq.2.1 hR
  | give f a =>
    simp only [dQ]
    walk_at "kf"; walk_at "tg"; walk_at "tq"; walk_at "kf"; walk_at "tg"; walk_at "tq"; walk_at "kf"; walk_at "tg"; walk_at "tq"; walk_at "kf"; walk_at "tg"; walk_at "tq"; walk_at "kf"
    exact hR
  | pair f a =>
    simp only [dQ]
    walk_at "kf"; walk_at "tg"; walk_at "tq"; walk_at "kf"; walk_at "tg"; walk_at "tq"; walk_at "kf"; walk_at "tg"; walk_at "tq"; walk_at "kf"; walk_at "tg"; walk_at "tq"; walk_at "kf"
    exact hR
  | first p =>
    simp only [dQ]
    walk_at "kf"; walk_at "tg"; walk_at "tq"; walk_at "kf"; walk_at "tg"; walk_at "tq"; walk_at "kf"; walk_at "tg"; walk_at "tq"; walk_at "kf"; walk_at "tg"; walk_at "tq"; walk_at "kf"; walk_at "tg"; walk_at "tq"; walk_at "kf"
    exact hR
  | second p =>
    simp only [dQ]
    walk_at "kf"; walk_at "tg"; walk_at "tq"; walk_at "kf"; walk_at "tg"; walk_at "tq"; walk_at "kf"; walk_at "tg"; walk_at "tq"; walk_at "kf"; walk_at "tg"; walk_at "tq"; walk_at "kf"; walk_at "tg"; walk_at "tq"; walk_at "kf"
    exact hR
theorem okg_or {g a b : Bool} : (g || !(a || b)) = ((g || !a) && (g || !b)) := by cases g <;> cases a <;> cases b <;> rfl
theorem qins (g : Bool) (q : Pq) (h : q.qk) : q.ins = [] ∨ (∃ x, q.ins = [x] ∧ okg g q = okg g x ∧ q.sz = x.sz + 1 ∧ q.hgt = x.hgt + 1 ∧ x.qk) ∨ ∃ x y, q.ins = [x, y] ∧ okg g q = (okg g x && okg g y) ∧ q.sz = x.sz + y.sz + 1 ∧ q.hgt = max x.hgt y.hgt + 1 ∧ x.qk ∧ y.qk := by
  cases q with
  | nm x => exact .inl rfl
  | thing => exact .inl rfl
  | gap k => exact .inl rfl
  | take x k b => exact .inr (.inl ⟨b, rfl, rfl, rfl, rfl, h.2.2⟩)
  | give f a => exact .inr (.inr ⟨f, a, rfl, okg_or, rfl, rfl, h.1, h.2⟩)
  | pair f a => exact .inr (.inr ⟨f, a, rfl, okg_or, rfl, rfl, h.1, h.2⟩)
  | first p => exact .inr (.inl ⟨p, rfl, rfl, rfl, rfl, h⟩)
  | second p => exact .inr (.inl ⟨p, rfl, rfl, rfl, rfl, h⟩)
def spPl (n : Nat) : DSp := fun ds O R _ => ∃ (q : Pq) (r l : Int) (g : Bool), ds = [dQ q, .int r, .int l, .bl g] ∧ q.qk ∧ -1 ≤ r ∧ (q.hgt < n ∨ r + 1 < n) ∧ R (.int (plv g q r l)) O
theorem ok_pl (T : Tx K mg) : ∀ n, FO_parts_left P w base T (n + 18) (spPl n)
  | 0 => fnUp (none_left fun ds O R RE ⟨q, r, l, g, _, _, h1, h2, _⟩ => by omega) (Nat.zero_le _)
  | n + 1 => by
    refine fnd_parts_left T (fnUp (ok_head T) (by omega)) (fnUp (ok_innerQ T) (by omega)) (ok_pl T n) (by walk_at "len") ?_
    rintro ds O R RE ⟨q, r, l, g, rfl, hq, hr, hn, hR⟩
    have neg : (l < 1 ∨ r < 0 ∨ hdB g q = false) → R (.int (-1)) O := fun h => by rw [plv_none h] at hR; exact hR
    unfold g_parts_left
    refine gSeq_step ?_
    walk_at "kf1"
    by_cases c1 : l < 1
    · rw [if_pos c1]; exact neg (.inl c1)
    · rw [if_neg c1]
      walk_at "kf1"
      by_cases c2 : r < 0
      · rw [if_pos c2]; exact neg (.inr (.inl c2))
      · rw [if_neg c2]
        walk_at "kf1"
        refine ⟨q, g, rfl, hq, ?_⟩
        try dsimp only
        cases hh : hdB g q with
        | false => walk_at "kf1"; exact neg (.inr (.inr hh))
        | true =>
          walk_at "kf1"
          refine gSeq_step ?_
          walk_at "kf1"
          refine gSeq_step ?_
          walk_at "kf1"
          refine ⟨q, rfl, fun fz hfz => ?_⟩
          dsimp only
          rw [rFrz_u hfz]
          walk_at "kf1"
          rcases qins g q hq with hi | ⟨x, hi, e1, e2, e3, hx⟩ | ⟨x, y, hi, e1, e2, e3, hx, hy⟩ <;> rw [hi] <;> simp only [List.map_cons, List.map_nil]
          · walk_at "kf1"
            rw [plv_leaf hi hh (by omega) (by omega)] at hR
            exact hR
          · unfold forD
            walk_at "kf1"
            rw [if_pos (by omega)]
            refine ⟨x, r - 1, l - 1, g, rfl, hx, by omega, by omega, ?_⟩
            try dsimp only
            unfold forD
            walk_at "kf1"
            rw [plv_one e1 e2 e3 (by omega) (by omega)] at hR
            exact hR
          · obtain ⟨p1, p2⟩ := plv_two (r := r) (l := l) e1 e2 e3 (by omega) (by omega)
            unfold forD
            walk_at "kf1"
            rw [if_pos (by omega)]
            refine ⟨x, r - 1, l - 1, g, rfl, hx, by omega, by omega, ?_⟩
            try dsimp only
            unfold forD
            walk_at "kf1"
            by_cases c3 : 0 ≤ plv g x (r - 1) (l - 1)
            · rw [if_pos (by omega)]
              refine ⟨y, r - 1, _, g, rfl, hy, by omega, by omega, ?_⟩
              try dsimp only
              unfold forD
              walk_at "kf1"
              rw [p1 c3] at hR
              exact hR
            · obtain ⟨p3, p4⟩ := p2 (by omega)
              rw [if_neg (by omega)]
              unfold forD
              walk_at "kf1"
              rw [p4]
              rw [p3] at hR
              exact hR
theorem ok_is_prog (T : Tx K mg) (n : Nat) : FO_is_program P w base T (n + 19) (fun ds O R RE => ∃ q : Pq, ds = [dQ q] ∧ q.qk ∧ (q.hgt < n ∨ 81 < n) ∧ R (.bl (!q.hasGap && (decide (q.sz ≤ 400) && decide (q.hgt ≤ 80)))) O) := by
  refine fnd_is_program T (ok_pl T n) (by walk_at "len") ?_
  rintro ds O R RE ⟨q, rfl, hq, hn, hR⟩
  unfold g_is_program
  walk_at "kf1"
  refine ⟨q, 80, 400, false, rfl, hq, by omega, by omega, ?_⟩
  try dsimp only
  walk_at "kf1"
  have hz := sz_pos q
  have e : decide ((0 : Int) ≤ plv false q 80 400) = (!q.hasGap && (decide (q.sz ≤ 400) && decide (q.hgt ≤ 80))) := by
    unfold plv
    by_cases c : okg false q = true ∧ (q.sz : Int) ≤ 400 ∧ (q.hgt : Int) ≤ 80
    · rw [if_pos c]
      have h1 : (!q.hasGap) = true := by have := c.1; simpa [okg] using this
      rw [h1, decide_eq_true (show q.sz ≤ 400 by omega), decide_eq_true (show q.hgt ≤ 80 by omega), decide_eq_true (by omega)]
      rfl
    · rw [if_neg c]
      rw [decide_eq_false (by omega)]
      symm
      rw [Bool.eq_false_iff]
      intro h
      simp only [Bool.and_eq_true, decide_eq_true_eq] at h
      exact c ⟨by simpa [okg] using h.1, by omega, by omega⟩
  rw [e]
  exact hR
end
end Kf
namespace Kf
open PySem PySem.Spec L2
open PyProof.Rows hiding St
local macro_rules | `(tactic| walk_at "kf") => `(tactic| simp (config := { failIfUnchanged := false }) only [startD, ap_fiEnumT, asT1_t, ap_fKGet, asStr_s, ap_fKIn, ap_fKIx, ap_gAsgL, rUnl_l, ap_fiRng3, asR3_i, rSplitO_s, ap_fOrL, rOrL_l, ap_fLcK, ap_gForK, ap_fMaxD, rMaxD_l, rMaxL_l, ap_fCallXD, ap_gForE, asLE_l, ap_fFrz, ap_fDicO, ap_fDGet, ap_fDGet1, ap_fDGet2, ap_gDPut, ap_fIsiT, ap_gForR, rRep_l, isT_i, isT_s, isT_b, isT_n, isT_t, isT_l, ap_gSeq, ap_gIf, ap_gRet, ap_gNext, ap_gSet, ap_gAsg, ap_gPar, ap_gDrop, ap_gRetF, ap_gRetN, ap_gFor, ap_gSetIx, ap_gBreak, ap_fRev, ap_fiRevR, asIR_i, rRev_l, ap_fCallX, ap_gRaise, ap_gTry, ap_gTryAs, ap_gNever, ap_fEdic, ap_fTest, ap_fOp, ap_fVar, envGet_s, patGet_s, ap_fC, ap_fCB, ap_fCons, ap_fNil, ap_fCall, ap_fAnd, ap_fOr, ap_fNot, ap_fAndV, ap_fOrV, ap_fNotV, ap_fIf, ap_fTup, ap_fLst, ap_fLstO, ap_fChain, ap_fUn, ap_fBM, ap_fBM0, ap_fPool, rPool_i, ap_fSl, ap_fPart, ap_fNoPart, asI_i, rSl_l, ap_fiRng1, ap_fiRng2, ap_fiList, ap_fiTup, ap_fiStr, ap_fiEnum, ap_fiZip, ap_fiRev, asL_l, asT_t, asSg_s, asR1_i, asR2_i, asL1_l, asL2_l, ap_fLc, ap_fLcO, ap_fYes, wipeD, lcD, isi_i_int, isi_i_bool, isi_i_str, isi_i_tuple, isi_i_list, isi_i_dict, isi_b_int, isi_b_bool, isi_b_str, isi_b_tuple, isi_b_list, isi_b_dict, isi_s_int, isi_s_bool, isi_s_str, isi_s_tuple, isi_s_list, isi_s_dict, isi_t_int, isi_t_bool, isi_t_str, isi_t_tuple, isi_t_list, isi_t_dict, isi_l_int, isi_l_bool, isi_l_str, isi_l_tuple, isi_l_list, isi_l_dict, isi_n_int, isi_n_bool, isi_n_str, isi_n_tuple, isi_n_list, isi_n_dict, isi_d_int, isi_d_bool, isi_d_str, isi_d_tuple, isi_d_list, isi_d_dict,
  deref_tup, deref_lst, deref_int, deref_str, deref_bl, deref_non, deref_scr, rLt_i, rLt_s, rLe_i, rLe_s, rInts_i, rInts0_i, rAdd_i, rAdd_s, rAdd_l, rAdd_t, rCatO_l, rNeg_i, rLen_t, rLen_l, rLen_c, rLen_s, rMax_i, rMin_i, rInt_i, rInt_b, rDivmod_i, ap_gAug, rStr_i, rList_l, rList_t, rListO_l, rListO_t, rTup_l, rTup_t,
  rIx_t0, rIx_t1, rIx_t2, rIx_t3, rIx_l0, rIx_l1, rIx_l2, rIsN_x, isNon_t, isNon_n, isNon_i, isNon_s, isNon_l, rEq_i, rEq_b, rEq_i2, rEq_b2, rJoin_m, rSplit_s, tyOk_l, tyOk_s, patD_nm, patD_tp, patDs_nil, patDs_cons, Option.bind_some, notX, notX',
  List.map_cons, List.map_nil, List.length_cons, List.length_nil, List.cons_append, List.nil_append, List.append_nil, List.replicate, List.getElem?_cons_zero, List.getElem?_cons_succ, List.set_cons_zero, List.set_cons_succ, updO_same, updO_updO,
  Nat.reduceSub, Nat.reduceAdd, Nat.reduceLeDiff, Nat.zero_add, Int.cast_ofNat_Int, Int.natCast_zero, Int.natCast_one, Int.reduceLT, Int.reduceLE, Int.reduceEq, Int.reduceAdd, Int.reduceSub, Int.reduceNeg, decide_true, decide_false, if_true, if_false, Bool.false_eq_true, eq_self, reduceIte, Bool.true_eq_false, decide_eq_true_eq, Bool.not_true, Bool.not_false, Bool.not_eq_true', decide_eq_false_iff_not, exists_eq_left', exists_eq_left, D.bl.injEq, true_and, and_true, not_true_eq_false, not_false_eq_true])
local macro_rules | `(tactic| walk_at "len") => `(tactic| (intro ds O R RE h; first | (obtain ⟨e, _⟩ := h; subst e; rfl) | (obtain ⟨_, e, _⟩ := h; subst e; rfl) | (obtain ⟨_, _, e, _⟩ := h; subst e; rfl) | (obtain ⟨_, _, _, e, _⟩ := h; subst e; rfl) | (obtain ⟨_, _, _, _, e, _⟩ := h; subst e; rfl) | (obtain ⟨_, _, _, _, _, e, _⟩ := h; subst e; rfl) | (obtain ⟨_, _, _, _, _, _, e, _⟩ := h; subst e; rfl) | (obtain ⟨_, _, _, _, _, _, _, e, _⟩ := h; subst e; rfl) | (obtain ⟨_, _, _, _, _, _, _, _, e, _⟩ := h; subst e; rfl) | (obtain ⟨_, _, _, _, _, _, _, _, _, e, _⟩ := h; subst e; rfl)))
local macro_rules | `(tactic| walk_at "kf1") => `(tactic| simp (config := { failIfUnchanged := false }) only [startD, ap_fiEnumT, asT1_t, ap_fKGet, asStr_s, ap_fKIn, ap_fKIx, ap_gAsgL, rUnl_l, ap_fiRng3, asR3_i, rSplitO_s, ap_fOrL, rOrL_l, ap_fLcK, ap_gForK, ap_fMaxD, rMaxD_l, rMaxL_l, ap_fCallXD, ap_gForE, asLE_l, ap_fFrz, ap_fDicO, ap_fDGet, ap_fDGet1, ap_fDGet2, ap_gDPut, ap_fIsiT, ap_gForR, rRep_l, isT_i, isT_s, isT_b, isT_n, isT_t, isT_l, ap_gIf, ap_gRet, ap_gNext, ap_gSet, ap_gAsg, ap_gPar, ap_gDrop, ap_gRetF, ap_gRetN, ap_gFor, ap_gSetIx, ap_gBreak, ap_fRev, ap_fiRevR, asIR_i, rRev_l, ap_fCallX, ap_gRaise, ap_gTry, ap_gTryAs, ap_gNever, ap_fEdic, ap_fTest, ap_fOp, ap_fVar, envGet_s, patGet_s, ap_fC, ap_fCB, ap_fCons, ap_fNil, ap_fCall, ap_fAnd, ap_fOr, ap_fNot, ap_fAndV, ap_fOrV, ap_fNotV, ap_fIf, ap_fTup, ap_fLst, ap_fLstO, ap_fChain, ap_fUn, ap_fBM, ap_fBM0, ap_fPool, rPool_i, ap_fSl, ap_fPart, ap_fNoPart, asI_i, rSl_l, ap_fiRng1, ap_fiRng2, ap_fiList, ap_fiTup, ap_fiStr, ap_fiEnum, ap_fiZip, ap_fiRev, asL_l, asT_t, asSg_s, asR1_i, asR2_i, asL1_l, asL2_l, ap_fLc, ap_fLcO, ap_fYes, wipeD, lcD, isi_i_int, isi_i_bool, isi_i_str, isi_i_tuple, isi_i_list, isi_i_dict, isi_b_int, isi_b_bool, isi_b_str, isi_b_tuple, isi_b_list, isi_b_dict, isi_s_int, isi_s_bool, isi_s_str, isi_s_tuple, isi_s_list, isi_s_dict, isi_t_int, isi_t_bool, isi_t_str, isi_t_tuple, isi_t_list, isi_t_dict, isi_l_int, isi_l_bool, isi_l_str, isi_l_tuple, isi_l_list, isi_l_dict, isi_n_int, isi_n_bool, isi_n_str, isi_n_tuple, isi_n_list, isi_n_dict, isi_d_int, isi_d_bool, isi_d_str, isi_d_tuple, isi_d_list, isi_d_dict,
  deref_tup, deref_lst, deref_int, deref_str, deref_bl, deref_non, deref_scr, rLt_i, rLt_s, rLe_i, rLe_s, rInts_i, rInts0_i, rAdd_i, rAdd_s, rAdd_l, rAdd_t, rCatO_l, rNeg_i, rLen_t, rLen_l, rLen_c, rLen_s, rMax_i, rMin_i, rInt_i, rInt_b, rDivmod_i, ap_gAug, rStr_i, rList_l, rList_t, rListO_l, rListO_t, rTup_l, rTup_t,
  rIx_t0, rIx_t1, rIx_t2, rIx_t3, rIx_l0, rIx_l1, rIx_l2, rIsN_x, isNon_t, isNon_n, isNon_i, isNon_s, isNon_l, rEq_i, rEq_b, rEq_i2, rEq_b2, rJoin_m, rSplit_s, tyOk_l, tyOk_s, patD_nm, patD_tp, patDs_nil, patDs_cons, Option.bind_some, notX, notX',
  List.map_cons, List.map_nil, List.length_cons, List.length_nil, List.cons_append, List.nil_append, List.append_nil, List.replicate, List.getElem?_cons_zero, List.getElem?_cons_succ, List.set_cons_zero, List.set_cons_succ, updO_same, updO_updO,
  Nat.reduceSub, Nat.reduceAdd, Nat.reduceLeDiff, Nat.zero_add, Int.cast_ofNat_Int, Int.natCast_zero, Int.natCast_one, Int.reduceLT, Int.reduceLE, Int.reduceEq, Int.reduceAdd, Int.reduceSub, Int.reduceNeg, decide_true, decide_false, if_true, if_false, Bool.false_eq_true, eq_self, reduceIte, Bool.true_eq_false, decide_eq_true_eq, Bool.not_true, Bool.not_false, Bool.not_eq_true', decide_eq_false_iff_not, exists_eq_left', exists_eq_left, D.bl.injEq, true_and, and_true, not_true_eq_false, not_false_eq_true])
section
variable {P : Program} {w : World} {K : PySem.W.Frag} {mg : Str → Option Value} {base : Heap}
local macro_rules | `(tactic| walk_at "tg") => `(tactic| simp (config := { failIfUnchanged := false }) only [te_name_take, te_name_give, te_name_pair, te_name_first, te_name_second, te_name_to, te_name_both, te_name_one, te_name_mark, te_name_name, te_name_thing, te_name_at, te_thing_take, te_thing_give, te_thing_pair, te_thing_first, te_thing_second, te_thing_to, te_thing_both, te_thing_one, te_thing_mark, te_thing_name, te_thing_thing, te_thing_at, te_take_take, te_take_give, te_take_pair, te_take_first, te_take_second, te_take_to, te_take_both, te_take_one, te_take_mark, te_take_name, te_take_thing, te_take_at, te_give_take, te_give_give, te_give_pair, te_give_first, te_give_second, te_give_to, te_give_both, te_give_one, te_give_mark, te_give_name, te_give_thing, te_give_at, te_pair_take, te_pair_give, te_pair_pair, te_pair_first, te_pair_second, te_pair_to, te_pair_both, te_pair_one, te_pair_mark, te_pair_name, te_pair_thing, te_pair_at, te_first_take, te_first_give, te_first_pair, te_first_first, te_first_second, te_first_to, te_first_both, te_first_one, te_first_mark, te_first_name, te_first_thing, te_first_at, te_second_take, te_second_give, te_second_pair, te_second_first, te_second_second, te_second_to, te_second_both, te_second_one, te_second_mark, te_second_name, te_second_thing, te_second_at, te_mark_take, te_mark_give, te_mark_pair, te_mark_first, te_mark_second, te_mark_to, te_mark_both, te_mark_one, te_mark_mark, te_mark_name, te_mark_thing, te_mark_at, te_one_take, te_one_give, te_one_pair, te_one_first, te_one_second, te_one_to, te_one_both, te_one_one, te_one_mark, te_one_name, te_one_thing, te_one_at, te_to_take, te_to_give, te_to_pair, te_to_first, te_to_second, te_to_to, te_to_both, te_to_one, te_to_mark, te_to_name, te_to_thing, te_to_at, te_both_take, te_both_give, te_both_pair, te_both_first, te_both_second, te_both_to, te_both_both, te_both_one, te_both_mark, te_both_name, te_both_thing, te_both_at, te_at_take, te_at_give, te_at_pair, te_at_first, te_at_second, te_at_to, te_at_both, te_at_one, te_at_mark, te_at_name, te_at_thing, te_at_at, ti4_name, ti4_thing, ti4_take, ti4_give, ti4_pair, ti4_first, ti4_second, ti2_name, ti2_thing, ti2_take, ti2_give, ti2_pair, ti2_first, ti2_second, szT_0, szT_1, szT_2, szT_3, szT_4, szT_5, szT_6, szT_7, szT_8, szT_9, szT_10, szT_11, szT_12, Bool.not_true, Bool.not_false, true_and])
local macro_rules | `(tactic| walk_at "tq") => `(tactic| simp (config := { failIfUnchanged := false }) only [tq_name_gap, tq_gap_name, tq_take_gap, tq_gap_take, tq_give_gap, tq_gap_give, tq_pair_gap, tq_gap_pair, tq_first_gap, tq_gap_first, tq_second_gap, tq_gap_second, tq_thing_gap, tq_gap_thing, tq_gap_gap, tqi_gap_2a, tqi_gap_2b, tqi_gap_4, tqi_name_2a, tqi_name_2b, tqi_take_2a, tqi_take_2b, tqi_give_2a, tqi_give_2b, tqi_pair_2a, tqi_pair_2b, tqi_first_2a, tqi_first_2b, tqi_second_2a, tqi_second_2b, tqi_thing_2a, tqi_thing_2b, Bool.xor_false, Bool.xor_true, Bool.false_xor, Bool.true_xor])
theorem xn_ok64 : ∀ k, k < 512 → PyData.strOk (xn k) = true ∧ (Str.ofString "x").length + (Str.ofString (toString (k : Int))).length ≤ 100 := by
  have h : ∀ k ∈ List.range 512, PyData.strOk (xn k) = true ∧ (Str.ofString "x").length + (Str.ofString (toString (k : Int))).length ≤ 100 := by decide +kernel
  exact fun k hk => h k (List.mem_range.mpr hk)
def spKnown : DSp := fun ds O R _ => ∃ (kn : List (Str × Kd)) (x : Str), ds = [.lst (kn.map kv), .str x] ∧ PyData.strOk x = true ∧ (∀ q ∈ kn, PyData.strOk q.1 = true) ∧ R (dKo (envOf kn x)) O
theorem known_loop {R0 : DEnds} {x : Str} {O : Ow} (a0 : Option D) (hx : PyData.strOk x = true) : ∀ (l : List (Str × Kd)) (x2 x3 : Option D), (∀ q ∈ l, PyData.strOk q.1 = true) → (∀ q, l.find? (fun q => decide (q.1 = x)) = some q → R0.rt (dK q.2) O) → (l.find? (fun q => decide (q.1 = x)) = none → ∀ x2 x3, R0.nx [a0, some (.str x), x2, x3] O) →
    forD (.tp [(.nm 2), (.nm 3)]) (gIf (fTest (fOp (rEqD false) (fVar 2) (fVar 1))) (gRet (fVar 3)) gNext) R0 (l.map kv) [a0, some (.str x), x2, x3] O
  | [], x2, x3, _, _, hn => hn rfl x2 x3
  | q :: l, x2, x3, hl, hs, hn => by
    rw [List.map_cons]
    unfold forD
    walk_at "kf1"
    rw [rEq_s (hl q List.mem_cons_self) hx]
    by_cases c : q.1 = x
    · simp only [c, decide_true, Bool.false_xor]
      walk_at "kf1"
      exact hs q (by simp [List.find?_cons, c])
    · simp only [c, decide_false, Bool.false_xor]
      walk_at "kf1"
      exact known_loop a0 hx l _ _ (fun q' h => hl q' (List.mem_cons_of_mem _ h)) (fun q' h => hs q' (by simpa [List.find?_cons, c] using h)) (fun h => hn (by simpa [List.find?_cons, c] using h))
theorem ok_known (T : Tx K mg) : FO_known_as P w base T 1 spKnown := by
  refine fnd_known_as T (by walk_at "len") ?_
  rintro ds O R RE ⟨kn, x, rfl, hx, hk, hR⟩
  unfold g_known_as
  refine gSeq_step ?_
  walk_at "kf1"
  rw [← List.map_reverse]
  refine known_loop _ hx kn.reverse _ _ (fun q h => hk q (List.mem_reverse.mp h)) (fun q h => ?_) (fun h x2 x3 => ?_)
  · unfold envOf at hR
    rw [h] at hR
    exact hR
  · unfold envOf at hR
    rw [h] at hR
    try dsimp only
    walk_at "kf1"
    exact hR
def spTN : DSp := fun ds O R _ => ∃ t : Nat, ds = [.int t] ∧ t < 512 ∧ R (.str (xn t)) O
theorem ok_tn (T : Tx K mg) : FO_taken_name P w base T 1 spTN := by
  refine fnd_taken_name T (by walk_at "len") ?_
  rintro ds O R RE ⟨t, rfl, ht, hR⟩
  unfold g_taken_name
  walk_at "kf"
  refine ⟨Nat.lt_of_le_of_lt (Nat.log2_le_self _) (by omega), ?_⟩
  walk_at "kf"
  exact ⟨sz_small (by have := (xn_ok64 t ht).2; omega), hR⟩
/-- names known, as data -/
def KnD (kn : List (Str × Kd)) (t : Nat) : Prop := kn.length + (400 - t) ≤ 900 ∧ t ≤ 400 ∧ ∀ q ∈ kn, PyData.strOk q.1 = true ∧ q.2.ok = true ∧ q.2.depth ≤ 40
theorem KnD.snoc {kn : List (Str × Kd)} {t : Nat} (h : KnD kn t) (ht : t < 400) {d : Kd} (ho : d.ok = true) (hd : d.depth ≤ 40) : KnD (kn ++ [(xn t, d)]) (t + 1) := by
  obtain ⟨h1, h2, h3⟩ := h
  refine ⟨by rw [List.length_append, List.length_singleton]; omega, by omega, fun q hq => ?_⟩
  rcases List.mem_append.mp hq with hq | hq
  · exact h3 q hq
  · rw [List.mem_singleton.mp hq]
    exact ⟨(xn_ok64 t (by omega)).1, ho, hd⟩
theorem gal_ok {kn : List (Str × Kd)} {t : Nat} (h : KnD kn t) : ∀ (p : Pg) (c : Kd), gal kn p t = some c → c.ok = true ∧ c.depth ≤ 40
  | .nm x, c, e => by
    rw [al_nm] at e
    exact (h.2.2 _ (envOf_mem e)).2
  | .first q, c, e => by
    rw [al_first] at e
    split at e
    · rename_i a b e1
      cases e
      have := gal_ok h q _ e1
      simp only [Kd.ok, Kd.depth, Bool.and_eq_true] at this
      exact ⟨this.1.1, by omega⟩
    · cases e
  | .second q, c, e => by
    rw [al_second] at e
    split at e
    · rename_i a b e1
      cases e
      have := gal_ok h q _ e1
      simp only [Kd.ok, Kd.depth, Bool.and_eq_true] at this
      exact ⟨this.1.2, by omega⟩
    · cases e
  | .give f a, c, e => by
    rw [al_give] at e
    split at e
    · rename_i d k e1
      split at e
      · cases e
        have := gal_ok h f _ e1
        simp only [Kd.ok, Kd.depth, Bool.and_eq_true] at this
        exact ⟨this.1.2, by omega⟩
      · cases e
    · cases e
  | .thing, c, e => by rw [al_thing] at e; cases e
  | .take x k b, c, e => by rw [al_take] at e; cases e
  | .pair f s, c, e => by rw [al_pair] at e; cases e
def spIL (n : Nat) : DSp := fun ds O R _ => ∃ (kn : List (Str × Kd)) (k : Kd) (p : Pg) (t : Nat), ds = [.lst (kn.map kv), dK k, dP p, .int t] ∧ KnD kn t ∧ k.ok = true ∧ k.depth ≤ 40 ∧ p.sok = true ∧ p.dpt ≤ 150 ∧ t + p.hgt < 400 ∧ 2 * p.hgt + 1 < n ∧ R (.bl (lg kn k p t)) O
def spGA (n : Nat) : DSp := fun ds O R _ => ∃ (kn : List (Str × Kd)) (p : Pg) (t : Nat), ds = [.lst (kn.map kv), dP p, .int t] ∧ KnD kn t ∧ p.sok = true ∧ p.dpt ≤ 150 ∧ t + p.hgt < 400 ∧ 2 * p.hgt < n ∧ R (dKo (gal kn p t)) O
theorem rEq_thing {neg : Bool} {p : Pg} {O : Ow} {Q : VD} (hs : p.sok = true) (hd : p.dpt ≤ 150) : rEqD neg (dP p) (.tup [.str (Str.ofString "thing")]) O Q = Q (.bl (neg ^^ p.isTh)) O := by
  have e : deref O (dP p) = dP p := by cases p <;> rfl
  rw [rEq_d (by rw [e, isPy_dP]; exact hs) (by rw [deref_tup]; decide +kernel) (by rw [e, dp_dP]; omega), e, deref_tup]
  have h : deq (dP p) (.tup [.str (Str.ofString "thing")]) = p.isTh := by
    cases p <;> simp only [dP, deq_t, deqs_cc, deqs_cn, deqs_nn, deq_s, Pg.isTh, Bool.and_false, Bool.and_true] <;> decide +kernel
  rw [h]
theorem rEq_nonT {neg : Bool} {xs : List D} {O : Ow} {Q : VD} (h : isPy (.tup xs) = true) : rEqD neg .non (.tup xs) O Q = Q (.bl neg) O := by
  rw [rEq_d (x := .non) rfl (by rw [deref_tup]; exact h) (by show dp .non ≤ 190; decide), show deref O .non = .non from rfl, deref_tup, deq_nt]
  simp
theorem rEq_Ko {neg : Bool} {u : Option Kd} {k : Kd} {O : Ow} {Q : VD} (hu : ∀ c, u = some c → c.ok = true ∧ c.depth ≤ 40) (hk : k.ok = true) : rEqD neg (dKo u) (dK k) O Q = Q (.bl (neg ^^ decide (u = some k))) O := by
  cases u with
  | none =>
    rw [show decide ((none : Option Kd) = some k) = false from rfl, Bool.xor_false]
    have e : ∃ xs, dK k = .tup xs := by cases k <;> exact ⟨_, rfl⟩
    obtain ⟨xs, e⟩ := e
    rw [show dKo none = .non from rfl, e]
    exact rEq_nonT (by rw [← e, isPy_dK]; exact hk)
  | some c =>
    obtain ⟨h1, h2⟩ := hu c rfl
    rw [show dKo (some c) = dK c from rfl, rEq_K h1 hk (by omega)]
    simp
def W3L : List Str := ["first", "second", "give"]
theorem rIn_ws3 {neg : Bool} {z : Str} {O : Ow} {Q : VD} (h : PyData.strOk z = true) : rInD neg (.str z) (.tup [.str (Str.ofString "first"), .str (Str.ofString "second"), .str (Str.ofString "give")]) O Q = Q (.bl (neg ^^ decide (z ∈ W3L))) O := rIn_ws (ts := W3L) h (by decide +kernel)
theorem ok_il (T : Tx K mg) : ∀ n, FO_is_long_here P w base T (n + 3) (spIL n) ∧ FO_gone_along P w base T (n + 3) (spGA n)
  | 0 => ⟨fnUp (none_left fun ds O R RE ⟨kn, k, p, t, _, _, _, _, _, _, _, h, _⟩ => by omega) (Nat.zero_le _), fnUp (none_left fun ds O R RE ⟨kn, p, t, _, _, _, _, _, h, _⟩ => by omega) (Nat.zero_le _)⟩
  | n + 1 => by
    obtain ⟨ih1, ih2⟩ := ok_il T n
    constructor
    · refine fnd_is_long_here T ih2 ih1 (fnUp (ok_tn T) (by omega)) (by walk_at "len") ?_
      rintro ds O R RE ⟨kn, k, p, t, rfl, hkn, hko, hkd, hps, hpd, htp, hn, hR⟩
      unfold g_is_long_here
      cases k with
      | one =>
        rw [lg_one] at hR
        simp only [dK]
        walk_at "kf"
        walk_at "tg"
        walk_at "kf"
        rw [rEq_thing hps hpd, Bool.false_xor]
        exact hR
      | mk m =>
        rw [lg_mk] at hR
        rw [show dK (.mk m) = D.tup [.str (Str.ofString "mark"), .str m] from rfl]
        walk_at "kf"
        walk_at "tg"
        walk_at "kf"
        refine ⟨kn, p, t, rfl, hkn, hps, hpd, by omega, by omega, ?_⟩
        try dsimp only
        rw [show D.tup [.str (Str.ofString "mark"), .str m] = dK (.mk m) from rfl, rEq_Ko (fun c e => gal_ok hkn p c e) hko, Bool.false_xor]
        exact hR
      | both a b =>
        simp only [Kd.ok, Kd.depth, Bool.and_eq_true] at hko hkd
        have no : (∀ f s, p ≠ .pair f s) → R (.bl false) O := fun h => by rw [lg_npair kn t a b p h] at hR; exact hR
        simp only [dK]
        walk_at "kf"
        walk_at "tg"
        walk_at "kf"
        walk_at "tg"
        walk_at "kf"
        cases p with
        | pair f s =>
          simp only [Pg.sok, Pg.dpt, Pg.hgt, Bool.and_eq_true] at hps hpd htp hn
          rw [lg_pair] at hR
          simp only [dP]
          walk_at "kf"
          walk_at "tg"
          walk_at "kf"
          refine ⟨kn, a, f, t, rfl, hkn, hko.1, by omega, hps.1, by omega, by omega, by omega, ?_⟩
          try dsimp only
          cases hf : lg kn a f t with
          | false =>
            rw [hf, Bool.false_and] at hR
            walk_at "kf"
            exact hR
          | true =>
            rw [hf, Bool.true_and] at hR
            walk_at "kf"
            exact ⟨kn, b, s, t, rfl, hkn, hko.2, by omega, hps.2, by omega, by omega, by omega, hR⟩
        | nm x => simp only [dP]; walk_at "kf"; walk_at "tg"; walk_at "kf"; exact no fun f s e => nomatch e
        | thing => simp only [dP]; walk_at "kf"; walk_at "tg"; walk_at "kf"; exact no fun f s e => nomatch e
        | take x k b => simp only [dP]; walk_at "kf"; walk_at "tg"; walk_at "kf"; exact no fun f s e => nomatch e
        | give f a => simp only [dP]; walk_at "kf"; walk_at "tg"; walk_at "kf"; exact no fun f s e => nomatch e
        | first f => simp only [dP]; walk_at "kf"; walk_at "tg"; walk_at "kf"; exact no fun f s e => nomatch e
        | second f => simp only [dP]; walk_at "kf"; walk_at "tg"; walk_at "kf"; exact no fun f s e => nomatch e
      | to d c =>
        simp only [Kd.ok, Kd.depth, Bool.and_eq_true] at hko hkd
        have no : (∀ x k b, p ≠ .take x k b) → R (.bl false) O := fun h => by rw [lg_ntake kn t d c p h] at hR; exact hR
        simp only [dK]
        walk_at "kf"
        walk_at "tg"
        walk_at "kf"
        walk_at "tg"
        walk_at "kf"
        refine ⟨t, rfl, by omega, ?_⟩
        try dsimp only
        walk_at "kf"
        cases p with
        | take x k b =>
          simp only [Pg.sok, Pg.dpt, Pg.hgt, Bool.and_eq_true] at hps hpd htp hn
          have hx := (xn_ok64 t (by omega)).1
          rw [lg_take] at hR
          simp only [dP]
          walk_at "kf"
          walk_at "tg"
          walk_at "kf"
          rw [rEq_s hps.1.1 hx]
          by_cases c1 : x = xn t
          · rw [decide_eq_true c1, Bool.true_and] at hR
            simp only [c1, decide_true, Bool.xor_self]
            walk_at "kf"
            rw [rEq_K hps.1.2 hko.1 (by omega)]
            by_cases c2 : k = d
            · rw [decide_eq_true c2, Bool.true_and] at hR
              simp only [c2, decide_true, Bool.xor_self]
              walk_at "kf"
              refine ⟨sz_21 (by have := hkn.1; simp only [List.length_map]; omega), ?_⟩
              exact ⟨kn ++ [(xn t, d)], c, b, t + 1, by rw [List.map_append]; rfl, hkn.snoc (by omega) hko.1 (by omega), hko.2, by omega, hps.2, by omega, by omega, by omega, hR⟩
            · rw [decide_eq_false c2, Bool.false_and] at hR
              simp only [c2, decide_false, Bool.true_xor, Bool.not_false]
              walk_at "kf"
              exact hR
          · rw [decide_eq_false c1, Bool.false_and] at hR
            simp only [c1, decide_false, Bool.true_xor, Bool.not_false]
            walk_at "kf"
            exact hR
        | nm x => simp only [dP]; walk_at "kf"; walk_at "tg"; walk_at "kf"; exact no fun f s b e => nomatch e
        | thing => simp only [dP]; walk_at "kf"; walk_at "tg"; walk_at "kf"; exact no fun f s b e => nomatch e
        | pair f a => simp only [dP]; walk_at "kf"; walk_at "tg"; walk_at "kf"; exact no fun f s b e => nomatch e
        | give f a => simp only [dP]; walk_at "kf"; walk_at "tg"; walk_at "kf"; exact no fun f s b e => nomatch e
        | first f => simp only [dP]; walk_at "kf"; walk_at "tg"; walk_at "kf"; exact no fun f s b e => nomatch e
        | second f => simp only [dP]; walk_at "kf"; walk_at "tg"; walk_at "kf"; exact no fun f s b e => nomatch e
    · refine fnd_gone_along T (fnUp (ok_known T) (by omega)) ih2 ih1 (by walk_at "len") ?_
      rintro ds O R RE ⟨kn, p, t, rfl, hkn, hps, hpd, htp, hn, hR⟩
      unfold g_gone_along
      have hks : ∀ q ∈ kn, PyData.strOk q.1 = true := fun q hq => (hkn.2.2 q hq).1
      cases p with
      | nm x =>
        rw [al_nm] at hR
        simp only [dP]
        walk_at "kf"; walk_at "tg"; walk_at "kf"
        exact ⟨kn, x, rfl, hps, hks, hR⟩
      | thing =>
        rw [al_thing] at hR
        simp only [dP]
        walk_at "kf"; walk_at "tg"; walk_at "tq"; walk_at "kf"; walk_at "tg"; walk_at "tq"; walk_at "kf"
        rw [rIn_ws3 sw_thing]
        simp only [show decide (Str.ofString "thing" ∈ W3L) = false by decide +kernel, Bool.true_xor, Bool.not_false]
        walk_at "kf"
        exact hR
      | take x k b =>
        rw [al_take] at hR
        simp only [dP]
        walk_at "kf"; walk_at "tg"; walk_at "tq"; walk_at "kf"; walk_at "tg"; walk_at "tq"; walk_at "kf"
        rw [rIn_ws3 sw_take]
        simp only [show decide (Str.ofString "take" ∈ W3L) = false by decide +kernel, Bool.true_xor, Bool.not_false]
        walk_at "kf"
        exact hR
      | pair f s =>
        rw [al_pair] at hR
        simp only [dP]
        walk_at "kf"; walk_at "tg"; walk_at "tq"; walk_at "kf"; walk_at "tg"; walk_at "tq"; walk_at "kf"
        rw [rIn_ws3 sw_pair]
        simp only [show decide (Str.ofString "pair" ∈ W3L) = false by decide +kernel, Bool.true_xor, Bool.not_false]
        walk_at "kf"
        exact hR
      | give f a =>
        simp only [Pg.sok, Pg.dpt, Pg.hgt, Bool.and_eq_true] at hps hpd htp hn
        rw [al_give] at hR
        simp only [dP]
        walk_at "kf"; walk_at "tg"; walk_at "tq"; walk_at "kf"; walk_at "tg"; walk_at "tq"; walk_at "kf"
        rw [rIn_ws3 sw_give]
        simp only [show decide (Str.ofString "give" ∈ W3L) = true by decide +kernel, Bool.true_xor, Bool.not_true]
        walk_at "kf"
        refine ⟨kn, f, t, rfl, hkn, hps.1, by omega, by omega, by omega, ?_⟩
        try dsimp only
        cases e : gal kn f t with
        | none =>
          rw [e] at hR
          walk_at "kf"
          exact hR
        | some c =>
          have hc := gal_ok hkn f c e
          rw [e] at hR
          rw [show dKo (some c) = dK c from rfl]
          cases c with
          | to d c =>
            simp only [Kd.ok, Kd.depth, Bool.and_eq_true] at hc
            simp only [dK]
            walk_at "kf"; walk_at "tg"; walk_at "kf"; walk_at "tg"; walk_at "kf"
            refine ⟨kn, d, a, t, rfl, hkn, hc.1.1, by omega, hps.2, by omega, by omega, by omega, ?_⟩
            try dsimp only
            dsimp only at hR
            cases hl : lg kn d a t with
            | true => rw [hl, if_pos rfl] at hR; walk_at "kf"; exact hR
            | false => rw [hl, if_neg (by simp)] at hR; walk_at "kf"; exact hR
          | one => simp only [dK]; walk_at "kf"; walk_at "tg"; walk_at "kf"; walk_at "tg"; walk_at "kf"; exact hR
          | mk m => simp only [dK]; walk_at "kf"; walk_at "tg"; walk_at "kf"; walk_at "tg"; walk_at "kf"; exact hR
          | both a b => simp only [dK]; walk_at "kf"; walk_at "tg"; walk_at "kf"; walk_at "tg"; walk_at "kf"; exact hR
      | first f =>
        simp only [Pg.sok, Pg.dpt, Pg.hgt] at hps hpd htp hn
        rw [al_first] at hR
        simp only [dP]
        walk_at "kf"; walk_at "tg"; walk_at "tq"; walk_at "kf"; walk_at "tg"; walk_at "tq"; walk_at "kf"
        rw [rIn_ws3 sw_first]
        simp only [show decide (Str.ofString "first" ∈ W3L) = true by decide +kernel, Bool.true_xor, Bool.not_true]
        walk_at "kf"
        refine ⟨kn, f, t, rfl, hkn, hps, by omega, by omega, by omega, ?_⟩
        try dsimp only
        cases e : gal kn f t with
        | none =>
          rw [e] at hR
          walk_at "kf"
          exact hR
        | some c =>
          rw [e] at hR
          rw [show dKo (some c) = dK c from rfl]
          cases c with
          | both a b => simp only [dK]; walk_at "kf"; walk_at "tg"; walk_at "kf"; walk_at "tg"; walk_at "kf"; walk_at "tg"; walk_at "kf"; exact hR
          | one => simp only [dK]; walk_at "kf"; walk_at "tg"; walk_at "kf"; walk_at "tg"; walk_at "kf"; exact hR
          | mk m => simp only [dK]; walk_at "kf"; walk_at "tg"; walk_at "kf"; walk_at "tg"; walk_at "kf"; exact hR
          | to a b => simp only [dK]; walk_at "kf"; walk_at "tg"; walk_at "kf"; walk_at "tg"; walk_at "kf"; exact hR
      | second f =>
        simp only [Pg.sok, Pg.dpt, Pg.hgt] at hps hpd htp hn
        rw [al_second] at hR
        simp only [dP]
        walk_at "kf"; walk_at "tg"; walk_at "tq"; walk_at "kf"; walk_at "tg"; walk_at "tq"; walk_at "kf"
        rw [rIn_ws3 sw_second]
        simp only [show decide (Str.ofString "second" ∈ W3L) = true by decide +kernel, Bool.true_xor, Bool.not_true]
        walk_at "kf"
        refine ⟨kn, f, t, rfl, hkn, hps, by omega, by omega, by omega, ?_⟩
        try dsimp only
        cases e : gal kn f t with
        | none =>
          rw [e] at hR
          walk_at "kf"
          exact hR
        | some c =>
          rw [e] at hR
          rw [show dKo (some c) = dK c from rfl]
          cases c with
          | both a b => simp only [dK]; walk_at "kf"; walk_at "tg"; walk_at "kf"; walk_at "tg"; walk_at "kf"; walk_at "tg"; walk_at "kf"; exact hR
          | one => simp only [dK]; walk_at "kf"; walk_at "tg"; walk_at "kf"; walk_at "tg"; walk_at "kf"; exact hR
          | mk m => simp only [dK]; walk_at "kf"; walk_at "tg"; walk_at "kf"; walk_at "tg"; walk_at "kf"; exact hR
          | to a b => simp only [dK]; walk_at "kf"; walk_at "tg"; walk_at "kf"; walk_at "tg"; walk_at "kf"; exact hR
def spIsL (n : Nat) : DSp := fun ds O R _ => ∃ (kn : List (Str × Kd)) (k : Kd) (p : Pg), ds = [.lst (kn.map kv), dK k, dP p] ∧ KnD kn 0 ∧ k.ok = true ∧ k.depth ≤ 40 ∧ p.sok = true ∧ p.dpt ≤ 150 ∧ p.hgt < 400 ∧ 2 * p.hgt + 1 < n ∧ R (.bl (lg kn k p 0)) O
theorem ok_isL (T : Tx K mg) (n : Nat) : FO_is_long P w base T (n + 4) (spIsL n) := by
  refine fnd_is_long T (ok_il T n).1 (by walk_at "len") ?_
  rintro ds O R RE ⟨kn, k, p, rfl, h1, h2, h3, h4, h5, h6, h7, hR⟩
  unfold g_is_long
  walk_at "kf"
  exact ⟨kn, k, p, 0, rfl, h1, h2, h3, h4, h5, by omega, h7, hR⟩
end
end Kf
namespace Kf
open PySem PySem.Spec L2
open PyProof.Rows hiding St
local macro_rules | `(tactic| walk_at "kf") => `(tactic| simp (config := { failIfUnchanged := false }) only [startD, ap_fiEnumT, asT1_t, ap_fKGet, asStr_s, ap_fKIn, ap_fKIx, ap_gAsgL, rUnl_l, ap_fiRng3, asR3_i, rSplitO_s, ap_fOrL, rOrL_l, ap_fLcK, ap_gForK, ap_fMaxD, rMaxD_l, rMaxL_l, ap_fCallXD, ap_gForE, asLE_l, ap_fFrz, ap_fDicO, ap_fDGet, ap_fDGet1, ap_fDGet2, ap_gDPut, ap_fIsiT, ap_gForR, rRep_l, isT_i, isT_s, isT_b, isT_n, isT_t, isT_l, ap_gSeq, ap_gIf, ap_gRet, ap_gNext, ap_gSet, ap_gAsg, ap_gPar, ap_gDrop, ap_gRetF, ap_gRetN, ap_gFor, ap_gSetIx, ap_gBreak, ap_fRev, ap_fiRevR, asIR_i, rRev_l, ap_fCallX, ap_gRaise, ap_gTry, ap_gTryAs, ap_gNever, ap_fEdic, ap_fTest, ap_fOp, ap_fVar, envGet_s, patGet_s, ap_fC, ap_fCB, ap_fCons, ap_fNil, ap_fCall, ap_fAnd, ap_fOr, ap_fNot, ap_fAndV, ap_fOrV, ap_fNotV, ap_fIf, ap_fTup, ap_fLst, ap_fLstO, ap_fChain, ap_fUn, ap_fBM, ap_fBM0, ap_fPool, rPool_i, ap_fSl, ap_fPart, ap_fNoPart, asI_i, rSl_l, ap_fiRng1, ap_fiRng2, ap_fiList, ap_fiTup, ap_fiStr, ap_fiEnum, ap_fiZip, ap_fiRev, asL_l, asT_t, asSg_s, asR1_i, asR2_i, asL1_l, asL2_l, ap_fLc, ap_fLcO, ap_fYes, wipeD, lcD, isi_i_int, isi_i_bool, isi_i_str, isi_i_tuple, isi_i_list, isi_i_dict, isi_b_int, isi_b_bool, isi_b_str, isi_b_tuple, isi_b_list, isi_b_dict, isi_s_int, isi_s_bool, isi_s_str, isi_s_tuple, isi_s_list, isi_s_dict, isi_t_int, isi_t_bool, isi_t_str, isi_t_tuple, isi_t_list, isi_t_dict, isi_l_int, isi_l_bool, isi_l_str, isi_l_tuple, isi_l_list, isi_l_dict, isi_n_int, isi_n_bool, isi_n_str, isi_n_tuple, isi_n_list, isi_n_dict, isi_d_int, isi_d_bool, isi_d_str, isi_d_tuple, isi_d_list, isi_d_dict,
  deref_tup, deref_lst, deref_int, deref_str, deref_bl, deref_non, deref_scr, rLt_i, rLt_s, rLe_i, rLe_s, rInts_i, rInts0_i, rAdd_i, rAdd_s, rAdd_l, rAdd_t, rCatO_l, rNeg_i, rLen_t, rLen_l, rLen_c, rLen_s, rMax_i, rMin_i, rInt_i, rInt_b, rDivmod_i, ap_gAug, rStr_i, rList_l, rList_t, rListO_l, rListO_t, rTup_l, rTup_t,
  rIx_t0, rIx_t1, rIx_t2, rIx_t3, rIx_l0, rIx_l1, rIx_l2, rIsN_x, isNon_t, isNon_n, isNon_i, isNon_s, isNon_l, rEq_i, rEq_b, rEq_i2, rEq_b2, rJoin_m, rSplit_s, tyOk_l, tyOk_s, patD_nm, patD_tp, patDs_nil, patDs_cons, Option.bind_some, notX, notX',
  List.map_cons, List.map_nil, List.length_cons, List.length_nil, List.cons_append, List.nil_append, List.append_nil, List.replicate, List.getElem?_cons_zero, List.getElem?_cons_succ, List.set_cons_zero, List.set_cons_succ, updO_same, updO_updO,
  Nat.reduceSub, Nat.reduceAdd, Nat.reduceLeDiff, Nat.zero_add, Int.cast_ofNat_Int, Int.natCast_zero, Int.natCast_one, Int.reduceLT, Int.reduceLE, Int.reduceEq, Int.reduceAdd, Int.reduceSub, Int.reduceNeg, decide_true, decide_false, if_true, if_false, Bool.false_eq_true, eq_self, reduceIte, Bool.true_eq_false, decide_eq_true_eq, Bool.not_true, Bool.not_false, Bool.not_eq_true', decide_eq_false_iff_not, exists_eq_left', exists_eq_left, D.bl.injEq, true_and, and_true, not_true_eq_false, not_false_eq_true])
local macro_rules | `(tactic| walk_at "len") => `(tactic| (intro ds O R RE h; first | (obtain ⟨e, _⟩ := h; subst e; rfl) | (obtain ⟨_, e, _⟩ := h; subst e; rfl) | (obtain ⟨_, _, e, _⟩ := h; subst e; rfl) | (obtain ⟨_, _, _, e, _⟩ := h; subst e; rfl) | (obtain ⟨_, _, _, _, e, _⟩ := h; subst e; rfl) | (obtain ⟨_, _, _, _, _, e, _⟩ := h; subst e; rfl) | (obtain ⟨_, _, _, _, _, _, e, _⟩ := h; subst e; rfl) | (obtain ⟨_, _, _, _, _, _, _, e, _⟩ := h; subst e; rfl) | (obtain ⟨_, _, _, _, _, _, _, _, e, _⟩ := h; subst e; rfl) | (obtain ⟨_, _, _, _, _, _, _, _, _, e, _⟩ := h; subst e; rfl)))
local macro_rules | `(tactic| walk_at "kf1") => `(tactic| simp (config := { failIfUnchanged := false }) only [startD, ap_fiEnumT, asT1_t, ap_fKGet, asStr_s, ap_fKIn, ap_fKIx, ap_gAsgL, rUnl_l, ap_fiRng3, asR3_i, rSplitO_s, ap_fOrL, rOrL_l, ap_fLcK, ap_gForK, ap_fMaxD, rMaxD_l, rMaxL_l, ap_fCallXD, ap_gForE, asLE_l, ap_fFrz, ap_fDicO, ap_fDGet, ap_fDGet1, ap_fDGet2, ap_gDPut, ap_fIsiT, ap_gForR, rRep_l, isT_i, isT_s, isT_b, isT_n, isT_t, isT_l, ap_gIf, ap_gRet, ap_gNext, ap_gSet, ap_gAsg, ap_gPar, ap_gDrop, ap_gRetF, ap_gRetN, ap_gFor, ap_gSetIx, ap_gBreak, ap_fRev, ap_fiRevR, asIR_i, rRev_l, ap_fCallX, ap_gRaise, ap_gTry, ap_gTryAs, ap_gNever, ap_fEdic, ap_fTest, ap_fOp, ap_fVar, envGet_s, patGet_s, ap_fC, ap_fCB, ap_fCons, ap_fNil, ap_fCall, ap_fAnd, ap_fOr, ap_fNot, ap_fAndV, ap_fOrV, ap_fNotV, ap_fIf, ap_fTup, ap_fLst, ap_fLstO, ap_fChain, ap_fUn, ap_fBM, ap_fBM0, ap_fPool, rPool_i, ap_fSl, ap_fPart, ap_fNoPart, asI_i, rSl_l, ap_fiRng1, ap_fiRng2, ap_fiList, ap_fiTup, ap_fiStr, ap_fiEnum, ap_fiZip, ap_fiRev, asL_l, asT_t, asSg_s, asR1_i, asR2_i, asL1_l, asL2_l, ap_fLc, ap_fLcO, ap_fYes, wipeD, lcD, isi_i_int, isi_i_bool, isi_i_str, isi_i_tuple, isi_i_list, isi_i_dict, isi_b_int, isi_b_bool, isi_b_str, isi_b_tuple, isi_b_list, isi_b_dict, isi_s_int, isi_s_bool, isi_s_str, isi_s_tuple, isi_s_list, isi_s_dict, isi_t_int, isi_t_bool, isi_t_str, isi_t_tuple, isi_t_list, isi_t_dict, isi_l_int, isi_l_bool, isi_l_str, isi_l_tuple, isi_l_list, isi_l_dict, isi_n_int, isi_n_bool, isi_n_str, isi_n_tuple, isi_n_list, isi_n_dict, isi_d_int, isi_d_bool, isi_d_str, isi_d_tuple, isi_d_list, isi_d_dict,
  deref_tup, deref_lst, deref_int, deref_str, deref_bl, deref_non, deref_scr, rLt_i, rLt_s, rLe_i, rLe_s, rInts_i, rInts0_i, rAdd_i, rAdd_s, rAdd_l, rAdd_t, rCatO_l, rNeg_i, rLen_t, rLen_l, rLen_c, rLen_s, rMax_i, rMin_i, rInt_i, rInt_b, rDivmod_i, ap_gAug, rStr_i, rList_l, rList_t, rListO_l, rListO_t, rTup_l, rTup_t,
  rIx_t0, rIx_t1, rIx_t2, rIx_t3, rIx_l0, rIx_l1, rIx_l2, rIsN_x, isNon_t, isNon_n, isNon_i, isNon_s, isNon_l, rEq_i, rEq_b, rEq_i2, rEq_b2, rJoin_m, rSplit_s, tyOk_l, tyOk_s, patD_nm, patD_tp, patDs_nil, patDs_cons, Option.bind_some, notX, notX',
  List.map_cons, List.map_nil, List.length_cons, List.length_nil, List.cons_append, List.nil_append, List.append_nil, List.replicate, List.getElem?_cons_zero, List.getElem?_cons_succ, List.set_cons_zero, List.set_cons_succ, updO_same, updO_updO,
  Nat.reduceSub, Nat.reduceAdd, Nat.reduceLeDiff, Nat.zero_add, Int.cast_ofNat_Int, Int.natCast_zero, Int.natCast_one, Int.reduceLT, Int.reduceLE, Int.reduceEq, Int.reduceAdd, Int.reduceSub, Int.reduceNeg, decide_true, decide_false, if_true, if_false, Bool.false_eq_true, eq_self, reduceIte, Bool.true_eq_false, decide_eq_true_eq, Bool.not_true, Bool.not_false, Bool.not_eq_true', decide_eq_false_iff_not, exists_eq_left', exists_eq_left, D.bl.injEq, true_and, and_true, not_true_eq_false, not_false_eq_true])
section
variable {P : Program} {w : World} {K : PySem.W.Frag} {mg : Str → Option Value} {base : Heap}
local macro_rules | `(tactic| walk_at "tg") => `(tactic| simp (config := { failIfUnchanged := false }) only [te_name_take, te_name_give, te_name_pair, te_name_first, te_name_second, te_name_to, te_name_both, te_name_one, te_name_mark, te_name_name, te_name_thing, te_name_at, te_thing_take, te_thing_give, te_thing_pair, te_thing_first, te_thing_second, te_thing_to, te_thing_both, te_thing_one, te_thing_mark, te_thing_name, te_thing_thing, te_thing_at, te_take_take, te_take_give, te_take_pair, te_take_first, te_take_second, te_take_to, te_take_both, te_take_one, te_take_mark, te_take_name, te_take_thing, te_take_at, te_give_take, te_give_give, te_give_pair, te_give_first, te_give_second, te_give_to, te_give_both, te_give_one, te_give_mark, te_give_name, te_give_thing, te_give_at, te_pair_take, te_pair_give, te_pair_pair, te_pair_first, te_pair_second, te_pair_to, te_pair_both, te_pair_one, te_pair_mark, te_pair_name, te_pair_thing, te_pair_at, te_first_take, te_first_give, te_first_pair, te_first_first, te_first_second, te_first_to, te_first_both, te_first_one, te_first_mark, te_first_name, te_first_thing, te_first_at, te_second_take, te_second_give, te_second_pair, te_second_first, te_second_second, te_second_to, te_second_both, te_second_one, te_second_mark, te_second_name, te_second_thing, te_second_at, te_mark_take, te_mark_give, te_mark_pair, te_mark_first, te_mark_second, te_mark_to, te_mark_both, te_mark_one, te_mark_mark, te_mark_name, te_mark_thing, te_mark_at, te_one_take, te_one_give, te_one_pair, te_one_first, te_one_second, te_one_to, te_one_both, te_one_one, te_one_mark, te_one_name, te_one_thing, te_one_at, te_to_take, te_to_give, te_to_pair, te_to_first, te_to_second, te_to_to, te_to_both, te_to_one, te_to_mark, te_to_name, te_to_thing, te_to_at, te_both_take, te_both_give, te_both_pair, te_both_first, te_both_second, te_both_to, te_both_both, te_both_one, te_both_mark, te_both_name, te_both_thing, te_both_at, te_at_take, te_at_give, te_at_pair, te_at_first, te_at_second, te_at_to, te_at_both, te_at_one, te_at_mark, te_at_name, te_at_thing, te_at_at, ti4_name, ti4_thing, ti4_take, ti4_give, ti4_pair, ti4_first, ti4_second, ti2_name, ti2_thing, ti2_take, ti2_give, ti2_pair, ti2_first, ti2_second, szT_0, szT_1, szT_2, szT_3, szT_4, szT_5, szT_6, szT_7, szT_8, szT_9, szT_10, szT_11, szT_12, Bool.not_true, Bool.not_false, true_and])
theorem atI_neg1 {α : Type} (r : List α) (x : α) : atI (r ++ [x]) (-1) = some x := by
  have h1 : ¬ (0 : Int) ≤ -1 := by decide
  have h2 : -(((r ++ [x]).length : Nat) : Int) ≤ -1 := by rw [List.length_append, List.length_singleton]; omega
  have h3 : ((-1 : Int) + (((r ++ [x]).length : Nat) : Int)).toNat = r.length := by rw [List.length_append, List.length_singleton]; omega
  unfold atI ixN
  rw [if_neg h1, if_pos h2, h3]
  show (r ++ [x])[r.length]? = some x
  rw [List.getElem?_append_right (Nat.le_refl _), Nat.sub_self, List.getElem?_cons_zero]
def dLo : Option Kd → D
  | some k => dK k
  | none => .tup [.str (Str.ofString "none")]
theorem rEq_Lo {neg : Bool} {u : Option Kd} {k : Kd} {O : Ow} {Q : VD} (hu : ∀ c, u = some c → c.ok = true ∧ c.depth ≤ 40) (hk : k.ok = true) (hd : k.depth ≤ 40) : rEqD neg (dLo u) (dK k) O Q = Q (.bl (neg ^^ decide (u = some k))) O := by
  cases u with
  | none =>
    rw [show decide ((none : Option Kd) = some k) = false from rfl, Bool.xor_false]
    have e : deref O (dK k) = dK k := by cases k <;> rfl
    rw [rEq_d (x := dLo none) (by rw [show deref O (dLo none) = dLo none from rfl]; decide +kernel) (by rw [e, isPy_dK]; exact hk) (by rw [show deref O (dLo none) = dLo none from rfl]; decide +kernel), show deref O (dLo none) = dLo none from rfl, e]
    have h : deq (dLo none) (dK k) = false := by
      have w1 : deq (.str (Str.ofString "none")) (.str (Str.ofString "one")) = false := by decide +kernel
      cases k <;> simp only [dLo, dK, deq_t, deqs_cc, deqs_nc, deqs_nn, w1, Bool.and_false, Bool.false_and]
    rw [h]
    simp
  | some c =>
    obtain ⟨h1, h2⟩ := hu c rfl
    rw [show dLo (some c) = dK c from rfl, rEq_K h1 hk (by omega)]
    simp
theorem envOf_last (kn : List (Str × Kd)) (x : Str) : (kn.filter fun q => decide (q.1 = x)).getLast?.map (·.2) = envOf kn x := by
  unfold envOf
  rw [← List.head?_filter, List.filter_reverse, List.head?_reverse]
theorem rIn_ls3 {neg : Bool} {z : Str} {O : Ow} {Q : VD} (h : PyData.strOk z = true) : rInD neg (.str z) (.lst [.str (Str.ofString "first"), .str (Str.ofString "second"), .str (Str.ofString "give")]) O Q = Q (.bl (neg ^^ decide (z ∈ W3L))) O := rIn_strs (ts := W3L) h (by decide +kernel)
theorem rEq_ff {a b : Str} {O : Ow} {Q : VD} (h : (PyData.strOk a && PyData.strOk b && !decide (a = b)) = true) : rEqD false (.str a) (.str b) O Q = Q (.bl false) O := by
  simp only [Bool.and_eq_true, Bool.not_eq_true'] at h
  rw [rEq_s h.1.1 h.1.2, h.2]; rfl
theorem rEq_t3 {neg : Bool} {x y : Str} {a b : Kd} {O : Ow} {Q : VD} (hx : PyData.strOk x = true) (hy : PyData.strOk y = true) (ha : a.ok = true) (hb : b.ok = true) (hd : a.depth ≤ 150) : rEqD neg (.tup [.str (Str.ofString "take"), .str x, dK a]) (.tup [.str (Str.ofString "take"), .str y, dK b]) O Q = Q (.bl (neg ^^ (decide (x = y) && decide (a = b)))) O := by
  have h1 : ∀ (x : Str) (a : Kd), PyData.strOk x = true → a.ok = true → isPy (.tup [.str (Str.ofString "take"), .str x, dK a]) = true := fun x a hx ha => by simp [isPy, isPys, sw_take, hx, isPy_dK, ha]
  rw [rEq_d (by rw [deref_tup]; exact h1 x a hx ha) (by rw [deref_tup]; exact h1 y b hy hb) (by rw [deref_tup, dpT, dpC, dpC, dpC, dpN, dpS, dpS, dp_dK]; omega), deref_tup, deref_tup, deq_t, deqs_cc, deqs_cc, deqs_cc, deqs_nn, deq_s, deq_s, deq_K]
  simp
theorem rEq_tx {neg : Bool} {xs : List D} {y : Str} {b : Kd} {O : Ow} {Q : VD} (h1 : isPy (.tup xs) = true) (hd : dp (.tup xs) ≤ 190) (hy : PyData.strOk y = true) (hb : b.ok = true) (hn : ∀ x ∈ xs.head?, deq x (.str (Str.ofString "take")) = false) : rEqD neg (.tup xs) (.tup [.str (Str.ofString "take"), .str y, dK b]) O Q = Q (.bl neg) O := by
  have h2 : isPy (.tup [.str (Str.ofString "take"), .str y, dK b]) = true := by simp [isPy, isPys, sw_take, hy, isPy_dK, hb]
  rw [rEq_d (by rw [deref_tup]; exact h1) (by rw [deref_tup]; exact h2) (by rw [deref_tup]; exact hd), deref_tup, deref_tup, deq_t]
  cases xs with
  | nil => rw [deqs_nc]; simp
  | cons x xs => rw [deqs_cc, hn x rfl]; simp
def spLGA (n : Nat) : DSp := fun ds O R _ => ∃ (kn : List (Str × Kd)) (p : Pg) (t : Nat), ds = [.lst (kn.map kv), dP p, .int t] ∧ KnD kn t ∧ p.sok = true ∧ p.dpt ≤ 150 ∧ t + p.hgt < 400 ∧ 2 * p.hgt < n ∧ R (dLo (gal kn p t)) O
theorem ok_lil (T : Tx K mg) : ∀ n, FO__law_is_long P w base T (n + 3) (spIL n) ∧ FO__law_along P w base T (n + 3) (spLGA n)
  | 0 => ⟨fnUp (none_left fun ds O R RE ⟨kn, k, p, t, _, _, _, _, _, _, _, h, _⟩ => by omega) (Nat.zero_le _), fnUp (none_left fun ds O R RE ⟨kn, p, t, _, _, _, _, _, h, _⟩ => by omega) (Nat.zero_le _)⟩
  | n + 1 => by
    obtain ⟨ih1, ih2⟩ := ok_lil T n
    constructor
    · refine fnd__law_is_long T ih2 ih1 (by walk_at "len") ?_
      rintro ds O R RE ⟨kn, k, p, t, rfl, hkn, hko, hkd, hps, hpd, htp, hn, hR⟩
      unfold g__law_is_long
      cases k with
      | one =>
        rw [lg_one] at hR
        simp only [dK]
        walk_at "kf"
        walk_at "tg"
        walk_at "kf"
        rw [rEq_thing hps hpd, Bool.false_xor]
        exact hR
      | mk m =>
        rw [lg_mk] at hR
        rw [show dK (.mk m) = D.tup [.str (Str.ofString "mark"), .str m] from rfl]
        walk_at "kf"
        walk_at "tg"
        walk_at "kf"
        refine ⟨kn, p, t, rfl, hkn, hps, hpd, by omega, by omega, ?_⟩
        try dsimp only
        rw [show D.tup [.str (Str.ofString "mark"), .str m] = dK (.mk m) from rfl, rEq_Lo (fun c e => gal_ok hkn p c e) hko hkd, Bool.false_xor]
        exact hR
      | both a b =>
        simp only [Kd.ok, Kd.depth, Bool.and_eq_true] at hko hkd
        have no : (∀ f s, p ≠ .pair f s) → R (.bl false) O := fun h => by rw [lg_npair kn t a b p h] at hR; exact hR
        simp only [dK]
        walk_at "kf"
        walk_at "tg"
        walk_at "kf"
        walk_at "tg"
        walk_at "kf"
        cases p with
        | pair f s =>
          simp only [Pg.sok, Pg.dpt, Pg.hgt, Bool.and_eq_true] at hps hpd htp hn
          rw [lg_pair] at hR
          simp only [dP]
          walk_at "kf"
          walk_at "tg"
          walk_at "kf"
          refine ⟨kn, a, f, t, rfl, hkn, hko.1, by omega, hps.1, by omega, by omega, by omega, ?_⟩
          try dsimp only
          cases hf : lg kn a f t with
          | false =>
            rw [hf, Bool.false_and] at hR
            walk_at "kf"
            exact hR
          | true =>
            rw [hf, Bool.true_and] at hR
            walk_at "kf"
            exact ⟨kn, b, s, t, rfl, hkn, hko.2, by omega, hps.2, by omega, by omega, by omega, hR⟩
        | nm x => simp only [dP]; walk_at "kf"; walk_at "tg"; walk_at "kf"; exact no fun f s e => nomatch e
        | thing => simp only [dP]; walk_at "kf"; walk_at "tg"; walk_at "kf"; exact no fun f s e => nomatch e
        | take x k b => simp only [dP]; walk_at "kf"; walk_at "tg"; walk_at "kf"; exact no fun f s e => nomatch e
        | give f a => simp only [dP]; walk_at "kf"; walk_at "tg"; walk_at "kf"; exact no fun f s e => nomatch e
        | first f => simp only [dP]; walk_at "kf"; walk_at "tg"; walk_at "kf"; exact no fun f s e => nomatch e
        | second f => simp only [dP]; walk_at "kf"; walk_at "tg"; walk_at "kf"; exact no fun f s e => nomatch e
      | to d c =>
        simp only [Kd.ok, Kd.depth, Bool.and_eq_true] at hko hkd
        have no : (∀ x k b, p ≠ .take x k b) → R (.bl false) O := fun h => by rw [lg_ntake kn t d c p h] at hR; exact hR
        simp only [dK]
        walk_at "kf"
        walk_at "tg"
        walk_at "kf"
        walk_at "tg"
        walk_at "kf"
        have hx := xn_ok64 t (by omega)
        refine ⟨Nat.lt_of_le_of_lt (Nat.log2_le_self _) (by omega), ?_⟩
        walk_at "kf"
        refine ⟨sz_small (by have := hx.2; omega), ?_⟩
        rw [show Str.ofString "x" ++ Str.ofString (toString (t : Int)) = xn t from rfl]
        cases p with
        | take x k b =>
          simp only [Pg.sok, Pg.dpt, Pg.hgt, Bool.and_eq_true] at hps hpd htp hn
          rw [lg_take] at hR
          simp only [dP]
          rw [rSlA_t, show cut [D.str (Str.ofString "take"), .str x, dK k, dP b] none (some 3) = [D.str (Str.ofString "take"), .str x, dK k] by simp [cut, HT.sIx]]
          rw [rEq_t3 hps.1.1 hx.1 hps.1.2 hko.1 (by omega)]
          by_cases c1 : x = xn t ∧ k = d
          · rw [decide_eq_true c1.1, decide_eq_true c1.2, Bool.true_and, Bool.true_and] at hR
            simp only [c1.1, c1.2, decide_true, Bool.and_self, Bool.xor_self]
            walk_at "kf"
            refine ⟨sz_21 (by have := hkn.1; simp only [List.length_map]; omega), ?_⟩
            exact ⟨kn ++ [(xn t, d)], c, b, t + 1, by rw [List.map_append]; rfl, hkn.snoc (by omega) hko.1 (by omega), hko.2, by omega, hps.2, by omega, by omega, by omega, hR⟩
          · have e : (decide (x = xn t) && decide (k = d)) = false := by
              rw [← Bool.decide_and]; exact decide_eq_false c1
            rw [← Bool.and_assoc, e, Bool.false_and] at hR
            rw [e]
            simp only [Bool.xor_false]
            walk_at "kf"
            exact hR
        | nm x =>
          simp only [dP]
          rw [rSlA_t, rEq_tx (by rw [show cut [D.str (Str.ofString "name"), .str x] none (some 3) = [D.str (Str.ofString "name"), .str x] by simp [cut, HT.sIx], show D.tup [.str (Str.ofString "name"), .str x] = dP (.nm x) from rfl, isPy_dP]; exact hps) (by rw [show cut [D.str (Str.ofString "name"), .str x] none (some 3) = [D.str (Str.ofString "name"), .str x] by simp [cut, HT.sIx], show D.tup [.str (Str.ofString "name"), .str x] = dP (.nm x) from rfl, dp_dP]; omega) hx.1 hko.1 (by rw [show cut [D.str (Str.ofString "name"), .str x] none (some 3) = [D.str (Str.ofString "name"), .str x] by simp [cut, HT.sIx]]; intro y hy; cases hy; decide +kernel)]
          walk_at "kf"
          exact no fun f s b e => nomatch e
        | thing =>
          simp only [dP]
          rw [rSlA_t, rEq_tx (by decide +kernel) (by decide +kernel) hx.1 hko.1 (by intro y hy; revert y; decide +kernel)]
          walk_at "kf"
          exact no fun f s b e => nomatch e
        | pair f a =>
          simp only [dP]
          have ec : cut [D.str (Str.ofString "pair"), dP f, dP a] none (some 3) = [D.str (Str.ofString "pair"), dP f, dP a] := by simp [cut, HT.sIx]
          rw [rSlA_t, ec, show D.tup [.str (Str.ofString "pair"), dP f, dP a] = dP (.pair f a) from rfl]
          rw [show dP (.pair f a) = D.tup [.str (Str.ofString "pair"), dP f, dP a] from rfl, rEq_tx (by rw [show D.tup [.str (Str.ofString "pair"), dP f, dP a] = dP (.pair f a) from rfl, isPy_dP]; exact hps) (by rw [show D.tup [.str (Str.ofString "pair"), dP f, dP a] = dP (.pair f a) from rfl, dp_dP]; omega) hx.1 hko.1 (by intro y hy; cases hy; decide +kernel)]
          walk_at "kf"
          exact no fun f s b e => nomatch e
        | give f a =>
          simp only [dP]
          have ec : cut [D.str (Str.ofString "give"), dP f, dP a] none (some 3) = [D.str (Str.ofString "give"), dP f, dP a] := by simp [cut, HT.sIx]
          rw [rSlA_t, ec, show D.tup [.str (Str.ofString "give"), dP f, dP a] = dP (.give f a) from rfl]
          rw [show dP (.give f a) = D.tup [.str (Str.ofString "give"), dP f, dP a] from rfl, rEq_tx (by rw [show D.tup [.str (Str.ofString "give"), dP f, dP a] = dP (.give f a) from rfl, isPy_dP]; exact hps) (by rw [show D.tup [.str (Str.ofString "give"), dP f, dP a] = dP (.give f a) from rfl, dp_dP]; omega) hx.1 hko.1 (by intro y hy; cases hy; decide +kernel)]
          walk_at "kf"
          exact no fun f s b e => nomatch e
        | first f =>
          simp only [dP]
          have ec : cut [D.str (Str.ofString "first"), dP f] none (some 3) = [D.str (Str.ofString "first"), dP f] := by simp [cut, HT.sIx]
          rw [rSlA_t, ec, rEq_tx (by rw [show D.tup [.str (Str.ofString "first"), dP f] = dP (.first f) from rfl, isPy_dP]; exact hps) (by rw [show D.tup [.str (Str.ofString "first"), dP f] = dP (.first f) from rfl, dp_dP]; omega) hx.1 hko.1 (by intro y hy; cases hy; decide +kernel)]
          walk_at "kf"
          exact no fun f s b e => nomatch e
        | second f =>
          simp only [dP]
          have ec : cut [D.str (Str.ofString "second"), dP f] none (some 3) = [D.str (Str.ofString "second"), dP f] := by simp [cut, HT.sIx]
          rw [rSlA_t, ec, rEq_tx (by rw [show D.tup [.str (Str.ofString "second"), dP f] = dP (.second f) from rfl, isPy_dP]; exact hps) (by rw [show D.tup [.str (Str.ofString "second"), dP f] = dP (.second f) from rfl, dp_dP]; omega) hx.1 hko.1 (by intro y hy; cases hy; decide +kernel)]
          walk_at "kf"
          exact no fun f s b e => nomatch e
    · refine fnd__law_along T ih2 ih1 (by walk_at "len") ?_
      rintro ds O R RE ⟨kn, p, t, rfl, hkn, hps, hpd, htp, hn, hR⟩
      unfold g__law_along
      have hks : ∀ q ∈ kn, PyData.strOk q.1 = true := fun q hq => (hkn.2.2 q hq).1
      have hkl := hkn.1
      cases p with
      | nm x =>
        rw [al_nm] at hR
        simp only [dP]
        walk_at "kf"; walk_at "tg"; walk_at "kf"
        refine lcA_filter (fun q : Str × Kd => decide (q.1 = x)) kv (fun q => dK q.2) kn _ _ (sz_21 (by simp only [List.length_nil]; omega)) ?_ ?_
        · intro q hq Q1 Q2 g1 g2
          walk_at "kf"
          rw [rEq_s (hks q hq) hps]
          by_cases e : q.1 = x
          · simp only [e, decide_true] at g1
            simp only [e, decide_true, Bool.false_xor]
            walk_at "kf"
            exact g1 trivial
          · simp only [e, decide_false] at g2
            simp only [e, decide_false, Bool.false_xor]
            walk_at "kf"
            exact g2 trivial
        · rw [List.nil_append]
          walk_at "kf"
          have hl := envOf_last kn x
          cases hL : (kn.filter fun q => decide (q.1 = x)).getLast? with
          | none =>
            rw [hL] at hl
            rw [List.getLast?_eq_none_iff.mp hL]
            simp only [List.map_nil, List.isEmpty_nil, if_true]
            walk_at "kf"
            rw [← hl] at hR
            exact hR
          | some q =>
            rw [hL] at hl
            obtain ⟨r, hr⟩ : ∃ r, (kn.filter fun q => decide (q.1 = x)) = r ++ [q] := List.getLast?_eq_some_iff.mp hL
            rw [hr, List.map_append]
            rw [if_neg (by simp)]
            rw [rIx_l (show atI (List.map (fun q : Str × Kd => dK q.2) r ++ List.map (fun q => dK q.2) [q]) (-1) = some (dK q.2) from atI_neg1 _ _)]
            rw [← hl] at hR
            exact hR
      | thing =>
        rw [al_thing] at hR
        simp only [dP]
        walk_at "kf"; walk_at "tg"; walk_at "kf"; walk_at "tg"; walk_at "kf"
        rw [rIn_ls3 sw_thing]
        simp only [show decide (Str.ofString "thing" ∈ W3L) = false by decide +kernel, Bool.true_xor, Bool.not_false]
        walk_at "kf"
        exact hR
      | take x k b =>
        rw [al_take] at hR
        simp only [dP]
        walk_at "kf"; walk_at "tg"; walk_at "kf"; walk_at "tg"; walk_at "kf"
        rw [rIn_ls3 sw_take]
        simp only [show decide (Str.ofString "take" ∈ W3L) = false by decide +kernel, Bool.true_xor, Bool.not_false]
        walk_at "kf"
        exact hR
      | pair f s =>
        rw [al_pair] at hR
        simp only [dP]
        walk_at "kf"; walk_at "tg"; walk_at "kf"; walk_at "tg"; walk_at "kf"
        rw [rIn_ls3 sw_pair]
        simp only [show decide (Str.ofString "pair" ∈ W3L) = false by decide +kernel, Bool.true_xor, Bool.not_false]
        walk_at "kf"
        exact hR
      | give f a =>
        simp only [Pg.sok, Pg.dpt, Pg.hgt, Bool.and_eq_true] at hps hpd htp hn
        rw [al_give] at hR
        simp only [dP]
        walk_at "kf"; walk_at "tg"; walk_at "kf"; walk_at "tg"; walk_at "kf"
        rw [rIn_ls3 sw_give]
        simp only [show decide (Str.ofString "give" ∈ W3L) = true by decide +kernel, Bool.true_xor, Bool.not_true]
        walk_at "kf"
        refine ⟨kn, f, t, rfl, hkn, hps.1, by omega, by omega, by omega, ?_⟩
        try dsimp only
        walk_at "kf"; walk_at "tg"; walk_at "kf"
        have hc := gal_ok hkn f
        cases e : gal kn f t with
        | none =>
          rw [e] at hR
          simp only [dLo]
          walk_at "kf"
          rw [rEq_ff (by decide +kernel)]
          walk_at "kf"; walk_at "tg"; walk_at "kf"
          try rw [rEq_ff (by decide +kernel)]
          walk_at "kf"
          exact hR
        | some c =>
          have hc := hc c e
          rw [e] at hR
          rw [show dLo (some c) = dK c from rfl]
          cases c with
          | to d c =>
            simp only [Kd.ok, Kd.depth, Bool.and_eq_true] at hc
            simp only [dK]
            walk_at "kf"; walk_at "tg"; walk_at "kf"; walk_at "tg"; walk_at "kf"
            refine ⟨kn, d, a, t, rfl, hkn, hc.1.1, by omega, hps.2, by omega, by omega, by omega, ?_⟩
            try dsimp only
            dsimp only at hR
            cases hl : lg kn d a t with
            | true => rw [hl, if_pos rfl] at hR; walk_at "kf"; exact hR
            | false => rw [hl, if_neg (by simp)] at hR; walk_at "kf"; walk_at "tg"; walk_at "kf"; exact hR
          | one => simp only [dK]; walk_at "kf"; walk_at "tg"; walk_at "kf"; walk_at "tg"; walk_at "kf"; exact hR
          | mk m => simp only [dK]; walk_at "kf"; walk_at "tg"; walk_at "kf"; walk_at "tg"; walk_at "kf"; exact hR
          | both a b => simp only [dK]; walk_at "kf"; walk_at "tg"; walk_at "kf"; walk_at "tg"; walk_at "kf"; exact hR
      | first f =>
        simp only [Pg.sok, Pg.dpt, Pg.hgt] at hps hpd htp hn
        rw [al_first] at hR
        simp only [dP]
        walk_at "kf"; walk_at "tg"; walk_at "kf"; walk_at "tg"; walk_at "kf"
        rw [rIn_ls3 sw_first]
        simp only [show decide (Str.ofString "first" ∈ W3L) = true by decide +kernel, Bool.true_xor, Bool.not_true]
        walk_at "kf"
        refine ⟨kn, f, t, rfl, hkn, hps, by omega, by omega, by omega, ?_⟩
        try dsimp only
        walk_at "kf"; walk_at "tg"; walk_at "kf"; walk_at "tg"; walk_at "kf"
        cases e : gal kn f t with
        | none =>
          rw [e] at hR
          simp only [dLo]
          walk_at "kf"
          rw [rEq_ff (by decide +kernel)]
          walk_at "kf"; walk_at "tg"; walk_at "kf"
          try rw [rEq_ff (by decide +kernel)]
          walk_at "kf"
          exact hR
        | some c =>
          rw [e] at hR
          rw [show dLo (some c) = dK c from rfl]
          cases c with
          | both a b =>
            simp only [dK]; walk_at "kf"; walk_at "tg"; walk_at "kf"
            rw [rIndex_l (j := 0) (by decide +kernel) (by rw [deref_str]; decide +kernel) (by decide +kernel) (by rw [deref_str]; decide +kernel) (by rw [deref_str]; decide +kernel)]
            walk_at "kf"
            exact hR
          | one => simp only [dK]; walk_at "kf"; walk_at "tg"; walk_at "kf"; walk_at "tg"; walk_at "kf"; exact hR
          | mk m => simp only [dK]; walk_at "kf"; walk_at "tg"; walk_at "kf"; walk_at "tg"; walk_at "kf"; exact hR
          | to a b => simp only [dK]; walk_at "kf"; walk_at "tg"; walk_at "kf"; walk_at "tg"; walk_at "kf"; exact hR
      | second f =>
        simp only [Pg.sok, Pg.dpt, Pg.hgt] at hps hpd htp hn
        rw [al_second] at hR
        simp only [dP]
        walk_at "kf"; walk_at "tg"; walk_at "kf"; walk_at "tg"; walk_at "kf"
        rw [rIn_ls3 sw_second]
        simp only [show decide (Str.ofString "second" ∈ W3L) = true by decide +kernel, Bool.true_xor, Bool.not_true]
        walk_at "kf"
        refine ⟨kn, f, t, rfl, hkn, hps, by omega, by omega, by omega, ?_⟩
        try dsimp only
        walk_at "kf"; walk_at "tg"; walk_at "kf"; walk_at "tg"; walk_at "kf"
        cases e : gal kn f t with
        | none =>
          rw [e] at hR
          simp only [dLo]
          walk_at "kf"
          rw [rEq_ff (by decide +kernel)]
          walk_at "kf"; walk_at "tg"; walk_at "kf"
          try rw [rEq_ff (by decide +kernel)]
          walk_at "kf"
          exact hR
        | some c =>
          rw [e] at hR
          rw [show dLo (some c) = dK c from rfl]
          cases c with
          | both a b =>
            simp only [dK]; walk_at "kf"; walk_at "tg"; walk_at "kf"
            rw [rIndex_l (j := 1) (by decide +kernel) (by rw [deref_str]; decide +kernel) (by decide +kernel) (by rw [deref_str]; decide +kernel) (by rw [deref_str]; decide +kernel)]
            walk_at "kf"
            exact hR
          | one => simp only [dK]; walk_at "kf"; walk_at "tg"; walk_at "kf"; walk_at "tg"; walk_at "kf"; exact hR
          | mk m => simp only [dK]; walk_at "kf"; walk_at "tg"; walk_at "kf"; walk_at "tg"; walk_at "kf"; exact hR
          | to a b => simp only [dK]; walk_at "kf"; walk_at "tg"; walk_at "kf"; walk_at "tg"; walk_at "kf"; exact hR
end
end Kf
/-! Kgv: drawn programs, with a bound B for the kinds' leaves; every part's kind has at most 2 * B. -/
namespace Kf
open PySem PySem.Spec L2
open PyProof.Rows hiding St
structure RowV (B : Nat) (kn : List (Str × Kd)) : Prop where
  nm : ∀ q ∈ kn, q.1 ∈ UN ∧ q.2.over AB ∧ q.2.leaves ≤ B
  ep : envOf kn "p" = some (.mk "a")
  eq : envOf kn "q" = some (.mk "b")
theorem RowV.snoc {B : Nat} {kn : List (Str × Kd)} (h : RowV B kn) {x : Str} {k : Kd} (hx : x ∈ TN) (ho : k.over AB) (hl : k.leaves ≤ B) : RowV B (kn ++ [(x, k)]) := by
  obtain ⟨h1, h2, h3⟩ := tn_un x hx
  refine ⟨fun q hq => ?_, ?_, ?_⟩
  · rcases List.mem_append.mp hq with hq | hq
    · exact h.nm q hq
    · rw [List.mem_singleton.mp hq]; exact ⟨h1, ho, hl⟩
  · rw [envOf_snoc, if_neg h2]; exact h.ep
  · rw [envOf_snoc, if_neg h3]; exact h.eq
theorem RowV.mono {B C : Nat} {kn : List (Str × Kd)} (h : RowV B kn) (hb : B ≤ C) : RowV C kn :=
  ⟨fun q hq => ⟨(h.nm q hq).1, (h.nm q hq).2.1, Nat.le_trans (h.nm q hq).2.2 hb⟩, h.ep, h.eq⟩
theorem over_mksAB : ∀ k : Kd, k.over AB → k.mks
  | .mk m, h => by
    intro x hx
    simp only [Kd.marks, List.mem_singleton] at hx
    subst hx
    have h' : x ∈ AB := h
    have : ∀ m ∈ AB, isMarkB m = true := by decide +kernel
    exact this x h'
  | .one, _ => by intro x hx; simp [Kd.marks] at hx
  | .to a b, h => by
    intro x hx
    simp only [Kd.marks, List.mem_append] at hx
    exact hx.elim (over_mksAB a h.1 x) (over_mksAB b h.2 x)
  | .both a b, h => by
    intro x hx
    simp only [Kd.marks, List.mem_append] at hx
    exact hx.elim (over_mksAB a h.1 x) (over_mksAB b h.2 x)
theorem kk_ab {k : Kd} (h : k.over AB) (hl : k.leaves ≤ 12) : k.kk := by
  have := k.depth_lt
  exact ⟨over_mksAB k h, by omega, by omega⟩
end Kf
namespace Kf
open PySem PySem.Spec L2
open PyProof.Rows hiding St
local macro_rules | `(tactic| walk_at "kf") => `(tactic| simp (config := { failIfUnchanged := false }) only [startD, ap_fiEnumT, asT1_t, ap_fKGet, asStr_s, ap_fKIn, ap_fKIx, ap_gAsgL, rUnl_l, ap_fiRng3, asR3_i, rSplitO_s, ap_fOrL, rOrL_l, ap_fLcK, ap_gForK, ap_fMaxD, rMaxD_l, rMaxL_l, ap_fCallXD, ap_gForE, asLE_l, ap_fFrz, ap_fDicO, ap_fDGet, ap_fDGet1, ap_fDGet2, ap_gDPut, ap_fIsiT, ap_gForR, rRep_l, isT_i, isT_s, isT_b, isT_n, isT_t, isT_l, ap_gSeq, ap_gIf, ap_gRet, ap_gNext, ap_gSet, ap_gAsg, ap_gPar, ap_gDrop, ap_gRetF, ap_gRetN, ap_gFor, ap_gSetIx, ap_gBreak, ap_fRev, ap_fiRevR, asIR_i, rRev_l, ap_fCallX, ap_gRaise, ap_gTry, ap_gTryAs, ap_gNever, ap_fEdic, ap_fTest, ap_fOp, ap_fVar, envGet_s, patGet_s, ap_fC, ap_fCB, ap_fCons, ap_fNil, ap_fCall, ap_fAnd, ap_fOr, ap_fNot, ap_fAndV, ap_fOrV, ap_fNotV, ap_fIf, ap_fTup, ap_fLst, ap_fLstO, ap_fChain, ap_fUn, ap_fBM, ap_fBM0, ap_fPool, rPool_i, ap_fSl, ap_fPart, ap_fNoPart, asI_i, rSl_l, ap_fiRng1, ap_fiRng2, ap_fiList, ap_fiTup, ap_fiStr, ap_fiEnum, ap_fiZip, ap_fiRev, asL_l, asT_t, asSg_s, asR1_i, asR2_i, asL1_l, asL2_l, ap_fLc, ap_fLcO, ap_fYes, wipeD, lcD, isi_i_int, isi_i_bool, isi_i_str, isi_i_tuple, isi_i_list, isi_i_dict, isi_b_int, isi_b_bool, isi_b_str, isi_b_tuple, isi_b_list, isi_b_dict, isi_s_int, isi_s_bool, isi_s_str, isi_s_tuple, isi_s_list, isi_s_dict, isi_t_int, isi_t_bool, isi_t_str, isi_t_tuple, isi_t_list, isi_t_dict, isi_l_int, isi_l_bool, isi_l_str, isi_l_tuple, isi_l_list, isi_l_dict, isi_n_int, isi_n_bool, isi_n_str, isi_n_tuple, isi_n_list, isi_n_dict, isi_d_int, isi_d_bool, isi_d_str, isi_d_tuple, isi_d_list, isi_d_dict,
  deref_tup, deref_lst, deref_int, deref_str, deref_bl, deref_non, deref_scr, rLt_i, rLt_s, rLe_i, rLe_s, rInts_i, rInts0_i, rAdd_i, rAdd_s, rAdd_l, rAdd_t, rCatO_l, rNeg_i, rLen_t, rLen_l, rLen_c, rLen_s, rMax_i, rMin_i, rInt_i, rInt_b, rDivmod_i, ap_gAug, rStr_i, rList_l, rList_t, rListO_l, rListO_t, rTup_l, rTup_t,
  rIx_t0, rIx_t1, rIx_t2, rIx_t3, rIx_l0, rIx_l1, rIx_l2, rIsN_x, isNon_t, isNon_n, isNon_i, isNon_s, isNon_l, rEq_i, rEq_b, rEq_i2, rEq_b2, rJoin_m, rSplit_s, tyOk_l, tyOk_s, patD_nm, patD_tp, patDs_nil, patDs_cons, Option.bind_some, notX, notX',
  List.map_cons, List.map_nil, List.length_cons, List.length_nil, List.cons_append, List.nil_append, List.append_nil, List.replicate, List.getElem?_cons_zero, List.getElem?_cons_succ, List.set_cons_zero, List.set_cons_succ, updO_same, updO_updO,
  Nat.reduceSub, Nat.reduceAdd, Nat.reduceLeDiff, Nat.zero_add, Int.cast_ofNat_Int, Int.natCast_zero, Int.natCast_one, Int.reduceLT, Int.reduceLE, Int.reduceEq, Int.reduceAdd, Int.reduceSub, Int.reduceNeg, decide_true, decide_false, if_true, if_false, Bool.false_eq_true, eq_self, reduceIte, Bool.true_eq_false, decide_eq_true_eq, Bool.not_true, Bool.not_false, Bool.not_eq_true', decide_eq_false_iff_not, exists_eq_left', exists_eq_left, D.bl.injEq, true_and, and_true, not_true_eq_false, not_false_eq_true])
local macro_rules | `(tactic| walk_at "len") => `(tactic| (intro ds O R RE h; first | (obtain ⟨e, _⟩ := h; subst e; rfl) | (obtain ⟨_, e, _⟩ := h; subst e; rfl) | (obtain ⟨_, _, e, _⟩ := h; subst e; rfl) | (obtain ⟨_, _, _, e, _⟩ := h; subst e; rfl) | (obtain ⟨_, _, _, _, e, _⟩ := h; subst e; rfl) | (obtain ⟨_, _, _, _, _, e, _⟩ := h; subst e; rfl) | (obtain ⟨_, _, _, _, _, _, e, _⟩ := h; subst e; rfl) | (obtain ⟨_, _, _, _, _, _, _, e, _⟩ := h; subst e; rfl) | (obtain ⟨_, _, _, _, _, _, _, _, e, _⟩ := h; subst e; rfl) | (obtain ⟨_, _, _, _, _, _, _, _, _, e, _⟩ := h; subst e; rfl)))
local macro_rules | `(tactic| walk_at "kf1") => `(tactic| simp (config := { failIfUnchanged := false }) only [startD, ap_fiEnumT, asT1_t, ap_fKGet, asStr_s, ap_fKIn, ap_fKIx, ap_gAsgL, rUnl_l, ap_fiRng3, asR3_i, rSplitO_s, ap_fOrL, rOrL_l, ap_fLcK, ap_gForK, ap_fMaxD, rMaxD_l, rMaxL_l, ap_fCallXD, ap_gForE, asLE_l, ap_fFrz, ap_fDicO, ap_fDGet, ap_fDGet1, ap_fDGet2, ap_gDPut, ap_fIsiT, ap_gForR, rRep_l, isT_i, isT_s, isT_b, isT_n, isT_t, isT_l, ap_gIf, ap_gRet, ap_gNext, ap_gSet, ap_gAsg, ap_gPar, ap_gDrop, ap_gRetF, ap_gRetN, ap_gFor, ap_gSetIx, ap_gBreak, ap_fRev, ap_fiRevR, asIR_i, rRev_l, ap_fCallX, ap_gRaise, ap_gTry, ap_gTryAs, ap_gNever, ap_fEdic, ap_fTest, ap_fOp, ap_fVar, envGet_s, patGet_s, ap_fC, ap_fCB, ap_fCons, ap_fNil, ap_fCall, ap_fAnd, ap_fOr, ap_fNot, ap_fAndV, ap_fOrV, ap_fNotV, ap_fIf, ap_fTup, ap_fLst, ap_fLstO, ap_fChain, ap_fUn, ap_fBM, ap_fBM0, ap_fPool, rPool_i, ap_fSl, ap_fPart, ap_fNoPart, asI_i, rSl_l, ap_fiRng1, ap_fiRng2, ap_fiList, ap_fiTup, ap_fiStr, ap_fiEnum, ap_fiZip, ap_fiRev, asL_l, asT_t, asSg_s, asR1_i, asR2_i, asL1_l, asL2_l, ap_fLc, ap_fLcO, ap_fYes, wipeD, lcD, isi_i_int, isi_i_bool, isi_i_str, isi_i_tuple, isi_i_list, isi_i_dict, isi_b_int, isi_b_bool, isi_b_str, isi_b_tuple, isi_b_list, isi_b_dict, isi_s_int, isi_s_bool, isi_s_str, isi_s_tuple, isi_s_list, isi_s_dict, isi_t_int, isi_t_bool, isi_t_str, isi_t_tuple, isi_t_list, isi_t_dict, isi_l_int, isi_l_bool, isi_l_str, isi_l_tuple, isi_l_list, isi_l_dict, isi_n_int, isi_n_bool, isi_n_str, isi_n_tuple, isi_n_list, isi_n_dict, isi_d_int, isi_d_bool, isi_d_str, isi_d_tuple, isi_d_list, isi_d_dict,
  deref_tup, deref_lst, deref_int, deref_str, deref_bl, deref_non, deref_scr, rLt_i, rLt_s, rLe_i, rLe_s, rInts_i, rInts0_i, rAdd_i, rAdd_s, rAdd_l, rAdd_t, rCatO_l, rNeg_i, rLen_t, rLen_l, rLen_c, rLen_s, rMax_i, rMin_i, rInt_i, rInt_b, rDivmod_i, ap_gAug, rStr_i, rList_l, rList_t, rListO_l, rListO_t, rTup_l, rTup_t,
  rIx_t0, rIx_t1, rIx_t2, rIx_t3, rIx_l0, rIx_l1, rIx_l2, rIsN_x, isNon_t, isNon_n, isNon_i, isNon_s, isNon_l, rEq_i, rEq_b, rEq_i2, rEq_b2, rJoin_m, rSplit_s, tyOk_l, tyOk_s, patD_nm, patD_tp, patDs_nil, patDs_cons, Option.bind_some, notX, notX',
  List.map_cons, List.map_nil, List.length_cons, List.length_nil, List.cons_append, List.nil_append, List.append_nil, List.replicate, List.getElem?_cons_zero, List.getElem?_cons_succ, List.set_cons_zero, List.set_cons_succ, updO_same, updO_updO,
  Nat.reduceSub, Nat.reduceAdd, Nat.reduceLeDiff, Nat.zero_add, Int.cast_ofNat_Int, Int.natCast_zero, Int.natCast_one, Int.reduceLT, Int.reduceLE, Int.reduceEq, Int.reduceAdd, Int.reduceSub, Int.reduceNeg, decide_true, decide_false, if_true, if_false, Bool.false_eq_true, eq_self, reduceIte, Bool.true_eq_false, decide_eq_true_eq, Bool.not_true, Bool.not_false, Bool.not_eq_true', decide_eq_false_iff_not, exists_eq_left', exists_eq_left, D.bl.injEq, true_and, and_true, not_true_eq_false, not_false_eq_true])
section
variable {P : Program} {w : World} {K : PySem.W.Frag} {mg : Str → Option Value} {base : Heap}
local macro_rules | `(tactic| walk_at "tg") => `(tactic| simp (config := { failIfUnchanged := false }) only [te_name_take, te_name_give, te_name_pair, te_name_first, te_name_second, te_name_to, te_name_both, te_name_one, te_name_mark, te_name_name, te_name_thing, te_name_at, te_thing_take, te_thing_give, te_thing_pair, te_thing_first, te_thing_second, te_thing_to, te_thing_both, te_thing_one, te_thing_mark, te_thing_name, te_thing_thing, te_thing_at, te_take_take, te_take_give, te_take_pair, te_take_first, te_take_second, te_take_to, te_take_both, te_take_one, te_take_mark, te_take_name, te_take_thing, te_take_at, te_give_take, te_give_give, te_give_pair, te_give_first, te_give_second, te_give_to, te_give_both, te_give_one, te_give_mark, te_give_name, te_give_thing, te_give_at, te_pair_take, te_pair_give, te_pair_pair, te_pair_first, te_pair_second, te_pair_to, te_pair_both, te_pair_one, te_pair_mark, te_pair_name, te_pair_thing, te_pair_at, te_first_take, te_first_give, te_first_pair, te_first_first, te_first_second, te_first_to, te_first_both, te_first_one, te_first_mark, te_first_name, te_first_thing, te_first_at, te_second_take, te_second_give, te_second_pair, te_second_first, te_second_second, te_second_to, te_second_both, te_second_one, te_second_mark, te_second_name, te_second_thing, te_second_at, te_mark_take, te_mark_give, te_mark_pair, te_mark_first, te_mark_second, te_mark_to, te_mark_both, te_mark_one, te_mark_mark, te_mark_name, te_mark_thing, te_mark_at, te_one_take, te_one_give, te_one_pair, te_one_first, te_one_second, te_one_to, te_one_both, te_one_one, te_one_mark, te_one_name, te_one_thing, te_one_at, te_to_take, te_to_give, te_to_pair, te_to_first, te_to_second, te_to_to, te_to_both, te_to_one, te_to_mark, te_to_name, te_to_thing, te_to_at, te_both_take, te_both_give, te_both_pair, te_both_first, te_both_second, te_both_to, te_both_both, te_both_one, te_both_mark, te_both_name, te_both_thing, te_both_at, te_at_take, te_at_give, te_at_pair, te_at_first, te_at_second, te_at_to, te_at_both, te_at_one, te_at_mark, te_at_name, te_at_thing, te_at_at, ti4_name, ti4_thing, ti4_take, ti4_give, ti4_pair, ti4_first, ti4_second, ti2_name, ti2_thing, ti2_take, ti2_give, ti2_pair, ti2_first, ti2_second, szT_0, szT_1, szT_2, szT_3, szT_4, szT_5, szT_6, szT_7, szT_8, szT_9, szT_10, szT_11, szT_12, Bool.not_true, Bool.not_false, true_and])
/-- names known, no two alike, none of the later ones -/
def KnS (kn : List (Str × Kd)) (t : Nat) : Prop := KnN kn ∧ ∀ s, t ≤ s → s < 400 → ∀ q ∈ kn, q.1 ≠ xn s
theorem KnS.snoc {kn : List (Str × Kd)} {t : Nat} (h : KnS kn t) (ht : t < 400) (d : Kd) : KnS (kn ++ [(xn t, d)]) (t + 1) := by
  refine ⟨?_, fun s h1 h2 q hq => ?_⟩
  · unfold KnN
    rw [List.map_append, List.map_singleton, List.nodup_append]
    refine ⟨h.1, by simp, fun a ha b hb => ?_⟩
    rw [List.mem_singleton.mp hb]
    obtain ⟨q, hq, rfl⟩ := List.mem_map.mp ha
    exact h.2 t (Nat.le_refl _) ht q hq
  · rcases List.mem_append.mp hq with hq | hq
    · exact h.2 s (by omega) h2 q hq
    · rw [List.mem_singleton.mp hq]
      intro e
      have := xn_inj64 t (by omega) s (by omega) e
      omega
theorem wys_ok {k : Kd} : k.ok = true → ∀ w ∈ wys k, ∀ d, Mv.k d ∈ w.1 → d.ok = true := by
  induction k with
  | one => intro _ w h; cases h
  | mk m =>
    intro _ w h d hd
    simp only [wys, List.mem_singleton] at h
    subst h
    cases hd
  | to a b iha ihb =>
    intro ho w h d hd
    simp only [Kd.ok, Bool.and_eq_true] at ho
    simp only [wys, List.mem_map] at h
    obtain ⟨w', h1, rfl⟩ := h
    rcases List.mem_cons.mp hd with e | hd
    · cases e; exact ho.1
    · exact ihb ho.2 w' h1 d hd
  | both a b iha ihb =>
    intro ho w h d hd
    simp only [Kd.ok, Bool.and_eq_true] at ho
    simp only [wys, List.mem_append, List.mem_map] at h
    rcases h with ⟨w', h1, rfl⟩ | ⟨w', h1, rfl⟩
    · rcases List.mem_cons.mp hd with e | hd
      · cases e
      · exact iha ho.1 w' h1 d hd
    · rcases List.mem_cons.mp hd with e | hd
      · cases e
      · exact ihb ho.2 w' h1 d hd
theorem wys_so : ∀ (k : Kd), k.ok = true → ∀ w ∈ wys k, PyData.strOk w.2 = true := by
  intro k
  induction k with
  | one => intro _ w h; cases h
  | mk m =>
    intro ho w h
    simp only [wys, List.mem_singleton] at h
    subst h
    exact ho
  | to a b iha ihb =>
    intro ho w h
    simp only [Kd.ok, Bool.and_eq_true] at ho
    simp only [wys, List.mem_map] at h
    obtain ⟨w', h1, rfl⟩ := h
    exact ihb ho.2 w' h1
  | both a b iha ihb =>
    intro ho w h
    simp only [Kd.ok, Bool.and_eq_true] at ho
    simp only [wys, List.mem_append, List.mem_map] at h
    rcases h with ⟨w', h1, rfl⟩ | ⟨w', h1, rfl⟩
    · exact iha ho.1 w' h1
    · exact ihb ho.2 w' h1
def ROWN : List Str := ["p", "q", "f", "g"]
theorem rown_ok : ∀ x ∈ ROWN, PyData.strOk x = true ∧ x.cps.toList.head? ≠ some 120 := by decide +kernel
theorem xn_head (s : Nat) : (xn s).cps.toList.head? = some 120 := by
  unfold xn
  rw [tl_app, tl_x]
  rfl
/-- a row as drawn -/
structure Row54 (kn : List (Str × Kd)) : Prop where
  nm : ∀ q ∈ kn, q.1 ∈ ROWN
  nd : (kn.map (·.1)).Nodup
  kd : ∀ q ∈ kn, q.2.over AB ∧ q.2.leaves ≤ 4
  p : (Str.ofString "p", Kd.mk "a") ∈ kn
  q : (Str.ofString "q", Kd.mk "b") ∈ kn
  l : kn.length ≤ 4
theorem over_d {k : Kd} (ho : k.over AB) (hl : k.leaves ≤ 4) : k.ok = true ∧ k.depth ≤ 40 := ⟨over_ok ab_ok k ho, by have := k.depth_lt; omega⟩
theorem Row54.knd {kn : List (Str × Kd)} (h : Row54 kn) : KnD kn 0 := ⟨by have := h.l; omega, by omega, fun q hq => by
  obtain ⟨a, b⟩ := h.kd q hq
  exact ⟨(rown_ok _ (h.nm q hq)).1, over_d a b⟩⟩
theorem Row54.kns {kn : List (Str × Kd)} (h : Row54 kn) : KnS kn 0 := ⟨h.nd, fun s _ _ q hq e => (rown_ok _ (h.nm q hq)).2 (by rw [e]; exact xn_head s)⟩
def spRow54 : DSp := fun ds O R _ => ∃ pa : Addr, ds = [.ref pa] ∧ O pa = some .pool ∧ ∀ kn : List (Str × Kd), Row54 kn → R (.lst (kn.map kv)) O
def rowPQ5 : List (Str × Kd) := [("p", .mk "a"), ("q", .mk "b")]
theorem ok_row54 (T : Tx K mg) : FO__law_row P w base T 6 spRow54 := by
  refine fnd__law_row T (ok_take T.n__law_take) (ok_lkind T 4) (by walk_at "len") ?_
  rintro ds O R RE ⟨pa, rfl, hp, hR⟩
  unfold g__law_row
  refine gSeq_step ?_
  walk_at "kf1"
  walk_at "tg"
  intro f hf
  have hpf : ∀ c, updO O f c pa = some .pool := fun c => by
    have hne : pa ≠ f := fun z => by rw [z, hf] at hp; cases hp
    rw [updO_ne hne, hp]
  refine gSeq_step ?_
  walk_at "kf1"
  refine gSeq_step ?_
  walk_at "kf1"
  walk_at "tg"
  refine take_of (hpf _) (by decide) (by decide) fun r hr0 hr1 => ?_
  walk_at "kf1"
  have e : ∃ ts : List Str, cut [D.str "f", D.str "g"] none (some r) = ts.map D.str ∧ ts.Nodup ∧ ts.length ≤ 2 ∧ ∀ t ∈ ts, t = Str.ofString "f" ∨ t = Str.ofString "g" := by
    have h3 : r = 0 ∨ r = 1 ∨ r = 2 := by omega
    rcases h3 with rfl | rfl | rfl
    · exact ⟨[], by simp [cut, HT.sIx], by simp, by simp, by simp⟩
    · exact ⟨["f"], by simp [cut, HT.sIx], by simp, by simp, by simp⟩
    · exact ⟨["f", "g"], by simp [cut, HT.sIx], by decide +kernel, by simp, by simp⟩
  obtain ⟨ts, e1, e0, e2, e3⟩ := e
  rw [e1]
  refine forA_ix D.str (fun pre _ ρ O' => ∃ (kn : List (Str × Kd)) (x3 x4 : Option D) (l : Int), ρ = [some (.ref pa), some (.ref f), some (.int l), x3, x4] ∧ O' = updO O f (.lst (kn.map kv)) ∧ Row54 kn ∧ kn.length ≤ 2 + pre.length ∧ ∀ q ∈ kn, q.1 = Str.ofString "p" ∨ q.1 = Str.ofString "q" ∨ q.1 ∈ pre) ts [] _ _ ⟨rowPQ5, _, _, 2, rfl, rfl, ⟨by decide +kernel, by decide +kernel, fun q hq => by simp only [rowPQ5, List.mem_cons, List.not_mem_nil, or_false] at hq; rcases hq with rfl | rfl <;> simp [Kd.over, Kd.leaves, AB], by simp [rowPQ5], by simp [rowPQ5], by simp [rowPQ5]⟩, by simp [rowPQ5], fun q hq => by simp only [rowPQ5, List.mem_cons, List.not_mem_nil, or_false] at hq; rcases hq with rfl | rfl <;> simp⟩ ?_ ?_
  · rintro ρ O' ⟨kn, x3, x4, l, rfl, rfl, h1, h2, h3⟩
    walk_at "kf1"
    rw [delO_updO hf]
    exact hR kn h1
  · rintro pre t rest ep ρ O' ⟨kn, x3, x4, l, rfl, rfl, h1, h2, h3⟩ N hN
    rw [List.nil_append] at ep
    have ht := e3 t (by rw [ep]; simp)
    have hpl : pre.length < 2 := by
      have := congrArg List.length ep
      rw [List.length_append, List.length_cons] at this
      omega
    have htp : t ∉ pre := by
      rw [ep] at e0
      intro hm
      exact (List.nodup_append.mp e0).2.2 t hm t List.mem_cons_self rfl
    have htn : t ∈ ROWN ∧ t ≠ Str.ofString "p" ∧ t ≠ Str.ofString "q" := by rcases ht with rfl | rfl <;> decide +kernel
    walk_at "kf1"
    refine gSeq_step ?_
    walk_at "kf1"
    refine take_of (hpf _) (by decide) (by decide) fun l2 hl0 hl1 => ?_
    walk_at "kf1"
    have keep : ∀ (x4 : Option D) (l' : Int), N [some (.ref pa), some (.ref f), some (.int l'), some (.str t), x4] (updO O f (.lst (kn.map kv))) := fun x4 l' => hN _ _ ⟨kn, _, _, l', rfl, rfl, h1, by rw [List.length_append]; omega, fun q hq => by
      rcases h3 q hq with h | h | h
      · exact .inl h
      · exact .inr (.inl h)
      · exact .inr (.inr (List.mem_append_left _ h))⟩
    split
    · refine gSeq_step ?_
      walk_at "kf1"
      refine ⟨tyOk_r updO_same, ?_⟩
      walk_at "tg"
      refine ⟨pa, (1 + l2).toNat, AB, by rw [show (((1 + l2).toNat : Nat) : Int) = 1 + l2 by omega]; rfl, hpf _, by omega, by omega, by omega, by decide, by decide, fun k h4 h5 => ?_⟩
      walk_at "tg"
      rw [rApp_r updO_same]
      refine ⟨Nat.lt_of_lt_of_le (show (kn.map kv).length < 100 by rw [List.length_map]; omega) (by decide), ?_⟩
      rw [updO_updO]
      refine hN _ _ ⟨kn ++ [(t, k)], _, _, _, rfl, by rw [List.map_append]; rfl, ⟨?_, ?_, ?_, ?_, ?_, ?_⟩, by simp only [List.length_append, List.length_singleton]; omega, fun q hq => ?_⟩
      · intro q hq
        rcases List.mem_append.mp hq with hq | hq
        · exact h1.nm q hq
        · rw [List.mem_singleton.mp hq]; exact htn.1
      · rw [List.map_append, List.map_singleton, List.nodup_append]
        refine ⟨h1.nd, by simp, fun a ha b hb => ?_⟩
        rw [List.mem_singleton.mp hb]
        obtain ⟨q, hq, rfl⟩ := List.mem_map.mp ha
        intro e
        rcases h3 q hq with h | h | h
        · exact htn.2.1 (e.symm.trans h)
        · exact htn.2.2 (e.symm.trans h)
        · exact htp (by rw [← show q.1 = t from e]; exact h)
      · intro q hq
        rcases List.mem_append.mp hq with hq | hq
        · exact h1.kd q hq
        · rw [List.mem_singleton.mp hq]; exact ⟨h5, by show k.leaves ≤ 4; omega⟩
      · exact List.mem_append_left _ h1.p
      · exact List.mem_append_left _ h1.q
      · simp only [List.length_append, List.length_singleton]; omega
      · rcases List.mem_append.mp hq with hq | hq
        · rcases h3 q hq with h | h | h
          · exact .inl h
          · exact .inr (.inl h)
          · exact .inr (.inr (List.mem_append_left _ h))
        · rw [List.mem_singleton.mp hq]; exact .inr (.inr (by simp))
    · exact keep _ _
theorem gSeq_via {g h : GS} {R : DEnds} {ρ : DEnv} {O : Ow} (I : DEnv → Ow → Prop) (hI : ∀ ρ O, I ρ O → h R ρ O) (H : ∀ N : DEnv → Ow → Prop, (∀ ρ O, I ρ O → N ρ O) → g { R with nx := N } ρ O) : gSeq g h R ρ O := gSeq_step (H _ hI)
def dNm (s : Str × List Mv) : D := .tup [.str s.1, .lst (s.2.map dMv)]
theorem xn_name : ∀ s, s < 100 → isNameB (xn s) = true := by
  have h : ∀ s ∈ List.range 100, isNameB (xn s) = true := by decide +kernel
  exact fun s hs => h s (List.mem_range.mpr hs)
/-- what is known while a program is drawn -/
structure Ld (kn : List (Str × Kd)) (t : Nat) : Prop where
  d : KnD kn t
  s : KnS kn t
  k : ∀ q ∈ kn, q.2.over AB ∧ q.2.leaves ≤ 4
  p : (Str.ofString "p", Kd.mk "a") ∈ kn
  q : (Str.ofString "q", Kd.mk "b") ∈ kn
  n : ∀ q ∈ kn, isNameB q.1 = true
theorem Ld.snoc {kn : List (Str × Kd)} {t : Nat} (h : Ld kn t) (ht : t < 100) {d : Kd} (ho : d.over AB) (hl : d.leaves ≤ 4) : Ld (kn ++ [(xn t, d)]) (t + 1) :=
  ⟨h.d.snoc (by omega) (over_d ho hl).1 (over_d ho hl).2, h.s.snoc (by omega) d, fun q hq => (List.mem_append.mp hq).elim (h.k q) (fun e => by rw [List.mem_singleton.mp e]; exact ⟨ho, hl⟩), List.mem_append_left _ h.p, List.mem_append_left _ h.q, fun q hq => (List.mem_append.mp hq).elim (h.n q) (fun e => by rw [List.mem_singleton.mp e]; exact xn_name t ht)⟩
def NN : Nat → Nat
  | 0 => 1
  | r + 1 => 4 + 3 * NN r
theorem nn_one (r : Nat) : 1 + 1 ≤ 1 * (NN r + 1) := by cases r <;> simp only [NN] <;> omega
theorem rown_name : ∀ x ∈ ROWN, isNameB x = true := by decide +kernel
theorem kk_of {k : Kd} (h : k.over AB) (hl : k.leaves ≤ 4) : k.kk := kk_ab h (by omega)
def LdP (kn : List (Str × Kd)) (k : Kd) (t r : Nat) (p : Pg) : Prop := lg kn k p t = true ∧ p.sok = true ∧ p.hgt ≤ k.depth + 8 * r + 3 ∧ p.dpt ≤ p.hgt + 6 ∧ p.psz + 1 ≤ k.leaves * (NN r + 1) ∧ p.ka ∧ p.q.qk
def spLd (n : Nat) : DSp := fun ds O R _ => ∃ (pa : Addr) (kn : List (Str × Kd)) (k : Kd) (t r : Nat), ds = [.ref pa, .lst (kn.map kv), dK k, .tup [.int t, .int r]] ∧ O pa = some .pool ∧ Ld kn t ∧ k.over AB ∧ k.leaves ≤ 4 ∧ r ≤ 3 ∧ t + 5 * r + k.depth ≤ 60 ∧ 5 * r + k.depth < n ∧ ∀ p : Pg, LdP kn k t r p → R (dP p) O
theorem envOf_nd {kn : List (Str × Kd)} (hn : KnN kn) {x : Str} {o : Kd} (h : (x, o) ∈ kn) : envOf kn x = some o := by
  cases e : envOf kn x with
  | none =>
    exfalso
    unfold envOf at e
    rw [Option.map_eq_none_iff, List.find?_eq_none] at e
    exact e (x, o) (List.mem_reverse.mpr h) (by simp)
  | some o' =>
    have h2 := envOf_mem e
    obtain ⟨i, hi⟩ := List.mem_iff_getElem?.mp h
    obtain ⟨j, hj⟩ := List.mem_iff_getElem?.mp h2
    have e1 : (kn.map (·.1))[i]? = some x := by rw [List.getElem?_map, hi]; rfl
    have e2 : (kn.map (·.1))[j]? = some x := by rw [List.getElem?_map, hj]; rfl
    have hil := (List.getElem?_eq_some_iff.mp hi).1
    have : i = j := (List.getElem?_inj (by rw [List.length_map]; exact hil) hn).mp (e1.trans e2.symm)
    subst this
    rw [hi] at hj
    cases hj
    rfl
/-- the names and ways that lead to a mark -/
def ldS (kn : List (Str × Kd)) (m : Str) : List (Str × List Mv) := kn.flatMap fun q => ((wys q.2).filter fun w => decide (w.2 = m)).map fun w => (q.1, w.1)
theorem ldS_mem {kn : List (Str × Kd)} {m : Str} {s : Str × List Mv} (h : s ∈ ldS kn m) : ∃ o, (s.1, o) ∈ kn ∧ (s.2, m) ∈ wys o := by
  unfold ldS at h
  obtain ⟨q, hq, h2⟩ := List.mem_flatMap.mp h
  obtain ⟨w, hw, rfl⟩ := List.mem_map.mp h2
  obtain ⟨h3, h4⟩ := List.mem_filter.mp hw
  have h5 : w.2 = m := of_decide_eq_true h4
  exact ⟨q.2, hq, by rw [← h5]; exact h3⟩
theorem ldS_len : ∀ (kn : List (Str × Kd)) (m : Str), (∀ q ∈ kn, q.2.leaves ≤ 4) → (ldS kn m).length ≤ 4 * kn.length
  | [], _, _ => Nat.zero_le _
  | q :: kn, m, h => by
    have ih := ldS_len kn m fun q hq => h q (List.mem_cons_of_mem _ hq)
    have h1 := h q List.mem_cons_self
    have h2 := wys_len q.2
    have h3 := List.length_filter_le (fun w : List Mv × Str => decide (w.2 = m)) (wys q.2)
    unfold ldS at ih ⊢
    rw [List.flatMap_cons, List.length_append, List.length_map, List.length_cons]
    omega
theorem ldS_nil {kn : List (Str × Kd)} {t : Nat} (h : Ld kn t) {m : Str} (hm : (Kd.mk m).over AB) : ∃ x, (x, []) ∈ ldS kn m := by
  have hm : m ∈ AB := hm
  have key : ∀ (x m' : Str), (x, Kd.mk m') ∈ kn → m' = m → (x, []) ∈ ldS kn m := fun x m' h1 h2 => by
    unfold ldS
    refine List.mem_flatMap.mpr ⟨_, h1, List.mem_map.mpr ⟨([], m'), List.mem_filter.mpr ⟨by simp [wys], by simp [h2]⟩, rfl⟩⟩
  simp only [AB, List.mem_cons, List.not_mem_nil, or_false] at hm
  rcases hm with rfl | rfl
  · exact ⟨_, key _ _ h.p rfl⟩
  · exact ⟨_, key _ _ h.q rfl⟩
theorem lvp54 (k : Kd) : 1 ≤ k.leaves := by have := k.depth_lt; omega
theorem wys_nil {c : Kd} {m : Str} (h : ([], m) ∈ wys c) : c = .mk m := by
  cases c with
  | one => cases h
  | mk m' =>
    simp only [wys, List.mem_singleton, Prod.mk.injEq, true_and] at h
    rw [h]
  | to a b =>
    simp only [wys, List.mem_map] at h
    obtain ⟨w, _, e⟩ := h
    cases e
  | both a b =>
    simp only [wys, List.mem_append, List.mem_map] at h
    rcases h with ⟨w, _, e⟩ | ⟨w, _, e⟩ <;> cases e
theorem wys_1 {c : Kd} {r : List Mv} {m : Str} (h : (Mv.one :: r, m) ∈ wys c) : ∃ a b, c = .both a b ∧ (r, m) ∈ wys a := by
  cases c with
  | one => cases h
  | mk m' => simp [wys] at h
  | to a b =>
    simp only [wys, List.mem_map] at h
    obtain ⟨w, _, e⟩ := h
    cases e
  | both a b =>
    simp only [wys, List.mem_append, List.mem_map] at h
    rcases h with ⟨w, hw, e⟩ | ⟨w, _, e⟩ <;> cases e
    exact ⟨a, b, rfl, hw⟩
theorem wys_2 {c : Kd} {r : List Mv} {m : Str} (h : (Mv.two :: r, m) ∈ wys c) : ∃ a b, c = .both a b ∧ (r, m) ∈ wys b := by
  cases c with
  | one => cases h
  | mk m' => simp [wys] at h
  | to a b =>
    simp only [wys, List.mem_map] at h
    obtain ⟨w, _, e⟩ := h
    cases e
  | both a b =>
    simp only [wys, List.mem_append, List.mem_map] at h
    rcases h with ⟨w, _, e⟩ | ⟨w, hw, e⟩ <;> cases e
    exact ⟨a, b, rfl, hw⟩
theorem wys_3 {c : Kd} {r : List Mv} {m : Str} {d : Kd} (h : (Mv.k d :: r, m) ∈ wys c) : ∃ c', c = .to d c' ∧ (r, m) ∈ wys c' := by
  cases c with
  | one => cases h
  | mk m' => simp [wys] at h
  | to a b =>
    simp only [wys, List.mem_map] at h
    obtain ⟨w, hw, e⟩ := h
    cases e
    exact ⟨b, rfl, hw⟩
  | both a b =>
    simp only [wys, List.mem_append, List.mem_map] at h
    rcases h with ⟨w, _, e⟩ | ⟨w, _, e⟩ <;> cases e
theorem ok_longed (T : Tx K mg) : ∀ n, FO__law_longed P w base T (n + 45) (spLd n)
  | 0 => fnUp (none_left fun ds O R RE ⟨pa, kn, k, t, r, _, _, _, _, _, _, _, h, _⟩ => by omega) (Nat.zero_le _)
  | n + 1 => by
    refine fnd__law_longed T (ok_longed T n) (fnUp (ok_lways T 41) (by omega)) (ok_take T.n__law_take) (by walk_at "len") ?_
    rintro ds O R RE ⟨pa, kn, k, t, r, rfl, hp, hLd, hko, hkl, hr, htr, hn, hR⟩
    unfold g__law_longed
    refine gSeq_step ?_
    walk_at "kf1"
    have hx := xn_ok64 t (by omega)
    cases k with
    | one =>
      rw [show dK Kd.one = D.tup [.str (Str.ofString "one")] from rfl]
      walk_at "kf"; walk_at "tg"; walk_at "kf"
      exact hR .thing ⟨lg_one kn t .thing, rfl, by simp only [Pg.hgt]; omega, by simp only [Pg.dpt]; omega, by simp only [Pg.psz, Kd.leaves]; exact nn_one r, trivial, trivial⟩
    | both x y =>
      simp only [Kd.depth, Kd.leaves] at hkl htr hn
      have hnr : 1 ≤ NN r := by cases r <;> simp only [NN] <;> omega
      simp only [dK]
      walk_at "kf"; walk_at "tg"; walk_at "kf"; walk_at "tg"; walk_at "kf"
      refine ⟨pa, kn, x, t, r, rfl, hp, hLd, hko.1, by omega, hr, by omega, by omega, fun f hf => ?_⟩
      try dsimp only
      walk_at "kf"
      refine ⟨pa, kn, y, t, r, rfl, hp, hLd, hko.2, by omega, hr, by omega, by omega, fun s hs => ?_⟩
      try dsimp only
      walk_at "kf"; walk_at "tg"; walk_at "kf"
      refine hR (.pair f s) ?_
      obtain ⟨f1, f2, f3, f4, f5, f6, f7⟩ := hf
      obtain ⟨s1, s2, s3, s4, s5, s6, s7⟩ := hs
      refine ⟨by rw [lg_pair, f1, s1]; rfl, by simp only [Pg.sok, f2, s2, Bool.and_self], by simp only [Pg.hgt, Kd.depth]; omega, by simp only [Pg.dpt, Pg.hgt]; omega, ?_, ⟨f6, s6⟩, ⟨f7, s7⟩⟩
      simp only [Pg.psz, Kd.leaves]
      rw [Nat.add_mul]
      omega
    | to d c =>
      simp only [Kd.depth, Kd.leaves] at hkl htr hn
      have hdl := d.depth_lt
      have hcl := c.depth_lt
      simp only [dK]
      walk_at "kf"; walk_at "tg"; walk_at "kf"; walk_at "tg"; walk_at "kf"; walk_at "tg"; walk_at "kf"
      refine ⟨Nat.lt_of_le_of_lt (Nat.log2_le_self _) (by omega), ?_⟩
      walk_at "kf"
      refine ⟨sz_small (by have := hx.2; omega), ?_⟩
      rw [show Str.ofString "x" ++ Str.ofString (toString (t : Int)) = xn t from rfl]
      have hkl2 := hLd.d.1
      refine ⟨sz_21 (by rw [List.length_map]; omega), ?_⟩
      refine ⟨pa, kn ++ [(xn t, d)], c, t + 1, r, by rw [List.map_append]; rfl, hp, hLd.snoc (by omega) hko.1 (by omega), hko.2, by omega, hr, by omega, by omega, fun b hb => ?_⟩
      obtain ⟨b1, b2, b3, b4, b5, b6, b7⟩ := hb
      refine hR (.take (xn t) d b) ⟨by rw [lg_take, b1]; simp, by simp only [Pg.sok, hx.1, (over_d hko.1 (by omega)).1, b2, Bool.and_self], by simp only [Pg.hgt, Kd.depth]; omega, by simp only [Pg.dpt, Pg.hgt]; omega, ?_, ⟨(over_d hko.1 (by omega)).1, by omega, b6⟩, ⟨xn_name t (by omega), kk_of hko.1 (by omega), b7⟩⟩
      simp only [Pg.psz, Kd.leaves]
      have hd1 := lvp54 d
      have hq : 1 * (NN r + 1) ≤ d.leaves * (NN r + 1) := Nat.mul_le_mul_right _ hd1
      rw [Nat.add_mul]
      omega
    | mk m =>
      simp only [Kd.depth, Kd.leaves] at hkl htr hn
      have hmo : PyData.strOk m = true := over_ok ab_ok (.mk m) hko
      have hkl2 := hLd.d.1
      have hks := fun q hq => (hLd.k q hq).2
      rw [show dK (Kd.mk m) = D.tup [.str (Str.ofString "mark"), .str m] from rfl]
      refine gSeq_step ?_
      walk_at "kf1"; walk_at "tg"; walk_at "kf1"
      refine gSeq_step ?_
      walk_at "kf1"; walk_at "tg"; walk_at "kf1"
      refine gSeq_step ?_
      walk_at "kf1"; walk_at "tg"; walk_at "kf1"
      refine gSeq_step ?_
      walk_at "kf1"
      refine ⟨sz_small (by decide), ?_⟩
      refine gSeq_step ?_
      walk_at "kf1"
      refine forA_ix kv (fun pre _ ρ O' => O' = O ∧ ∃ x6 x8 x9 x12, ρ = [some (.ref pa), some (.lst (kn.map kv)), some (.tup [.str (Str.ofString "mark"), .str m]), some (.tup [.int t, .int r]), some (.int t), some (.int r), x6, some (.lst ((ldS pre m).map dNm)), x8, x9, none, none, x12]) kn [] _ _ ⟨rfl, _, _, _, _, rfl⟩ ?_ ?_
      · rintro ρ O' ⟨rfl, x6, x8, x9, x12, rfl⟩
        rw [List.nil_append]
        dsimp only
        refine gSeq_via (fun ρ O => O = O' ∧ ∃ (S : List (Str × List Mv)) (x8 : Option D), S ≠ [] ∧ S.length ≤ 4000 ∧ (∀ s ∈ S, s ∈ ldS kn m) ∧ (r = 0 → ∀ s ∈ S, s.2 = []) ∧ ρ = [some (.ref pa), some (.lst (kn.map kv)), some (.tup [.str (Str.ofString "mark"), .str m]), some (.tup [.int t, .int r]), some (.int t), some (.int r), x6, some (.lst (S.map dNm)), x8, x9, none, none, x12]) ?_ ?_
        · rintro ρ O ⟨rfl, S, x8, hS0, hSl, hSm, hSr, rfl⟩
          have hS1 : 1 ≤ S.length := List.length_pos_iff.mpr hS0
          refine gSeq_step ?_
          walk_at "kf1"
          rw [List.length_map]
          refine take_of hp (by omega) (by omega) fun i hi0 hi1 => ?_
          refine rIx_any (xs := S.map dNm) hi0 (by rw [List.length_map]; exact hi1) fun v hv => ?_
          obtain ⟨s, hs, rfl⟩ := List.mem_map.mp hv
          obtain ⟨o, ho1, ho2⟩ := ldS_mem (hSm s hs)
          have hs0 := fun h => hSr h s hs
          obtain ⟨x, mv⟩ := s
          have henv := envOf_nd hLd.s.1 ho1
          obtain ⟨ov, ol⟩ : o.over AB ∧ o.leaves ≤ 4 := hLd.k _ ho1
          have hml : mv.length ≤ o.depth := wys_mvl o _ ho2
          have hxo : PyData.strOk x = true := (hLd.d.2.2 _ ho1).1
          have hod := o.depth_lt
          simp only [dNm]
          walk_at "kf1"
          refine gSeq_step ?_
          walk_at "kf1"
          refine ⟨sz_small (by decide), ?_⟩
          refine gSeq_step ?_
          walk_at "kf1"
          refine forA_ix dMv (fun pre rest ρ O' => O' = O ∧ ∃ (p : Pg) (c : Kd) (x11 : Option D), gal kn p t = some c ∧ (rest, m) ∈ wys c ∧ c.over AB ∧ c.leaves ≤ 4 ∧ p.sok = true ∧ p.hgt ≤ pre.length + 8 * r ∧ p.dpt ≤ p.hgt + 6 ∧ p.psz + c.leaves * (NN (r - 1) + 1) ≤ 1 + o.leaves * (NN (r - 1) + 1) ∧ (r = 0 → p.psz ≤ 1) ∧ p.ka ∧ p.q.qk ∧ ρ = [some (.ref pa), some (.lst (kn.map kv)), some (.tup [.str (Str.ofString "mark"), .str m]), some (.tup [.int t, .int r]), some (.int t), some (.int r), some (.str x), some (.lst (S.map dNm)), x8, some (.lst (mv.map dMv)), some (dP p), x11, x12]) mv [] _ _ ⟨rfl, .nm x, o, _, by rw [al_nm]; exact henv, ho2, ov, ol, hxo, by simp only [Pg.hgt]; omega, by simp only [Pg.dpt]; omega, by simp only [Pg.psz]; omega, fun _ => Nat.le_refl _, trivial, hLd.n _ ho1, rfl⟩ ?_ ?_
          · rintro ρ O' ⟨rfl, p, c, x11, g1, g2, g3, g4, g5, g6, g7, g8, g9, g10, g11, rfl⟩
            have hc := wys_nil g2
            subst hc
            walk_at "kf1"
            refine hR p ⟨by rw [lg_mk, g1]; simp, g5, by rw [List.nil_append] at g6; simp only [Kd.depth]; omega, g7, ?_, g10, g11⟩
            simp only [Kd.leaves] at g8 ⊢
            cases r with
            | zero => have := g9 rfl; simp only [NN]; omega
            | succ r =>
              simp only [Nat.add_sub_cancel, NN] at g8 ⊢
              have : o.leaves * (NN r + 1) ≤ 4 * (NN r + 1) := Nat.mul_le_mul_right _ ol
              omega
          · rintro pre q rest e ρ O' ⟨rfl, p, c, x11, g1, g2, g3, g4, g5, g6, g7, g8, g9, g10, g11, rfl⟩ N hN
            rw [List.nil_append] at e
            have hr0 : r ≠ 0 := fun h => by
              have := hs0 h
              simp only at this
              rw [this] at e
              simp at e
            cases q with
            | one =>
              obtain ⟨a, b, rfl, h2⟩ := wys_1 g2
              simp only [Kd.leaves] at g4 g8
              rw [Nat.add_mul] at g8
              simp only [dMv]
              walk_at "kf1"; walk_at "tg"; walk_at "kf1"
              have hb1 := lvp54 b
              have hq : 1 * (NN (r - 1) + 1) ≤ b.leaves * (NN (r - 1) + 1) := Nat.mul_le_mul_right _ hb1
              exact hN _ _ ⟨rfl, .first p, a, _, by rw [al_first, g1], h2, g3.1, by omega, g5, by simp only [Pg.hgt, List.length_append, List.length_singleton]; omega, by simp only [Pg.dpt, Pg.hgt]; omega, by simp only [Pg.psz]; omega, fun h => absurd h hr0, g10, g11, rfl⟩
            | two =>
              obtain ⟨a, b, rfl, h2⟩ := wys_2 g2
              simp only [Kd.leaves] at g4 g8
              rw [Nat.add_mul] at g8
              simp only [dMv]
              walk_at "kf1"; walk_at "tg"; walk_at "kf1"
              have hb1 := lvp54 a
              have hq : 1 * (NN (r - 1) + 1) ≤ a.leaves * (NN (r - 1) + 1) := Nat.mul_le_mul_right _ hb1
              exact hN _ _ ⟨rfl, .second p, b, _, by rw [al_second, g1], h2, g3.2, by omega, g5, by simp only [Pg.hgt, List.length_append, List.length_singleton]; omega, by simp only [Pg.dpt, Pg.hgt]; omega, by simp only [Pg.psz]; omega, fun h => absurd h hr0, g10, g11, rfl⟩
            | k d =>
              obtain ⟨c', rfl, h2⟩ := wys_3 g2
              simp only [Kd.leaves] at g4 g8
              rw [Nat.add_mul] at g8
              have hdd := d.depth_lt
              have hcl := lvp54 c'
              have hdo := (over_d g3.1 (by omega)).1
              simp only [dMv]
              walk_at "kf1"
              rw [rEq_Ki hdo, rEq_Ki hdo]
              walk_at "kf1"
              refine ⟨sz_small (by decide), pa, kn, d, t, r - 1, by rw [show ((r - 1 : Nat) : Int) = (r : Int) - 1 by omega], hp, hLd, g3.1, by omega, by omega, by omega, by omega, fun a ha => ?_⟩
              obtain ⟨a1, a2, a3, a4, a5, a6, a7⟩ := ha
              walk_at "kf1"
              exact ⟨sz_small (by decide), hN _ _ ⟨rfl, .give p a, c', _, by rw [al_give, g1]; simp only [a1, if_true], h2, g3.2, by omega, by simp only [Pg.sok, g5, a2, Bool.and_self], by simp only [Pg.hgt, List.length_append, List.length_singleton]; omega, by simp only [Pg.dpt, Pg.hgt]; omega, by simp only [Pg.psz]; omega, fun h => absurd h hr0, ⟨g10, a6⟩, ⟨g11, a7⟩, rfl⟩⟩
        · intro N hN
          have hl1 := ldS_len kn m hks
          obtain ⟨x0, hx0⟩ := ldS_nil hLd hko
          walk_at "kf1"
          split
          · refine lcA_filter (fun s : Str × List Mv => s.2.isEmpty) dNm dNm (ldS kn m) _ _ (sz_21 (by simp only [List.length_nil]; omega)) ?_ ?_
            · intro s hs Q1 Q2 g1 g2
              obtain ⟨o, ho1, ho2⟩ := ldS_mem hs
              have hok := wys_ok (over_d (hLd.k _ ho1).1 (hLd.k _ ho1).2).1 _ ho2
              have hpy : isPys (s.2.map dMv) = true := by
                rw [isPys_all, List.all_eq_true]
                intro d hd
                obtain ⟨mv, hmv, rfl⟩ := List.mem_map.mp hd
                cases mv with
                | k d => simp only [dMv]; rw [isPy_dK]; exact hok d hmv
                | one => rfl
                | two => rfl
              simp only [dNm]
              walk_at "kf1"
              refine ⟨sz_small (by decide), ?_⟩
              rw [rEq_nilA rfl hpy, List.isEmpty_map, Bool.false_xor]
              cases hs2 : s.2.isEmpty with
              | true =>
                walk_at "kf1"
                exact g1 hs2
              | false =>
                walk_at "kf1"
                exact g2 hs2
            · rw [List.nil_append]
              have hfl := List.length_filter_le (fun s : Str × List Mv => s.2.isEmpty) (ldS kn m)
              refine hN _ _ ⟨rfl, (ldS kn m).filter fun s => s.2.isEmpty, _, ?_, by omega, fun s hs => (List.mem_filter.mp hs).1, fun _ s hs => ?_, rfl⟩
              · intro h
                have : (x0, ([] : List Mv)) ∈ (ldS kn m).filter fun s => s.2.isEmpty := List.mem_filter.mpr ⟨hx0, rfl⟩
                rw [h] at this
                cases this
              · have := (List.mem_filter.mp hs).2
                simpa using this
          · refine hN _ _ ⟨rfl, ldS kn m, _, ?_, by omega, fun s hs => hs, fun h => by omega, rfl⟩
            intro h
            rw [h] at hx0
            cases hx0
      · rintro pre q rest e ρ O' ⟨rfl, x6, x8, x9, x12, rfl⟩ N hN
        rw [List.nil_append] at e
        have hq : q ∈ kn := by rw [e]; simp
        obtain ⟨q1, q2⟩ := hLd.k q hq
        obtain ⟨q3, q4⟩ := over_d q1 q2
        have hpl : pre.length ≤ kn.length := by rw [e, List.length_append]; omega
        have hw := wys_len q.2
        have hsl := ldS_len pre m fun q' hq' => hks q' (by rw [e]; exact List.mem_append_left _ hq')
        walk_at "kf1"
        refine ⟨q.2, rfl, by omega, by omega, by omega, q3, ?_⟩
        walk_at "kf1"
        refine lcA_filter (fun w : List Mv × Str => decide (w.2 = m)) dWy (fun w => dNm (q.1, w.1)) (wys q.2) _ _ (sz_small (by simp only [List.length_nil]; omega)) ?_ ?_
        · intro w hw2 Q1 Q2 g1 g2
          simp only [dWy]
          walk_at "kf1"
          rw [rEq_s (wys_so q.2 q3 w hw2) hmo]
          by_cases c1 : w.2 = m
          · simp only [c1, decide_true] at g1
            simp only [c1, decide_true, Bool.false_xor]
            walk_at "kf1"
            exact ⟨sz_small (by decide), g1 trivial⟩
          · simp only [c1, decide_false] at g2
            simp only [c1, decide_false, Bool.false_xor]
            walk_at "kf1"
            exact g2 trivial
        rw [List.nil_append]
        walk_at "kf1"
        have hfl := List.length_filter_le (fun w : List Mv × Str => decide (w.2 = m)) (wys q.2)
        refine ⟨sz_21 (by rw [List.length_map, List.length_map]; omega), hN _ _ ⟨rfl, ?_⟩⟩
        have e2 : (ldS (pre ++ [q]) m).map dNm = (ldS pre m).map dNm ++ ((wys q.2).filter fun w => decide (w.2 = m)).map fun w => dNm (q.1, w.1) := by
          unfold ldS
          rw [List.flatMap_append, List.map_append, List.flatMap_cons, List.flatMap_nil, List.append_nil, List.map_map]
          rfl
        rw [e2]
        exact ⟨_, _, _, _, rfl⟩
end
end Kf
/-! Kno: places at which no step can be done; all places. -/
namespace Kf
open PySem PySem.Spec L2
open PyProof.Rows hiding St
theorem partAt_step (p : Pg) (i : Int) (r : List Int) : (0 ≤ i ∧ i < p.ins.length ∧ ∃ c, atI p.ins i = some c ∧ c ∈ p.ins ∧ partAt p (i :: r) = partAt c r) ∨ (¬ (0 ≤ i ∧ i < p.ins.length) ∧ partAt p (i :: r) = none) := by
  have one : ∀ c : Pg, p.ins = [c] → (partAt p (i :: r) = if i = 0 then partAt c r else none) → (0 ≤ i ∧ i < p.ins.length ∧ ∃ c, atI p.ins i = some c ∧ c ∈ p.ins ∧ partAt p (i :: r) = partAt c r) ∨ (¬ (0 ≤ i ∧ i < p.ins.length) ∧ partAt p (i :: r) = none) := fun c hi e => by
    by_cases h : i = 0
    · subst h
      left
      rw [hi]
      refine ⟨by decide, by simp, c, ixC0 _ _, by simp, ?_⟩
      rw [e, if_pos rfl]
    · right
      rw [hi]
      refine ⟨?_, by rw [e, if_neg h]⟩
      simp only [List.length_singleton]
      omega
  have two : ∀ c d : Pg, p.ins = [c, d] → (partAt p (i :: r) = if i = 0 then partAt c r else if i = 1 then partAt d r else none) → (0 ≤ i ∧ i < p.ins.length ∧ ∃ c, atI p.ins i = some c ∧ c ∈ p.ins ∧ partAt p (i :: r) = partAt c r) ∨ (¬ (0 ≤ i ∧ i < p.ins.length) ∧ partAt p (i :: r) = none) := fun c d hi e => by
    by_cases h : i = 0
    · subst h
      left
      rw [hi]
      refine ⟨by decide, by simp, c, ixC0 _ _, by simp, ?_⟩
      rw [e, if_pos rfl]
    · by_cases h1 : i = 1
      · subst h1
        left
        rw [hi]
        refine ⟨by decide, by simp, d, ixC1 _ _ _, by simp, ?_⟩
        rw [e, if_neg (by decide), if_pos rfl]
      · right
        rw [hi]
        refine ⟨?_, by rw [e, if_neg h, if_neg h1]⟩
        simp only [List.length_cons, List.length_nil]
        omega
  cases p with
  | nm x => right; exact ⟨by simp [Pg.ins], by simp [partAt]⟩
  | thing => right; exact ⟨by simp [Pg.ins], by simp [partAt]⟩
  | take x k b => exact one b rfl (by simp [partAt])
  | give f a => exact two f a rfl (by simp [partAt])
  | pair f a => exact two f a rfl (by simp [partAt])
  | first b => exact one b rfl (by simp [partAt])
  | second b => exact one b rfl (by simp [partAt])
/-! ### places compared -/
theorem deqs_I : ∀ a b : List Int, deqs (a.map D.int) (b.map D.int) = decide (a = b)
  | [], [] => by simp [deqs_nn]
  | [], _ :: _ => by simp [deqs_nc]
  | _ :: _, [] => by simp [deqs_cn]
  | x :: a, y :: b => by
    rw [List.map_cons, List.map_cons, deqs_cc, deq_i, deqs_I a b]
    by_cases h1 : x = y <;> by_cases h2 : a = b <;> simp [h1, h2]
end Kf
namespace Kf
open PySem PySem.Spec L2
open PyProof.Rows hiding St
local macro_rules | `(tactic| walk_at "kf") => `(tactic| simp (config := { failIfUnchanged := false }) only [startD, ap_fiEnumT, asT1_t, ap_fKGet, asStr_s, ap_fKIn, ap_fKIx, ap_gAsgL, rUnl_l, ap_fiRng3, asR3_i, rSplitO_s, ap_fOrL, rOrL_l, ap_fLcK, ap_gForK, ap_fMaxD, rMaxD_l, rMaxL_l, ap_fCallXD, ap_gForE, asLE_l, ap_fFrz, ap_fDicO, ap_fDGet, ap_fDGet1, ap_fDGet2, ap_gDPut, ap_fIsiT, ap_gForR, rRep_l, isT_i, isT_s, isT_b, isT_n, isT_t, isT_l, ap_gSeq, ap_gIf, ap_gRet, ap_gNext, ap_gSet, ap_gAsg, ap_gPar, ap_gDrop, ap_gRetF, ap_gRetN, ap_gFor, ap_gSetIx, ap_gBreak, ap_fRev, ap_fiRevR, asIR_i, rRev_l, ap_fCallX, ap_gRaise, ap_gTry, ap_gTryAs, ap_gNever, ap_fEdic, ap_fTest, ap_fOp, ap_fVar, envGet_s, patGet_s, ap_fC, ap_fCB, ap_fCons, ap_fNil, ap_fCall, ap_fAnd, ap_fOr, ap_fNot, ap_fAndV, ap_fOrV, ap_fNotV, ap_fIf, ap_fTup, ap_fLst, ap_fLstO, ap_fChain, ap_fUn, ap_fBM, ap_fBM0, ap_fPool, rPool_i, ap_fSl, ap_fPart, ap_fNoPart, asI_i, rSl_l, ap_fiRng1, ap_fiRng2, ap_fiList, ap_fiTup, ap_fiStr, ap_fiEnum, ap_fiZip, ap_fiRev, asL_l, asT_t, asSg_s, asR1_i, asR2_i, asL1_l, asL2_l, ap_fLc, ap_fLcO, ap_fYes, wipeD, lcD, isi_i_int, isi_i_bool, isi_i_str, isi_i_tuple, isi_i_list, isi_i_dict, isi_b_int, isi_b_bool, isi_b_str, isi_b_tuple, isi_b_list, isi_b_dict, isi_s_int, isi_s_bool, isi_s_str, isi_s_tuple, isi_s_list, isi_s_dict, isi_t_int, isi_t_bool, isi_t_str, isi_t_tuple, isi_t_list, isi_t_dict, isi_l_int, isi_l_bool, isi_l_str, isi_l_tuple, isi_l_list, isi_l_dict, isi_n_int, isi_n_bool, isi_n_str, isi_n_tuple, isi_n_list, isi_n_dict, isi_d_int, isi_d_bool, isi_d_str, isi_d_tuple, isi_d_list, isi_d_dict,
  deref_tup, deref_lst, deref_int, deref_str, deref_bl, deref_non, deref_scr, rLt_i, rLt_s, rLe_i, rLe_s, rInts_i, rInts0_i, rAdd_i, rAdd_s, rAdd_l, rAdd_t, rCatO_l, rNeg_i, rLen_t, rLen_l, rLen_c, rLen_s, rMax_i, rMin_i, rInt_i, rInt_b, rDivmod_i, ap_gAug, rStr_i, rList_l, rList_t, rListO_l, rListO_t, rTup_l, rTup_t,
  rIx_t0, rIx_t1, rIx_t2, rIx_t3, rIx_l0, rIx_l1, rIx_l2, rIsN_x, isNon_t, isNon_n, isNon_i, isNon_s, isNon_l, rEq_i, rEq_b, rEq_i2, rEq_b2, rJoin_m, rSplit_s, tyOk_l, tyOk_s, patD_nm, patD_tp, patDs_nil, patDs_cons, Option.bind_some, notX, notX',
  List.map_cons, List.map_nil, List.length_cons, List.length_nil, List.cons_append, List.nil_append, List.append_nil, List.replicate, List.getElem?_cons_zero, List.getElem?_cons_succ, List.set_cons_zero, List.set_cons_succ, updO_same, updO_updO,
  Nat.reduceSub, Nat.reduceAdd, Nat.reduceLeDiff, Nat.zero_add, Int.cast_ofNat_Int, Int.natCast_zero, Int.natCast_one, Int.reduceLT, Int.reduceLE, Int.reduceEq, Int.reduceAdd, Int.reduceSub, Int.reduceNeg, decide_true, decide_false, if_true, if_false, Bool.false_eq_true, eq_self, reduceIte, Bool.true_eq_false, decide_eq_true_eq, Bool.not_true, Bool.not_false, Bool.not_eq_true', decide_eq_false_iff_not, exists_eq_left', exists_eq_left, D.bl.injEq, true_and, and_true, not_true_eq_false, not_false_eq_true])
local macro_rules | `(tactic| walk_at "len") => `(tactic| (intro ds O R RE h; first | (obtain ⟨e, _⟩ := h; subst e; rfl) | (obtain ⟨_, e, _⟩ := h; subst e; rfl) | (obtain ⟨_, _, e, _⟩ := h; subst e; rfl) | (obtain ⟨_, _, _, e, _⟩ := h; subst e; rfl) | (obtain ⟨_, _, _, _, e, _⟩ := h; subst e; rfl) | (obtain ⟨_, _, _, _, _, e, _⟩ := h; subst e; rfl) | (obtain ⟨_, _, _, _, _, _, e, _⟩ := h; subst e; rfl) | (obtain ⟨_, _, _, _, _, _, _, e, _⟩ := h; subst e; rfl) | (obtain ⟨_, _, _, _, _, _, _, _, e, _⟩ := h; subst e; rfl) | (obtain ⟨_, _, _, _, _, _, _, _, _, e, _⟩ := h; subst e; rfl)))
local macro_rules | `(tactic| walk_at "kf1") => `(tactic| simp (config := { failIfUnchanged := false }) only [startD, ap_fiEnumT, asT1_t, ap_fKGet, asStr_s, ap_fKIn, ap_fKIx, ap_gAsgL, rUnl_l, ap_fiRng3, asR3_i, rSplitO_s, ap_fOrL, rOrL_l, ap_fLcK, ap_gForK, ap_fMaxD, rMaxD_l, rMaxL_l, ap_fCallXD, ap_gForE, asLE_l, ap_fFrz, ap_fDicO, ap_fDGet, ap_fDGet1, ap_fDGet2, ap_gDPut, ap_fIsiT, ap_gForR, rRep_l, isT_i, isT_s, isT_b, isT_n, isT_t, isT_l, ap_gIf, ap_gRet, ap_gNext, ap_gSet, ap_gAsg, ap_gPar, ap_gDrop, ap_gRetF, ap_gRetN, ap_gFor, ap_gSetIx, ap_gBreak, ap_fRev, ap_fiRevR, asIR_i, rRev_l, ap_fCallX, ap_gRaise, ap_gTry, ap_gTryAs, ap_gNever, ap_fEdic, ap_fTest, ap_fOp, ap_fVar, envGet_s, patGet_s, ap_fC, ap_fCB, ap_fCons, ap_fNil, ap_fCall, ap_fAnd, ap_fOr, ap_fNot, ap_fAndV, ap_fOrV, ap_fNotV, ap_fIf, ap_fTup, ap_fLst, ap_fLstO, ap_fChain, ap_fUn, ap_fBM, ap_fBM0, ap_fPool, rPool_i, ap_fSl, ap_fPart, ap_fNoPart, asI_i, rSl_l, ap_fiRng1, ap_fiRng2, ap_fiList, ap_fiTup, ap_fiStr, ap_fiEnum, ap_fiZip, ap_fiRev, asL_l, asT_t, asSg_s, asR1_i, asR2_i, asL1_l, asL2_l, ap_fLc, ap_fLcO, ap_fYes, wipeD, lcD, isi_i_int, isi_i_bool, isi_i_str, isi_i_tuple, isi_i_list, isi_i_dict, isi_b_int, isi_b_bool, isi_b_str, isi_b_tuple, isi_b_list, isi_b_dict, isi_s_int, isi_s_bool, isi_s_str, isi_s_tuple, isi_s_list, isi_s_dict, isi_t_int, isi_t_bool, isi_t_str, isi_t_tuple, isi_t_list, isi_t_dict, isi_l_int, isi_l_bool, isi_l_str, isi_l_tuple, isi_l_list, isi_l_dict, isi_n_int, isi_n_bool, isi_n_str, isi_n_tuple, isi_n_list, isi_n_dict, isi_d_int, isi_d_bool, isi_d_str, isi_d_tuple, isi_d_list, isi_d_dict,
  deref_tup, deref_lst, deref_int, deref_str, deref_bl, deref_non, deref_scr, rLt_i, rLt_s, rLe_i, rLe_s, rInts_i, rInts0_i, rAdd_i, rAdd_s, rAdd_l, rAdd_t, rCatO_l, rNeg_i, rLen_t, rLen_l, rLen_c, rLen_s, rMax_i, rMin_i, rInt_i, rInt_b, rDivmod_i, ap_gAug, rStr_i, rList_l, rList_t, rListO_l, rListO_t, rTup_l, rTup_t,
  rIx_t0, rIx_t1, rIx_t2, rIx_t3, rIx_l0, rIx_l1, rIx_l2, rIsN_x, isNon_t, isNon_n, isNon_i, isNon_s, isNon_l, rEq_i, rEq_b, rEq_i2, rEq_b2, rJoin_m, rSplit_s, tyOk_l, tyOk_s, patD_nm, patD_tp, patDs_nil, patDs_cons, Option.bind_some, notX, notX',
  List.map_cons, List.map_nil, List.length_cons, List.length_nil, List.cons_append, List.nil_append, List.append_nil, List.replicate, List.getElem?_cons_zero, List.getElem?_cons_succ, List.set_cons_zero, List.set_cons_succ, updO_same, updO_updO,
  Nat.reduceSub, Nat.reduceAdd, Nat.reduceLeDiff, Nat.zero_add, Int.cast_ofNat_Int, Int.natCast_zero, Int.natCast_one, Int.reduceLT, Int.reduceLE, Int.reduceEq, Int.reduceAdd, Int.reduceSub, Int.reduceNeg, decide_true, decide_false, if_true, if_false, Bool.false_eq_true, eq_self, reduceIte, Bool.true_eq_false, decide_eq_true_eq, Bool.not_true, Bool.not_false, Bool.not_eq_true', decide_eq_false_iff_not, exists_eq_left', exists_eq_left, D.bl.injEq, true_and, and_true, not_true_eq_false, not_false_eq_true])
section
variable {P : Program} {w : World} {K : PySem.W.Frag} {mg : Str → Option Value} {base : Heap}
local macro_rules | `(tactic| walk_at "tg") => `(tactic| simp (config := { failIfUnchanged := false }) only [te_name_take, te_name_give, te_name_pair, te_name_first, te_name_second, te_name_to, te_name_both, te_name_one, te_name_mark, te_name_name, te_name_thing, te_name_at, te_thing_take, te_thing_give, te_thing_pair, te_thing_first, te_thing_second, te_thing_to, te_thing_both, te_thing_one, te_thing_mark, te_thing_name, te_thing_thing, te_thing_at, te_take_take, te_take_give, te_take_pair, te_take_first, te_take_second, te_take_to, te_take_both, te_take_one, te_take_mark, te_take_name, te_take_thing, te_take_at, te_give_take, te_give_give, te_give_pair, te_give_first, te_give_second, te_give_to, te_give_both, te_give_one, te_give_mark, te_give_name, te_give_thing, te_give_at, te_pair_take, te_pair_give, te_pair_pair, te_pair_first, te_pair_second, te_pair_to, te_pair_both, te_pair_one, te_pair_mark, te_pair_name, te_pair_thing, te_pair_at, te_first_take, te_first_give, te_first_pair, te_first_first, te_first_second, te_first_to, te_first_both, te_first_one, te_first_mark, te_first_name, te_first_thing, te_first_at, te_second_take, te_second_give, te_second_pair, te_second_first, te_second_second, te_second_to, te_second_both, te_second_one, te_second_mark, te_second_name, te_second_thing, te_second_at, te_mark_take, te_mark_give, te_mark_pair, te_mark_first, te_mark_second, te_mark_to, te_mark_both, te_mark_one, te_mark_mark, te_mark_name, te_mark_thing, te_mark_at, te_one_take, te_one_give, te_one_pair, te_one_first, te_one_second, te_one_to, te_one_both, te_one_one, te_one_mark, te_one_name, te_one_thing, te_one_at, te_to_take, te_to_give, te_to_pair, te_to_first, te_to_second, te_to_to, te_to_both, te_to_one, te_to_mark, te_to_name, te_to_thing, te_to_at, te_both_take, te_both_give, te_both_pair, te_both_first, te_both_second, te_both_to, te_both_both, te_both_one, te_both_mark, te_both_name, te_both_thing, te_both_at, te_at_take, te_at_give, te_at_pair, te_at_first, te_at_second, te_at_to, te_at_both, te_at_one, te_at_mark, te_at_name, te_at_thing, te_at_at, ti4_name, ti4_thing, ti4_take, ti4_give, ti4_pair, ti4_first, ti4_second, ti2_name, ti2_thing, ti2_take, ti2_give, ti2_pair, ti2_first, ti2_second, szT_0, szT_1, szT_2, szT_3, szT_4, szT_5, szT_6, szT_7, szT_8, szT_9, szT_10, szT_11, szT_12, Bool.not_true, Bool.not_false, true_and])
theorem sw_gap : PyData.strOk (Str.ofString "gap") = true := by decide +kernel
theorem te_give_gap {neg : Bool} {O : Ow} {Q : VD} : rEqD neg (.str (Str.ofString "give")) (.str (Str.ofString "gap")) O Q = Q (.bl neg) O := by
  rw [rEq_s sw_give sw_gap, show decide (Str.ofString "give" = Str.ofString "gap") = false by decide +kernel]; cases neg <;> rfl
theorem te_first_gap {neg : Bool} {O : Ow} {Q : VD} : rEqD neg (.str (Str.ofString "first")) (.str (Str.ofString "gap")) O Q = Q (.bl neg) O := by
  rw [rEq_s sw_first sw_gap, show decide (Str.ofString "first" = Str.ofString "gap") = false by decide +kernel]; cases neg <;> rfl
theorem te_second_gap {neg : Bool} {O : Ow} {Q : VD} : rEqD neg (.str (Str.ofString "second")) (.str (Str.ofString "gap")) O Q = Q (.bl neg) O := by
  rw [rEq_s sw_second sw_gap, show decide (Str.ofString "second" = Str.ofString "gap") = false by decide +kernel]; cases neg <;> rfl
def spKHere : DSp := fun ds O R _ => ∃ (kn : List (Str × Kd)) (p : Pg) (ks : List Kd), ds = [.lst (kn.map kv), dP p, .lst (ks.map dK)] ∧ ks.length = p.ins.length ∧ p.sok = true ∧ (∀ q ∈ kn, PyData.strOk q.1 = true) ∧ (∀ k ∈ ks, k.ok = true ∧ k.depth ≤ 150) ∧ R (dKo (khere (envOf kn) p ks)) O
theorem ok_khere (T : Tx K mg) : FO_kind_here P w base T 2 spKHere := by
  refine fnd_kind_here T (ok_known T) (by walk_at "len") ?_
  rintro ds O R RE ⟨kn, p, ks, rfl, hl, hs, hk, hks, hR⟩
  unfold g_kind_here
  cases p with
  | nm x =>
    simp only [dP]
    walk_at "kf"; walk_at "tg"; walk_at "kf"
    exact ⟨kn, x, rfl, hs, hk, hR⟩
  | thing =>
    simp only [dP]
    walk_at "kf"; walk_at "tg"; walk_at "kf"; walk_at "tg"; walk_at "kf"; walk_at "tg"; walk_at "kf"; walk_at "tg"; walk_at "kf"
    exact hR
  | take x k b =>
    simp only [Pg.ins, List.length_singleton] at hl
    obtain ⟨r, rfl⟩ := List.length_eq_one_iff.mp hl
    simp only [dP]
    walk_at "kf"; walk_at "tg"; walk_at "kf"; walk_at "tg"; walk_at "kf"; walk_at "tg"
    exact hR
  | pair a b =>
    obtain ⟨r1, r2, rfl⟩ := len2 hl
    simp only [dP]
    walk_at "kf"; walk_at "tg"; walk_at "kf"; walk_at "tg"; walk_at "kf"; walk_at "tg"; walk_at "kf"; walk_at "tg"
    exact hR
  | give f a =>
    obtain ⟨r1, r2, rfl⟩ := len2 hl
    have h1 := hks r1 (by simp)
    have h2 := hks r2 (by simp)
    simp only [dP]
    walk_at "kf"; walk_at "tg"; walk_at "kf"; walk_at "tg"; walk_at "kf"; walk_at "tg"; walk_at "kf"; walk_at "tg"; walk_at "kf"; simp only [te_give_gap]; walk_at "kf"; walk_at "tg"; walk_at "kf"
    cases r1 with
    | to c k =>
      simp only [Kd.ok, Kd.depth, Bool.and_eq_true] at h1
      simp only [dK]
      walk_at "kf"; walk_at "tg"; walk_at "kf"
      rw [rEq_K h1.1.1 h2.1 (by omega)]
      by_cases e : c = r2
      · subst e
        simp only [khere, if_true] at hR
        simp only [decide_true, Bool.false_xor]
        walk_at "kf"
        exact hR
      · simp only [khere, if_neg e] at hR
        simp only [e, decide_false, Bool.false_xor]
        walk_at "kf"
        exact hR
    | _ =>
      simp only [dK]
      walk_at "kf"; walk_at "tg"; walk_at "kf"
      exact hR
  | first f =>
    simp only [Pg.ins, List.length_singleton] at hl
    obtain ⟨r, rfl⟩ := List.length_eq_one_iff.mp hl
    simp only [dP]
    walk_at "kf"; walk_at "tg"; walk_at "kf"; walk_at "tg"; walk_at "kf"; walk_at "tg"; walk_at "kf"; walk_at "tg"; walk_at "kf"; simp only [te_first_gap]; walk_at "kf"; walk_at "tg"; walk_at "kf"
    cases r <;> simp only [dK] <;> walk_at "kf" <;> walk_at "tg" <;> walk_at "kf" <;> (try walk_at "tg") <;> (try walk_at "kf") <;> exact hR
  | second f =>
    simp only [Pg.ins, List.length_singleton] at hl
    obtain ⟨r, rfl⟩ := List.length_eq_one_iff.mp hl
    simp only [dP]
    walk_at "kf"; walk_at "tg"; walk_at "kf"; walk_at "tg"; walk_at "kf"; walk_at "tg"; walk_at "kf"; walk_at "tg"; walk_at "kf"; simp only [te_second_gap]; walk_at "kf"; walk_at "tg"; walk_at "kf"
    cases r <;> simp only [dK] <;> walk_at "kf" <;> walk_at "tg" <;> walk_at "kf" <;> (try walk_at "tg") <;> (try walk_at "kf") <;> exact hR
structure KnOk (kn : List (Str × Kd)) : Prop where
  nm : ∀ q ∈ kn, PyData.strOk q.1 = true
  kd : ∀ q ∈ kn, q.2.ok = true ∧ q.2.depth ≤ 12
theorem KnOk.e {kn : List (Str × Kd)} (h : KnOk kn) : EOk (envOf kn) := fun x k q => h.kd (x, k) (envOf_mem q)
theorem KnOk.snoc {kn : List (Str × Kd)} (h : KnOk kn) {x : Str} {k : Kd} (hx : PyData.strOk x = true) (h1 : k.ok = true) (h2 : k.depth ≤ 12) : KnOk (kn ++ [(x, k)]) := by
  refine ⟨fun q hq => ?_, fun q hq => ?_⟩
  · rcases List.mem_append.mp hq with hq | hq
    · exact h.nm q hq
    · rw [List.mem_singleton.mp hq]; exact hx
  · rcases List.mem_append.mp hq with hq | hq
    · exact h.kd q hq
    · rw [List.mem_singleton.mp hq]; exact ⟨h1, h2⟩
def spKw (n : Nat) : DSp := fun ds O R _ => ∃ (kn : List (Str × Kd)) (p : Pg) (k : Kd) (pl : List Int), ds = [.lst (kn.map kv), dP p, dI pl] ∧ hasK (envOf kn) p k ∧ p.hgt < n ∧ KnOk kn ∧ p.sok = true ∧ p.ka ∧ p.hgt ≤ 120 ∧ kn.length + p.hgt ≤ 1000 ∧ pl.length + p.hgt ≤ 1000 ∧ R (dK k) O
theorem isNon_dK (k : Kd) : isNon (dK k) = false := by cases k <;> rfl
theorem ok_kw (T : Tx K mg) : ∀ n, FO_kind_within P w base T (n + 3) (spKw n)
  | 0 => fnUp (none_left fun ds O R RE ⟨kn, p, k, pl, _, _, h, _⟩ => by omega) (Nat.zero_le _)
  | n + 1 => by
    refine fnd_kind_within T (fnUp (ok_innerO T) (by omega)) (ok_kw T n) (fnUp (ok_khere T) (by omega)) (by walk_at "len") ?_
    rintro ds O R RE ⟨kn, p, k, pl, rfl, hh, hn, hkn, hs, hka, h120, hl, hpl, hR⟩
    unfold g_kind_within
    have rest : ∀ (kn' : List (Str × Kd)) (ks : List Kd), KnOk kn' → kn'.length + p.hgt ≤ 1001 → ks.length = p.ins.length → (∀ k ∈ ks, k.ok = true ∧ k.depth ≤ 150) → khere (envOf kn') p ks = some k →
        (∀ (i : Nat) (q : Pg) (r : Kd), p.ins[i]? = some q → ks[i]? = some r → hasK (envOf kn') q r) →
        (gSeq (gSet (fLc (fiEnum (fCons (fFrz (fCall spInnerO (fCons (fVar 1) fNil))) fNil)) (.tp [(.nm 5), (.nm 6)]) fYes (fCall (spKw n) (fCons (fVar 0) (fCons (fVar 6) (fCons (fOp rAddD (fVar 2) (fLst (fCons (fVar 5) fNil))) fNil)))) [5, 6]) 3) (gSeq (gSet (fCall spKHere (fCons (fVar 0) (fCons (fVar 1) (fCons (fVar 3) fNil)))) 4) (gSeq (gIf (fTest (fOp (rIsN false) (fVar 4) (fC .non))) gNever gNext) (gRet (fVar 4))))) { nx := fun _ O' => R .non O', rt := R } [some (.lst (kn'.map kv)), some (dP p), some (dI pl), none, none, none, none] O := by
      intro kn' ks hkn' hl' hks hkd hkh hsub
      refine gSeq_step ?_
      walk_at "kf1"
      refine ⟨p, rfl, fun fz hfz => ?_⟩
      dsimp only
      rw [rFrz_u hfz]
      walk_at "kf1"
      have fin : ∀ x5 x6, gSeq (gSet (fCall spKHere (fCons (fVar 0) (fCons (fVar 1) (fCons (fVar 3) fNil)))) 4) (gSeq (gIf (fTest (fOp (rIsN false) (fVar 4) (fC .non))) gNever gNext) (gRet (fVar 4))) { nx := fun _ O' => R .non O', rt := R } [some (.lst (kn'.map kv)), some (dP p), some (dI pl), some (.lst (ks.map dK)), none, x5, x6] O := by
        intro x5 x6
        refine gSeq_step ?_
        walk_at "kf1"
        refine ⟨kn', p, ks, rfl, hks, hs, hkn'.nm, hkd, ?_⟩
        rw [hkh]
        simp only [dKo]
        refine gSeq_step ?_
        walk_at "kf1"
        rw [isNon_dK]
        walk_at "kf1"
        exact hR
      have lpl : ∀ {x : Pg}, x ∈ p.ins → (pl.map D.int).length + 1 ≤ sizeLine := fun hx => sz_21 (by rw [List.length_map]; have := ins_hgt hx; omega)
      have call : ∀ (q : Pg) (r : Kd) (i : Int) (R' : VD) (RE' : XD), q ∈ p.ins → hasK (envOf kn') q r → q.ka → R' (dK r) O → spKw n [.lst (kn'.map kv), dP q, .lst (pl.map .int ++ [.int i])] O R' RE' := by
        intro q r i R' RE' hq hqr hqa h
        have h1 := ins_hgt hq
        have h2 := ins_ok hq hs
        exact ⟨kn', q, r, pl ++ [i], by simp [dI], hqr, by omega, hkn', h2.1, hqa, by omega, by omega, by rw [List.length_append, List.length_singleton]; omega, h⟩
      have ka_in : ∀ q ∈ p.ins, q.ka := fun q hq => by
        cases p <;> simp only [Pg.ins, List.mem_cons, List.not_mem_nil, or_false] at hq
        · subst hq; exact hka.2.2
        · rcases hq with rfl | rfl
          · exact hka.1
          · exact hka.2
        · rcases hq with rfl | rfl
          · exact hka.1
          · exact hka.2
        · subst hq; exact hka
        · subst hq; exact hka
      rcases ins_cases p with hi | ⟨x, hi⟩ | ⟨x, y, hi⟩ <;> rw [hi] at hks hsub ⊢ <;> simp only [List.map_cons, List.map_nil, enum0, enum1, enum2]
      · have : ks = [] := List.length_eq_zero_iff.mp hks
        subst this
        walk_at "kf1"
        exact fin _ _
      · obtain ⟨r, rfl⟩ := List.length_eq_one_iff.mp hks
        have hxi : x ∈ p.ins := by rw [hi]; exact List.mem_cons_self
        walk_at "kf1"
        walk_at "tg"
        refine ⟨lpl hxi, call x r 0 _ _ hxi (hsub 0 x r rfl rfl) (ka_in x hxi) ⟨by decide, ?_⟩⟩
        walk_at "kf1"
        exact fin _ _
      · obtain ⟨r1, r2, rfl⟩ := len2 hks
        have hxi : x ∈ p.ins := by rw [hi]; exact List.mem_cons_self
        have hyi : y ∈ p.ins := by rw [hi]; exact List.mem_cons_of_mem _ List.mem_cons_self
        walk_at "kf1"
        walk_at "tg"
        refine ⟨lpl hxi, call x r1 0 _ _ hxi (hsub 0 x r1 rfl rfl) (ka_in x hxi) ⟨by decide, ?_⟩⟩
        walk_at "kf1"
        walk_at "tg"
        refine ⟨lpl hyi, call y r2 1 _ _ hyi (hsub 1 y r2 rfl rfl) (ka_in y hyi) ⟨by decide, ?_⟩⟩
        walk_at "kf1"
        exact fin _ _
    have kdo : ∀ (q : Pg) (kn' : List (Str × Kd)) (r : Kd), KnOk kn' → q.ka → q.hgt ≤ p.hgt → hasK (envOf kn') q r → r.ok = true ∧ r.depth ≤ 150 := fun q kn' r h1 h2 h3 h4 => by
      have := kd_has q _ r h4 h1.e h2
      exact ⟨this.1, by omega⟩
    refine gSeq_step ?_
    cases p with
    | nm x =>
      simp only [dP]
      walk_at "kf1"; walk_at "tg"; walk_at "kf1"
      exact rest kn [] hkn (by omega) rfl (fun _ h => nomatch h) hh (fun i q r h => by simp [Pg.ins] at h)
    | thing =>
      simp only [dP]
      walk_at "kf1"; walk_at "tg"; walk_at "kf1"
      exact rest kn [] hkn (by omega) rfl (fun _ h => nomatch h) (by rw [show k = .one from hh]; rfl) (fun i q r h => by simp [Pg.ins] at h)
    | take x a b =>
      obtain ⟨r, e1, h1⟩ := hh
      subst e1
      simp only [Pg.sok, Bool.and_eq_true] at hs
      have hb : hasK (envOf (kn ++ [(x, a)])) b r := by rw [envOf_ext]; exact h1
      have hk2 := hkn.snoc hs.1.1 hka.1 hka.2.1
      simp only [dP]
      walk_at "kf1"; walk_at "tg"; walk_at "kf1"; walk_at "tg"
      refine ⟨sz_21 (by rw [List.length_map]; omega), ?_⟩
      have e2 : kn.map kv ++ [D.tup [.str x, dK a]] = (kn ++ [(x, a)]).map kv := by rw [List.map_append]; rfl
      rw [e2]
      refine rest _ [r] hk2 (by rw [List.length_append, List.length_singleton]; omega) rfl (fun k' h => ?_) rfl (fun i q r' h h' => ?_)
      · rw [List.mem_singleton.mp h]; exact kdo b _ r hk2 hka.2.2 (by simp only [Pg.hgt]; omega) hb
      · cases i with
        | zero => cases h; cases h'; exact hb
        | succ i => simp [Pg.ins] at h
    | give f a =>
      obtain ⟨c, h1, h2⟩ := hh
      have i1 := kdo f kn _ hkn hka.1 (by simp only [Pg.hgt]; omega) h1
      have i2 := kdo a kn _ hkn hka.2 (by simp only [Pg.hgt]; omega) h2
      simp only [dP]
      walk_at "kf1"; walk_at "tg"; walk_at "kf1"
      refine rest kn [.to c k, c] hkn (by omega) rfl (fun k' h => ?_) (by simp [khere]) (fun i q r' h h' => ?_)
      · simp only [List.mem_cons, List.not_mem_nil, or_false] at h
        rcases h with rfl | rfl
        · exact i1
        · exact i2
      · match i with
        | 0 => cases h; cases h'; exact h1
        | 1 => cases h; cases h'; exact h2
        | i + 2 => simp [Pg.ins] at h
    | pair f a =>
      obtain ⟨c, d, e1, h1, h2⟩ := hh
      subst e1
      have i1 := kdo f kn _ hkn hka.1 (by simp only [Pg.hgt]; omega) h1
      have i2 := kdo a kn _ hkn hka.2 (by simp only [Pg.hgt]; omega) h2
      simp only [dP]
      walk_at "kf1"; walk_at "tg"; walk_at "kf1"
      refine rest kn [c, d] hkn (by omega) rfl (fun k' h => ?_) rfl (fun i q r' h h' => ?_)
      · simp only [List.mem_cons, List.not_mem_nil, or_false] at h
        rcases h with rfl | rfl
        · exact i1
        · exact i2
      · match i with
        | 0 => cases h; cases h'; exact h1
        | 1 => cases h; cases h'; exact h2
        | i + 2 => simp [Pg.ins] at h
    | first f =>
      obtain ⟨d, h1⟩ := hh
      have i1 := kdo f kn _ hkn hka (by simp only [Pg.hgt]; omega) h1
      simp only [dP]
      walk_at "kf1"; walk_at "tg"; walk_at "kf1"
      refine rest kn [.both k d] hkn (by omega) rfl (fun k' h => ?_) rfl (fun i q r' h h' => ?_)
      · rw [List.mem_singleton.mp h]; exact i1
      · cases i with
        | zero => cases h; cases h'; exact h1
        | succ i => simp [Pg.ins] at h
    | second f =>
      obtain ⟨d, h1⟩ := hh
      have i1 := kdo f kn _ hkn hka (by simp only [Pg.hgt]; omega) h1
      simp only [dP]
      walk_at "kf1"; walk_at "tg"; walk_at "kf1"
      refine rest kn [.both d k] hkn (by omega) rfl (fun k' h => ?_) rfl (fun i q r' h h' => ?_)
      · rw [List.mem_singleton.mp h]; exact i1
      · cases i with
        | zero => cases h; cases h'; exact h1
        | succ i => simp [Pg.ins] at h
def spKindOf : DSp := fun ds O R _ => ∃ (kn : List (Str × Kd)) (p : Pg) (k : Kd), ds = [.lst (kn.map kv), dP p] ∧ hasK (envOf kn) p k ∧ KnOk kn ∧ p.sok = true ∧ p.ka ∧ p.hgt ≤ 110 ∧ kn.length ≤ 100 ∧ R (dK k) O
theorem ok_kind_of (T : Tx K mg) : FO_kind_of P w base T 115 spKindOf := by
  refine fnd_kind_of T (ok_kw T 111) (by walk_at "len") ?_
  rintro ds O R RE ⟨kn, p, k, rfl, hh, hkn, hs, hka, hl, hkl, hR⟩
  unfold g_kind_of
  walk_at "kf"
  walk_at "tg"
  exact ⟨kn, p, k, [], rfl, hh, by omega, hkn, hs, hka, by omega, by omega, by simp only [List.length_nil]; omega, hR⟩
end
end Kf
/-! Klf: plain long programs are tidy, have no steps and the kind. -/
namespace Kf
open PySem PySem.Spec L2
open PyProof.Rows hiding St
/-- the taken names, the innermost first -/
def tks : Nat → List Str
  | 0 => []
  | t + 1 => xn t :: tks t
theorem tks_len : ∀ t, (tks t).length = t
  | 0 => rfl
  | t + 1 => by rw [tks, List.length_cons, tks_len t]
theorem ri_tks : ∀ (t s : Nat), s < t → t ≤ 500 → ri (tks t) (xn s) = some (t - 1 - s)
  | 0, s, h, _ => absurd h (Nat.not_lt_zero _)
  | t + 1, s, h, ht => by
    rw [tks, ri]
    by_cases e : t = s
    · subst e
      rw [if_pos rfl]
      congr 1
      omega
    · rw [if_neg fun h2 => e (xn_inj64 t (by omega) s (by omega) h2), ri_tks t s (by omega) (by omega)]
      rw [Option.map_some]
      congr 1
      omega
theorem ri_no : ∀ (t : Nat) (x : Str), (∀ s, s < t → x ≠ xn s) → ri (tks t) x = none
  | 0, _, _ => rfl
  | t + 1, x, h => by
    rw [tks, ri, if_neg fun e => h t (by omega) e.symm, ri_no t x fun s hs => h s (by omega)]
    rfl
theorem tidy_nm (t : Nat) (ht : t ≤ 500) (x : Str) : tidy (.nm x) (tks t) = .nm x := by
  by_cases h : ∃ s, s < t ∧ x = xn s
  · obtain ⟨s, hs, rfl⟩ := h
    rw [tidy, ri_tks t s hs ht]
    dsimp only
    rw [tks_len, show t - 1 - (t - 1 - s) = s by omega]
  · rw [tidy, ri_no t x fun s hs e => h ⟨s, hs, e⟩]
/-- what holds of plain long programs -/
structure LF (p : Pg) : Prop where
  g : ∀ (kn : List (Str × Kd)) (t : Nat) (c : Kd), gal kn p t = some c → t + p.hgt ≤ 400 → tidy p (tks t) = p ∧ (∀ pl, plc p pl = []) ∧ hasK (envOf kn) p c
  l : ∀ (kn : List (Str × Kd)) (k : Kd) (t : Nat), lg kn k p t = true → t + p.hgt ≤ 400 → tidy p (tks t) = p ∧ (∀ pl, plc p pl = []) ∧ hasK (envOf kn) p k
theorem LF.of {p : Pg} (hg : ∀ (kn : List (Str × Kd)) (t : Nat) (c : Kd), gal kn p t = some c → t + p.hgt ≤ 400 → tidy p (tks t) = p ∧ (∀ pl, plc p pl = []) ∧ hasK (envOf kn) p c)
    (ht : p = .thing ∨ ∀ kn t, lg kn .one p t = false)
    (hp : ∀ kn a b t, lg kn (.both a b) p t = true → t + p.hgt ≤ 400 → tidy p (tks t) = p ∧ (∀ pl, plc p pl = []) ∧ hasK (envOf kn) p (.both a b))
    (hk : ∀ kn a b t, lg kn (.to a b) p t = true → t + p.hgt ≤ 400 → tidy p (tks t) = p ∧ (∀ pl, plc p pl = []) ∧ hasK (envOf kn) p (.to a b)) : LF p := by
  refine ⟨hg, fun kn k t h ht' => ?_⟩
  cases k with
  | one =>
    rcases ht with rfl | h2
    · exact ⟨rfl, fun _ => rfl, rfl⟩
    · rw [h2] at h; cases h
  | mk m =>
    rw [lg_mk] at h
    exact hg kn t _ (of_decide_eq_true h) ht'
  | both a b => exact hp kn a b t h ht'
  | to a b => exact hk kn a b t h ht'
theorem isTake_gal {kn : List (Str × Kd)} {t : Nat} {c : Kd} {p : Pg} (h : gal kn p t = some c) : p.isTake = false ∧ p.isPair = false := by
  cases p with
  | take x k b => rw [al_take] at h; cases h
  | pair f s => rw [al_pair] at h; cases h
  | _ => exact ⟨rfl, rfl⟩
theorem lf_all : ∀ p : Pg, LF p
  | .nm x => LF.of (fun kn t c h ht => by
      rw [al_nm] at h
      exact ⟨tidy_nm t (by omega) x, fun _ => rfl, h⟩) (.inr fun kn t => by rw [lg_one]; rfl)
      (fun kn a b t h _ => by rw [lg_npair kn t a b _ (by intro f s e; cases e)] at h; cases h) (fun kn a b t h _ => by rw [lg_ntake kn t a b _ (by intro x k b e; cases e)] at h; cases h)
  | .thing => LF.of (fun kn t c h _ => by rw [al_thing] at h; cases h) (.inl rfl)
      (fun kn a b t h _ => by rw [lg_npair kn t a b _ (by intro f s e; cases e)] at h; cases h) (fun kn a b t h _ => by rw [lg_ntake kn t a b _ (by intro x k b e; cases e)] at h; cases h)
  | .take x k b => by
      have ih := lf_all b
      refine LF.of (fun kn t c h _ => by rw [al_take] at h; cases h) (.inr fun kn t => by rw [lg_one]; rfl) (fun kn a b t h _ => by rw [lg_npair kn t a b _ (by intro f s e; cases e)] at h; cases h) (fun kn d c t h ht => ?_)
      simp only [Pg.hgt] at ht
      rw [lg_take, Bool.and_eq_true, Bool.and_eq_true, decide_eq_true_eq, decide_eq_true_eq] at h
      obtain ⟨rfl, rfl, h⟩ := h
      obtain ⟨h1, h2, h3⟩ := ih.l _ c (t + 1) h (by omega)
      refine ⟨?_, fun pl => ?_, ⟨c, rfl, ?_⟩⟩
      · rw [tidy, tks_len]
        rw [tks] at h1
        rw [h1]
      · rw [plc, h2]
      · rw [envOf_ext] at h3
        exact h3
  | .pair f s => by
      have i1 := lf_all f
      have i2 := lf_all s
      refine LF.of (fun kn t c h _ => by rw [al_pair] at h; cases h) (.inr fun kn t => by rw [lg_one]; rfl) (fun kn a b t h ht => ?_) (fun kn a b t h _ => by rw [lg_ntake kn t a b _ (by intro x k b e; cases e)] at h; cases h)
      simp only [Pg.hgt] at ht
      rw [lg_pair, Bool.and_eq_true] at h
      obtain ⟨h1, h2, h3⟩ := i1.l kn a t h.1 (by omega)
      obtain ⟨g1, g2, g3⟩ := i2.l kn b t h.2 (by omega)
      exact ⟨by rw [tidy, h1, g1], fun pl => by rw [plc, h2, g2]; rfl, ⟨a, b, rfl, h3, g3⟩⟩
  | .give f a => by
      have i1 := lf_all f
      have i2 := lf_all a
      refine LF.of (fun kn t c h ht => ?_) (.inr fun kn t => by rw [lg_one]; rfl) (fun kn a b t h _ => by rw [lg_npair kn t a b _ (by intro f s e; cases e)] at h; cases h) (fun kn a b t h _ => by rw [lg_ntake kn t a b _ (by intro x k b e; cases e)] at h; cases h)
      simp only [Pg.hgt] at ht
      rw [al_give] at h
      split at h
      · rename_i d k e
        split at h
        · rename_i hl
          cases h
          obtain ⟨h1, h2, h3⟩ := i1.g kn t _ e (by omega)
          obtain ⟨g1, g2, g3⟩ := i2.l kn d t hl (by omega)
          exact ⟨by rw [tidy, h1, g1], fun pl => by rw [plc, h2, g2, (isTake_gal e).1]; rfl, ⟨d, h3, g3⟩⟩
        · cases h
      · cases h
  | .first f => by
      have i1 := lf_all f
      refine LF.of (fun kn t c h ht => ?_) (.inr fun kn t => by rw [lg_one]; rfl) (fun kn a b t h _ => by rw [lg_npair kn t a b _ (by intro f s e; cases e)] at h; cases h) (fun kn a b t h _ => by rw [lg_ntake kn t a b _ (by intro x k b e; cases e)] at h; cases h)
      simp only [Pg.hgt] at ht
      rw [al_first] at h
      split at h
      · rename_i a b e
        cases h
        obtain ⟨h1, h2, h3⟩ := i1.g kn t _ e (by omega)
        exact ⟨by rw [tidy, h1], fun pl => by rw [plc, h2, (isTake_gal e).2]; rfl, ⟨b, h3⟩⟩
      · cases h
  | .second f => by
      have i1 := lf_all f
      refine LF.of (fun kn t c h ht => ?_) (.inr fun kn t => by rw [lg_one]; rfl) (fun kn a b t h _ => by rw [lg_npair kn t a b _ (by intro f s e; cases e)] at h; cases h) (fun kn a b t h _ => by rw [lg_ntake kn t a b _ (by intro x k b e; cases e)] at h; cases h)
      simp only [Pg.hgt] at ht
      rw [al_second] at h
      split at h
      · rename_i a b e
        cases h
        obtain ⟨h1, h2, h3⟩ := i1.g kn t _ e (by omega)
        exact ⟨by rw [tidy, h1], fun pl => by rw [plc, h2, (isTake_gal e).2]; rfl, ⟨a, h3⟩⟩
      · cases h
end Kf
/-! Kbt: things that may be trees of worlds. -/
namespace Kf
open PySem PySem.Spec L2
open PyProof.Rows hiding St
/-! ### things that can be looked at -/
/-! ### the looks -/
/-! sizes -/
end Kf
/-! Kbu: trees as things, small things, chains. -/
namespace Kf
open PySem PySem.Spec L2
open PyProof.Rows hiding St
theorem cut_tk {α : Type} (xs : List α) (i : Nat) (h : i ≤ xs.length) : cut xs none (some (i : Int)) = xs.take i := by
  have e : HT.sIx xs.length xs.length (some (i : Int)) = i := by
    simp only [HT.sIx]; split <;> omega
  have e0 : HT.sIx xs.length 0 none = 0 := rfl
  unfold cut
  rw [e, e0, List.drop_zero, Nat.sub_zero]
end Kf
namespace Kf
open PySem PySem.Spec L2
open PyProof.Rows hiding St
local macro_rules | `(tactic| walk_at "kf") => `(tactic| simp (config := { failIfUnchanged := false }) only [startD, ap_fiEnumT, asT1_t, ap_fKGet, asStr_s, ap_fKIn, ap_fKIx, ap_gAsgL, rUnl_l, ap_fiRng3, asR3_i, rSplitO_s, ap_fOrL, rOrL_l, ap_fLcK, ap_gForK, ap_fMaxD, rMaxD_l, rMaxL_l, ap_fCallXD, ap_gForE, asLE_l, ap_fFrz, ap_fDicO, ap_fDGet, ap_fDGet1, ap_fDGet2, ap_gDPut, ap_fIsiT, ap_gForR, rRep_l, isT_i, isT_s, isT_b, isT_n, isT_t, isT_l, ap_gSeq, ap_gIf, ap_gRet, ap_gNext, ap_gSet, ap_gAsg, ap_gPar, ap_gDrop, ap_gRetF, ap_gRetN, ap_gFor, ap_gSetIx, ap_gBreak, ap_fRev, ap_fiRevR, asIR_i, rRev_l, ap_fCallX, ap_gRaise, ap_gTry, ap_gTryAs, ap_gNever, ap_fEdic, ap_fTest, ap_fOp, ap_fVar, envGet_s, patGet_s, ap_fC, ap_fCB, ap_fCons, ap_fNil, ap_fCall, ap_fAnd, ap_fOr, ap_fNot, ap_fAndV, ap_fOrV, ap_fNotV, ap_fIf, ap_fTup, ap_fLst, ap_fLstO, ap_fChain, ap_fUn, ap_fBM, ap_fBM0, ap_fPool, rPool_i, ap_fSl, ap_fPart, ap_fNoPart, asI_i, rSl_l, ap_fiRng1, ap_fiRng2, ap_fiList, ap_fiTup, ap_fiStr, ap_fiEnum, ap_fiZip, ap_fiRev, asL_l, asT_t, asSg_s, asR1_i, asR2_i, asL1_l, asL2_l, ap_fLc, ap_fLcO, ap_fYes, wipeD, lcD, isi_i_int, isi_i_bool, isi_i_str, isi_i_tuple, isi_i_list, isi_i_dict, isi_b_int, isi_b_bool, isi_b_str, isi_b_tuple, isi_b_list, isi_b_dict, isi_s_int, isi_s_bool, isi_s_str, isi_s_tuple, isi_s_list, isi_s_dict, isi_t_int, isi_t_bool, isi_t_str, isi_t_tuple, isi_t_list, isi_t_dict, isi_l_int, isi_l_bool, isi_l_str, isi_l_tuple, isi_l_list, isi_l_dict, isi_n_int, isi_n_bool, isi_n_str, isi_n_tuple, isi_n_list, isi_n_dict, isi_d_int, isi_d_bool, isi_d_str, isi_d_tuple, isi_d_list, isi_d_dict,
  deref_tup, deref_lst, deref_int, deref_str, deref_bl, deref_non, deref_scr, rLt_i, rLt_s, rLe_i, rLe_s, rInts_i, rInts0_i, rAdd_i, rAdd_s, rAdd_l, rAdd_t, rCatO_l, rNeg_i, rLen_t, rLen_l, rLen_c, rLen_s, rMax_i, rMin_i, rInt_i, rInt_b, rDivmod_i, ap_gAug, rStr_i, rList_l, rList_t, rListO_l, rListO_t, rTup_l, rTup_t,
  rIx_t0, rIx_t1, rIx_t2, rIx_t3, rIx_l0, rIx_l1, rIx_l2, rIsN_x, isNon_t, isNon_n, isNon_i, isNon_s, isNon_l, rEq_i, rEq_b, rEq_i2, rEq_b2, rJoin_m, rSplit_s, tyOk_l, tyOk_s, patD_nm, patD_tp, patDs_nil, patDs_cons, Option.bind_some, notX, notX',
  List.map_cons, List.map_nil, List.length_cons, List.length_nil, List.cons_append, List.nil_append, List.append_nil, List.replicate, List.getElem?_cons_zero, List.getElem?_cons_succ, List.set_cons_zero, List.set_cons_succ, updO_same, updO_updO,
  Nat.reduceSub, Nat.reduceAdd, Nat.reduceLeDiff, Nat.zero_add, Int.cast_ofNat_Int, Int.natCast_zero, Int.natCast_one, Int.reduceLT, Int.reduceLE, Int.reduceEq, Int.reduceAdd, Int.reduceSub, Int.reduceNeg, decide_true, decide_false, if_true, if_false, Bool.false_eq_true, eq_self, reduceIte, Bool.true_eq_false, decide_eq_true_eq, Bool.not_true, Bool.not_false, Bool.not_eq_true', decide_eq_false_iff_not, exists_eq_left', exists_eq_left, D.bl.injEq, true_and, and_true, not_true_eq_false, not_false_eq_true])
local macro_rules | `(tactic| walk_at "len") => `(tactic| (intro ds O R RE h; first | (obtain ⟨e, _⟩ := h; subst e; rfl) | (obtain ⟨_, e, _⟩ := h; subst e; rfl) | (obtain ⟨_, _, e, _⟩ := h; subst e; rfl) | (obtain ⟨_, _, _, e, _⟩ := h; subst e; rfl) | (obtain ⟨_, _, _, _, e, _⟩ := h; subst e; rfl) | (obtain ⟨_, _, _, _, _, e, _⟩ := h; subst e; rfl) | (obtain ⟨_, _, _, _, _, _, e, _⟩ := h; subst e; rfl) | (obtain ⟨_, _, _, _, _, _, _, e, _⟩ := h; subst e; rfl) | (obtain ⟨_, _, _, _, _, _, _, _, e, _⟩ := h; subst e; rfl) | (obtain ⟨_, _, _, _, _, _, _, _, _, e, _⟩ := h; subst e; rfl)))
local macro_rules | `(tactic| walk_at "kf1") => `(tactic| simp (config := { failIfUnchanged := false }) only [startD, ap_fiEnumT, asT1_t, ap_fKGet, asStr_s, ap_fKIn, ap_fKIx, ap_gAsgL, rUnl_l, ap_fiRng3, asR3_i, rSplitO_s, ap_fOrL, rOrL_l, ap_fLcK, ap_gForK, ap_fMaxD, rMaxD_l, rMaxL_l, ap_fCallXD, ap_gForE, asLE_l, ap_fFrz, ap_fDicO, ap_fDGet, ap_fDGet1, ap_fDGet2, ap_gDPut, ap_fIsiT, ap_gForR, rRep_l, isT_i, isT_s, isT_b, isT_n, isT_t, isT_l, ap_gIf, ap_gRet, ap_gNext, ap_gSet, ap_gAsg, ap_gPar, ap_gDrop, ap_gRetF, ap_gRetN, ap_gFor, ap_gSetIx, ap_gBreak, ap_fRev, ap_fiRevR, asIR_i, rRev_l, ap_fCallX, ap_gRaise, ap_gTry, ap_gTryAs, ap_gNever, ap_fEdic, ap_fTest, ap_fOp, ap_fVar, envGet_s, patGet_s, ap_fC, ap_fCB, ap_fCons, ap_fNil, ap_fCall, ap_fAnd, ap_fOr, ap_fNot, ap_fAndV, ap_fOrV, ap_fNotV, ap_fIf, ap_fTup, ap_fLst, ap_fLstO, ap_fChain, ap_fUn, ap_fBM, ap_fBM0, ap_fPool, rPool_i, ap_fSl, ap_fPart, ap_fNoPart, asI_i, rSl_l, ap_fiRng1, ap_fiRng2, ap_fiList, ap_fiTup, ap_fiStr, ap_fiEnum, ap_fiZip, ap_fiRev, asL_l, asT_t, asSg_s, asR1_i, asR2_i, asL1_l, asL2_l, ap_fLc, ap_fLcO, ap_fYes, wipeD, lcD, isi_i_int, isi_i_bool, isi_i_str, isi_i_tuple, isi_i_list, isi_i_dict, isi_b_int, isi_b_bool, isi_b_str, isi_b_tuple, isi_b_list, isi_b_dict, isi_s_int, isi_s_bool, isi_s_str, isi_s_tuple, isi_s_list, isi_s_dict, isi_t_int, isi_t_bool, isi_t_str, isi_t_tuple, isi_t_list, isi_t_dict, isi_l_int, isi_l_bool, isi_l_str, isi_l_tuple, isi_l_list, isi_l_dict, isi_n_int, isi_n_bool, isi_n_str, isi_n_tuple, isi_n_list, isi_n_dict, isi_d_int, isi_d_bool, isi_d_str, isi_d_tuple, isi_d_list, isi_d_dict,
  deref_tup, deref_lst, deref_int, deref_str, deref_bl, deref_non, deref_scr, rLt_i, rLt_s, rLe_i, rLe_s, rInts_i, rInts0_i, rAdd_i, rAdd_s, rAdd_l, rAdd_t, rCatO_l, rNeg_i, rLen_t, rLen_l, rLen_c, rLen_s, rMax_i, rMin_i, rInt_i, rInt_b, rDivmod_i, ap_gAug, rStr_i, rList_l, rList_t, rListO_l, rListO_t, rTup_l, rTup_t,
  rIx_t0, rIx_t1, rIx_t2, rIx_t3, rIx_l0, rIx_l1, rIx_l2, rIsN_x, isNon_t, isNon_n, isNon_i, isNon_s, isNon_l, rEq_i, rEq_b, rEq_i2, rEq_b2, rJoin_m, rSplit_s, tyOk_l, tyOk_s, patD_nm, patD_tp, patDs_nil, patDs_cons, Option.bind_some, notX, notX',
  List.map_cons, List.map_nil, List.length_cons, List.length_nil, List.cons_append, List.nil_append, List.append_nil, List.replicate, List.getElem?_cons_zero, List.getElem?_cons_succ, List.set_cons_zero, List.set_cons_succ, updO_same, updO_updO,
  Nat.reduceSub, Nat.reduceAdd, Nat.reduceLeDiff, Nat.zero_add, Int.cast_ofNat_Int, Int.natCast_zero, Int.natCast_one, Int.reduceLT, Int.reduceLE, Int.reduceEq, Int.reduceAdd, Int.reduceSub, Int.reduceNeg, decide_true, decide_false, if_true, if_false, Bool.false_eq_true, eq_self, reduceIte, Bool.true_eq_false, decide_eq_true_eq, Bool.not_true, Bool.not_false, Bool.not_eq_true', decide_eq_false_iff_not, exists_eq_left', exists_eq_left, D.bl.injEq, true_and, and_true, not_true_eq_false, not_false_eq_true])
section
variable {P : Program} {w : World} {K : PySem.W.Frag} {mg : Str → Option Value} {base : Heap}
local macro_rules | `(tactic| walk_at "tg") => `(tactic| simp (config := { failIfUnchanged := false }) only [te_name_take, te_name_give, te_name_pair, te_name_first, te_name_second, te_name_to, te_name_both, te_name_one, te_name_mark, te_name_name, te_name_thing, te_name_at, te_thing_take, te_thing_give, te_thing_pair, te_thing_first, te_thing_second, te_thing_to, te_thing_both, te_thing_one, te_thing_mark, te_thing_name, te_thing_thing, te_thing_at, te_take_take, te_take_give, te_take_pair, te_take_first, te_take_second, te_take_to, te_take_both, te_take_one, te_take_mark, te_take_name, te_take_thing, te_take_at, te_give_take, te_give_give, te_give_pair, te_give_first, te_give_second, te_give_to, te_give_both, te_give_one, te_give_mark, te_give_name, te_give_thing, te_give_at, te_pair_take, te_pair_give, te_pair_pair, te_pair_first, te_pair_second, te_pair_to, te_pair_both, te_pair_one, te_pair_mark, te_pair_name, te_pair_thing, te_pair_at, te_first_take, te_first_give, te_first_pair, te_first_first, te_first_second, te_first_to, te_first_both, te_first_one, te_first_mark, te_first_name, te_first_thing, te_first_at, te_second_take, te_second_give, te_second_pair, te_second_first, te_second_second, te_second_to, te_second_both, te_second_one, te_second_mark, te_second_name, te_second_thing, te_second_at, te_mark_take, te_mark_give, te_mark_pair, te_mark_first, te_mark_second, te_mark_to, te_mark_both, te_mark_one, te_mark_mark, te_mark_name, te_mark_thing, te_mark_at, te_one_take, te_one_give, te_one_pair, te_one_first, te_one_second, te_one_to, te_one_both, te_one_one, te_one_mark, te_one_name, te_one_thing, te_one_at, te_to_take, te_to_give, te_to_pair, te_to_first, te_to_second, te_to_to, te_to_both, te_to_one, te_to_mark, te_to_name, te_to_thing, te_to_at, te_both_take, te_both_give, te_both_pair, te_both_first, te_both_second, te_both_to, te_both_both, te_both_one, te_both_mark, te_both_name, te_both_thing, te_both_at, te_at_take, te_at_give, te_at_pair, te_at_first, te_at_second, te_at_to, te_at_both, te_at_one, te_at_mark, te_at_name, te_at_thing, te_at_at, ti4_name, ti4_thing, ti4_take, ti4_give, ti4_pair, ti4_first, ti4_second, ti2_name, ti2_thing, ti2_take, ti2_give, ti2_pair, ti2_first, ti2_second, szT_0, szT_1, szT_2, szT_3, szT_4, szT_5, szT_6, szT_7, szT_8, szT_9, szT_10, szT_11, szT_12, Bool.not_true, Bool.not_false, true_and])
/-! places in plain long programs -/
def dInts : List D → Option (List Int)
  | [] => some []
  | .int i :: r => (dInts r).map (i :: ·)
  | _ :: _ => none
def plOf : D → Option (List Int)
  | .lst ds => dInts ds
  | _ => none
theorem dInts_some : ∀ {ds : List D} {q : List Int}, dInts ds = some q → ds = q.map D.int
  | [], q, h => by cases h; rfl
  | d :: ds, q, h => by
    cases d <;> simp only [dInts] at h <;> first | cases h | skip
    obtain ⟨q', h1, rfl⟩ := Option.map_eq_some_iff.mp h
    rw [List.map_cons, dInts_some h1]
theorem dInts_ints : ∀ q : List Int, dInts (q.map D.int) = some q
  | [] => rfl
  | i :: q => by rw [List.map_cons, dInts, dInts_ints q]; rfl
def isWD : D → Bool
  | .int _ => true
  | _ => false
theorem dInts_iff : ∀ ds : List D, (ds.filter fun d => !isWD d) = [] ↔ (dInts ds).isSome = true
  | [] => by simp [dInts]
  | d :: ds => by
    have ih := dInts_iff ds
    cases d with
    | int i => rw [List.filter_cons, if_neg (by simp [isWD]), dInts, Option.isSome_map]; exact ih
    | _ => simp [List.filter_cons, isWD, dInts]
/-- what names are known, how many takes stand around -/
def knS (kn : List (Str × Kd)) : Pg → List (Str × Kd)
  | .take x k _ => kn ++ [(x, k)]
  | _ => kn
def tkS (t : Nat) : Pg → Nat
  | .take _ _ _ => t + 1
  | _ => t
def IsPart (kn : List (Str × Kd)) (p : Pg) (t : Nat) : Prop := (∃ k, lg kn k p t = true) ∨ (∃ c, gal kn p t = some c)
theorem isPart_gal {kn : List (Str × Kd)} {p : Pg} {t : Nat} {c q : _} (h : gal kn p t = some c) (hq : q ∈ p.ins) : IsPart (knS kn p) q (tkS t p) := by
  cases p with
  | nm x => cases hq
  | thing => cases hq
  | take x k b => rw [al_take] at h; cases h
  | pair f s => rw [al_pair] at h; cases h
  | give f a =>
    rw [al_give] at h
    split at h
    · rename_i d k e
      split at h
      · rename_i hl
        simp only [Pg.ins, List.mem_cons, List.not_mem_nil, or_false] at hq
        rcases hq with rfl | rfl
        · exact .inr ⟨_, e⟩
        · exact .inl ⟨d, hl⟩
      · cases h
    · cases h
  | first f =>
    rw [al_first] at h
    simp only [Pg.ins, List.mem_singleton] at hq
    subst hq
    split at h
    · rename_i a b e; exact .inr ⟨_, e⟩
    · cases h
  | second f =>
    rw [al_second] at h
    simp only [Pg.ins, List.mem_singleton] at hq
    subst hq
    split at h
    · rename_i a b e; exact .inr ⟨_, e⟩
    · cases h
theorem isPart_ins {kn : List (Str × Kd)} {p q : Pg} {t : Nat} (h : IsPart kn p t) (hq : q ∈ p.ins) : IsPart (knS kn p) q (tkS t p) := by
  rcases h with ⟨k, h⟩ | ⟨c, h⟩
  · cases k with
    | one =>
      rw [lg_one] at h
      have : p = .thing := by cases p <;> first | rfl | cases h
      subst this; cases hq
    | mk m =>
      rw [lg_mk] at h
      exact isPart_gal (of_decide_eq_true h) hq
    | both a b =>
      cases p with
      | pair f s =>
        rw [lg_pair, Bool.and_eq_true] at h
        simp only [Pg.ins, List.mem_cons, List.not_mem_nil, or_false] at hq
        rcases hq with rfl | rfl
        · exact .inl ⟨_, h.1⟩
        · exact .inl ⟨_, h.2⟩
      | _ => rw [lg_npair kn t a b _ (by intro f s e; cases e)] at h; cases h
    | to d c =>
      cases p with
      | take x k b =>
        rw [lg_take, Bool.and_eq_true, Bool.and_eq_true, decide_eq_true_eq, decide_eq_true_eq] at h
        obtain ⟨rfl, rfl, h⟩ := h
        simp only [Pg.ins, List.mem_singleton] at hq
        subst hq
        exact .inl ⟨_, h⟩
      | _ => rw [lg_ntake kn t d c _ (by intro x k b e; cases e)] at h; cases h
  · exact isPart_gal h hq
/-- the take's name is the one that is due -/
theorem isPart_take {kn : List (Str × Kd)} {x : Str} {k : Kd} {b : Pg} {t : Nat} (h : IsPart kn (.take x k b) t) : x = xn t := by
  rcases h with ⟨k', h⟩ | ⟨c, h⟩
  · cases k' with
    | one => rw [lg_one] at h; cases h
    | mk m => rw [lg_mk, al_take] at h; cases h
    | both a b' => rw [lg_npair kn t a b' _ (by intro f s e; cases e)] at h; cases h
    | to d c =>
      rw [lg_take, Bool.and_eq_true, Bool.and_eq_true, decide_eq_true_eq] at h
      exact h.1
  · rw [al_take] at h; cases h
def mkOf (kn : List (Str × Kd)) (p : Pg) (t : Nat) : Option Str := match gal kn p t with
  | some (.mk m) => some m
  | _ => none
theorem isPart_kind {kn : List (Str × Kd)} {p : Pg} {t : Nat} (h : IsPart kn p t) (ht : t + p.hgt ≤ 400) : ∃ k, hasK (envOf kn) p k ∧ ∀ m, k = .mk m ↔ mkOf kn p t = some m := by
  rcases h with ⟨k, h⟩ | ⟨c, h⟩
  · refine ⟨k, ((lf_all p).l kn k t h ht).2.2, fun m => ?_⟩
    cases k with
    | one =>
      rw [lg_one] at h
      have : p = .thing := by cases p <;> first | rfl | cases h
      subst this
      simp [mkOf, al_thing]
    | mk m' =>
      rw [lg_mk] at h
      have := of_decide_eq_true h
      simp [mkOf, this]
    | both a b =>
      cases p with
      | pair f s => simp [mkOf, al_pair]
      | _ => rw [lg_npair kn t a b _ (by intro f s e; cases e)] at h; cases h
    | to d c =>
      cases p with
      | take x k b => simp [mkOf, al_take]
      | _ => rw [lg_ntake kn t d c _ (by intro x k b e; cases e)] at h; cases h
  · refine ⟨c, ((lf_all p).g kn t c h ht).2.2, fun m => ?_⟩
    cases c <;> simp [mkOf, h]
/-- what is known on the way down, n given names -/
structure RS (n : Nat) (kn : List (Str × Kd)) (p : Pg) (t : Nat) : Prop where
  d : KnD kn t
  o : KnOk kn
  l : kn.length = n + t
  i : IsPart kn p t
  s : p.sok = true
  a : p.ka
  dp : p.dpt ≤ 150
  h : t + p.hgt ≤ 90
theorem RS.ins {n : Nat} {kn : List (Str × Kd)} {p q : Pg} {t : Nat} (h : RS n kn p t) (hq : q ∈ p.ins) : RS n (knS kn p) q (tkS t p) := by
  have h1 := ins_hgt hq
  have h2 := (ins_ok hq h.s)
  have hi := isPart_ins h.i hq
  have hh := h.h
  have hd := h.dp
  cases p with
  | nm x => cases hq
  | thing => cases hq
  | take x k b =>
    have hx := isPart_take h.i
    subst hx
    simp only [Pg.ins, List.mem_singleton] at hq
    subst hq
    have hs := h.s
    have ha := h.a
    simp only [Pg.sok, Bool.and_eq_true] at hs
    simp only [Pg.hgt, Pg.dpt] at hh hd
    exact ⟨h.d.snoc (by omega) hs.1.2 (by have := ha.2.1; omega), h.o.snoc hs.1.1 ha.1 ha.2.1, by simp only [knS, tkS, List.length_append, List.length_singleton, h.l]; omega, hi, hs.2, ha.2.2, by omega, by simp only [tkS]; omega⟩
  | give f a =>
    simp only [Pg.ins, List.mem_cons, List.not_mem_nil, or_false] at hq
    simp only [Pg.hgt, Pg.dpt] at hh hd
    have ha := h.a
    rcases hq with rfl | rfl
    · exact ⟨h.d, h.o, h.l, hi, h2.1, ha.1, by omega, by simp only [tkS]; omega⟩
    · exact ⟨h.d, h.o, h.l, hi, h2.1, ha.2, by omega, by simp only [tkS]; omega⟩
  | pair f a =>
    simp only [Pg.ins, List.mem_cons, List.not_mem_nil, or_false] at hq
    simp only [Pg.hgt, Pg.dpt] at hh hd
    have ha := h.a
    rcases hq with rfl | rfl
    · exact ⟨h.d, h.o, h.l, hi, h2.1, ha.1, by omega, by simp only [tkS]; omega⟩
    · exact ⟨h.d, h.o, h.l, hi, h2.1, ha.2, by omega, by simp only [tkS]; omega⟩
  | first f =>
    simp only [Pg.ins, List.mem_singleton] at hq
    subst hq
    simp only [Pg.hgt, Pg.dpt] at hh hd
    exact ⟨h.d, h.o, h.l, hi, h2.1, h.a, by omega, by simp only [tkS]; omega⟩
  | second f =>
    simp only [Pg.ins, List.mem_singleton] at hq
    subst hq
    simp only [Pg.hgt, Pg.dpt] at hh hd
    exact ⟨h.d, h.o, h.l, hi, h2.1, h.a, by omega, by simp only [tkS]; omega⟩
/-- the mark at a place, where there is one -/
def markAt (kn : List (Str × Kd)) (p : Pg) (t : Nat) : List Int → Option Str
  | [] => mkOf kn p t
  | i :: r => match atI p.ins i with
    | some c => markAt (knS kn p) c (tkS t p) r
    | none => none
def ringB (kn : List (Str × Kd)) (p : Pg) (a b : D) : Bool := match plOf a, plOf b with
  | some q, some r => (partAt p q).isSome && ((partAt p r).isSome && (decide (q.length < r.length) && (decide (r.take q.length = q) && ((markAt kn p 0 q).isSome && decide (markAt kn p 0 r = markAt kn p 0 q)))))
  | _, _ => false
end
end Kf
namespace Kf
open PySem PySem.Spec L2
open PyProof.Rows hiding St
local macro_rules | `(tactic| walk_at "kf") => `(tactic| simp (config := { failIfUnchanged := false }) only [startD, ap_fiEnumT, asT1_t, ap_fKGet, asStr_s, ap_fKIn, ap_fKIx, ap_gAsgL, rUnl_l, ap_fiRng3, asR3_i, rSplitO_s, ap_fOrL, rOrL_l, ap_fLcK, ap_gForK, ap_fMaxD, rMaxD_l, rMaxL_l, ap_fCallXD, ap_gForE, asLE_l, ap_fFrz, ap_fDicO, ap_fDGet, ap_fDGet1, ap_fDGet2, ap_gDPut, ap_fIsiT, ap_gForR, rRep_l, isT_i, isT_s, isT_b, isT_n, isT_t, isT_l, ap_gSeq, ap_gIf, ap_gRet, ap_gNext, ap_gSet, ap_gAsg, ap_gPar, ap_gDrop, ap_gRetF, ap_gRetN, ap_gFor, ap_gSetIx, ap_gBreak, ap_fRev, ap_fiRevR, asIR_i, rRev_l, ap_fCallX, ap_gRaise, ap_gTry, ap_gTryAs, ap_gNever, ap_fEdic, ap_fTest, ap_fOp, ap_fVar, envGet_s, patGet_s, ap_fC, ap_fCB, ap_fCons, ap_fNil, ap_fCall, ap_fAnd, ap_fOr, ap_fNot, ap_fAndV, ap_fOrV, ap_fNotV, ap_fIf, ap_fTup, ap_fLst, ap_fLstO, ap_fChain, ap_fUn, ap_fBM, ap_fBM0, ap_fPool, rPool_i, ap_fSl, ap_fPart, ap_fNoPart, asI_i, rSl_l, ap_fiRng1, ap_fiRng2, ap_fiList, ap_fiTup, ap_fiStr, ap_fiEnum, ap_fiZip, ap_fiRev, asL_l, asT_t, asSg_s, asR1_i, asR2_i, asL1_l, asL2_l, ap_fLc, ap_fLcO, ap_fYes, wipeD, lcD, isi_i_int, isi_i_bool, isi_i_str, isi_i_tuple, isi_i_list, isi_i_dict, isi_b_int, isi_b_bool, isi_b_str, isi_b_tuple, isi_b_list, isi_b_dict, isi_s_int, isi_s_bool, isi_s_str, isi_s_tuple, isi_s_list, isi_s_dict, isi_t_int, isi_t_bool, isi_t_str, isi_t_tuple, isi_t_list, isi_t_dict, isi_l_int, isi_l_bool, isi_l_str, isi_l_tuple, isi_l_list, isi_l_dict, isi_n_int, isi_n_bool, isi_n_str, isi_n_tuple, isi_n_list, isi_n_dict, isi_d_int, isi_d_bool, isi_d_str, isi_d_tuple, isi_d_list, isi_d_dict,
  deref_tup, deref_lst, deref_int, deref_str, deref_bl, deref_non, deref_scr, rLt_i, rLt_s, rLe_i, rLe_s, rInts_i, rInts0_i, rAdd_i, rAdd_s, rAdd_l, rAdd_t, rCatO_l, rNeg_i, rLen_t, rLen_l, rLen_c, rLen_s, rMax_i, rMin_i, rInt_i, rInt_b, rDivmod_i, ap_gAug, rStr_i, rList_l, rList_t, rListO_l, rListO_t, rTup_l, rTup_t,
  rIx_t0, rIx_t1, rIx_t2, rIx_t3, rIx_l0, rIx_l1, rIx_l2, rIsN_x, isNon_t, isNon_n, isNon_i, isNon_s, isNon_l, rEq_i, rEq_b, rEq_i2, rEq_b2, rJoin_m, rSplit_s, tyOk_l, tyOk_s, patD_nm, patD_tp, patDs_nil, patDs_cons, Option.bind_some, notX, notX',
  List.map_cons, List.map_nil, List.length_cons, List.length_nil, List.cons_append, List.nil_append, List.append_nil, List.replicate, List.getElem?_cons_zero, List.getElem?_cons_succ, List.set_cons_zero, List.set_cons_succ, updO_same, updO_updO,
  Nat.reduceSub, Nat.reduceAdd, Nat.reduceLeDiff, Nat.zero_add, Int.cast_ofNat_Int, Int.natCast_zero, Int.natCast_one, Int.reduceLT, Int.reduceLE, Int.reduceEq, Int.reduceAdd, Int.reduceSub, Int.reduceNeg, decide_true, decide_false, if_true, if_false, Bool.false_eq_true, eq_self, reduceIte, Bool.true_eq_false, decide_eq_true_eq, Bool.not_true, Bool.not_false, Bool.not_eq_true', decide_eq_false_iff_not, exists_eq_left', exists_eq_left, D.bl.injEq, true_and, and_true, not_true_eq_false, not_false_eq_true])
local macro_rules | `(tactic| walk_at "len") => `(tactic| (intro ds O R RE h; first | (obtain ⟨e, _⟩ := h; subst e; rfl) | (obtain ⟨_, e, _⟩ := h; subst e; rfl) | (obtain ⟨_, _, e, _⟩ := h; subst e; rfl) | (obtain ⟨_, _, _, e, _⟩ := h; subst e; rfl) | (obtain ⟨_, _, _, _, e, _⟩ := h; subst e; rfl) | (obtain ⟨_, _, _, _, _, e, _⟩ := h; subst e; rfl) | (obtain ⟨_, _, _, _, _, _, e, _⟩ := h; subst e; rfl) | (obtain ⟨_, _, _, _, _, _, _, e, _⟩ := h; subst e; rfl) | (obtain ⟨_, _, _, _, _, _, _, _, e, _⟩ := h; subst e; rfl) | (obtain ⟨_, _, _, _, _, _, _, _, _, e, _⟩ := h; subst e; rfl)))
local macro_rules | `(tactic| walk_at "kf1") => `(tactic| simp (config := { failIfUnchanged := false }) only [startD, ap_fiEnumT, asT1_t, ap_fKGet, asStr_s, ap_fKIn, ap_fKIx, ap_gAsgL, rUnl_l, ap_fiRng3, asR3_i, rSplitO_s, ap_fOrL, rOrL_l, ap_fLcK, ap_gForK, ap_fMaxD, rMaxD_l, rMaxL_l, ap_fCallXD, ap_gForE, asLE_l, ap_fFrz, ap_fDicO, ap_fDGet, ap_fDGet1, ap_fDGet2, ap_gDPut, ap_fIsiT, ap_gForR, rRep_l, isT_i, isT_s, isT_b, isT_n, isT_t, isT_l, ap_gIf, ap_gRet, ap_gNext, ap_gSet, ap_gAsg, ap_gPar, ap_gDrop, ap_gRetF, ap_gRetN, ap_gFor, ap_gSetIx, ap_gBreak, ap_fRev, ap_fiRevR, asIR_i, rRev_l, ap_fCallX, ap_gRaise, ap_gTry, ap_gTryAs, ap_gNever, ap_fEdic, ap_fTest, ap_fOp, ap_fVar, envGet_s, patGet_s, ap_fC, ap_fCB, ap_fCons, ap_fNil, ap_fCall, ap_fAnd, ap_fOr, ap_fNot, ap_fAndV, ap_fOrV, ap_fNotV, ap_fIf, ap_fTup, ap_fLst, ap_fLstO, ap_fChain, ap_fUn, ap_fBM, ap_fBM0, ap_fPool, rPool_i, ap_fSl, ap_fPart, ap_fNoPart, asI_i, rSl_l, ap_fiRng1, ap_fiRng2, ap_fiList, ap_fiTup, ap_fiStr, ap_fiEnum, ap_fiZip, ap_fiRev, asL_l, asT_t, asSg_s, asR1_i, asR2_i, asL1_l, asL2_l, ap_fLc, ap_fLcO, ap_fYes, wipeD, lcD, isi_i_int, isi_i_bool, isi_i_str, isi_i_tuple, isi_i_list, isi_i_dict, isi_b_int, isi_b_bool, isi_b_str, isi_b_tuple, isi_b_list, isi_b_dict, isi_s_int, isi_s_bool, isi_s_str, isi_s_tuple, isi_s_list, isi_s_dict, isi_t_int, isi_t_bool, isi_t_str, isi_t_tuple, isi_t_list, isi_t_dict, isi_l_int, isi_l_bool, isi_l_str, isi_l_tuple, isi_l_list, isi_l_dict, isi_n_int, isi_n_bool, isi_n_str, isi_n_tuple, isi_n_list, isi_n_dict, isi_d_int, isi_d_bool, isi_d_str, isi_d_tuple, isi_d_list, isi_d_dict,
  deref_tup, deref_lst, deref_int, deref_str, deref_bl, deref_non, deref_scr, rLt_i, rLt_s, rLe_i, rLe_s, rInts_i, rInts0_i, rAdd_i, rAdd_s, rAdd_l, rAdd_t, rCatO_l, rNeg_i, rLen_t, rLen_l, rLen_c, rLen_s, rMax_i, rMin_i, rInt_i, rInt_b, rDivmod_i, ap_gAug, rStr_i, rList_l, rList_t, rListO_l, rListO_t, rTup_l, rTup_t,
  rIx_t0, rIx_t1, rIx_t2, rIx_t3, rIx_l0, rIx_l1, rIx_l2, rIsN_x, isNon_t, isNon_n, isNon_i, isNon_s, isNon_l, rEq_i, rEq_b, rEq_i2, rEq_b2, rJoin_m, rSplit_s, tyOk_l, tyOk_s, patD_nm, patD_tp, patDs_nil, patDs_cons, Option.bind_some, notX, notX',
  List.map_cons, List.map_nil, List.length_cons, List.length_nil, List.cons_append, List.nil_append, List.append_nil, List.replicate, List.getElem?_cons_zero, List.getElem?_cons_succ, List.set_cons_zero, List.set_cons_succ, updO_same, updO_updO,
  Nat.reduceSub, Nat.reduceAdd, Nat.reduceLeDiff, Nat.zero_add, Int.cast_ofNat_Int, Int.natCast_zero, Int.natCast_one, Int.reduceLT, Int.reduceLE, Int.reduceEq, Int.reduceAdd, Int.reduceSub, Int.reduceNeg, decide_true, decide_false, if_true, if_false, Bool.false_eq_true, eq_self, reduceIte, Bool.true_eq_false, decide_eq_true_eq, Bool.not_true, Bool.not_false, Bool.not_eq_true', decide_eq_false_iff_not, exists_eq_left', exists_eq_left, D.bl.injEq, true_and, and_true, not_true_eq_false, not_false_eq_true])
section
variable {P : Program} {w : World} {K : PySem.W.Frag} {mg : Str → Option Value} {base : Heap}
local macro_rules | `(tactic| walk_at "tg") => `(tactic| simp (config := { failIfUnchanged := false }) only [te_name_take, te_name_give, te_name_pair, te_name_first, te_name_second, te_name_to, te_name_both, te_name_one, te_name_mark, te_name_name, te_name_thing, te_name_at, te_thing_take, te_thing_give, te_thing_pair, te_thing_first, te_thing_second, te_thing_to, te_thing_both, te_thing_one, te_thing_mark, te_thing_name, te_thing_thing, te_thing_at, te_take_take, te_take_give, te_take_pair, te_take_first, te_take_second, te_take_to, te_take_both, te_take_one, te_take_mark, te_take_name, te_take_thing, te_take_at, te_give_take, te_give_give, te_give_pair, te_give_first, te_give_second, te_give_to, te_give_both, te_give_one, te_give_mark, te_give_name, te_give_thing, te_give_at, te_pair_take, te_pair_give, te_pair_pair, te_pair_first, te_pair_second, te_pair_to, te_pair_both, te_pair_one, te_pair_mark, te_pair_name, te_pair_thing, te_pair_at, te_first_take, te_first_give, te_first_pair, te_first_first, te_first_second, te_first_to, te_first_both, te_first_one, te_first_mark, te_first_name, te_first_thing, te_first_at, te_second_take, te_second_give, te_second_pair, te_second_first, te_second_second, te_second_to, te_second_both, te_second_one, te_second_mark, te_second_name, te_second_thing, te_second_at, te_mark_take, te_mark_give, te_mark_pair, te_mark_first, te_mark_second, te_mark_to, te_mark_both, te_mark_one, te_mark_mark, te_mark_name, te_mark_thing, te_mark_at, te_one_take, te_one_give, te_one_pair, te_one_first, te_one_second, te_one_to, te_one_both, te_one_one, te_one_mark, te_one_name, te_one_thing, te_one_at, te_to_take, te_to_give, te_to_pair, te_to_first, te_to_second, te_to_to, te_to_both, te_to_one, te_to_mark, te_to_name, te_to_thing, te_to_at, te_both_take, te_both_give, te_both_pair, te_both_first, te_both_second, te_both_to, te_both_both, te_both_one, te_both_mark, te_both_name, te_both_thing, te_both_at, te_at_take, te_at_give, te_at_pair, te_at_first, te_at_second, te_at_to, te_at_both, te_at_one, te_at_mark, te_at_name, te_at_thing, te_at_at, ti4_name, ti4_thing, ti4_take, ti4_give, ti4_pair, ti4_first, ti4_second, ti2_name, ti2_thing, ti2_take, ti2_give, ti2_pair, ti2_first, ti2_second, szT_0, szT_1, szT_2, szT_3, szT_4, szT_5, szT_6, szT_7, szT_8, szT_9, szT_10, szT_11, szT_12, Bool.not_true, Bool.not_false, true_and])
/-- a walk along a list that stays, by places -/
theorem forE_ix {x : D} {all : List D} {p : Pat} {gb : GS} {R : DEnds} {α : Type} (f : α → D) (I : List α → DEnv → Ow → Prop) (hI : ∀ xs ρ O, I xs ρ O → deref O x = .lst all) (hd : ∀ ρ O, I [] ρ O → R.nx ρ O)
    (hs : ∀ y rest ρ O, I (y :: rest) ρ O → ∀ N : DEnv → Ow → Prop, (∀ ρ O, I rest ρ O → N ρ O) → patGet (patD p (f y) ρ) fun ρ1 => gb { R with nx := N, ct := N, bk := R.nx } ρ1 O) : ∀ (xs : List α) (ρ : DEnv) (O : Ow), I xs ρ O → forE x all p gb R (xs.map f) ρ O
  | [], ρ, O, h => ⟨hI _ _ _ h, hd ρ O h⟩
  | y :: xs, ρ, O, h => ⟨hI _ _ _ h, hs y xs ρ O h _ fun ρ' O' h' => forE_ix f I hI hd hs xs ρ' O' h'⟩
theorem asLE_d {x : D} {ds : List D} {O : Ow} {Q : List D → Prop} (h : deref O x = .lst ds) : asLE x O Q = Q ds := by simp only [asLE, h]
/-- the part at any place, or None -/
def dPo : Option Pg → D
  | some q => dP q
  | none => .non
def spPartAtN : DSp := fun ds O R _ => ∃ (p : Pg) (x : D) (pl : List Int), ds = [dP p, x] ∧ deref O x = dI pl ∧ R (dPo (partAt p pl)) O
theorem ok_part_atN (T : Tx K mg) : FO_part_at P w base T 2 spPartAtN := by
  refine fnd_part_at T (ok_innerO T) (by walk_at "len") ?_
  rintro ds O R RE ⟨p, x, pl, rfl, hx, hR⟩
  unfold g_part_at
  refine gSeq_step ?_
  walk_at "kf1"
  rw [asLE_d hx]
  refine forE_ix D.int (fun rest ρ O' => O' = O ∧ ∃ p' x2 x3, ρ = [some (dP p'), some x, x2, x3] ∧ partAt p' rest = partAt p pl) ?_ ?_ ?_ pl _ _ ⟨rfl, _, _, _, rfl, rfl⟩
  · rintro xs ρ O' ⟨rfl, _⟩; exact hx
  · rintro ρ O' ⟨rfl, p', x2, x3, rfl, h⟩
    rw [← h] at hR
    simp only [partAt, dPo] at hR
    try dsimp only
    walk_at "kf1"
    exact hR
  · rintro i rest ρ O' ⟨rfl, p', x2, x3, rfl, h⟩ N hN
    walk_at "kf1"
    refine gSeq_step ?_
    walk_at "kf1"
    refine ⟨p', rfl, fun a ha => ?_⟩
    dsimp only
    rw [rFrz_u ha]
    refine gSeq_step ?_
    walk_at "kf1"
    rcases partAt_step p' i rest with ⟨h0, h1, c, h2, h3, h4⟩ | ⟨h0, h1⟩
    · rw [if_pos h0]
      walk_at "kf1"
      rw [List.length_map, if_neg (fun q => q h1)]
      rw [rIx_l (by rw [atI_map, h2]; rfl)]
      exact hN _ _ ⟨rfl, _, _, _, rfl, by rw [← h4, h]⟩
    · rw [← h, h1] at hR
      by_cases h2 : 0 ≤ i
      · rw [if_pos h2]
        walk_at "kf1"
        rw [List.length_map, if_pos (fun q => h0 ⟨h2, q⟩)]
        walk_at "kf1"
        exact hR
      · rw [if_neg h2]
        walk_at "kf1"
        exact hR
def spWhole : DSp := fun ds O R _ => ∃ d : D, ds = [d] ∧ isPy d = true ∧ R (.bl (isWD d)) O
theorem ok_whole (T : Tx K mg) : FO_is_whole P w base T 1 spWhole := by
  refine fnd_is_whole T (by walk_at "len") ?_
  rintro ds O R RE ⟨d, rfl, hd, hR⟩
  unfold g_is_whole
  cases d <;> first | (simp [isPy] at hd; done) | skip
  all_goals (walk_at "kf1"; simp [rIsiD, insCl, insTy, tyNm, insOf, isWD] at hR ⊢; try exact hR)
theorem lcF {p : Pat} {ft : FT} {fe : FE} {ρ : DEnv} {O : Ow} (b : D → Bool) (xs acc : List D) (Q : List D → Ow → Prop) (hl : acc.length + xs.length ≤ sizeLine)
    (hs : ∀ x ∈ xs, ∀ (Q1 : VD) (Q2 : Ow → Prop), (b x = true → Q1 x O) → (b x = false → Q2 O) → patGet (patD p x ρ) fun ρ1 => ft ρ1 O fun k O1 => if k = true then fe ρ1 O1 Q1 else Q2 O1) (q : Q (acc ++ xs.filter b) O) : lcD p ft fe ρ xs acc O Q := by
  have z := lcA_filter (p := p) (ft := ft) (fe := fe) (ρ := ρ) (O := O) b (fun d => d) (fun d => d) xs acc Q hl hs (by rw [List.map_id']; exact q)
  rwa [List.map_id'] at z
theorem isPy_mem {es : List D} (h : isPys es = true) : ∀ d ∈ es, isPy d = true := by rw [isPys_all, List.all_eq_true] at h; exact h
theorem isPys_of44 {es : List D} (h : ∀ d ∈ es, isPy d = true) : isPys es = true := by rw [isPys_all, List.all_eq_true]; exact h
theorem isNon_dPo (u : Option Pg) : isNon (dPo u) = !u.isSome := by
  cases u with
  | none => rfl
  | some q => cases q <;> rfl
def spIsPl : DSp := fun ds O R _ => ∃ (p : Pg) (d : D), ds = [dP p, d] ∧ isPy d = true ∧ dp d ≤ 100 ∧ (∀ es, d = .lst es → es.length ≤ 1000) ∧ R (.bl (match plOf d with | some q => (partAt p q).isSome | none => false)) O
theorem ok_isPl (T : Tx K mg) : FO_is_place P w base T 3 spIsPl := by
  refine fnd_is_place T (fnUp (ok_whole T) (by omega)) (ok_part_atN T) (by walk_at "len") ?_
  rintro ds O R RE ⟨p, d, rfl, hd, hdp, hlen, hR⟩
  unfold g_is_place
  refine gSeq_step ?_
  walk_at "kf1"
  cases d with
  | lst es =>
    have hes : isPys es = true := by simpa only [isPy] using hd
    have hl := hlen es rfl
    rw [rIsi_ty (by decide) (by simp [tyNm, insTy]), show insOf (tyNm O (.lst es)) "list" = true from by simp [tyNm, insOf]]
    walk_at "kf1"
    refine lcF (fun d : D => !isWD d) es [] _ (sz_small (by simp only [List.length_nil]; omega)) (fun x hx Q1 Q2 g1 g2 => ?_) ?_
    · walk_at "kf1"
      refine ⟨x, rfl, isPy_mem hes x hx, ?_⟩
      try dsimp only
      cases hw : isWD x with
      | true =>
        walk_at "kf1"
        exact g2 (by rw [hw]; rfl)
      | false =>
        walk_at "kf1"
        exact g1 (by rw [hw]; rfl)
    · rw [List.nil_append]
      refine ⟨by decide, ?_⟩
      have hf : isPys (es.filter fun d => !isWD d) = true := isPys_of44 fun d h => isPy_mem hes d ((List.mem_filter.mp h).1)
      rw [rEq_nilA rfl hf]
      cases hq : dInts es with
      | none =>
        have hne : (es.filter fun d => !isWD d).isEmpty = false := by
          cases e : es.filter fun d => !isWD d with
          | nil => have := (dInts_iff es).mp e; rw [hq] at this; cases this
          | cons a r => rfl
        rw [hne]
        simp only [plOf, hq] at hR
        walk_at "kf1"
        exact hR
      | some q =>
        have he : (es.filter fun d => !isWD d).isEmpty = true := by rw [(dInts_iff es).mpr (by rw [hq]; rfl)]; rfl
        rw [he]
        simp only [plOf, hq] at hR
        walk_at "kf1"
        refine ⟨p, _, q, rfl, by rw [dInts_some hq]; rfl, ?_⟩
        try dsimp only
        rw [isNon_dPo, Bool.not_not]
        exact hR
  | ref a => simp [isPy] at hd
  | scr ns => simp [isPy] at hd
  | ty n => simp [isPy] at hd
  | edic => simp [isPy] at hd
  | _ =>
    simp [rIsiD, insCl, insTy, tyNm, insOf, plOf] at hR ⊢
    exact hR
/-- the kind at a place -/
def spKAt44 (m : Nat) : DSp := fun ds O R _ => ∃ (kn : List (Str × Kd)) (p r : Pg) (q : List Int), ds = [.lst (kn.map kv), dP p, dI q] ∧ RS kn.length kn p 0 ∧ kn.length ≤ m ∧ q.length ≤ 1000 ∧ partAt p q = some r ∧ ∀ k : Kd, k.ok = true → k.depth ≤ 150 → (∀ x, k = .mk x ↔ markAt kn p 0 q = some x) → R (dK k) O
theorem ok_kind_at (T : Tx K mg) : FO_kind_at P w base T 116 (spKAt44 8) := by
  refine fnd_kind_at T (fnUp (ok_innerO T) (by omega)) (ok_kind_of T) (by walk_at "len") ?_
  rintro ds O R RE ⟨kn, p, r, q, rfl, hrs, hl, hql, hpt, hR⟩
  unfold g_kind_at
  refine gSeq_step ?_
  walk_at "kf1"
  refine gSeq_step ?_
  walk_at "kf1"
  refine forA_ix D.int (fun pre rest ρ O' => O' = O ∧ ∃ (kn' : List (Str × Kd)) (p' : Pg) (t' : Nat) (x4 : Option D), RS kn.length kn' p' t' ∧ partAt p' rest = some r ∧ markAt kn' p' t' rest = markAt kn p 0 q ∧ ρ = [some (.lst (kn.map kv)), some (dP p'), some (dI q), some (.lst (kn'.map kv)), x4]) q [] _ _ ⟨rfl, kn, p, 0, _, hrs, hpt, rfl, rfl⟩ ?_ ?_
  · rintro ρ O' ⟨rfl, kn', p', t', x4, h1, h2, h3, rfl⟩
    obtain ⟨k', k1, k2⟩ := isPart_kind h1.i (by have := h1.h; omega)
    have k3 := kd_has p' _ k' k1 h1.o.e h1.a
    have hh := h1.h
    have hl2 := h1.l
    try dsimp only
    walk_at "kf1"
    exact ⟨kn', p', k', rfl, k1, h1.o, h1.s, h1.a, by omega, by omega, hR k' k3.1 (by omega) fun x => by rw [k2 x, ← h3]; rfl⟩
  · rintro pre i rest e ρ O' ⟨rfl, kn', p', t', x4, h1, h2, h3, rfl⟩ N hN
    obtain ⟨c, c1, c2, c3, c4, c5, c6⟩ := partAt_cons h2
    have hm : markAt (knS kn' p') c (tkS t' p') rest = markAt kn p 0 q := by rw [← h3, markAt, c3]
    have go : ∀ x4 : Option D, (gSet (fOp rIxD (fFrz (fCall spInnerO (fCons (fVar 1) fNil))) (fVar 4)) 1 { nx := N, rt := R, bk := gRet (fCall spKindOf (fCons (fVar 3) (fCons (fVar 1) fNil))) { nx := fun x O' => R D.non O', rt := R }, ct := N })
        [some (.lst (kn.map kv)), some (dP p'), some (dI q), some (.lst ((knS kn' p').map kv)), some (.int i)] O' := by
      intro x4
      walk_at "kf1"
      refine ⟨p', rfl, fun a ha => ?_⟩
      try dsimp only
      rw [rFrz_u ha]
      rw [rIx_l (by rw [atI_map, c3]; rfl)]
      exact hN _ _ ⟨rfl, _, c, _, _, h1.ins c5, c6.1, hm, rfl⟩
    walk_at "kf1"
    refine gSeq_step ?_
    cases p' with
    | take x k b =>
      simp only [dP]
      walk_at "kf1"; walk_at "tg"; walk_at "kf1"; walk_at "tg"
      have hl2 := h1.l
      have hh := h1.h
      refine ⟨sz_21 (by rw [List.length_map]; omega), ?_⟩
      have z := go none
      simp only [knS, List.map_append, List.map_cons, List.map_nil] at z
      exact z
    | _ =>
      simp only [dP]
      walk_at "kf1"; walk_at "tg"; walk_at "kf1"; walk_at "tg"
      exact go none
/-- the law's own stepping down -/
def latP : Pg → List D → Option Pg
  | p, [] => some p
  | p, .int i :: es => match atI p.ins i with
    | some c => if 0 ≤ i then latP c es else none
    | none => none
  | _, _ :: _ => none
theorem latP_eq : ∀ (es : List D) (p : Pg), latP p es = match dInts es with | some q => partAt p q | none => none
  | [], p => by cases p <;> rfl
  | d :: es, p => by
    cases d with
    | int i =>
      rw [latP, dInts]
      rcases partAt_step p i [] with ⟨h0, h1, c, h2, h3, _⟩ | ⟨h0, _⟩
      · rw [h2]
        dsimp only
        rw [if_pos h0, latP_eq es c]
        cases e : dInts es with
        | none => rfl
        | some q =>
          rcases partAt_step p i q with ⟨_, _, c', h5, _, h6⟩ | ⟨h5, _⟩
          · rw [h2] at h5; cases h5; exact h6.symm
          · exact absurd ⟨h0, h1⟩ h5
      · have hno : ∀ q, partAt p (i :: q) = none := fun q => by
          rcases partAt_step p i q with ⟨h5, h6, _⟩ | ⟨_, h6⟩
          · exact absurd ⟨h5, h6⟩ h0
          · exact h6
        have : (match (dInts es).map (i :: ·) with | some q => partAt p q | none => none) = none := by
          cases dInts es with
          | none => rfl
          | some q => exact hno q
        rw [this]
        cases e : atI p.ins i with
        | none => rfl
        | some c =>
          dsimp only
          by_cases hi : 0 ≤ i
          · exfalso
            refine h0 ⟨hi, ?_⟩
            unfold atI ixN at e
            rw [if_pos hi] at e
            split at e
            · omega
            · cases e
          · rw [if_neg hi]
    | _ => rfl
theorem gSeq_via44 {g h : GS} {R : DEnds} {ρ : DEnv} {O : Ow} (I : DEnv → Ow → Prop) (hI : ∀ ρ O, I ρ O → h R ρ O) (H : ∀ N : DEnv → Ow → Prop, (∀ ρ O, I ρ O → N ρ O) → g { R with nx := N } ρ O) : gSeq g h R ρ O := gSeq_step (H _ hI)
def NT2 : List Str := ["name", "thing"]
theorem rIn_nt {neg : Bool} {z : Str} {O : Ow} {Q : VD} (h : PyData.strOk z = true) : rInD neg (.str z) (.lst [.str (Str.ofString "name"), .str (Str.ofString "thing")]) O Q = Q (.bl (neg ^^ decide (z ∈ NT2))) O := rIn_strs (ts := NT2) h (by decide +kernel)
def spLAt : DSp := fun ds O R _ => ∃ (p : Pg) (es : List D), ds = [dP p, .lst es] ∧ isPys es = true ∧ p.sok = true ∧ es.length ≤ 1000 ∧ R (dPo (latP p es)) O
theorem ok_lat (T : Tx K mg) : FO__law_at P w base T 1 spLAt := by
  refine fnd__law_at T (by walk_at "len") ?_
  rintro ds O R RE ⟨p, es, rfl, hes, hs, hl, hR⟩
  unfold g__law_at
  refine gSeq_step ?_
  walk_at "kf1"
  have key : ∀ (xs : List D) (p' : Pg) (x2 x3 : Option D), isPys xs = true → latP p' xs = latP p es → forD (.nm 2) (gSeq (gSet (fLst fNil) 3) (gSeq (gIf (fTest (fOp (rEqD false) (fOp rIxD (fVar 0) (fC (.int 0))) (fC (.str (Str.ofString "take"))))) (gSet (fLst (fCons (fOp rIxD (fVar 0) (fC (.int 3))) fNil)) 3) (gIf (fTest (fOp (rInD true) (fOp rIxD (fVar 0) (fC (.int 0))) (fLst (fCons (fC (.str (Str.ofString "name"))) (fCons (fC (.str (Str.ofString "thing"))) fNil))))) (gSet (fCB rList1 (fCons (fSl rSlD (fVar 0) (fPart (fC (.int 1))) fNoPart) fNil)) 3) gNext)) (gSeq (gIf (fOr (fNot (fTest (fCB rIsiD (fCons (fVar 2) (fCons (fC (.ty "int")) fNil))))) (fOr (fTest (fCB rIsiD (fCons (fVar 2) (fCons (fC (.ty "bool")) fNil)))) (fNot (fTest (fChain rLeD rLtD (fC (.int 0)) (fVar 2) (fCB rLenD (fCons (fVar 3) fNil))))))) (gRet (fC .non)) gNext) (gSet (fOp rIxD (fVar 3) (fVar 2)) 0))))
      { nx := gRet (fVar 0) { nx := fun _ O' => R .non O', rt := R }, rt := R } xs [some (dP p'), some (.lst es), x2, x3] O := by
    intro xs
    induction xs with
    | nil =>
      intro p' x2 x3 _ h
      unfold forD
      walk_at "kf1"
      rw [← h] at hR
      cases p' <;> exact hR
    | cons d xs ih =>
      intro p' x2 x3 hp h
      simp only [isPys, Bool.and_eq_true] at hp
      unfold forD
      walk_at "kf1"
      refine gSeq_step ?_
      walk_at "kf1"
      walk_at "tg"
      refine gSeq_via44 (fun ρ O' => O' = O ∧ ρ = [some (dP p'), some (.lst es), some d, some (.lst (p'.ins.map dP))]) ?_ ?_
      · rintro ρ O' ⟨rfl, rfl⟩
        refine gSeq_step ?_
        cases d with
        | int i =>
          walk_at "kf1"
          rw [List.length_map]
          rw [latP] at h
          rcases partAt_step p' i [] with ⟨h0, h1, c, h2, h3, _⟩ | ⟨h0, _⟩
          · rw [h2] at h
            dsimp only at h
            rw [if_pos h0] at h
            rw [if_pos h0]
            walk_at "kf1"
            rw [if_neg (by omega)]
            walk_at "kf1"
            rw [rIx_l (by rw [atI_map, h2]; rfl)]
            exact ih c _ _ hp.2 h
          · have hno : latP p es = none := by
              rw [← h]
              cases e : atI p'.ins i with
              | none => rfl
              | some c =>
                dsimp only
                by_cases hi : 0 ≤ i
                · exfalso
                  refine h0 ⟨hi, ?_⟩
                  unfold atI ixN at e
                  rw [if_pos hi] at e
                  split at e
                  · omega
                  · cases e
                · rw [if_neg hi]
            rw [hno] at hR
            by_cases hi : 0 ≤ i
            · rw [if_pos hi]
              walk_at "kf1"
              rw [if_pos (fun z => h0 ⟨hi, z⟩)]
              walk_at "kf1"
              exact hR
            · rw [if_neg hi]
              walk_at "kf1"
              exact hR
        | bl b =>
          have hno : latP p es = none := by rw [← h]; rfl
          rw [hno] at hR
          walk_at "kf1"
          first | exact hR | (simp [rIsiD, insCl, insTy, tyNm, insOf]; exact hR)
        | ref a => simp [isPy] at hp
        | scr ns => simp [isPy] at hp
        | ty n => simp [isPy] at hp
        | edic => simp [isPy] at hp
        | _ =>
          have hno : latP p es = none := by rw [← h]; rfl
          rw [hno] at hR
          walk_at "kf1"
          first | exact hR | (simp [rIsiD, insCl, insTy, tyNm, insOf]; exact hR)
      · intro N hN
        have sw : ∀ (u : Str) (b : Bool), PyData.strOk u = true → decide (u ∈ NT2) = b → ∀ (O : Ow) (Q : VD), rInD true (.str u) (.lst [.str (Str.ofString "name"), .str (Str.ofString "thing")]) O Q = Q (.bl (true ^^ b)) O := fun u b h1 h2 O Q => by rw [← h2]; exact rIn_nt h1
        cases p' with
        | nm x =>
          simp only [dP, Pg.ins] at hN ⊢
          walk_at "kf1"; walk_at "tg"; walk_at "kf1"; walk_at "tg"
          rw [sw _ true sw_name (by decide +kernel)]
          walk_at "kf1"
          exact hN _ _ ⟨rfl, rfl⟩
        | thing =>
          simp only [dP, Pg.ins] at hN ⊢
          walk_at "kf1"; walk_at "tg"; walk_at "kf1"; walk_at "tg"
          rw [sw _ true sw_thing (by decide +kernel)]
          walk_at "kf1"
          exact hN _ _ ⟨rfl, rfl⟩
        | take x k b =>
          simp only [dP, Pg.ins, List.map_cons, List.map_nil] at hN ⊢
          walk_at "kf1"; walk_at "tg"; walk_at "kf1"; walk_at "tg"
          exact hN _ _ ⟨rfl, rfl⟩
        | give f b =>
          simp only [dP, Pg.ins, List.map_cons, List.map_nil] at hN ⊢
          walk_at "kf1"; walk_at "tg"; walk_at "kf1"; walk_at "tg"
          rw [sw _ false sw_give (by decide +kernel)]
          walk_at "kf1"
          rw [sl1_3]
          exact hN _ _ ⟨rfl, rfl⟩
        | pair f b =>
          simp only [dP, Pg.ins, List.map_cons, List.map_nil] at hN ⊢
          walk_at "kf1"; walk_at "tg"; walk_at "kf1"; walk_at "tg"
          rw [sw _ false sw_pair (by decide +kernel)]
          walk_at "kf1"
          rw [sl1_3]
          exact hN _ _ ⟨rfl, rfl⟩
        | first f =>
          simp only [dP, Pg.ins, List.map_cons, List.map_nil] at hN ⊢
          walk_at "kf1"; walk_at "tg"; walk_at "kf1"; walk_at "tg"
          rw [sw _ false sw_first (by decide +kernel)]
          walk_at "kf1"
          rw [sl1_2]
          exact hN _ _ ⟨rfl, rfl⟩
        | second f =>
          simp only [dP, Pg.ins, List.map_cons, List.map_nil] at hN ⊢
          walk_at "kf1"; walk_at "tg"; walk_at "kf1"; walk_at "tg"
          rw [sw _ false sw_second (by decide +kernel)]
          walk_at "kf1"
          rw [sl1_2]
          exact hN _ _ ⟨rfl, rfl⟩
  exact key es p _ _ hes rfl
end
end Kf
namespace Kf
open PySem PySem.Spec L2
open PyProof.Rows hiding St
local macro_rules | `(tactic| walk_at "kf") => `(tactic| simp (config := { failIfUnchanged := false }) only [startD, ap_fiEnumT, asT1_t, ap_fKGet, asStr_s, ap_fKIn, ap_fKIx, ap_gAsgL, rUnl_l, ap_fiRng3, asR3_i, rSplitO_s, ap_fOrL, rOrL_l, ap_fLcK, ap_gForK, ap_fMaxD, rMaxD_l, rMaxL_l, ap_fCallXD, ap_gForE, asLE_l, ap_fFrz, ap_fDicO, ap_fDGet, ap_fDGet1, ap_fDGet2, ap_gDPut, ap_fIsiT, ap_gForR, rRep_l, isT_i, isT_s, isT_b, isT_n, isT_t, isT_l, ap_gSeq, ap_gIf, ap_gRet, ap_gNext, ap_gSet, ap_gAsg, ap_gPar, ap_gDrop, ap_gRetF, ap_gRetN, ap_gFor, ap_gSetIx, ap_gBreak, ap_fRev, ap_fiRevR, asIR_i, rRev_l, ap_fCallX, ap_gRaise, ap_gTry, ap_gTryAs, ap_gNever, ap_fEdic, ap_fTest, ap_fOp, ap_fVar, envGet_s, patGet_s, ap_fC, ap_fCB, ap_fCons, ap_fNil, ap_fCall, ap_fAnd, ap_fOr, ap_fNot, ap_fAndV, ap_fOrV, ap_fNotV, ap_fIf, ap_fTup, ap_fLst, ap_fLstO, ap_fChain, ap_fUn, ap_fBM, ap_fBM0, ap_fPool, rPool_i, ap_fSl, ap_fPart, ap_fNoPart, asI_i, rSl_l, ap_fiRng1, ap_fiRng2, ap_fiList, ap_fiTup, ap_fiStr, ap_fiEnum, ap_fiZip, ap_fiRev, asL_l, asT_t, asSg_s, asR1_i, asR2_i, asL1_l, asL2_l, ap_fLc, ap_fLcO, ap_fYes, wipeD, lcD, isi_i_int, isi_i_bool, isi_i_str, isi_i_tuple, isi_i_list, isi_i_dict, isi_b_int, isi_b_bool, isi_b_str, isi_b_tuple, isi_b_list, isi_b_dict, isi_s_int, isi_s_bool, isi_s_str, isi_s_tuple, isi_s_list, isi_s_dict, isi_t_int, isi_t_bool, isi_t_str, isi_t_tuple, isi_t_list, isi_t_dict, isi_l_int, isi_l_bool, isi_l_str, isi_l_tuple, isi_l_list, isi_l_dict, isi_n_int, isi_n_bool, isi_n_str, isi_n_tuple, isi_n_list, isi_n_dict, isi_d_int, isi_d_bool, isi_d_str, isi_d_tuple, isi_d_list, isi_d_dict,
  deref_tup, deref_lst, deref_int, deref_str, deref_bl, deref_non, deref_scr, rLt_i, rLt_s, rLe_i, rLe_s, rInts_i, rInts0_i, rAdd_i, rAdd_s, rAdd_l, rAdd_t, rCatO_l, rNeg_i, rLen_t, rLen_l, rLen_c, rLen_s, rMax_i, rMin_i, rInt_i, rInt_b, rDivmod_i, ap_gAug, rStr_i, rList_l, rList_t, rListO_l, rListO_t, rTup_l, rTup_t,
  rIx_t0, rIx_t1, rIx_t2, rIx_t3, rIx_l0, rIx_l1, rIx_l2, rIsN_x, isNon_t, isNon_n, isNon_i, isNon_s, isNon_l, rEq_i, rEq_b, rEq_i2, rEq_b2, rJoin_m, rSplit_s, tyOk_l, tyOk_s, patD_nm, patD_tp, patDs_nil, patDs_cons, Option.bind_some, notX, notX',
  List.map_cons, List.map_nil, List.length_cons, List.length_nil, List.cons_append, List.nil_append, List.append_nil, List.replicate, List.getElem?_cons_zero, List.getElem?_cons_succ, List.set_cons_zero, List.set_cons_succ, updO_same, updO_updO,
  Nat.reduceSub, Nat.reduceAdd, Nat.reduceLeDiff, Nat.zero_add, Int.cast_ofNat_Int, Int.natCast_zero, Int.natCast_one, Int.reduceLT, Int.reduceLE, Int.reduceEq, Int.reduceAdd, Int.reduceSub, Int.reduceNeg, decide_true, decide_false, if_true, if_false, Bool.false_eq_true, eq_self, reduceIte, Bool.true_eq_false, decide_eq_true_eq, Bool.not_true, Bool.not_false, Bool.not_eq_true', decide_eq_false_iff_not, exists_eq_left', exists_eq_left, D.bl.injEq, true_and, and_true, not_true_eq_false, not_false_eq_true])
local macro_rules | `(tactic| walk_at "len") => `(tactic| (intro ds O R RE h; first | (obtain ⟨e, _⟩ := h; subst e; rfl) | (obtain ⟨_, e, _⟩ := h; subst e; rfl) | (obtain ⟨_, _, e, _⟩ := h; subst e; rfl) | (obtain ⟨_, _, _, e, _⟩ := h; subst e; rfl) | (obtain ⟨_, _, _, _, e, _⟩ := h; subst e; rfl) | (obtain ⟨_, _, _, _, _, e, _⟩ := h; subst e; rfl) | (obtain ⟨_, _, _, _, _, _, e, _⟩ := h; subst e; rfl) | (obtain ⟨_, _, _, _, _, _, _, e, _⟩ := h; subst e; rfl) | (obtain ⟨_, _, _, _, _, _, _, _, e, _⟩ := h; subst e; rfl) | (obtain ⟨_, _, _, _, _, _, _, _, _, e, _⟩ := h; subst e; rfl)))
local macro_rules | `(tactic| walk_at "kf1") => `(tactic| simp (config := { failIfUnchanged := false }) only [startD, ap_fiEnumT, asT1_t, ap_fKGet, asStr_s, ap_fKIn, ap_fKIx, ap_gAsgL, rUnl_l, ap_fiRng3, asR3_i, rSplitO_s, ap_fOrL, rOrL_l, ap_fLcK, ap_gForK, ap_fMaxD, rMaxD_l, rMaxL_l, ap_fCallXD, ap_gForE, asLE_l, ap_fFrz, ap_fDicO, ap_fDGet, ap_fDGet1, ap_fDGet2, ap_gDPut, ap_fIsiT, ap_gForR, rRep_l, isT_i, isT_s, isT_b, isT_n, isT_t, isT_l, ap_gIf, ap_gRet, ap_gNext, ap_gSet, ap_gAsg, ap_gPar, ap_gDrop, ap_gRetF, ap_gRetN, ap_gFor, ap_gSetIx, ap_gBreak, ap_fRev, ap_fiRevR, asIR_i, rRev_l, ap_fCallX, ap_gRaise, ap_gTry, ap_gTryAs, ap_gNever, ap_fEdic, ap_fTest, ap_fOp, ap_fVar, envGet_s, patGet_s, ap_fC, ap_fCB, ap_fCons, ap_fNil, ap_fCall, ap_fAnd, ap_fOr, ap_fNot, ap_fAndV, ap_fOrV, ap_fNotV, ap_fIf, ap_fTup, ap_fLst, ap_fLstO, ap_fChain, ap_fUn, ap_fBM, ap_fBM0, ap_fPool, rPool_i, ap_fSl, ap_fPart, ap_fNoPart, asI_i, rSl_l, ap_fiRng1, ap_fiRng2, ap_fiList, ap_fiTup, ap_fiStr, ap_fiEnum, ap_fiZip, ap_fiRev, asL_l, asT_t, asSg_s, asR1_i, asR2_i, asL1_l, asL2_l, ap_fLc, ap_fLcO, ap_fYes, wipeD, lcD, isi_i_int, isi_i_bool, isi_i_str, isi_i_tuple, isi_i_list, isi_i_dict, isi_b_int, isi_b_bool, isi_b_str, isi_b_tuple, isi_b_list, isi_b_dict, isi_s_int, isi_s_bool, isi_s_str, isi_s_tuple, isi_s_list, isi_s_dict, isi_t_int, isi_t_bool, isi_t_str, isi_t_tuple, isi_t_list, isi_t_dict, isi_l_int, isi_l_bool, isi_l_str, isi_l_tuple, isi_l_list, isi_l_dict, isi_n_int, isi_n_bool, isi_n_str, isi_n_tuple, isi_n_list, isi_n_dict, isi_d_int, isi_d_bool, isi_d_str, isi_d_tuple, isi_d_list, isi_d_dict,
  deref_tup, deref_lst, deref_int, deref_str, deref_bl, deref_non, deref_scr, rLt_i, rLt_s, rLe_i, rLe_s, rInts_i, rInts0_i, rAdd_i, rAdd_s, rAdd_l, rAdd_t, rCatO_l, rNeg_i, rLen_t, rLen_l, rLen_c, rLen_s, rMax_i, rMin_i, rInt_i, rInt_b, rDivmod_i, ap_gAug, rStr_i, rList_l, rList_t, rListO_l, rListO_t, rTup_l, rTup_t,
  rIx_t0, rIx_t1, rIx_t2, rIx_t3, rIx_l0, rIx_l1, rIx_l2, rIsN_x, isNon_t, isNon_n, isNon_i, isNon_s, isNon_l, rEq_i, rEq_b, rEq_i2, rEq_b2, rJoin_m, rSplit_s, tyOk_l, tyOk_s, patD_nm, patD_tp, patDs_nil, patDs_cons, Option.bind_some, notX, notX',
  List.map_cons, List.map_nil, List.length_cons, List.length_nil, List.cons_append, List.nil_append, List.append_nil, List.replicate, List.getElem?_cons_zero, List.getElem?_cons_succ, List.set_cons_zero, List.set_cons_succ, updO_same, updO_updO,
  Nat.reduceSub, Nat.reduceAdd, Nat.reduceLeDiff, Nat.zero_add, Int.cast_ofNat_Int, Int.natCast_zero, Int.natCast_one, Int.reduceLT, Int.reduceLE, Int.reduceEq, Int.reduceAdd, Int.reduceSub, Int.reduceNeg, decide_true, decide_false, if_true, if_false, Bool.false_eq_true, eq_self, reduceIte, Bool.true_eq_false, decide_eq_true_eq, Bool.not_true, Bool.not_false, Bool.not_eq_true', decide_eq_false_iff_not, exists_eq_left', exists_eq_left, D.bl.injEq, true_and, and_true, not_true_eq_false, not_false_eq_true])
section
variable {P : Program} {w : World} {K : PySem.W.Frag} {mg : Str → Option Value} {base : Heap}
local macro_rules | `(tactic| walk_at "tg") => `(tactic| simp (config := { failIfUnchanged := false }) only [te_name_take, te_name_give, te_name_pair, te_name_first, te_name_second, te_name_to, te_name_both, te_name_one, te_name_mark, te_name_name, te_name_thing, te_name_at, te_thing_take, te_thing_give, te_thing_pair, te_thing_first, te_thing_second, te_thing_to, te_thing_both, te_thing_one, te_thing_mark, te_thing_name, te_thing_thing, te_thing_at, te_take_take, te_take_give, te_take_pair, te_take_first, te_take_second, te_take_to, te_take_both, te_take_one, te_take_mark, te_take_name, te_take_thing, te_take_at, te_give_take, te_give_give, te_give_pair, te_give_first, te_give_second, te_give_to, te_give_both, te_give_one, te_give_mark, te_give_name, te_give_thing, te_give_at, te_pair_take, te_pair_give, te_pair_pair, te_pair_first, te_pair_second, te_pair_to, te_pair_both, te_pair_one, te_pair_mark, te_pair_name, te_pair_thing, te_pair_at, te_first_take, te_first_give, te_first_pair, te_first_first, te_first_second, te_first_to, te_first_both, te_first_one, te_first_mark, te_first_name, te_first_thing, te_first_at, te_second_take, te_second_give, te_second_pair, te_second_first, te_second_second, te_second_to, te_second_both, te_second_one, te_second_mark, te_second_name, te_second_thing, te_second_at, te_mark_take, te_mark_give, te_mark_pair, te_mark_first, te_mark_second, te_mark_to, te_mark_both, te_mark_one, te_mark_mark, te_mark_name, te_mark_thing, te_mark_at, te_one_take, te_one_give, te_one_pair, te_one_first, te_one_second, te_one_to, te_one_both, te_one_one, te_one_mark, te_one_name, te_one_thing, te_one_at, te_to_take, te_to_give, te_to_pair, te_to_first, te_to_second, te_to_to, te_to_both, te_to_one, te_to_mark, te_to_name, te_to_thing, te_to_at, te_both_take, te_both_give, te_both_pair, te_both_first, te_both_second, te_both_to, te_both_both, te_both_one, te_both_mark, te_both_name, te_both_thing, te_both_at, te_at_take, te_at_give, te_at_pair, te_at_first, te_at_second, te_at_to, te_at_both, te_at_one, te_at_mark, te_at_name, te_at_thing, te_at_at, ti4_name, ti4_thing, ti4_take, ti4_give, ti4_pair, ti4_first, ti4_second, ti2_name, ti2_thing, ti2_take, ti2_give, ti2_pair, ti2_first, ti2_second, szT_0, szT_1, szT_2, szT_3, szT_4, szT_5, szT_6, szT_7, szT_8, szT_9, szT_10, szT_11, szT_12, Bool.not_true, Bool.not_false, true_and])
def dMo : Option Str → D
  | some m => .str m
  | none => .non
def spLMk : DSp := fun ds O R _ => ∃ (kn : List (Str × Kd)) (p r : Pg) (q : List Int), ds = [.lst (kn.map kv), dP p, dI q] ∧ RS kn.length kn p 0 ∧ kn.length ≤ 8 ∧ q.length ≤ 1000 ∧ partAt p q = some r ∧ R (dMo (markAt kn p 0 q)) O
theorem ok_lmk (T : Tx K mg) : FO__law_mark_at P w base T 200 spLMk := by
  refine fnd__law_mark_at T (fnUp (ok_lil T 190).2 (by omega)) (by walk_at "len") ?_
  rintro ds O R RE ⟨kn, p, r, q, rfl, hrs, hl, hql, hpt, hR⟩
  unfold g__law_mark_at
  refine gSeq_step ?_
  walk_at "kf1"
  refine gSeq_step ?_
  walk_at "kf1"
  refine forA_ix D.int (fun pre rest ρ O' => O' = O ∧ ∃ (kn' : List (Str × Kd)) (p' : Pg) (t' : Nat) (x4 : Option D), RS kn.length kn' p' t' ∧ partAt p' rest = some r ∧ markAt kn' p' t' rest = markAt kn p 0 q ∧ ρ = [some (.lst (kn.map kv)), some (dP p'), some (dI q), some (.lst (kn'.map kv)), x4, none]) q [] _ _ ⟨rfl, kn, p, 0, _, hrs, hpt, rfl, rfl⟩ ?_ ?_
  · rintro ρ O' ⟨rfl, kn', p', t', x4, h1, h2, h3, rfl⟩
    rw [← h3] at hR
    have hh := h1.h
    refine gSeq_step ?_
    walk_at "kf1"
    refine ⟨kn', p', t', by rw [List.length_map, List.length_map, h1.l]; dsimp only; rw [show (((kn.length + t' : Nat) : Int) - (kn.length : Int)) = (t' : Int) by omega], h1.d, h1.s, h1.dp, by omega, by omega, ?_⟩
    try dsimp only
    refine gSeq_step ?_
    simp only [markAt, mkOf] at hR
    cases hg : gal kn' p' t' with
    | none =>
      rw [hg] at hR
      simp only [dLo]
      walk_at "kf1"; walk_at "tg"; walk_at "kf1"
      exact hR
    | some c =>
      rw [hg] at hR
      cases c <;> simp only [dLo, dK] at hR ⊢ <;> walk_at "kf1" <;> walk_at "tg" <;> walk_at "kf1" <;> exact hR
  · rintro pre i rest e ρ O' ⟨rfl, kn', p', t', x4, h1, h2, h3, rfl⟩ N hN
    obtain ⟨c, c1, c2, c3, c4, c5, c6⟩ := partAt_cons h2
    have hm : markAt (knS kn' p') c (tkS t' p') rest = markAt kn p 0 q := by rw [← h3, markAt, c3]
    have z := hN _ _ ⟨rfl, _, c, _, some (.int i), h1.ins c5, c6.1, hm, rfl⟩
    walk_at "kf1"
    cases p' with
    | nm x => cases c5
    | thing => cases c5
    | take x k b =>
      obtain rfl : i = 0 := by simp only [Pg.ins, List.length_singleton] at c2; omega
      have hcb : b = c := by simpa [Pg.ins, atI, ixN] using c3
      subst hcb
      simp only [knS, List.map_append, List.map_cons, List.map_nil] at z
      simp only [dP]
      walk_at "kf1"; walk_at "tg"; walk_at "kf1"; walk_at "tg"
      have hl2 := h1.l
      have hh := h1.h
      refine gSeq_step ?_
      walk_at "kf1"; walk_at "tg"
      refine ⟨sz_21 (by rw [List.length_map]; omega), ?_⟩
      walk_at "kf1"
      exact z
    | give f b =>
      simp only [knS] at z
      simp only [dP]
      walk_at "kf1"; walk_at "tg"; walk_at "kf1"; walk_at "tg"
      have hi : i = 0 ∨ i = 1 := by simp only [Pg.ins, List.length_cons, List.length_nil] at c2; omega
      rcases hi with rfl | rfl
      · have hcb : f = c := by simpa [Pg.ins, atI, ixN] using c3
        subst hcb
        walk_at "kf1"
        exact z
      · have hcb : b = c := by simpa [Pg.ins, atI, ixN] using c3
        subst hcb
        walk_at "kf1"
        exact z
    | pair f b =>
      simp only [knS] at z
      simp only [dP]
      walk_at "kf1"; walk_at "tg"; walk_at "kf1"; walk_at "tg"
      have hi : i = 0 ∨ i = 1 := by simp only [Pg.ins, List.length_cons, List.length_nil] at c2; omega
      rcases hi with rfl | rfl
      · have hcb : f = c := by simpa [Pg.ins, atI, ixN] using c3
        subst hcb
        walk_at "kf1"
        exact z
      · have hcb : b = c := by simpa [Pg.ins, atI, ixN] using c3
        subst hcb
        walk_at "kf1"
        exact z
    | first f =>
      simp only [knS] at z
      simp only [dP]
      walk_at "kf1"; walk_at "tg"; walk_at "kf1"; walk_at "tg"
      obtain rfl : i = 0 := by simp only [Pg.ins, List.length_singleton] at c2; omega
      have hcb : f = c := by simpa [Pg.ins, atI, ixN] using c3
      subst hcb
      walk_at "kf1"
      exact z
    | second f =>
      simp only [knS] at z
      simp only [dP]
      walk_at "kf1"; walk_at "tg"; walk_at "kf1"; walk_at "tg"
      obtain rfl : i = 0 := by simp only [Pg.ins, List.length_singleton] at c2; omega
      have hcb : f = c := by simpa [Pg.ins, atI, ixN] using c3
      subst hcb
      walk_at "kf1"
      exact z
/-- things that may stand as places -/
structure Pth (d : D) : Prop where
  py : isPy d = true
  dp : dp d ≤ 100
  ln : ∀ es, d = .lst es → es.length ≤ 1000
def isLst : D → Bool
  | .lst _ => true
  | _ => false
theorem isi_list (d : D) (h : isPy d = true) {O : Ow} {Q : VD} : rIsiD [d, .ty "list"] O Q = Q (.bl (isLst d)) O := by
  cases d <;> first | (simp [isPy] at h; done) | (simp [rIsiD, insCl, insTy, tyNm, insOf, isLst])
theorem plOf_no {d : D} (h : isLst d = false) : plOf d = none := by cases d <;> first | rfl | cases h
theorem isLst_yes {d : D} (h : isLst d = true) : ∃ es, d = .lst es := by cases d <;> first | exact ⟨_, rfl⟩ | cases h
theorem cut_take44 {α : Type} (xs : List α) (n : Nat) : cut xs none (some (n : Int)) = xs.take n := by
  by_cases h : n ≤ xs.length
  · exact cut_tk xs n h
  · rw [cut_all (by omega), List.take_of_length_le (by omega)]
theorem atI_mem44 {α : Type} {xs : List α} {i : Int} {c : α} (h : atI xs i = some c) : c ∈ xs := by
  unfold atI at h
  obtain ⟨j, _, h2⟩ := Option.bind_eq_some_iff.mp h
  exact List.mem_of_getElem? h2
theorem ringB_no1 {kn : List (Str × Kd)} {p : Pg} {a b : D} (h : plOf a = none) : ringB kn p a b = false := by unfold ringB; rw [h]
theorem ringB_no2 {kn : List (Str × Kd)} {p : Pg} {a b : D} (h : plOf b = none) : ringB kn p a b = false := by unfold ringB; rw [h]; cases plOf a <;> rfl
theorem isNon_dMo (u : Option Str) : isNon (dMo u) = !u.isSome := by cases u <;> rfl
theorem rEq_Mo {u v : Option Str} {O : Ow} {Q : VD} {neg : Bool} (hv : v.isSome = true) (h1 : ∀ m, u = some m → PyData.strOk m = true) (h2 : ∀ m, v = some m → PyData.strOk m = true) : rEqD neg (dMo u) (dMo v) O Q = Q (.bl (neg ^^ decide (u = v))) O := by
  cases v with
  | none => cases hv
  | some m =>
    cases u with
    | none =>
      simp only [dMo]
      rw [rEq_d (by rfl) (by simp [deref, isPy, h2 m rfl]) (by rw [deref_non]; simp [Kf.dp, toPy, PyData.depth]), deref_non, deref_str]
      simp [deq, toPy, PyData.eqv]
    | some m' => simp only [dMo]; rw [rEq_s (h1 m' rfl) (h2 m rfl)]; simp
theorem mkOf_ok {kn : List (Str × Kd)} {p : Pg} {t : Nat} (h : KnD kn t) {m : Str} (e : mkOf kn p t = some m) : PyData.strOk m = true := by
  unfold mkOf at e
  split at e
  · rename_i m' e1
    cases e
    have := gal_ok h p _ e1
    exact this.1
  · cases e
theorem markAt_ok {n : Nat} : ∀ (q : List Int) (kn : List (Str × Kd)) (p : Pg) (t : Nat), RS n kn p t → ∀ m, markAt kn p t q = some m → PyData.strOk m = true
  | [], kn, p, t, h, m, e => mkOf_ok h.d e
  | i :: q, kn, p, t, h, m, e => by
    rw [markAt] at e
    split at e
    · rename_i c hc
      exact markAt_ok q _ c _ (h.ins (atI_mem44 hc)) m e
    · cases e
def spLRg : DSp := fun ds O R _ => ∃ (kn : List (Str × Kd)) (k : Kd) (p : Pg) (a b : D), ds = [.lst (kn.map kv), dK k, dP p, a, b] ∧ KnD kn 0 ∧ KnOk kn ∧ kn.length ≤ 8 ∧ k.ok = true ∧ k.depth ≤ 40 ∧ p.sok = true ∧ p.ka ∧ p.dpt ≤ 150 ∧ p.hgt ≤ 90 ∧ Pth a ∧ Pth b ∧ R (.bl (lg kn k p 0 && ringB kn p a b)) O
theorem ok_lrg (T : Tx K mg) : FO__law_is_ring P w base T 201 spLRg := by
  refine fnd__law_is_ring T (fnUp (ok_lil T 190).1 (by omega)) (fnUp (ok_lat T) (by omega)) (ok_lmk T) (by walk_at "len") ?_
  rintro ds O R RE ⟨kn, k, p, a, b, rfl, h1, h2, h3, h4, h5, h6, h7, h8, h9, ha, hb, hR⟩
  unfold g__law_is_ring
  refine gSeq_step ?_
  walk_at "kf1"
  refine ⟨kn, k, p, 0, rfl, h1, h4, h5, h6, h8, by omega, by omega, ?_⟩
  try dsimp only
  cases hlg : lg kn k p 0 with
  | false =>
    rw [hlg, Bool.false_and] at hR
    walk_at "kf1"
    exact hR
  | true =>
    rw [hlg, Bool.true_and] at hR
    have hrs : RS kn.length kn p 0 := ⟨h1, h2, rfl, .inl ⟨k, hlg⟩, h6, h7, h8, by omega⟩
    walk_at "kf1"
    refine gSeq_step ?_
    walk_at "kf1"
    rw [isi_list a ha.py]
    cases hla : isLst a with
    | false =>
      rw [ringB_no1 (plOf_no hla)] at hR
      walk_at "kf1"
      exact hR
    | true =>
    walk_at "kf1"
    rw [isi_list b hb.py]
    cases hlb : isLst b with
    | false =>
      rw [ringB_no2 (plOf_no hlb)] at hR
      walk_at "kf1"
      exact hR
    | true =>
    walk_at "kf1"
    obtain ⟨es, rfl⟩ := isLst_yes hla
    obtain ⟨fs, rfl⟩ := isLst_yes hlb
    have hes : isPys es = true := by have := ha.py; simpa only [isPy] using this
    have hfs : isPys fs = true := by have := hb.py; simpa only [isPy] using this
    have hel := ha.ln es rfl
    have hfl := hb.ln fs rfl
    walk_at "kf1"
    rw [cut_take44]
    have htk : isPy (.lst (fs.take es.length)) = true := by
      simp only [isPy]
      exact isPys_of44 fun d h => isPy_mem hfs d (List.mem_of_mem_take h)
    rw [rEq_dr (by rw [deref_lst]; exact htk) (by rw [deref_lst]; exact ha.py) (by rw [deref_lst]; have := ha.dp; omega), deref_lst, deref_lst]
    cases hde : deq (.lst (fs.take es.length)) (.lst es) with
    | false =>
      have hz : ringB kn p (.lst es) (.lst fs) = false := by
        unfold ringB
        simp only [plOf]
        cases e1 : dInts es with
        | none => rfl
        | some q =>
          cases e2 : dInts fs with
          | none => rfl
          | some r =>
            dsimp only
            have : decide (r.take q.length = q) = false := by
              refine decide_eq_false fun hx => ?_
              rw [dInts_some e1, dInts_some e2, List.length_map, ← List.map_take, hx, deq_l, deqs_ints] at hde
              cases hde
            rw [this]
            simp
      rw [hz] at hR
      walk_at "kf1"
      exact hR
    | true =>
    walk_at "kf1"
    refine gSeq_step ?_
    walk_at "kf1"
    have hq1 : ∀ q, dInts es = some q → q.length = es.length := fun q e => by rw [dInts_some e, List.length_map]
    have hq2 : ∀ q, dInts fs = some q → q.length = fs.length := fun q e => by rw [dInts_some e, List.length_map]
    split
    · rename_i hle
      have hz : ringB kn p (.lst es) (.lst fs) = false := by
        unfold ringB
        simp only [plOf]
        cases e1 : dInts es with
        | none => rfl
        | some q =>
          cases e2 : dInts fs with
          | none => rfl
          | some r =>
            dsimp only
            have : decide (q.length < r.length) = false := decide_eq_false (by rw [hq1 q e1, hq2 r e2]; omega)
            rw [this]
            simp
      rw [hz] at hR
      exact hR
    · rename_i hlt
      refine ⟨p, es, rfl, hes, h6, hel, ?_⟩
      try dsimp only
      rw [isNon_dPo, latP_eq]
      cases e1 : dInts es with
      | none =>
        rw [ringB_no1 (by simp only [plOf, e1])] at hR
        exact hR
      | some q =>
        dsimp only
        rcases (show partAt p q = none ∨ ∃ pq, partAt p q = some pq by cases partAt p q; exact .inl rfl; exact .inr ⟨_, rfl⟩) with e3 | ⟨pq, e3⟩
        · rw [if_pos (by simp [e3])]
          have hz : ringB kn p (.lst es) (.lst fs) = false := by
            unfold ringB
            simp only [plOf, e1]
            cases dInts fs with
            | none => rfl
            | some r => dsimp only; rw [e3]; rfl
          rw [hz] at hR
          exact hR
        · rw [if_neg (by rw [e3]; simp)]
          refine ⟨p, fs, rfl, hfs, h6, hfl, ?_⟩
          try dsimp only
          rw [isNon_dPo, latP_eq]
          cases e2 : dInts fs with
          | none =>
            rw [ringB_no2 (by simp only [plOf, e2])] at hR
            exact hR
          | some r =>
            dsimp only
            rcases (show partAt p r = none ∨ ∃ pr, partAt p r = some pr by cases partAt p r; exact .inl rfl; exact .inr ⟨_, rfl⟩) with e4 | ⟨pr, e4⟩
            · rw [if_pos (by simp [e4])]
              have hz : ringB kn p (.lst es) (.lst fs) = false := by
                unfold ringB
                simp only [plOf, e1, e2]
                rw [e3, e4]
                try rfl
              rw [hz] at hR
              exact hR
            · rw [if_neg (by rw [e4]; simp)]
              have htq : r.take q.length = q := by
                have h0 : deqs ((r.take q.length).map D.int) (q.map D.int) = true := by
                  rw [deq_l] at hde
                  rw [List.map_take]
                  rw [dInts_some e1, dInts_some e2, List.length_map] at hde
                  exact hde
                rw [deqs_I] at h0
                exact of_decide_eq_true h0
              have hz : ringB kn p (.lst es) (.lst fs) = ((markAt kn p 0 q).isSome && decide (markAt kn p 0 r = markAt kn p 0 q)) := by
                unfold ringB
                simp only [plOf, e1, e2]
                rw [e3, e4, decide_eq_true (show q.length < r.length by rw [hq1 q e1, hq2 r e2]; omega), decide_eq_true htq]
                try rfl
              rw [hz] at hR
              refine gSeq_step ?_
              walk_at "kf1"
              refine ⟨kn, p, pq, q, by rw [dInts_some e1] <;> rfl, hrs, h3, by rw [hq1 q e1]; exact hel, e3, ?_⟩
              try dsimp only
              walk_at "kf1"
              cases hm : markAt kn p 0 q with
              | none =>
                rw [hm] at hR
                simp only [Option.isSome_none, Bool.false_and] at hR
                simp only [dMo]
                walk_at "kf1"
                exact hR
              | some m =>
                rw [hm] at hR
                simp only [Option.isSome_some, Bool.true_and] at hR
                rw [isNon_dMo]
                walk_at "kf1"
                refine ⟨kn, p, pr, r, by rw [dInts_some e2] <;> rfl, hrs, h3, by rw [hq2 r e2]; exact hfl, e4, ?_⟩
                try dsimp only
                rw [rEq_Mo rfl (fun x e => markAt_ok r kn p 0 hrs x e) (fun x e => markAt_ok q kn p 0 hrs x (hm.trans e)), Bool.false_xor]
                exact hR
end
end Kf
namespace Kf
open PySem PySem.Spec L2
open PyProof.Rows hiding St
local macro_rules | `(tactic| walk_at "kf") => `(tactic| simp (config := { failIfUnchanged := false }) only [startD, ap_fiEnumT, asT1_t, ap_fKGet, asStr_s, ap_fKIn, ap_fKIx, ap_gAsgL, rUnl_l, ap_fiRng3, asR3_i, rSplitO_s, ap_fOrL, rOrL_l, ap_fLcK, ap_gForK, ap_fMaxD, rMaxD_l, rMaxL_l, ap_fCallXD, ap_gForE, asLE_l, ap_fFrz, ap_fDicO, ap_fDGet, ap_fDGet1, ap_fDGet2, ap_gDPut, ap_fIsiT, ap_gForR, rRep_l, isT_i, isT_s, isT_b, isT_n, isT_t, isT_l, ap_gSeq, ap_gIf, ap_gRet, ap_gNext, ap_gSet, ap_gAsg, ap_gPar, ap_gDrop, ap_gRetF, ap_gRetN, ap_gFor, ap_gSetIx, ap_gBreak, ap_fRev, ap_fiRevR, asIR_i, rRev_l, ap_fCallX, ap_gRaise, ap_gTry, ap_gTryAs, ap_gNever, ap_fEdic, ap_fTest, ap_fOp, ap_fVar, envGet_s, patGet_s, ap_fC, ap_fCB, ap_fCons, ap_fNil, ap_fCall, ap_fAnd, ap_fOr, ap_fNot, ap_fAndV, ap_fOrV, ap_fNotV, ap_fIf, ap_fTup, ap_fLst, ap_fLstO, ap_fChain, ap_fUn, ap_fBM, ap_fBM0, ap_fPool, rPool_i, ap_fSl, ap_fPart, ap_fNoPart, asI_i, rSl_l, ap_fiRng1, ap_fiRng2, ap_fiList, ap_fiTup, ap_fiStr, ap_fiEnum, ap_fiZip, ap_fiRev, asL_l, asT_t, asSg_s, asR1_i, asR2_i, asL1_l, asL2_l, ap_fLc, ap_fLcO, ap_fYes, wipeD, lcD, isi_i_int, isi_i_bool, isi_i_str, isi_i_tuple, isi_i_list, isi_i_dict, isi_b_int, isi_b_bool, isi_b_str, isi_b_tuple, isi_b_list, isi_b_dict, isi_s_int, isi_s_bool, isi_s_str, isi_s_tuple, isi_s_list, isi_s_dict, isi_t_int, isi_t_bool, isi_t_str, isi_t_tuple, isi_t_list, isi_t_dict, isi_l_int, isi_l_bool, isi_l_str, isi_l_tuple, isi_l_list, isi_l_dict, isi_n_int, isi_n_bool, isi_n_str, isi_n_tuple, isi_n_list, isi_n_dict, isi_d_int, isi_d_bool, isi_d_str, isi_d_tuple, isi_d_list, isi_d_dict,
  deref_tup, deref_lst, deref_int, deref_str, deref_bl, deref_non, deref_scr, rLt_i, rLt_s, rLe_i, rLe_s, rInts_i, rInts0_i, rAdd_i, rAdd_s, rAdd_l, rAdd_t, rCatO_l, rNeg_i, rLen_t, rLen_l, rLen_c, rLen_s, rMax_i, rMin_i, rInt_i, rInt_b, rDivmod_i, ap_gAug, rStr_i, rList_l, rList_t, rListO_l, rListO_t, rTup_l, rTup_t,
  rIx_t0, rIx_t1, rIx_t2, rIx_t3, rIx_l0, rIx_l1, rIx_l2, rIsN_x, isNon_t, isNon_n, isNon_i, isNon_s, isNon_l, rEq_i, rEq_b, rEq_i2, rEq_b2, rJoin_m, rSplit_s, tyOk_l, tyOk_s, patD_nm, patD_tp, patDs_nil, patDs_cons, Option.bind_some, notX, notX',
  List.map_cons, List.map_nil, List.length_cons, List.length_nil, List.cons_append, List.nil_append, List.append_nil, List.replicate, List.getElem?_cons_zero, List.getElem?_cons_succ, List.set_cons_zero, List.set_cons_succ, updO_same, updO_updO,
  Nat.reduceSub, Nat.reduceAdd, Nat.reduceLeDiff, Nat.zero_add, Int.cast_ofNat_Int, Int.natCast_zero, Int.natCast_one, Int.reduceLT, Int.reduceLE, Int.reduceEq, Int.reduceAdd, Int.reduceSub, Int.reduceNeg, decide_true, decide_false, if_true, if_false, Bool.false_eq_true, eq_self, reduceIte, Bool.true_eq_false, decide_eq_true_eq, Bool.not_true, Bool.not_false, Bool.not_eq_true', decide_eq_false_iff_not, exists_eq_left', exists_eq_left, D.bl.injEq, true_and, and_true, not_true_eq_false, not_false_eq_true])
local macro_rules | `(tactic| walk_at "len") => `(tactic| (intro ds O R RE h; first | (obtain ⟨e, _⟩ := h; subst e; rfl) | (obtain ⟨_, e, _⟩ := h; subst e; rfl) | (obtain ⟨_, _, e, _⟩ := h; subst e; rfl) | (obtain ⟨_, _, _, e, _⟩ := h; subst e; rfl) | (obtain ⟨_, _, _, _, e, _⟩ := h; subst e; rfl) | (obtain ⟨_, _, _, _, _, e, _⟩ := h; subst e; rfl) | (obtain ⟨_, _, _, _, _, _, e, _⟩ := h; subst e; rfl) | (obtain ⟨_, _, _, _, _, _, _, e, _⟩ := h; subst e; rfl) | (obtain ⟨_, _, _, _, _, _, _, _, e, _⟩ := h; subst e; rfl) | (obtain ⟨_, _, _, _, _, _, _, _, _, e, _⟩ := h; subst e; rfl)))
local macro_rules | `(tactic| walk_at "kf1") => `(tactic| simp (config := { failIfUnchanged := false }) only [startD, ap_fiEnumT, asT1_t, ap_fKGet, asStr_s, ap_fKIn, ap_fKIx, ap_gAsgL, rUnl_l, ap_fiRng3, asR3_i, rSplitO_s, ap_fOrL, rOrL_l, ap_fLcK, ap_gForK, ap_fMaxD, rMaxD_l, rMaxL_l, ap_fCallXD, ap_gForE, asLE_l, ap_fFrz, ap_fDicO, ap_fDGet, ap_fDGet1, ap_fDGet2, ap_gDPut, ap_fIsiT, ap_gForR, rRep_l, isT_i, isT_s, isT_b, isT_n, isT_t, isT_l, ap_gIf, ap_gRet, ap_gNext, ap_gSet, ap_gAsg, ap_gPar, ap_gDrop, ap_gRetF, ap_gRetN, ap_gFor, ap_gSetIx, ap_gBreak, ap_fRev, ap_fiRevR, asIR_i, rRev_l, ap_fCallX, ap_gRaise, ap_gTry, ap_gTryAs, ap_gNever, ap_fEdic, ap_fTest, ap_fOp, ap_fVar, envGet_s, patGet_s, ap_fC, ap_fCB, ap_fCons, ap_fNil, ap_fCall, ap_fAnd, ap_fOr, ap_fNot, ap_fAndV, ap_fOrV, ap_fNotV, ap_fIf, ap_fTup, ap_fLst, ap_fLstO, ap_fChain, ap_fUn, ap_fBM, ap_fBM0, ap_fPool, rPool_i, ap_fSl, ap_fPart, ap_fNoPart, asI_i, rSl_l, ap_fiRng1, ap_fiRng2, ap_fiList, ap_fiTup, ap_fiStr, ap_fiEnum, ap_fiZip, ap_fiRev, asL_l, asT_t, asSg_s, asR1_i, asR2_i, asL1_l, asL2_l, ap_fLc, ap_fLcO, ap_fYes, wipeD, lcD, isi_i_int, isi_i_bool, isi_i_str, isi_i_tuple, isi_i_list, isi_i_dict, isi_b_int, isi_b_bool, isi_b_str, isi_b_tuple, isi_b_list, isi_b_dict, isi_s_int, isi_s_bool, isi_s_str, isi_s_tuple, isi_s_list, isi_s_dict, isi_t_int, isi_t_bool, isi_t_str, isi_t_tuple, isi_t_list, isi_t_dict, isi_l_int, isi_l_bool, isi_l_str, isi_l_tuple, isi_l_list, isi_l_dict, isi_n_int, isi_n_bool, isi_n_str, isi_n_tuple, isi_n_list, isi_n_dict, isi_d_int, isi_d_bool, isi_d_str, isi_d_tuple, isi_d_list, isi_d_dict,
  deref_tup, deref_lst, deref_int, deref_str, deref_bl, deref_non, deref_scr, rLt_i, rLt_s, rLe_i, rLe_s, rInts_i, rInts0_i, rAdd_i, rAdd_s, rAdd_l, rAdd_t, rCatO_l, rNeg_i, rLen_t, rLen_l, rLen_c, rLen_s, rMax_i, rMin_i, rInt_i, rInt_b, rDivmod_i, ap_gAug, rStr_i, rList_l, rList_t, rListO_l, rListO_t, rTup_l, rTup_t,
  rIx_t0, rIx_t1, rIx_t2, rIx_t3, rIx_l0, rIx_l1, rIx_l2, rIsN_x, isNon_t, isNon_n, isNon_i, isNon_s, isNon_l, rEq_i, rEq_b, rEq_i2, rEq_b2, rJoin_m, rSplit_s, tyOk_l, tyOk_s, patD_nm, patD_tp, patDs_nil, patDs_cons, Option.bind_some, notX, notX',
  List.map_cons, List.map_nil, List.length_cons, List.length_nil, List.cons_append, List.nil_append, List.append_nil, List.replicate, List.getElem?_cons_zero, List.getElem?_cons_succ, List.set_cons_zero, List.set_cons_succ, updO_same, updO_updO,
  Nat.reduceSub, Nat.reduceAdd, Nat.reduceLeDiff, Nat.zero_add, Int.cast_ofNat_Int, Int.natCast_zero, Int.natCast_one, Int.reduceLT, Int.reduceLE, Int.reduceEq, Int.reduceAdd, Int.reduceSub, Int.reduceNeg, decide_true, decide_false, if_true, if_false, Bool.false_eq_true, eq_self, reduceIte, Bool.true_eq_false, decide_eq_true_eq, Bool.not_true, Bool.not_false, Bool.not_eq_true', decide_eq_false_iff_not, exists_eq_left', exists_eq_left, D.bl.injEq, true_and, and_true, not_true_eq_false, not_false_eq_true])
section
variable {P : Program} {w : World} {K : PySem.W.Frag} {mg : Str → Option Value} {base : Heap}
local macro_rules | `(tactic| walk_at "tg") => `(tactic| simp (config := { failIfUnchanged := false }) only [te_name_take, te_name_give, te_name_pair, te_name_first, te_name_second, te_name_to, te_name_both, te_name_one, te_name_mark, te_name_name, te_name_thing, te_name_at, te_thing_take, te_thing_give, te_thing_pair, te_thing_first, te_thing_second, te_thing_to, te_thing_both, te_thing_one, te_thing_mark, te_thing_name, te_thing_thing, te_thing_at, te_take_take, te_take_give, te_take_pair, te_take_first, te_take_second, te_take_to, te_take_both, te_take_one, te_take_mark, te_take_name, te_take_thing, te_take_at, te_give_take, te_give_give, te_give_pair, te_give_first, te_give_second, te_give_to, te_give_both, te_give_one, te_give_mark, te_give_name, te_give_thing, te_give_at, te_pair_take, te_pair_give, te_pair_pair, te_pair_first, te_pair_second, te_pair_to, te_pair_both, te_pair_one, te_pair_mark, te_pair_name, te_pair_thing, te_pair_at, te_first_take, te_first_give, te_first_pair, te_first_first, te_first_second, te_first_to, te_first_both, te_first_one, te_first_mark, te_first_name, te_first_thing, te_first_at, te_second_take, te_second_give, te_second_pair, te_second_first, te_second_second, te_second_to, te_second_both, te_second_one, te_second_mark, te_second_name, te_second_thing, te_second_at, te_mark_take, te_mark_give, te_mark_pair, te_mark_first, te_mark_second, te_mark_to, te_mark_both, te_mark_one, te_mark_mark, te_mark_name, te_mark_thing, te_mark_at, te_one_take, te_one_give, te_one_pair, te_one_first, te_one_second, te_one_to, te_one_both, te_one_one, te_one_mark, te_one_name, te_one_thing, te_one_at, te_to_take, te_to_give, te_to_pair, te_to_first, te_to_second, te_to_to, te_to_both, te_to_one, te_to_mark, te_to_name, te_to_thing, te_to_at, te_both_take, te_both_give, te_both_pair, te_both_first, te_both_second, te_both_to, te_both_both, te_both_one, te_both_mark, te_both_name, te_both_thing, te_both_at, te_at_take, te_at_give, te_at_pair, te_at_first, te_at_second, te_at_to, te_at_both, te_at_one, te_at_mark, te_at_name, te_at_thing, te_at_at, ti4_name, ti4_thing, ti4_take, ti4_give, ti4_pair, ti4_first, ti4_second, ti2_name, ti2_thing, ti2_take, ti2_give, ti2_pair, ti2_first, ti2_second, szT_0, szT_1, szT_2, szT_3, szT_4, szT_5, szT_6, szT_7, szT_8, szT_9, szT_10, szT_11, szT_12, Bool.not_true, Bool.not_false, true_and])
local macro_rules | `(tactic| walk_at "tq") => `(tactic| simp (config := { failIfUnchanged := false }) only [tq_name_gap, tq_gap_name, tq_take_gap, tq_gap_take, tq_give_gap, tq_gap_give, tq_pair_gap, tq_gap_pair, tq_first_gap, tq_gap_first, tq_second_gap, tq_gap_second, tq_thing_gap, tq_gap_thing, tq_gap_gap, tqi_gap_2a, tqi_gap_2b, tqi_gap_4, tqi_name_2a, tqi_name_2b, tqi_take_2a, tqi_take_2b, tqi_give_2a, tqi_give_2b, tqi_pair_2a, tqi_pair_2b, tqi_first_2a, tqi_first_2b, tqi_second_2a, tqi_second_2b, tqi_thing_2a, tqi_thing_2b, Bool.xor_false, Bool.xor_true, Bool.false_xor, Bool.true_xor])
/-- things that are no programs -/
def OddT (d : D) : Prop := d = .non ∨ d = .int 7 ∨ d = .tup [.str (Str.ofString "name")] ∨ ∃ ds, d = .lst ds
def spHeadO : DSp := fun ds O R _ => ∃ (d : D) (g : Bool), ds = [d, .bl g] ∧ OddT d ∧ R (.bl false) O
theorem ok_headO (T : Tx K mg) : FO_has_head P w base T 17 spHeadO := by
  refine fnd_has_head T (sp_is_kind := fun _ _ _ _ => False) (fnUp (none_left fun _ _ _ _ h => h) (Nat.zero_le _)) (sp_is_name := fun _ _ _ _ => False) (fnUp (none_left fun _ _ _ _ h => h) (Nat.zero_le _)) (by walk_at "len") ?_
  rintro ds O R RE ⟨d, g, rfl, hd, hR⟩
  unfold g_has_head
  refine gSeq_step ?_
  rcases hd with rfl | rfl | rfl | ⟨es, rfl⟩
  · walk_at "kf1"
    exact hR
  · walk_at "kf1"
    exact hR
  · walk_at "kf1"
    refine gSeq_step ?_
    walk_at "kf1"; walk_at "tg"; walk_at "tq"; walk_at "kf1"
    refine gSeq_step ?_
    walk_at "kf1"; walk_at "tg"; walk_at "tq"; walk_at "kf1"
    exact hR
  · walk_at "kf1"
    exact hR
def spPlO : DSp := fun ds O R _ => ∃ (d : D) (r l : Int) (g : Bool), ds = [d, .int r, .int l, .bl g] ∧ OddT d ∧ R (.int (-1)) O
theorem ok_plO (T : Tx K mg) : FO_parts_left P w base T 18 spPlO := by
  refine fnd_parts_left T (ok_headO T) (sp_inner := fun _ _ _ _ => False) (fnUp (none_left fun _ _ _ _ h => h) (Nat.zero_le _)) (sp_parts_left := fun _ _ _ _ => False) (fnUp (none_left fun _ _ _ _ h => h) (Nat.zero_le _)) (by walk_at "len") ?_
  rintro ds O R RE ⟨d, r, l, g, rfl, hd, hR⟩
  unfold g_parts_left
  refine gSeq_step ?_
  walk_at "kf1"
  split
  · exact hR
  · split
    · exact hR
    · exact ⟨d, g, rfl, hd, false, rfl, by rw [if_pos rfl]; exact hR⟩
def spProgO : DSp := fun ds O R _ => ∃ d : D, ds = [d] ∧ OddT d ∧ R (.bl false) O
theorem ok_progO (T : Tx K mg) : FO_is_program P w base T 119 spProgO := by
  refine fnd_is_program T (fnUp (ok_plO T) (by omega)) (by walk_at "len") ?_
  rintro ds O R RE ⟨d, rfl, hd, hR⟩
  unfold g_is_program
  walk_at "kf1"
  refine ⟨d, _, _, _, rfl, hd, ?_⟩
  try dsimp only
  walk_at "kf1"
  exact hR
def spRing : DSp := fun ds O R _ => ∃ (kn : List (Str × Kd)) (k : Kd) (x a b : D), ds = [.lst (kn.map kv), dK k, x, a, b] ∧
  ((∃ p : Pg, x = dP p ∧ KnD kn 0 ∧ KnOk kn ∧ kn.length ≤ 8 ∧ k.ok = true ∧ k.depth ≤ 40 ∧ p.sok = true ∧ p.ka ∧ p.q.qk ∧ p.psz ≤ 400 ∧ p.dpt ≤ 150 ∧ p.hgt ≤ 70 ∧ Pth a ∧ Pth b ∧ R (.bl (lg kn k p 0 && ringB kn p a b)) O) ∨ (OddT x ∧ R (.bl false) O))
theorem q_sz44 : ∀ p : Pg, p.q.sz = p.psz ∧ p.q.hgt = p.hgt ∧ p.q.hasGap = false := by
  intro p
  induction p with
  | nm x => exact ⟨rfl, rfl, rfl⟩
  | thing => exact ⟨rfl, rfl, rfl⟩
  | take x k b ih => obtain ⟨h1, h2, h3⟩ := ih; simp [Pg.q, Pq.sz, Pq.hgt, Pq.hasGap, Pg.psz, Pg.hgt, h1, h2, h3]
  | give f a ih1 ih2 => obtain ⟨h1, h2, h3⟩ := ih1; obtain ⟨g1, g2, g3⟩ := ih2; simp [Pg.q, Pq.sz, Pq.hgt, Pq.hasGap, Pg.psz, Pg.hgt, h1, h2, h3, g1, g2, g3]
  | pair f a ih1 ih2 => obtain ⟨h1, h2, h3⟩ := ih1; obtain ⟨g1, g2, g3⟩ := ih2; simp [Pg.q, Pq.sz, Pq.hgt, Pq.hasGap, Pg.psz, Pg.hgt, h1, h2, h3, g1, g2, g3]
  | first f ih => obtain ⟨h1, h2, h3⟩ := ih; simp [Pg.q, Pq.sz, Pq.hgt, Pq.hasGap, Pg.psz, Pg.hgt, h1, h2, h3]
  | second f ih => obtain ⟨h1, h2, h3⟩ := ih; simp [Pg.q, Pq.sz, Pq.hgt, Pq.hasGap, Pg.psz, Pg.hgt, h1, h2, h3]
theorem ok_ring (T : Tx K mg) : FO_is_ring P w base T 204 spRing := by
  refine fnd_is_ring T (fnOr (fnUp (ok_is_prog T 100) (by omega)) (fnUp (ok_progO T) (by omega))) (fnUp (ok_isL T 190) (by omega)) (fnUp (ok_isPl T) (by omega)) (fnUp (ok_kind_at T) (by omega)) (by walk_at "len") ?_
  rintro ds O R RE ⟨kn, k, x, a, b, rfl, h⟩
  unfold g_is_ring
  refine gSeq_step ?_
  rcases h with ⟨p, rfl, h1, h2, h3, h4, h5, h6, h7, h8, h9, h10, h11, ha, hb, hR⟩ | ⟨hx, hR⟩
  · obtain ⟨z1, z2, z3⟩ := q_sz44 p
    walk_at "kf1"
    refine .inl ⟨p.q, by rw [dQ_q], h8, .inl (by omega), ?_⟩
    rw [z1, z2, z3, decide_eq_true h9, decide_eq_true (show p.hgt ≤ 80 by omega)]
    try dsimp only
    walk_at "kf1"
    refine ⟨kn, k, p, rfl, h1, h4, h5, h6, h10, by omega, by omega, ?_⟩
    try dsimp only
    cases hlg : lg kn k p 0 with
    | false =>
      rw [hlg, Bool.false_and] at hR
      walk_at "kf1"
      exact hR
    | true =>
      rw [hlg, Bool.true_and] at hR
      have hrs : RS kn.length kn p 0 := ⟨h1, h2, rfl, .inl ⟨k, hlg⟩, h6, h7, h10, by omega⟩
      walk_at "kf1"
      refine gSeq_step ?_
      walk_at "kf1"
      refine ⟨p, a, rfl, ha.py, ha.dp, ha.ln, ?_⟩
      try dsimp only
      cases hqa : plOf a with
      | none =>
        rw [ringB_no1 hqa] at hR
        walk_at "kf1"
        exact hR
      | some q =>
      dsimp only
      rcases (show partAt p q = none ∨ ∃ pq, partAt p q = some pq by cases partAt p q; exact .inl rfl; exact .inr ⟨_, rfl⟩) with e3 | ⟨pq, e3⟩
      · have hz : ringB kn p a b = false := by
          unfold ringB
          rw [hqa]
          cases plOf b with
          | none => rfl
          | some r => dsimp only; rw [e3]; rfl
        rw [hz] at hR
        rw [e3]
        simp only [Option.isSome_none]
        walk_at "kf1"
        exact hR
      rw [e3]
      simp only [Option.isSome_some]
      walk_at "kf1"
      refine ⟨p, b, rfl, hb.py, hb.dp, hb.ln, ?_⟩
      try dsimp only
      cases hqb : plOf b with
      | none =>
        rw [ringB_no2 hqb] at hR
        walk_at "kf1"
        exact hR
      | some r =>
      dsimp only
      rcases (show partAt p r = none ∨ ∃ pr, partAt p r = some pr by cases partAt p r; exact .inl rfl; exact .inr ⟨_, rfl⟩) with e4 | ⟨pr, e4⟩
      · have hz : ringB kn p a b = false := by
          unfold ringB
          rw [hqa, hqb]
          dsimp only
          rw [e3, e4]
          try rfl
        rw [hz] at hR
        rw [e4]
        simp only [Option.isSome_none]
        walk_at "kf1"
        exact hR
      rw [e4]
      simp only [Option.isSome_some]
      obtain ⟨es, rfl⟩ : ∃ es, a = .lst es := by cases a <;> first | exact ⟨_, rfl⟩ | cases hqa
      obtain ⟨fs, rfl⟩ : ∃ fs, b = .lst fs := by cases b <;> first | exact ⟨_, rfl⟩ | cases hqb
      simp only [plOf] at hqa hqb
      have ea := dInts_some hqa
      have eb := dInts_some hqb
      subst ea eb
      have hal := ha.ln _ rfl
      have hbl := hb.ln _ rfl
      rw [List.length_map] at hal hbl
      have hz : ringB kn p (.lst (q.map .int)) (.lst (r.map .int)) = (decide (q.length < r.length) && (decide (r.take q.length = q) && ((markAt kn p 0 q).isSome && decide (markAt kn p 0 r = markAt kn p 0 q)))) := by
        unfold ringB
        simp only [plOf, dInts_ints]
        rw [e3, e4]
        try rfl
      rw [hz] at hR
      walk_at "kf1"
      refine gSeq_step ?_
      walk_at "kf1"
      rw [List.length_map, List.length_map]
      by_cases hlt : q.length < r.length
      · rw [if_neg (by omega)]
        rw [decide_eq_true hlt, Bool.true_and] at hR
        walk_at "kf1"
        rw [cut_take44, ← List.map_take, rEq_dr (by rw [deref_lst]; simp only [isPy, isPys_ints]) (by rw [deref_lst]; simp only [isPy, isPys_ints]) (by rw [deref_lst]; have := dp_ints q; omega), deref_lst, deref_lst, deq_l, deqs_I]
        by_cases htq : r.take q.length = q
        · rw [decide_eq_true htq, Bool.true_and] at hR
          rw [decide_eq_true htq]
          walk_at "kf1"
          refine gSeq_step ?_
          walk_at "kf1"
          refine ⟨kn, p, pq, q, rfl, hrs, h3, hal, e3, fun k1 k1o k1d k1m => ?_⟩
          try dsimp only
          have no : (∀ m, k1 ≠ .mk m) → markAt kn p 0 q = none := fun hn => by
            cases e : markAt kn p 0 q with
            | none => rfl
            | some m => exact absurd ((k1m m).mpr e) (hn m)
          cases k1 with
          | mk m =>
            have hm := (k1m m).mp rfl
            rw [hm] at hR
            simp only [Option.isSome_some, Bool.true_and] at hR
            rw [show dK (.mk m) = D.tup [.str (Str.ofString "mark"), .str m] from rfl]
            walk_at "kf1"; walk_at "tg"; walk_at "kf1"
            refine ⟨kn, p, pr, r, rfl, hrs, h3, hbl, e4, fun k2 k2o k2d k2m => ?_⟩
            try dsimp only
            rw [show D.tup [.str (Str.ofString "mark"), .str m] = dK (.mk m) from rfl, rEq_K k2o k1o (by omega), Bool.false_xor]
            rw [show decide (k2 = Kd.mk m) = decide (markAt kn p 0 r = some m) from decide_eq_decide.mpr (k2m m)]
            exact hR
          | one =>
            rw [no (fun m e => by cases e)] at hR
            simp only [dK]
            walk_at "kf1"; walk_at "tg"; walk_at "kf1"
            exact hR
          | both x y =>
            rw [no (fun m e => by cases e)] at hR
            simp only [dK]
            walk_at "kf1"; walk_at "tg"; walk_at "kf1"
            exact hR
          | to x y =>
            rw [no (fun m e => by cases e)] at hR
            simp only [dK]
            walk_at "kf1"; walk_at "tg"; walk_at "kf1"
            exact hR
        · rw [decide_eq_false htq, Bool.false_and] at hR
          rw [decide_eq_false htq]
          walk_at "kf1"
          exact hR
      · rw [if_pos (by omega)]
        rw [decide_eq_false hlt, Bool.false_and] at hR
        exact hR
  · walk_at "kf1"
    refine .inr ⟨x, rfl, hx, ?_⟩
    try dsimp only
    walk_at "kf1"
    exact hR
/-- all places of a program -/
def apls : Pg → List Int → List (List Int)
  | .nm _, pl => [pl]
  | .thing, pl => [pl]
  | .take _ _ b, pl => pl :: apls b (pl ++ [0])
  | .give f a, pl => pl :: (apls f (pl ++ [0]) ++ apls a (pl ++ [1]))
  | .pair f a, pl => pl :: (apls f (pl ++ [0]) ++ apls a (pl ++ [1]))
  | .first f, pl => pl :: apls f (pl ++ [0])
  | .second f, pl => pl :: apls f (pl ++ [0])
theorem apls_len : ∀ (p : Pg) (pl : List Int), (apls p pl).length = p.psz
  | .nm _, _ => rfl
  | .thing, _ => rfl
  | .take _ _ b, pl => by simp only [apls, List.length_cons, apls_len b, Pg.psz] <;> omega
  | .give f a, pl => by simp only [apls, List.length_cons, List.length_append, apls_len f, apls_len a, Pg.psz] <;> omega
  | .pair f a, pl => by simp only [apls, List.length_cons, List.length_append, apls_len f, apls_len a, Pg.psz] <;> omega
  | .first f, pl => by simp only [apls, List.length_cons, apls_len f, Pg.psz] <;> omega
  | .second f, pl => by simp only [apls, List.length_cons, apls_len f, Pg.psz] <;> omega
theorem apls_mem : ∀ (p : Pg) (pl q : List Int), q ∈ apls p pl → q.length ≤ pl.length + p.hgt
  | .nm _, pl, q, h => by rw [List.mem_singleton.mp h]; omega
  | .thing, pl, q, h => by rw [List.mem_singleton.mp h]; omega
  | .take _ _ b, pl, q, h => by
    rcases List.mem_cons.mp h with rfl | h
    · omega
    · have := apls_mem b _ q h; simp only [List.length_append, List.length_singleton, Pg.hgt] at this ⊢; omega
  | .give f a, pl, q, h => by
    rcases List.mem_cons.mp h with rfl | h
    · omega
    · rcases List.mem_append.mp h with h | h
      · have := apls_mem f _ q h; simp only [List.length_append, List.length_singleton, Pg.hgt] at this ⊢; omega
      · have := apls_mem a _ q h; simp only [List.length_append, List.length_singleton, Pg.hgt] at this ⊢; omega
  | .pair f a, pl, q, h => by
    rcases List.mem_cons.mp h with rfl | h
    · omega
    · rcases List.mem_append.mp h with h | h
      · have := apls_mem f _ q h; simp only [List.length_append, List.length_singleton, Pg.hgt] at this ⊢; omega
      · have := apls_mem a _ q h; simp only [List.length_append, List.length_singleton, Pg.hgt] at this ⊢; omega
  | .first f, pl, q, h => by
    rcases List.mem_cons.mp h with rfl | h
    · omega
    · have := apls_mem f _ q h; simp only [List.length_append, List.length_singleton, Pg.hgt] at this ⊢; omega
  | .second f, pl, q, h => by
    rcases List.mem_cons.mp h with rfl | h
    · omega
    · have := apls_mem f _ q h; simp only [List.length_append, List.length_singleton, Pg.hgt] at this ⊢; omega
def spApls (n : Nat) : DSp := fun ds O R _ => ∃ (p : Pg) (pl : List Int), ds = [dP p, dI pl] ∧ p.hgt < n ∧ p.sok = true ∧ p.psz ≤ 100000 ∧ pl.length + p.hgt ≤ 1000 ∧ R (.lst ((apls p pl).map dI)) O
theorem ok_apls (T : Tx K mg) : ∀ n, FO__law_places P w base T (n + 1) (spApls n)
  | 0 => none_left fun ds O R RE ⟨p, pl, _, h, _⟩ => by omega
  | n + 1 => by
    refine fnd__law_places T (ok_apls T n) (by walk_at "len") ?_
    rintro ds O R RE ⟨p, pl, rfl, hn, hs, hz, hpl, hR⟩
    have call : ∀ (q : Pg) (i : Int) (R' : VD) (RE' : XD), q.hgt < p.hgt → q.psz ≤ p.psz → q.sok = true → R' (.lst ((apls q (pl ++ [i])).map dI)) O → spApls n [dP q, .lst (pl.map .int ++ [.int i])] O R' RE' := by
      intro q i R' RE' h1 h2 h3 h4
      exact ⟨q, pl ++ [i], by simp [dI], by omega, h3, by omega, by rw [List.length_append, List.length_singleton]; omega, h4⟩
    have zp : 0 < p.hgt → (pl.map D.int).length + 1 ≤ sizeLine := fun h => sz_21 (by rw [List.length_map]; omega)
    unfold g__law_places
    refine gSeq_step ?_
    walk_at "kf1"
    walk_at "tg"
    refine gSeq_step ?_
    walk_at "kf1"
    walk_at "tg"
    refine gSeq_via44 (fun ρ O' => O' = O ∧ ρ = [some (dP p), some (dI pl), some (.lst [dI pl]), some (.lst (p.ins.map dP)), none, none]) ?_ ?_
    · rintro ρ O' ⟨rfl, rfl⟩
      refine gSeq_step ?_
      cases p with
      | nm x =>
        simp only [Pg.ins, List.map_nil]
        walk_at "kf1"
        simp only [enum0]
        unfold forD
        walk_at "kf1"
        exact hR
      | thing =>
        simp only [Pg.ins, List.map_nil]
        walk_at "kf1"
        simp only [enum0]
        unfold forD
        walk_at "kf1"
        exact hR
      | take x k b =>
        simp only [Pg.hgt, Pg.psz, Pg.sok, Bool.and_eq_true] at hn hz zp hs
        simp only [Pg.ins, List.map_cons, List.map_nil]
        walk_at "kf1"
        simp only [enum1]
        unfold forD
        walk_at "kf1"; walk_at "tg"
        refine ⟨zp (by omega), call b 0 _ _ (by simp only [Pg.hgt]; omega) (by simp only [Pg.psz]; omega) hs.2 ?_⟩
        try dsimp only
        walk_at "kf1"
        refine ⟨sz_21 (by simp only [List.length_map, apls_len, List.length_cons, List.length_nil]; omega), ?_⟩
        unfold forD
        walk_at "kf1"
        exact hR
      | give f a =>
        simp only [Pg.hgt, Pg.psz, Pg.sok, Bool.and_eq_true] at hn hz zp hs
        simp only [Pg.ins, List.map_cons, List.map_nil]
        walk_at "kf1"
        simp only [enum2]
        unfold forD
        walk_at "kf1"; walk_at "tg"
        refine ⟨zp (by omega), call f 0 _ _ (by simp only [Pg.hgt]; omega) (by simp only [Pg.psz]; omega) hs.1 ?_⟩
        try dsimp only
        walk_at "kf1"
        refine ⟨sz_21 (by simp only [List.length_map, apls_len, List.length_cons, List.length_nil]; omega), ?_⟩
        unfold forD
        walk_at "kf1"; walk_at "tg"
        refine ⟨zp (by omega), call a 1 _ _ (by simp only [Pg.hgt]; omega) (by simp only [Pg.psz]; omega) hs.2 ?_⟩
        try dsimp only
        walk_at "kf1"
        refine ⟨sz_21 (by simp only [List.length_map, List.length_append, apls_len, List.length_cons, List.length_nil]; omega), ?_⟩
        unfold forD
        walk_at "kf1"
        rw [← List.map_append]
        exact hR
      | pair f a =>
        simp only [Pg.hgt, Pg.psz, Pg.sok, Bool.and_eq_true] at hn hz zp hs
        simp only [Pg.ins, List.map_cons, List.map_nil]
        walk_at "kf1"
        simp only [enum2]
        unfold forD
        walk_at "kf1"; walk_at "tg"
        refine ⟨zp (by omega), call f 0 _ _ (by simp only [Pg.hgt]; omega) (by simp only [Pg.psz]; omega) hs.1 ?_⟩
        try dsimp only
        walk_at "kf1"
        refine ⟨sz_21 (by simp only [List.length_map, apls_len, List.length_cons, List.length_nil]; omega), ?_⟩
        unfold forD
        walk_at "kf1"; walk_at "tg"
        refine ⟨zp (by omega), call a 1 _ _ (by simp only [Pg.hgt]; omega) (by simp only [Pg.psz]; omega) hs.2 ?_⟩
        try dsimp only
        walk_at "kf1"
        refine ⟨sz_21 (by simp only [List.length_map, List.length_append, apls_len, List.length_cons, List.length_nil]; omega), ?_⟩
        unfold forD
        walk_at "kf1"
        rw [← List.map_append]
        exact hR
      | first f =>
        simp only [Pg.hgt, Pg.psz, Pg.sok] at hn hz zp hs
        simp only [Pg.ins, List.map_cons, List.map_nil]
        walk_at "kf1"
        simp only [enum1]
        unfold forD
        walk_at "kf1"; walk_at "tg"
        refine ⟨zp (by omega), call f 0 _ _ (by simp only [Pg.hgt]; omega) (by simp only [Pg.psz]; omega) hs ?_⟩
        try dsimp only
        walk_at "kf1"
        refine ⟨sz_21 (by simp only [List.length_map, apls_len, List.length_cons, List.length_nil]; omega), ?_⟩
        unfold forD
        walk_at "kf1"
        exact hR
      | second f =>
        simp only [Pg.hgt, Pg.psz, Pg.sok] at hn hz zp hs
        simp only [Pg.ins, List.map_cons, List.map_nil]
        walk_at "kf1"
        simp only [enum1]
        unfold forD
        walk_at "kf1"; walk_at "tg"
        refine ⟨zp (by omega), call f 0 _ _ (by simp only [Pg.hgt]; omega) (by simp only [Pg.psz]; omega) hs ?_⟩
        try dsimp only
        walk_at "kf1"
        refine ⟨sz_21 (by simp only [List.length_map, apls_len, List.length_cons, List.length_nil]; omega), ?_⟩
        unfold forD
        walk_at "kf1"
        exact hR
    · intro N hN
      have sw : ∀ (u : Str) (b : Bool), PyData.strOk u = true → decide (u ∈ NT2) = b → ∀ (O : Ow) (Q : VD), rInD true (.str u) (.lst [.str (Str.ofString "name"), .str (Str.ofString "thing")]) O Q = Q (.bl (true ^^ b)) O := fun u b h1 h2 O Q => by rw [← h2]; exact rIn_nt h1
      cases p with
      | nm x =>
        simp only [dP, Pg.ins] at hN ⊢
        walk_at "kf1"; walk_at "tg"; walk_at "kf1"; walk_at "tg"
        rw [sw _ true sw_name (by decide +kernel)]
        walk_at "kf1"
        exact hN _ _ ⟨rfl, rfl⟩
      | thing =>
        simp only [dP, Pg.ins] at hN ⊢
        walk_at "kf1"; walk_at "tg"; walk_at "kf1"; walk_at "tg"
        rw [sw _ true sw_thing (by decide +kernel)]
        walk_at "kf1"
        exact hN _ _ ⟨rfl, rfl⟩
      | take x k b =>
        simp only [dP, Pg.ins, List.map_cons, List.map_nil] at hN ⊢
        walk_at "kf1"; walk_at "tg"; walk_at "kf1"; walk_at "tg"
        exact hN _ _ ⟨rfl, rfl⟩
      | give f b =>
        simp only [dP, Pg.ins, List.map_cons, List.map_nil] at hN ⊢
        walk_at "kf1"; walk_at "tg"; walk_at "kf1"; walk_at "tg"
        rw [sw _ false sw_give (by decide +kernel)]
        walk_at "kf1"
        rw [sl1_3]
        exact hN _ _ ⟨rfl, rfl⟩
      | pair f b =>
        simp only [dP, Pg.ins, List.map_cons, List.map_nil] at hN ⊢
        walk_at "kf1"; walk_at "tg"; walk_at "kf1"; walk_at "tg"
        rw [sw _ false sw_pair (by decide +kernel)]
        walk_at "kf1"
        rw [sl1_3]
        exact hN _ _ ⟨rfl, rfl⟩
      | first f =>
        simp only [dP, Pg.ins, List.map_cons, List.map_nil] at hN ⊢
        walk_at "kf1"; walk_at "tg"; walk_at "kf1"; walk_at "tg"
        rw [sw _ false sw_first (by decide +kernel)]
        walk_at "kf1"
        rw [sl1_2]
        exact hN _ _ ⟨rfl, rfl⟩
      | second f =>
        simp only [dP, Pg.ins, List.map_cons, List.map_nil] at hN ⊢
        walk_at "kf1"; walk_at "tg"; walk_at "kf1"; walk_at "tg"
        rw [sw _ false sw_second (by decide +kernel)]
        walk_at "kf1"
        rw [sl1_2]
        exact hN _ _ ⟨rfl, rfl⟩
end
end Kf
namespace Kf
open PySem PySem.Spec L2
open PyProof.Rows hiding St
local macro_rules | `(tactic| walk_at "kf") => `(tactic| simp (config := { failIfUnchanged := false }) only [startD, ap_fiEnumT, asT1_t, ap_fKGet, asStr_s, ap_fKIn, ap_fKIx, ap_gAsgL, rUnl_l, ap_fiRng3, asR3_i, rSplitO_s, ap_fOrL, rOrL_l, ap_fLcK, ap_gForK, ap_fMaxD, rMaxD_l, rMaxL_l, ap_fCallXD, ap_gForE, asLE_l, ap_fFrz, ap_fDicO, ap_fDGet, ap_fDGet1, ap_fDGet2, ap_gDPut, ap_fIsiT, ap_gForR, rRep_l, isT_i, isT_s, isT_b, isT_n, isT_t, isT_l, ap_gSeq, ap_gIf, ap_gRet, ap_gNext, ap_gSet, ap_gAsg, ap_gPar, ap_gDrop, ap_gRetF, ap_gRetN, ap_gFor, ap_gSetIx, ap_gBreak, ap_fRev, ap_fiRevR, asIR_i, rRev_l, ap_fCallX, ap_gRaise, ap_gTry, ap_gTryAs, ap_gNever, ap_fEdic, ap_fTest, ap_fOp, ap_fVar, envGet_s, patGet_s, ap_fC, ap_fCB, ap_fCons, ap_fNil, ap_fCall, ap_fAnd, ap_fOr, ap_fNot, ap_fAndV, ap_fOrV, ap_fNotV, ap_fIf, ap_fTup, ap_fLst, ap_fLstO, ap_fChain, ap_fUn, ap_fBM, ap_fBM0, ap_fPool, rPool_i, ap_fSl, ap_fPart, ap_fNoPart, asI_i, rSl_l, ap_fiRng1, ap_fiRng2, ap_fiList, ap_fiTup, ap_fiStr, ap_fiEnum, ap_fiZip, ap_fiRev, asL_l, asT_t, asSg_s, asR1_i, asR2_i, asL1_l, asL2_l, ap_fLc, ap_fLcO, ap_fYes, wipeD, lcD, isi_i_int, isi_i_bool, isi_i_str, isi_i_tuple, isi_i_list, isi_i_dict, isi_b_int, isi_b_bool, isi_b_str, isi_b_tuple, isi_b_list, isi_b_dict, isi_s_int, isi_s_bool, isi_s_str, isi_s_tuple, isi_s_list, isi_s_dict, isi_t_int, isi_t_bool, isi_t_str, isi_t_tuple, isi_t_list, isi_t_dict, isi_l_int, isi_l_bool, isi_l_str, isi_l_tuple, isi_l_list, isi_l_dict, isi_n_int, isi_n_bool, isi_n_str, isi_n_tuple, isi_n_list, isi_n_dict, isi_d_int, isi_d_bool, isi_d_str, isi_d_tuple, isi_d_list, isi_d_dict,
  deref_tup, deref_lst, deref_int, deref_str, deref_bl, deref_non, deref_scr, rLt_i, rLt_s, rLe_i, rLe_s, rInts_i, rInts0_i, rAdd_i, rAdd_s, rAdd_l, rAdd_t, rCatO_l, rNeg_i, rLen_t, rLen_l, rLen_c, rLen_s, rMax_i, rMin_i, rInt_i, rInt_b, rDivmod_i, ap_gAug, rStr_i, rList_l, rList_t, rListO_l, rListO_t, rTup_l, rTup_t,
  rIx_t0, rIx_t1, rIx_t2, rIx_t3, rIx_l0, rIx_l1, rIx_l2, rIsN_x, isNon_t, isNon_n, isNon_i, isNon_s, isNon_l, rEq_i, rEq_b, rEq_i2, rEq_b2, rJoin_m, rSplit_s, tyOk_l, tyOk_s, patD_nm, patD_tp, patDs_nil, patDs_cons, Option.bind_some, notX, notX',
  List.map_cons, List.map_nil, List.length_cons, List.length_nil, List.cons_append, List.nil_append, List.append_nil, List.replicate, List.getElem?_cons_zero, List.getElem?_cons_succ, List.set_cons_zero, List.set_cons_succ, updO_same, updO_updO,
  Nat.reduceSub, Nat.reduceAdd, Nat.reduceLeDiff, Nat.zero_add, Int.cast_ofNat_Int, Int.natCast_zero, Int.natCast_one, Int.reduceLT, Int.reduceLE, Int.reduceEq, Int.reduceAdd, Int.reduceSub, Int.reduceNeg, decide_true, decide_false, if_true, if_false, Bool.false_eq_true, eq_self, reduceIte, Bool.true_eq_false, decide_eq_true_eq, Bool.not_true, Bool.not_false, Bool.not_eq_true', decide_eq_false_iff_not, exists_eq_left', exists_eq_left, D.bl.injEq, true_and, and_true, not_true_eq_false, not_false_eq_true])
local macro_rules | `(tactic| walk_at "len") => `(tactic| (intro ds O R RE h; first | (obtain ⟨e, _⟩ := h; subst e; rfl) | (obtain ⟨_, e, _⟩ := h; subst e; rfl) | (obtain ⟨_, _, e, _⟩ := h; subst e; rfl) | (obtain ⟨_, _, _, e, _⟩ := h; subst e; rfl) | (obtain ⟨_, _, _, _, e, _⟩ := h; subst e; rfl) | (obtain ⟨_, _, _, _, _, e, _⟩ := h; subst e; rfl) | (obtain ⟨_, _, _, _, _, _, e, _⟩ := h; subst e; rfl) | (obtain ⟨_, _, _, _, _, _, _, e, _⟩ := h; subst e; rfl) | (obtain ⟨_, _, _, _, _, _, _, _, e, _⟩ := h; subst e; rfl) | (obtain ⟨_, _, _, _, _, _, _, _, _, e, _⟩ := h; subst e; rfl)))
local macro_rules | `(tactic| walk_at "kf1") => `(tactic| simp (config := { failIfUnchanged := false }) only [startD, ap_fiEnumT, asT1_t, ap_fKGet, asStr_s, ap_fKIn, ap_fKIx, ap_gAsgL, rUnl_l, ap_fiRng3, asR3_i, rSplitO_s, ap_fOrL, rOrL_l, ap_fLcK, ap_gForK, ap_fMaxD, rMaxD_l, rMaxL_l, ap_fCallXD, ap_gForE, asLE_l, ap_fFrz, ap_fDicO, ap_fDGet, ap_fDGet1, ap_fDGet2, ap_gDPut, ap_fIsiT, ap_gForR, rRep_l, isT_i, isT_s, isT_b, isT_n, isT_t, isT_l, ap_gIf, ap_gRet, ap_gNext, ap_gSet, ap_gAsg, ap_gPar, ap_gDrop, ap_gRetF, ap_gRetN, ap_gFor, ap_gSetIx, ap_gBreak, ap_fRev, ap_fiRevR, asIR_i, rRev_l, ap_fCallX, ap_gRaise, ap_gTry, ap_gTryAs, ap_gNever, ap_fEdic, ap_fTest, ap_fOp, ap_fVar, envGet_s, patGet_s, ap_fC, ap_fCB, ap_fCons, ap_fNil, ap_fCall, ap_fAnd, ap_fOr, ap_fNot, ap_fAndV, ap_fOrV, ap_fNotV, ap_fIf, ap_fTup, ap_fLst, ap_fLstO, ap_fChain, ap_fUn, ap_fBM, ap_fBM0, ap_fPool, rPool_i, ap_fSl, ap_fPart, ap_fNoPart, asI_i, rSl_l, ap_fiRng1, ap_fiRng2, ap_fiList, ap_fiTup, ap_fiStr, ap_fiEnum, ap_fiZip, ap_fiRev, asL_l, asT_t, asSg_s, asR1_i, asR2_i, asL1_l, asL2_l, ap_fLc, ap_fLcO, ap_fYes, wipeD, lcD, isi_i_int, isi_i_bool, isi_i_str, isi_i_tuple, isi_i_list, isi_i_dict, isi_b_int, isi_b_bool, isi_b_str, isi_b_tuple, isi_b_list, isi_b_dict, isi_s_int, isi_s_bool, isi_s_str, isi_s_tuple, isi_s_list, isi_s_dict, isi_t_int, isi_t_bool, isi_t_str, isi_t_tuple, isi_t_list, isi_t_dict, isi_l_int, isi_l_bool, isi_l_str, isi_l_tuple, isi_l_list, isi_l_dict, isi_n_int, isi_n_bool, isi_n_str, isi_n_tuple, isi_n_list, isi_n_dict, isi_d_int, isi_d_bool, isi_d_str, isi_d_tuple, isi_d_list, isi_d_dict,
  deref_tup, deref_lst, deref_int, deref_str, deref_bl, deref_non, deref_scr, rLt_i, rLt_s, rLe_i, rLe_s, rInts_i, rInts0_i, rAdd_i, rAdd_s, rAdd_l, rAdd_t, rCatO_l, rNeg_i, rLen_t, rLen_l, rLen_c, rLen_s, rMax_i, rMin_i, rInt_i, rInt_b, rDivmod_i, ap_gAug, rStr_i, rList_l, rList_t, rListO_l, rListO_t, rTup_l, rTup_t,
  rIx_t0, rIx_t1, rIx_t2, rIx_t3, rIx_l0, rIx_l1, rIx_l2, rIsN_x, isNon_t, isNon_n, isNon_i, isNon_s, isNon_l, rEq_i, rEq_b, rEq_i2, rEq_b2, rJoin_m, rSplit_s, tyOk_l, tyOk_s, patD_nm, patD_tp, patDs_nil, patDs_cons, Option.bind_some, notX, notX',
  List.map_cons, List.map_nil, List.length_cons, List.length_nil, List.cons_append, List.nil_append, List.append_nil, List.replicate, List.getElem?_cons_zero, List.getElem?_cons_succ, List.set_cons_zero, List.set_cons_succ, updO_same, updO_updO,
  Nat.reduceSub, Nat.reduceAdd, Nat.reduceLeDiff, Nat.zero_add, Int.cast_ofNat_Int, Int.natCast_zero, Int.natCast_one, Int.reduceLT, Int.reduceLE, Int.reduceEq, Int.reduceAdd, Int.reduceSub, Int.reduceNeg, decide_true, decide_false, if_true, if_false, Bool.false_eq_true, eq_self, reduceIte, Bool.true_eq_false, decide_eq_true_eq, Bool.not_true, Bool.not_false, Bool.not_eq_true', decide_eq_false_iff_not, exists_eq_left', exists_eq_left, D.bl.injEq, true_and, and_true, not_true_eq_false, not_false_eq_true])
section
variable {P : Program} {w : World} {K : PySem.W.Frag} {mg : Str → Option Value} {base : Heap}
local macro_rules | `(tactic| walk_at "tg") => `(tactic| simp (config := { failIfUnchanged := false }) only [te_name_take, te_name_give, te_name_pair, te_name_first, te_name_second, te_name_to, te_name_both, te_name_one, te_name_mark, te_name_name, te_name_thing, te_name_at, te_thing_take, te_thing_give, te_thing_pair, te_thing_first, te_thing_second, te_thing_to, te_thing_both, te_thing_one, te_thing_mark, te_thing_name, te_thing_thing, te_thing_at, te_take_take, te_take_give, te_take_pair, te_take_first, te_take_second, te_take_to, te_take_both, te_take_one, te_take_mark, te_take_name, te_take_thing, te_take_at, te_give_take, te_give_give, te_give_pair, te_give_first, te_give_second, te_give_to, te_give_both, te_give_one, te_give_mark, te_give_name, te_give_thing, te_give_at, te_pair_take, te_pair_give, te_pair_pair, te_pair_first, te_pair_second, te_pair_to, te_pair_both, te_pair_one, te_pair_mark, te_pair_name, te_pair_thing, te_pair_at, te_first_take, te_first_give, te_first_pair, te_first_first, te_first_second, te_first_to, te_first_both, te_first_one, te_first_mark, te_first_name, te_first_thing, te_first_at, te_second_take, te_second_give, te_second_pair, te_second_first, te_second_second, te_second_to, te_second_both, te_second_one, te_second_mark, te_second_name, te_second_thing, te_second_at, te_mark_take, te_mark_give, te_mark_pair, te_mark_first, te_mark_second, te_mark_to, te_mark_both, te_mark_one, te_mark_mark, te_mark_name, te_mark_thing, te_mark_at, te_one_take, te_one_give, te_one_pair, te_one_first, te_one_second, te_one_to, te_one_both, te_one_one, te_one_mark, te_one_name, te_one_thing, te_one_at, te_to_take, te_to_give, te_to_pair, te_to_first, te_to_second, te_to_to, te_to_both, te_to_one, te_to_mark, te_to_name, te_to_thing, te_to_at, te_both_take, te_both_give, te_both_pair, te_both_first, te_both_second, te_both_to, te_both_both, te_both_one, te_both_mark, te_both_name, te_both_thing, te_both_at, te_at_take, te_at_give, te_at_pair, te_at_first, te_at_second, te_at_to, te_at_both, te_at_one, te_at_mark, te_at_name, te_at_thing, te_at_at, ti4_name, ti4_thing, ti4_take, ti4_give, ti4_pair, ti4_first, ti4_second, ti2_name, ti2_thing, ti2_take, ti2_give, ti2_pair, ti2_first, ti2_second, szT_0, szT_1, szT_2, szT_3, szT_4, szT_5, szT_6, szT_7, szT_8, szT_9, szT_10, szT_11, szT_12, Bool.not_true, Bool.not_false, true_and])
theorem pth_ints (q : List Int) (h : q.length ≤ 1000) : Pth (dI q) := ⟨isPy_dI q, by have := dp_ints q; show dp (.lst (q.map .int)) ≤ 100; omega, fun es e => by cases e; rw [List.length_map]; exact h⟩
def spOdd : DSp := fun ds O R _ => ∃ (pa : Addr) (q : List Int), ds = [.ref pa, dI q] ∧ O pa = some .pool ∧ q.length ≤ 900 ∧ ∀ d : D, Pth d → R d O
theorem pth_put (q : List Int) (h : q.length ≤ 900) (x : D) (hx : isPy x = true) (hd : dp x ≤ 50) : Pth (.lst (q.map .int ++ [x])) := by
  refine ⟨?_, ?_, fun es e => ?_⟩
  · simp only [isPy]
    refine isPys_of44 fun d hd => ?_
    rcases List.mem_append.mp hd with h | h
    · obtain ⟨i, _, rfl⟩ := List.mem_map.mp h; rfl
    · rw [List.mem_singleton.mp h]; exact hx
  · rw [dpL]
    have : PyData.depthAll (toPys (q.map .int ++ [x])) ≤ 50 := dps_le fun d hd' => by
      rcases List.mem_append.mp hd' with h | h
      · obtain ⟨i, _, rfl⟩ := List.mem_map.mp h; rw [dp_int]; omega
      · rw [List.mem_singleton.mp h]; exact hd
    omega
  · cases e; rw [List.length_append, List.length_map, List.length_singleton]; omega
theorem ok_odd (T : Tx K mg) : FO__law_odd P w base T 2 spOdd := by
  refine fnd__law_odd T (ok_take T.n__law_take) (by walk_at "len") ?_
  rintro ds O R RE ⟨pa, q, rfl, hp, hq, hR⟩
  unfold g__law_odd
  refine gSeq_step ?_
  walk_at "kf1"
  have z1 : (q.map D.int).length + 1 ≤ sizeLine := sz_21 (by rw [List.length_map]; omega)
  refine ⟨by decide, z1, by decide, z1, by decide, z1, by decide, z1, by decide, ?_⟩
  refine gSeq_step ?_
  walk_at "kf1"
  walk_at "tg"
  have sw0 : PyData.strOk (Str.ofString "0") = true := by decide +kernel
  have key : ∃ L : List D, [D.non, D.tup (q.map .int), D.lst (q.map .int ++ [D.int 7]), D.lst (q.map .int ++ [D.non]), D.lst (q.map .int ++ [D.bl true]), D.str (Str.ofString "0"), D.int 7, D.lst (q.map .int ++ [D.int (-1)])] ++ [D.lst [dI q], D.lst (q.map .int ++ [D.str (Str.ofString "0")])] = L ∧ L.length = 10 ∧ ∀ d ∈ L, Pth d := by
    refine ⟨_, rfl, rfl, fun d hd => ?_⟩
    simp only [List.cons_append, List.nil_append, List.mem_cons, List.not_mem_nil, or_false] at hd
    have d0 : ∀ i : Int, dp (.int i) ≤ 50 := fun i => by rw [dp_int]; omega
    rcases hd with rfl | rfl | rfl | rfl | rfl | rfl | rfl | rfl | rfl | rfl
    · exact ⟨rfl, by simp [dp, toPy, PyData.depth], fun es e => by cases e⟩
    · refine ⟨by simp only [isPy, isPys_ints], ?_, fun es e => by cases e⟩
      rw [dpT]
      have := dp_ints q
      rw [dpL] at this
      omega
    · exact pth_put q hq _ rfl (d0 _)
    · exact pth_put q hq _ rfl (by simp [dp, toPy, PyData.depth])
    · exact pth_put q hq _ rfl (by simp [dp, toPy, PyData.depth])
    · exact ⟨by simp only [isPy, sw0], by rw [dpS]; omega, fun es e => by cases e⟩
    · exact ⟨rfl, by rw [dp_int]; omega, fun es e => by cases e⟩
    · exact pth_put q hq _ rfl (d0 _)
    · refine ⟨by simp only [isPy, isPys, dI, isPys_ints, Bool.and_true], ?_, fun es e => by cases e; simp⟩
      rw [dpL, dpC, dpN]
      have := dp_ints q
      show max (dp (.lst (q.map .int))) 0 + 1 ≤ 100
      omega
    · exact pth_put q hq _ (by simp only [isPy, sw0]) (by rw [dpS]; omega)
  obtain ⟨L, e, hl, hm⟩ := key
  refine ⟨z1, take_of hp (by decide) (by decide) fun r h0 h1 => ?_⟩
  exact rIx_any h0 (by simp only [List.length_cons, List.length_nil]; omega) fun v hv => hR v (hm v (by rw [← e]; exact hv))
/-- what is known of a drawn case -/
structure Cs44 (kn : List (Str × Kd)) (k : Kd) (p : Pg) : Prop where
  d : KnD kn 0
  o : KnOk kn
  l : kn.length ≤ 8
  ko : k.ok = true
  kd : k.depth ≤ 40
  s : p.sok = true
  a : p.ka
  q : p.q.qk
  z : p.psz ≤ 400
  dp : p.dpt ≤ 150
  h : p.hgt ≤ 70
def spRight44 : DSp := fun ds O R _ => ∃ (kn : List (Str × Kd)) (k : Kd) (p : Pg) (a b : D), ds = [.lst (kn.map kv), dK k, dP p, a, b] ∧ Cs44 kn k p ∧ Pth a ∧ Pth b ∧ R (.bl true) O
theorem ok_right44 (T : Tx K mg) : FO__law_right P w base T 205 spRight44 := by
  refine fnd__law_right T (fnUp (ok_lrg T) (by omega)) (ok_ring T) (by walk_at "len") ?_
  rintro ds O R RE ⟨kn, k, p, a, b, rfl, c, ha, hb, hR⟩
  have hh := c.h
  unfold g__law_right
  refine gSeq_step ?_
  walk_at "kf1"
  refine ⟨kn, k, p, a, b, rfl, c.d, c.o, c.l, c.ko, c.kd, c.s, c.a, c.dp, by omega, ha, hb, ?_⟩
  try dsimp only
  refine gSeq_step ?_
  walk_at "kf1"
  refine ⟨kn, k, _, a, b, rfl, .inl ⟨p, rfl, c.d, c.o, c.l, c.ko, c.kd, c.s, c.a, c.q, c.z, c.dp, c.h, ha, hb, ?_⟩⟩
  walk_at "kf1"
  exact hR
theorem lg_redex {kn : List (Str × Kd)} {k d : Kd} {x : Str} {b a : Pg} {t : Nat} : lg kn k (.give (.take x d b) a) t = false := by
  cases k with
  | one => rw [lg_one]; rfl
  | mk m => rw [lg_mk, al_give, al_take]; rfl
  | both c e => exact lg_npair kn t c e _ (by intro f s h; cases h)
  | to c e => exact lg_ntake kn t c e _ (by intro f s q h; cases h)
theorem ok_law (T : Tx K mg) : FO_law P w base T 206 (lawSp 63) := by
  refine fndG_law T (ok_pool T.n__law_pool T.m_len) (fnUp (ok_row54 T) (by omega)) (fnUp (ok_lkind T 4) (by omega)) (ok_take T.n__law_take) (fnUp (ok_longed T 24) (by omega)) (fnUp (ok_apls T 80) (by omega)) (fnUp (ok_odd T) (by omega)) (fnUp (ok_ring T) (by omega)) (fnUp (ok_right44 T) (by omega)) (by walk_at "len") ?_
  rintro ds O R RE ⟨ns, rfl, hl, hR⟩
  unfold g_law
  refine gSeq_step ?_
  walk_at "kf1"
  obtain ⟨b1, b2, b3⟩ := rngBound ns.length 8 (by decide) (by decide)
  refine ⟨b1, b2, forD_inv (fun ρ O => ∃ x1 x2 x3 x4 x5 x6 x7 x8 x9 x10 x11 x12, ρ = [some (.scr ns), x1, x2, x3, x4, x5, x6, x7, x8, x9, x10, x11, x12]) _ _ _ ⟨_, _, _, _, _, _, _, _, _, _, _, _, rfl⟩ (fun ρ O _ => ?_) ?_⟩
  · walk_at "kf"
    exact ⟨_, Sub.refl _, hR _⟩
  rintro d hd ρ O' ⟨x1, x2, x3, x4, x5, x6, x7, x8, x9, x10, x11, x12, rfl⟩ Nx hN
  obtain ⟨i, hi, rfl⟩ := mem_rangeD hd
  walk_at "kf1"
  refine gSeq_step ?_
  walk_at "kf1"
  refine ⟨ns, _, rfl, by omega, by omega, fun pa hpa => ?_⟩
  try dsimp only
  refine gSeq_step ?_
  walk_at "kf1"
  refine ⟨pa, rfl, updO_same, fun kn hkn => ?_⟩
  try dsimp only
  have hpp : updO O' pa .pool pa = some .pool := updO_same
  generalize updO O' pa .pool = O1 at hpp ⊢
  refine gSeq_step ?_
  walk_at "kf1"
  refine take_of hpp (by decide) (by decide) fun l hl0 hl1 => ?_
  walk_at "kf1"
  walk_at "tg"
  refine ⟨pa, (1 + l).toNat, AB, by rw [show (((1 + l).toNat : Nat) : Int) = 1 + l by omega]; rfl, hpp, by omega, by omega, by omega, by decide, by decide, fun k hkl hko => ?_⟩
  try dsimp only
  have hkd := k.depth_lt
  refine gSeq_step ?_
  walk_at "kf1"
  refine take_of hpp (by decide) (by decide) fun r hr0 hr1 => ?_
  walk_at "kf1"
  walk_at "tg"
  have hLd : Ld kn 0 := ⟨hkn.knd, hkn.kns, fun q hq => hkn.kd q hq, hkn.p, hkn.q, fun q hq => rown_name _ (hkn.nm q hq)⟩
  refine ⟨pa, kn, k, 0, (1 + r).toNat, by rw [show (((1 + r).toNat : Nat) : Int) = 1 + r by omega]; rfl, hpp, hLd, hko, by omega, by omega, by omega, by omega, fun p hp => ?_⟩
  obtain ⟨p1, p2, p3, p4, p5, p6, p7⟩ := hp
  have hz : p.psz ≤ 319 := by
    have e1 : NN (1 + r).toNat + 1 ≤ 80 := by
      have : r = 0 ∨ r = 1 ∨ r = 2 := by omega
      rcases this with rfl | rfl | rfl <;> decide
    have e2 : k.leaves ≤ 4 := by omega
    have := Nat.mul_le_mul e2 e1
    omega
  have hc : Cs44 kn k p := ⟨hLd.d, ⟨fun q hq => (hLd.d.2.2 q hq).1, fun q hq => by
    obtain ⟨a, b⟩ := hkn.kd q hq
    have := q.2.depth_lt
    exact ⟨(hLd.d.2.2 q hq).2.1, by omega⟩⟩, by have := hkn.l; omega, (over_d hko (by omega)).1, by omega, p2, p6, p7, by omega, by omega, by omega⟩
  try dsimp only
  refine gSeq_step ?_
  walk_at "kf1"
  walk_at "tg"
  refine ⟨p, [], rfl, by omega, p2, by omega, by simp only [List.length_nil]; omega, ?_⟩
  try dsimp only
  have hAl : ((apls p []).map dI).length = p.psz := by rw [List.length_map, apls_len]
  have hp1 : 1 ≤ p.psz := by cases p <;> simp only [Pg.psz] <;> omega
  have hAm : ∀ q ∈ apls p [], q.length ≤ 70 := fun q hq => by have := apls_mem p [] q hq; simp only [List.length_nil] at this; omega
  refine gSeq_step ?_
  walk_at "kf1"
  rw [hAl]
  refine take_of hpp (by omega) (by omega) fun j hj0 hj1 => ?_
  refine rIx_any hj0 (by rw [hAl]; exact hj1) fun v hv => ?_
  obtain ⟨qa, hqa, rfl⟩ := List.mem_map.mp hv
  have hqal := hAm qa hqa
  refine gSeq_step ?_
  walk_at "kf1"
  refine lcA_filter (fun q : List Int => decide (q.take qa.length = qa)) dI dI (apls p []) [] _ (sz_small (by rw [apls_len, List.length_nil]; omega)) (fun q hq Q1 Q2 g1 g2 => ?_) ?_
  · walk_at "kf1"
    rw [List.length_map, cut_take44, ← List.map_take, rEq_dr (by rw [deref_lst]; simp only [isPy, isPys_ints]) (by rw [deref_lst]; simp only [isPy, isPys_ints]) (by rw [deref_lst]; have := dp_ints qa; omega), deref_lst, deref_lst, deq_l, deqs_I]
    by_cases hx : q.take qa.length = qa
    · rw [decide_eq_true hx]
      walk_at "kf1"
      exact g1 (decide_eq_true hx)
    · rw [decide_eq_false hx]
      walk_at "kf1"
      exact g2 (decide_eq_false hx)
  rw [List.nil_append]
  obtain ⟨S, hS⟩ : ∃ S, S = (apls p []).filter fun q => decide (q.take qa.length = qa) := ⟨_, rfl⟩
  rw [← hS]
  have hS1 : qa ∈ S := by rw [hS]; exact List.mem_filter.mpr ⟨hqa, decide_eq_true (List.take_length)⟩
  have hS2 : S.length ≤ p.psz := by rw [hS, ← apls_len p []]; exact List.length_filter_le _ _
  have hS3 : 1 ≤ S.length := List.length_pos_iff.mpr fun e => by rw [e] at hS1; cases hS1
  refine gSeq_step ?_
  walk_at "kf1"
  rw [List.length_map]
  refine take_of hpp (by omega) (by omega) fun j2 hj20 hj21 => ?_
  refine rIx_any hj20 (by rw [List.length_map]; exact hj21) fun v hv => ?_
  obtain ⟨qb, hqb, rfl⟩ := List.mem_map.mp hv
  have hqbl : qb.length ≤ 70 := by rw [hS] at hqb; exact hAm qb (List.mem_filter.mp hqb).1
  refine gSeq_step ?_
  walk_at "kf1"
  walk_at "tg"
  refine ⟨sz_21 (by rw [List.length_map]; omega), ?_⟩
  have hpa := pth_ints qa (by omega)
  have hpb := pth_ints qb (by omega)
  have hpl := pth_ints (1 :: qb) (by rw [List.length_cons]; omega)
  have hcd : ∀ (a b : D), Pth a → Pth b → ∀ (O : Ow) (R' : VD) (RE' : XD), R' (.bl false) O → spRing [.lst (kn.map kv), dK k, dP (.give (.take (Str.ofString "y") k (.nm (Str.ofString "y"))) p), a, b] O R' RE' := fun a b ha hb O R' RE' h => by
    have hy : PyData.strOk (Str.ofString "y") = true := by decide +kernel
    have hyn : isNameB (Str.ofString "y") = true := by decide +kernel
    have hcz := hc.z
    have hch := hc.h
    have hcp := hc.dp
    refine ⟨kn, k, _, a, b, rfl, .inl ⟨_, rfl, hc.d, hc.o, hc.l, hc.ko, hc.kd, by simp only [Pg.sok, hy, hc.ko, hc.s, Bool.and_self], ⟨⟨hc.ko, by omega, trivial⟩, hc.a⟩, ⟨⟨hyn, kk_of hko (by omega), hyn⟩, hc.q⟩, by simp only [Pg.psz]; omega, by simp only [Pg.dpt]; omega, by simp only [Pg.hgt]; omega, ha, hb, ?_⟩⟩
    rw [lg_redex, Bool.false_and]
    exact h
  refine gSeq_via44 (fun ρ O => O = O1 ∧ ∃ (a b : D) (x8 : Option D), Pth a ∧ Pth b ∧ ρ = [some (.scr ns), some (.int (0 + (i : Int))), some (.ref pa), some (.lst (kn.map kv)), some (dK k), some (dP p), some (.lst ((apls p []).map dI)), some a, x8, some b, some (dI (1 :: qb)), x11, x12]) ?_ ?_
  rotate_left
  · intro N hN2
    walk_at "kf1"
    refine take_of hpp (by decide) (by decide) fun c0 hc0 hc1 => ?_
    walk_at "kf1"
    split
    · refine gSeq_step ?_
      walk_at "kf1"
      refine ⟨pa, qa, rfl, hpp, by omega, fun oa hoa => ?_⟩
      try dsimp only
      walk_at "tg"
      walk_at "kf1"
      refine ⟨pa, qb, rfl, hpp, by omega, fun ob hob => ?_⟩
      try dsimp only
      refine take_of hpp (by decide) (by decide) fun c3 hc30 hc31 => ?_
      refine rIx_any hc30 (by simp only [List.length_cons, List.length_nil]; omega) fun v hv => ?_
      simp only [List.mem_cons, List.not_mem_nil, or_false] at hv
      rcases hv with rfl | rfl | rfl
      · walk_at "kf1"
        exact hN2 _ _ ⟨rfl, _, _, _, hoa, hpb, rfl⟩
      · walk_at "kf1"
        exact hN2 _ _ ⟨rfl, _, _, _, hpa, hob, rfl⟩
      · walk_at "kf1"
        exact hN2 _ _ ⟨rfl, _, _, _, hpb, hpa, rfl⟩
    · exact hN2 _ _ ⟨rfl, _, _, _, hpa, hpb, rfl⟩
  rintro ρ O1 ⟨rfl, a, b, x8', ha, hb, rfl⟩
  walk_at "kf1"
  refine take_of hpp (by decide) (by decide) fun c1 hc10 hc11 => ?_
  walk_at "kf1"
  split
  · refine gSeq_step ?_
    walk_at "kf1"
    walk_at "tg"
    rw [show D.tup [.str (Str.ofString "give"), .tup [.str (Str.ofString "take"), .str (Str.ofString "y"), dK k, .tup [.str (Str.ofString "name"), .str (Str.ofString "y")]], dP p] = dP (.give (.take (Str.ofString "y") k (.nm (Str.ofString "y"))) p) from rfl]
    have pn : Pth (.lst []) := pth_ints [] (by simp)
    have p1i : Pth (.lst [.int 1]) := pth_ints [1] (by simp)
    have p2i : Pth (.lst [.int 1, .int 1]) := pth_ints [1, 1] (by simp)
    refine forD_inv (fun ρ O => O = O1 ∧ ∃ y11 y12 : Option D, ρ = [some (.scr ns), some (.int (0 + (i : Int))), some (.ref pa), some (.lst (kn.map kv)), some (dK k), some (dP (.give (.take (Str.ofString "y") k (.nm (Str.ofString "y"))) p)), some (.lst ((apls p []).map dI)), some a, x8', some b, some (dI (1 :: qb)), y11, y12]) _ _ _ ⟨rfl, _, _, rfl⟩ (fun ρ O ⟨_, _, _, e⟩ => hN _ _ ⟨_, _, _, _, _, _, _, _, _, _, _, _, e⟩) ?_
    rintro d hd ρ O2 ⟨rfl, y11, y12, rfl⟩ N2 hN2
    have pair : ∃ u v : D, d = .tup [u, v] ∧ Pth u ∧ Pth v := by
      simp only [List.mem_cons, List.not_mem_nil, or_false] at hd
      rcases hd with rfl | rfl | rfl | rfl
      · exact ⟨_, _, rfl, ha, hb⟩
      · exact ⟨_, _, rfl, pn, p1i⟩
      · exact ⟨_, _, rfl, pn, hpl⟩
      · exact ⟨_, _, rfl, p1i, p2i⟩
    obtain ⟨u, v, rfl, hu, hv⟩ := pair
    walk_at "kf1"
    refine hcd u v hu hv _ _ _ ?_
    try dsimp only
    rw [rIsB_b]
    walk_at "kf1"
    exact hN2 _ _ ⟨rfl, _, _, rfl⟩
  · refine take_of hpp (by decide) (by decide) fun c2 hc20 hc21 => ?_
    walk_at "kf1"
    split
    · refine gSeq_step ?_
      walk_at "kf1"
      walk_at "tg"
      have pn : Pth (.lst []) := pth_ints [] (by simp)
      have p1i : Pth (.lst [.int 1]) := pth_ints [1] (by simp)
      obtain ⟨ts, ets⟩ : ∃ ts, dP p = .tup ts := by cases p <;> exact ⟨_, rfl⟩
      rw [show ∀ Q : VD, rList1 [dP p] O1 Q = Q (.lst ts) O1 from fun Q => by rw [ets]; rfl]
      refine take_of hpp (by decide) (by decide) fun c3 hc30 hc31 => ?_
      refine rIx_any hc30 (by simp only [List.length_cons, List.length_nil]; omega) fun v hv => ?_
      have fin : ∀ v : D, Nx [some (.scr ns), some (.int (0 + (i : Int))), some (.ref pa), some (.lst (kn.map kv)), some (dK k), some v, some (.lst ((apls p []).map dI)), some a, x8', some b, some (dI (1 :: qb)), x11, x12] O1 := fun v => hN _ _ ⟨_, _, _, _, _, _, _, _, _, _, _, _, rfl⟩
      have odd : ∀ v : D, OddT v → _ := fun v hv => (⟨kn, k, v, _, _, rfl, .inr ⟨hv, (by dsimp only; rw [rIsB_b]; exact ⟨_, rfl, by rw [if_neg (by simp)]; exact fin v⟩)⟩⟩ : spRing [.lst (kn.map kv), dK k, v, .lst [], .lst [.int 1]] O1 (fun x O1 => rIsB true x (.bl false) O1 fun d O2 => ∃ k1, d = .bl k1 ∧ if k1 = true then VG R (.bl false) O2 else Nx [some (.scr ns), some (.int (0 + (i : Int))), some (.ref pa), some (.lst (kn.map kv)), some (dK k), some v, some (.lst ((apls p []).map dI)), some a, x8', some b, some (dI (1 :: qb)), x11, x12] O2) X0)
      simp only [List.mem_cons, List.not_mem_nil, or_false] at hv
      rcases hv with rfl | rfl | rfl | rfl | rfl
      · exact odd _ (.inl rfl)
      · exact odd _ (.inr (.inl rfl))
      · exact odd _ (.inr (.inr (.inl rfl)))
      · have hcz := hc.z
        have hch := hc.h
        have hcp := hc.dp
        refine ⟨kn, k, dP (.first p), _, _, rfl, .inl ⟨_, rfl, hc.d, hc.o, hc.l, hc.ko, hc.kd, hc.s, hc.a, hc.q, by simp only [Pg.psz]; omega, by simp only [Pg.dpt]; omega, by simp only [Pg.hgt]; omega, pn, p1i, ?_⟩⟩
        rw [show ringB kn (.first p) (.lst []) (.lst [.int 1]) = false by simp [ringB, plOf, dInts, partAt], Bool.and_false]
        dsimp only
        rw [rIsB_b]
        exact ⟨_, rfl, by rw [if_neg (by simp)]; exact fin _⟩
      · exact odd _ (.inr (.inr (.inr ⟨_, rfl⟩)))
    · refine ⟨kn, k, p, a, b, rfl, hc, ha, hb, ?_⟩
      walk_at "kf1"
      split
      · refine forD_inv (fun ρ O => O = O1 ∧ ∃ y11 y12 : Option D, ρ = [some (.scr ns), some (.int (0 + (i : Int))), some (.ref pa), some (.lst (kn.map kv)), some (dK k), some (dP p), some (.lst ((apls p []).map dI)), some a, x8', some b, some (dI (1 :: qb)), y11, y12]) _ _ _ ⟨rfl, _, _, rfl⟩ (fun ρ O ⟨_, _, _, e⟩ => hN _ _ ⟨_, _, _, _, _, _, _, _, _, _, _, _, e⟩) ?_
        rintro d hd ρ O2 ⟨rfl, y11, y12, rfl⟩ N2 hN2
        obtain ⟨u, hu, rfl⟩ := List.mem_map.mp hd
        walk_at "kf1"
        refine forD_inv (fun ρ O => O = O2 ∧ ∃ y12 : Option D, ρ = [some (.scr ns), some (.int (0 + (i : Int))), some (.ref pa), some (.lst (kn.map kv)), some (dK k), some (dP p), some (.lst ((apls p []).map dI)), some a, x8', some b, some (dI (1 :: qb)), some (dI u), y12]) _ _ _ ⟨rfl, _, rfl⟩ (fun ρ O ⟨h, _, e⟩ => hN2 _ _ ⟨h, _, _, e⟩) ?_
        rintro d hd ρ O3 ⟨rfl, y12, rfl⟩ N3 hN3
        obtain ⟨v, hv, rfl⟩ := List.mem_map.mp hd
        walk_at "kf1"
        refine ⟨kn, k, p, dI u, dI v, rfl, hc, pth_ints u (by have := hAm u hu; omega), pth_ints v (by have := hAm v hv; omega), ?_⟩
        walk_at "kf1"
        exact hN3 _ _ ⟨rfl, _, rfl⟩
      · exact hN _ _ ⟨_, _, _, _, _, _, _, _, _, _, _, _, rfl⟩
end
theorem fn_mk {K : PySem.W.Frag} {h : Heap} {mg : Str → Option Value} {x : Str} {st : Stmt} {ps : List Str} {f : Addr} {oc : Value} {od an : Option Addr} {osl : Array (Option Value)} {kV doc pm cdv ct : Value} (X : K.In h) (G : h.Ns mainGlobals mg)
    (a : PySem.W.nsIn K mainGlobals x = some (some (.ref f))) (l : K.lookup f = some ⟨oc, od, .func (PySem.W.fnOf x x (defArgs st) (defBody st) (defScope st) .none kV doc pm an cdv ct), osl⟩) (c : PySem.W.codeIn K cdv x = true) (k : PySem.W.keepIn K (.ref f) = true)
    (b : ∀ (kV doc pm : Value) (an : Option Addr) (cdv ct : Value) (us : List Value), us.length = ps.length → bindArgs (PySem.W.fnOf x x (defArgs st) (defBody st) (defScope st) .none kV doc pm an cdv ct) ⟨us, []⟩ = pure (ps.zip us)) :
    Fn K mg x st ps f (PySem.W.fnOf x x (defArgs st) (defBody st) (defScope st) .none kV doc pm an cdv ct) := ⟨fun_mk l c k, PySem.W.mg_of X G a, (fun_mk l c k).binds b⟩
set_option maxHeartbeats 0 in
theorem all_mk {l : PySem.W.OpenLaw} {w : World} {K : PySem.W.Frag} {h : Heap} {mg : Str → Option Value} {fa : Addr} (X : K.In h) (G : h.Ns mainGlobals mg) (hfa : mg "law" = some (.ref fa))
    {f_is_mark : Addr} {oc_is_mark kV_is_mark dc_is_mark pm_is_mark cd_is_mark ct_is_mark : Value} {od_is_mark an_is_mark : Option Addr} {sl_is_mark : Array (Option Value)}
    (a_is_mark : PySem.W.nsIn K mainGlobals "is_mark" = some (some (.ref f_is_mark)))
    (l_is_mark : K.lookup f_is_mark = some ⟨oc_is_mark, od_is_mark, .func (PySem.W.fnOf "is_mark" "is_mark" (defArgs s_is_mark) (defBody s_is_mark) (defScope s_is_mark) .none kV_is_mark dc_is_mark pm_is_mark an_is_mark cd_is_mark ct_is_mark), sl_is_mark⟩)
    (c_is_mark : PySem.W.codeIn K cd_is_mark "is_mark" = true) (k_is_mark : PySem.W.keepIn K (.ref f_is_mark) = true)
    {f_is_number : Addr} {oc_is_number kV_is_number dc_is_number pm_is_number cd_is_number ct_is_number : Value} {od_is_number an_is_number : Option Addr} {sl_is_number : Array (Option Value)}
    (a_is_number : PySem.W.nsIn K mainGlobals "is_number" = some (some (.ref f_is_number)))
    (l_is_number : K.lookup f_is_number = some ⟨oc_is_number, od_is_number, .func (PySem.W.fnOf "is_number" "is_number" (defArgs s_is_number) (defBody s_is_number) (defScope s_is_number) .none kV_is_number dc_is_number pm_is_number an_is_number cd_is_number ct_is_number), sl_is_number⟩)
    (c_is_number : PySem.W.codeIn K cd_is_number "is_number" = true) (k_is_number : PySem.W.keepIn K (.ref f_is_number) = true)
    {f_is_name : Addr} {oc_is_name kV_is_name dc_is_name pm_is_name cd_is_name ct_is_name : Value} {od_is_name an_is_name : Option Addr} {sl_is_name : Array (Option Value)}
    (a_is_name : PySem.W.nsIn K mainGlobals "is_name" = some (some (.ref f_is_name)))
    (l_is_name : K.lookup f_is_name = some ⟨oc_is_name, od_is_name, .func (PySem.W.fnOf "is_name" "is_name" (defArgs s_is_name) (defBody s_is_name) (defScope s_is_name) .none kV_is_name dc_is_name pm_is_name an_is_name cd_is_name ct_is_name), sl_is_name⟩)
    (c_is_name : PySem.W.codeIn K cd_is_name "is_name" = true) (k_is_name : PySem.W.keepIn K (.ref f_is_name) = true)
    {f_has_form : Addr} {oc_has_form kV_has_form dc_has_form pm_has_form cd_has_form ct_has_form : Value} {od_has_form an_has_form : Option Addr} {sl_has_form : Array (Option Value)}
    (a_has_form : PySem.W.nsIn K mainGlobals "has_form" = some (some (.ref f_has_form)))
    (l_has_form : K.lookup f_has_form = some ⟨oc_has_form, od_has_form, .func (PySem.W.fnOf "has_form" "has_form" (defArgs s_has_form) (defBody s_has_form) (defScope s_has_form) .none kV_has_form dc_has_form pm_has_form an_has_form cd_has_form ct_has_form), sl_has_form⟩)
    (c_has_form : PySem.W.codeIn K cd_has_form "has_form" = true) (k_has_form : PySem.W.keepIn K (.ref f_has_form) = true)
    {f_is_kind : Addr} {oc_is_kind kV_is_kind dc_is_kind pm_is_kind cd_is_kind ct_is_kind : Value} {od_is_kind an_is_kind : Option Addr} {sl_is_kind : Array (Option Value)}
    (a_is_kind : PySem.W.nsIn K mainGlobals "is_kind" = some (some (.ref f_is_kind)))
    (l_is_kind : K.lookup f_is_kind = some ⟨oc_is_kind, od_is_kind, .func (PySem.W.fnOf "is_kind" "is_kind" (defArgs s_is_kind) (defBody s_is_kind) (defScope s_is_kind) .none kV_is_kind dc_is_kind pm_is_kind an_is_kind cd_is_kind ct_is_kind), sl_is_kind⟩)
    (c_is_kind : PySem.W.codeIn K cd_is_kind "is_kind" = true) (k_is_kind : PySem.W.keepIn K (.ref f_is_kind) = true)
    {f_leaves_of : Addr} {oc_leaves_of kV_leaves_of dc_leaves_of pm_leaves_of cd_leaves_of ct_leaves_of : Value} {od_leaves_of an_leaves_of : Option Addr} {sl_leaves_of : Array (Option Value)}
    (a_leaves_of : PySem.W.nsIn K mainGlobals "leaves_of" = some (some (.ref f_leaves_of)))
    (l_leaves_of : K.lookup f_leaves_of = some ⟨oc_leaves_of, od_leaves_of, .func (PySem.W.fnOf "leaves_of" "leaves_of" (defArgs s_leaves_of) (defBody s_leaves_of) (defScope s_leaves_of) .none kV_leaves_of dc_leaves_of pm_leaves_of an_leaves_of cd_leaves_of ct_leaves_of), sl_leaves_of⟩)
    (c_leaves_of : PySem.W.codeIn K cd_leaves_of "leaves_of" = true) (k_leaves_of : PySem.W.keepIn K (.ref f_leaves_of) = true)
    {f_inner : Addr} {oc_inner kV_inner dc_inner pm_inner cd_inner ct_inner : Value} {od_inner an_inner : Option Addr} {sl_inner : Array (Option Value)}
    (a_inner : PySem.W.nsIn K mainGlobals "inner" = some (some (.ref f_inner)))
    (l_inner : K.lookup f_inner = some ⟨oc_inner, od_inner, .func (PySem.W.fnOf "inner" "inner" (defArgs s_inner) (defBody s_inner) (defScope s_inner) .none kV_inner dc_inner pm_inner an_inner cd_inner ct_inner), sl_inner⟩)
    (c_inner : PySem.W.codeIn K cd_inner "inner" = true) (k_inner : PySem.W.keepIn K (.ref f_inner) = true)
    {f_has_head : Addr} {oc_has_head kV_has_head dc_has_head pm_has_head cd_has_head ct_has_head : Value} {od_has_head an_has_head : Option Addr} {sl_has_head : Array (Option Value)}
    (a_has_head : PySem.W.nsIn K mainGlobals "has_head" = some (some (.ref f_has_head)))
    (l_has_head : K.lookup f_has_head = some ⟨oc_has_head, od_has_head, .func (PySem.W.fnOf "has_head" "has_head" (defArgs s_has_head) (defBody s_has_head) (defScope s_has_head) .none kV_has_head dc_has_head pm_has_head an_has_head cd_has_head ct_has_head), sl_has_head⟩)
    (c_has_head : PySem.W.codeIn K cd_has_head "has_head" = true) (k_has_head : PySem.W.keepIn K (.ref f_has_head) = true)
    {f_parts_left : Addr} {oc_parts_left kV_parts_left dc_parts_left pm_parts_left cd_parts_left ct_parts_left : Value} {od_parts_left an_parts_left : Option Addr} {sl_parts_left : Array (Option Value)}
    (a_parts_left : PySem.W.nsIn K mainGlobals "parts_left" = some (some (.ref f_parts_left)))
    (l_parts_left : K.lookup f_parts_left = some ⟨oc_parts_left, od_parts_left, .func (PySem.W.fnOf "parts_left" "parts_left" (defArgs s_parts_left) (defBody s_parts_left) (defScope s_parts_left) .none kV_parts_left dc_parts_left pm_parts_left an_parts_left cd_parts_left ct_parts_left), sl_parts_left⟩)
    (c_parts_left : PySem.W.codeIn K cd_parts_left "parts_left" = true) (k_parts_left : PySem.W.keepIn K (.ref f_parts_left) = true)
    {f_is_program : Addr} {oc_is_program kV_is_program dc_is_program pm_is_program cd_is_program ct_is_program : Value} {od_is_program an_is_program : Option Addr} {sl_is_program : Array (Option Value)}
    (a_is_program : PySem.W.nsIn K mainGlobals "is_program" = some (some (.ref f_is_program)))
    (l_is_program : K.lookup f_is_program = some ⟨oc_is_program, od_is_program, .func (PySem.W.fnOf "is_program" "is_program" (defArgs s_is_program) (defBody s_is_program) (defScope s_is_program) .none kV_is_program dc_is_program pm_is_program an_is_program cd_is_program ct_is_program), sl_is_program⟩)
    (c_is_program : PySem.W.codeIn K cd_is_program "is_program" = true) (k_is_program : PySem.W.keepIn K (.ref f_is_program) = true)
    {f_part_at : Addr} {oc_part_at kV_part_at dc_part_at pm_part_at cd_part_at ct_part_at : Value} {od_part_at an_part_at : Option Addr} {sl_part_at : Array (Option Value)}
    (a_part_at : PySem.W.nsIn K mainGlobals "part_at" = some (some (.ref f_part_at)))
    (l_part_at : K.lookup f_part_at = some ⟨oc_part_at, od_part_at, .func (PySem.W.fnOf "part_at" "part_at" (defArgs s_part_at) (defBody s_part_at) (defScope s_part_at) .none kV_part_at dc_part_at pm_part_at an_part_at cd_part_at ct_part_at), sl_part_at⟩)
    (c_part_at : PySem.W.codeIn K cd_part_at "part_at" = true) (k_part_at : PySem.W.keepIn K (.ref f_part_at) = true)
    {f_known_as : Addr} {oc_known_as kV_known_as dc_known_as pm_known_as cd_known_as ct_known_as : Value} {od_known_as an_known_as : Option Addr} {sl_known_as : Array (Option Value)}
    (a_known_as : PySem.W.nsIn K mainGlobals "known_as" = some (some (.ref f_known_as)))
    (l_known_as : K.lookup f_known_as = some ⟨oc_known_as, od_known_as, .func (PySem.W.fnOf "known_as" "known_as" (defArgs s_known_as) (defBody s_known_as) (defScope s_known_as) .none kV_known_as dc_known_as pm_known_as an_known_as cd_known_as ct_known_as), sl_known_as⟩)
    (c_known_as : PySem.W.codeIn K cd_known_as "known_as" = true) (k_known_as : PySem.W.keepIn K (.ref f_known_as) = true)
    {f_kind_here : Addr} {oc_kind_here kV_kind_here dc_kind_here pm_kind_here cd_kind_here ct_kind_here : Value} {od_kind_here an_kind_here : Option Addr} {sl_kind_here : Array (Option Value)}
    (a_kind_here : PySem.W.nsIn K mainGlobals "kind_here" = some (some (.ref f_kind_here)))
    (l_kind_here : K.lookup f_kind_here = some ⟨oc_kind_here, od_kind_here, .func (PySem.W.fnOf "kind_here" "kind_here" (defArgs s_kind_here) (defBody s_kind_here) (defScope s_kind_here) .none kV_kind_here dc_kind_here pm_kind_here an_kind_here cd_kind_here ct_kind_here), sl_kind_here⟩)
    (c_kind_here : PySem.W.codeIn K cd_kind_here "kind_here" = true) (k_kind_here : PySem.W.keepIn K (.ref f_kind_here) = true)
    {f_kind_within : Addr} {oc_kind_within kV_kind_within dc_kind_within pm_kind_within cd_kind_within ct_kind_within : Value} {od_kind_within an_kind_within : Option Addr} {sl_kind_within : Array (Option Value)}
    (a_kind_within : PySem.W.nsIn K mainGlobals "kind_within" = some (some (.ref f_kind_within)))
    (l_kind_within : K.lookup f_kind_within = some ⟨oc_kind_within, od_kind_within, .func (PySem.W.fnOf "kind_within" "kind_within" (defArgs s_kind_within) (defBody s_kind_within) (defScope s_kind_within) .none kV_kind_within dc_kind_within pm_kind_within an_kind_within cd_kind_within ct_kind_within), sl_kind_within⟩)
    (c_kind_within : PySem.W.codeIn K cd_kind_within "kind_within" = true) (k_kind_within : PySem.W.keepIn K (.ref f_kind_within) = true)
    {f_kind_of : Addr} {oc_kind_of kV_kind_of dc_kind_of pm_kind_of cd_kind_of ct_kind_of : Value} {od_kind_of an_kind_of : Option Addr} {sl_kind_of : Array (Option Value)}
    (a_kind_of : PySem.W.nsIn K mainGlobals "kind_of" = some (some (.ref f_kind_of)))
    (l_kind_of : K.lookup f_kind_of = some ⟨oc_kind_of, od_kind_of, .func (PySem.W.fnOf "kind_of" "kind_of" (defArgs s_kind_of) (defBody s_kind_of) (defScope s_kind_of) .none kV_kind_of dc_kind_of pm_kind_of an_kind_of cd_kind_of ct_kind_of), sl_kind_of⟩)
    (c_kind_of : PySem.W.codeIn K cd_kind_of "kind_of" = true) (k_kind_of : PySem.W.keepIn K (.ref f_kind_of) = true)
    {f_taken_name : Addr} {oc_taken_name kV_taken_name dc_taken_name pm_taken_name cd_taken_name ct_taken_name : Value} {od_taken_name an_taken_name : Option Addr} {sl_taken_name : Array (Option Value)}
    (a_taken_name : PySem.W.nsIn K mainGlobals "taken_name" = some (some (.ref f_taken_name)))
    (l_taken_name : K.lookup f_taken_name = some ⟨oc_taken_name, od_taken_name, .func (PySem.W.fnOf "taken_name" "taken_name" (defArgs s_taken_name) (defBody s_taken_name) (defScope s_taken_name) .none kV_taken_name dc_taken_name pm_taken_name an_taken_name cd_taken_name ct_taken_name), sl_taken_name⟩)
    (c_taken_name : PySem.W.codeIn K cd_taken_name "taken_name" = true) (k_taken_name : PySem.W.keepIn K (.ref f_taken_name) = true)
    {f_is_long_here : Addr} {oc_is_long_here kV_is_long_here dc_is_long_here pm_is_long_here cd_is_long_here ct_is_long_here : Value} {od_is_long_here an_is_long_here : Option Addr} {sl_is_long_here : Array (Option Value)}
    (a_is_long_here : PySem.W.nsIn K mainGlobals "is_long_here" = some (some (.ref f_is_long_here)))
    (l_is_long_here : K.lookup f_is_long_here = some ⟨oc_is_long_here, od_is_long_here, .func (PySem.W.fnOf "is_long_here" "is_long_here" (defArgs s_is_long_here) (defBody s_is_long_here) (defScope s_is_long_here) .none kV_is_long_here dc_is_long_here pm_is_long_here an_is_long_here cd_is_long_here ct_is_long_here), sl_is_long_here⟩)
    (c_is_long_here : PySem.W.codeIn K cd_is_long_here "is_long_here" = true) (k_is_long_here : PySem.W.keepIn K (.ref f_is_long_here) = true)
    {f_gone_along : Addr} {oc_gone_along kV_gone_along dc_gone_along pm_gone_along cd_gone_along ct_gone_along : Value} {od_gone_along an_gone_along : Option Addr} {sl_gone_along : Array (Option Value)}
    (a_gone_along : PySem.W.nsIn K mainGlobals "gone_along" = some (some (.ref f_gone_along)))
    (l_gone_along : K.lookup f_gone_along = some ⟨oc_gone_along, od_gone_along, .func (PySem.W.fnOf "gone_along" "gone_along" (defArgs s_gone_along) (defBody s_gone_along) (defScope s_gone_along) .none kV_gone_along dc_gone_along pm_gone_along an_gone_along cd_gone_along ct_gone_along), sl_gone_along⟩)
    (c_gone_along : PySem.W.codeIn K cd_gone_along "gone_along" = true) (k_gone_along : PySem.W.keepIn K (.ref f_gone_along) = true)
    {f_is_long : Addr} {oc_is_long kV_is_long dc_is_long pm_is_long cd_is_long ct_is_long : Value} {od_is_long an_is_long : Option Addr} {sl_is_long : Array (Option Value)}
    (a_is_long : PySem.W.nsIn K mainGlobals "is_long" = some (some (.ref f_is_long)))
    (l_is_long : K.lookup f_is_long = some ⟨oc_is_long, od_is_long, .func (PySem.W.fnOf "is_long" "is_long" (defArgs s_is_long) (defBody s_is_long) (defScope s_is_long) .none kV_is_long dc_is_long pm_is_long an_is_long cd_is_long ct_is_long), sl_is_long⟩)
    (c_is_long : PySem.W.codeIn K cd_is_long "is_long" = true) (k_is_long : PySem.W.keepIn K (.ref f_is_long) = true)
    {f_is_whole : Addr} {oc_is_whole kV_is_whole dc_is_whole pm_is_whole cd_is_whole ct_is_whole : Value} {od_is_whole an_is_whole : Option Addr} {sl_is_whole : Array (Option Value)}
    (a_is_whole : PySem.W.nsIn K mainGlobals "is_whole" = some (some (.ref f_is_whole)))
    (l_is_whole : K.lookup f_is_whole = some ⟨oc_is_whole, od_is_whole, .func (PySem.W.fnOf "is_whole" "is_whole" (defArgs s_is_whole) (defBody s_is_whole) (defScope s_is_whole) .none kV_is_whole dc_is_whole pm_is_whole an_is_whole cd_is_whole ct_is_whole), sl_is_whole⟩)
    (c_is_whole : PySem.W.codeIn K cd_is_whole "is_whole" = true) (k_is_whole : PySem.W.keepIn K (.ref f_is_whole) = true)
    {f_is_place : Addr} {oc_is_place kV_is_place dc_is_place pm_is_place cd_is_place ct_is_place : Value} {od_is_place an_is_place : Option Addr} {sl_is_place : Array (Option Value)}
    (a_is_place : PySem.W.nsIn K mainGlobals "is_place" = some (some (.ref f_is_place)))
    (l_is_place : K.lookup f_is_place = some ⟨oc_is_place, od_is_place, .func (PySem.W.fnOf "is_place" "is_place" (defArgs s_is_place) (defBody s_is_place) (defScope s_is_place) .none kV_is_place dc_is_place pm_is_place an_is_place cd_is_place ct_is_place), sl_is_place⟩)
    (c_is_place : PySem.W.codeIn K cd_is_place "is_place" = true) (k_is_place : PySem.W.keepIn K (.ref f_is_place) = true)
    {f_kind_at : Addr} {oc_kind_at kV_kind_at dc_kind_at pm_kind_at cd_kind_at ct_kind_at : Value} {od_kind_at an_kind_at : Option Addr} {sl_kind_at : Array (Option Value)}
    (a_kind_at : PySem.W.nsIn K mainGlobals "kind_at" = some (some (.ref f_kind_at)))
    (l_kind_at : K.lookup f_kind_at = some ⟨oc_kind_at, od_kind_at, .func (PySem.W.fnOf "kind_at" "kind_at" (defArgs s_kind_at) (defBody s_kind_at) (defScope s_kind_at) .none kV_kind_at dc_kind_at pm_kind_at an_kind_at cd_kind_at ct_kind_at), sl_kind_at⟩)
    (c_kind_at : PySem.W.codeIn K cd_kind_at "kind_at" = true) (k_kind_at : PySem.W.keepIn K (.ref f_kind_at) = true)
    {f_is_ring : Addr} {oc_is_ring kV_is_ring dc_is_ring pm_is_ring cd_is_ring ct_is_ring : Value} {od_is_ring an_is_ring : Option Addr} {sl_is_ring : Array (Option Value)}
    (a_is_ring : PySem.W.nsIn K mainGlobals "is_ring" = some (some (.ref f_is_ring)))
    (l_is_ring : K.lookup f_is_ring = some ⟨oc_is_ring, od_is_ring, .func (PySem.W.fnOf "is_ring" "is_ring" (defArgs s_is_ring) (defBody s_is_ring) (defScope s_is_ring) .none kV_is_ring dc_is_ring pm_is_ring an_is_ring cd_is_ring ct_is_ring), sl_is_ring⟩)
    (c_is_ring : PySem.W.codeIn K cd_is_ring "is_ring" = true) (k_is_ring : PySem.W.keepIn K (.ref f_is_ring) = true)
    {f__law_pool : Addr} {oc__law_pool kV__law_pool dc__law_pool pm__law_pool cd__law_pool ct__law_pool : Value} {od__law_pool an__law_pool : Option Addr} {sl__law_pool : Array (Option Value)}
    (a__law_pool : PySem.W.nsIn K mainGlobals "_law_pool" = some (some (.ref f__law_pool)))
    (l__law_pool : K.lookup f__law_pool = some ⟨oc__law_pool, od__law_pool, .func (PySem.W.fnOf "_law_pool" "_law_pool" (defArgs s__law_pool) (defBody s__law_pool) (defScope s__law_pool) .none kV__law_pool dc__law_pool pm__law_pool an__law_pool cd__law_pool ct__law_pool), sl__law_pool⟩)
    (c__law_pool : PySem.W.codeIn K cd__law_pool "_law_pool" = true) (k__law_pool : PySem.W.keepIn K (.ref f__law_pool) = true)
    {f__law_take : Addr} {oc__law_take kV__law_take dc__law_take pm__law_take cd__law_take ct__law_take : Value} {od__law_take an__law_take : Option Addr} {sl__law_take : Array (Option Value)}
    (a__law_take : PySem.W.nsIn K mainGlobals "_law_take" = some (some (.ref f__law_take)))
    (l__law_take : K.lookup f__law_take = some ⟨oc__law_take, od__law_take, .func (PySem.W.fnOf "_law_take" "_law_take" (defArgs s__law_take) (defBody s__law_take) (defScope s__law_take) .none kV__law_take dc__law_take pm__law_take an__law_take cd__law_take ct__law_take), sl__law_take⟩)
    (c__law_take : PySem.W.codeIn K cd__law_take "_law_take" = true) (k__law_take : PySem.W.keepIn K (.ref f__law_take) = true)
    {f__law_kind : Addr} {oc__law_kind kV__law_kind dc__law_kind pm__law_kind cd__law_kind ct__law_kind : Value} {od__law_kind an__law_kind : Option Addr} {sl__law_kind : Array (Option Value)}
    (a__law_kind : PySem.W.nsIn K mainGlobals "_law_kind" = some (some (.ref f__law_kind)))
    (l__law_kind : K.lookup f__law_kind = some ⟨oc__law_kind, od__law_kind, .func (PySem.W.fnOf "_law_kind" "_law_kind" (defArgs s__law_kind) (defBody s__law_kind) (defScope s__law_kind) .none kV__law_kind dc__law_kind pm__law_kind an__law_kind cd__law_kind ct__law_kind), sl__law_kind⟩)
    (c__law_kind : PySem.W.codeIn K cd__law_kind "_law_kind" = true) (k__law_kind : PySem.W.keepIn K (.ref f__law_kind) = true)
    {f__law_ways : Addr} {oc__law_ways kV__law_ways dc__law_ways pm__law_ways cd__law_ways ct__law_ways : Value} {od__law_ways an__law_ways : Option Addr} {sl__law_ways : Array (Option Value)}
    (a__law_ways : PySem.W.nsIn K mainGlobals "_law_ways" = some (some (.ref f__law_ways)))
    (l__law_ways : K.lookup f__law_ways = some ⟨oc__law_ways, od__law_ways, .func (PySem.W.fnOf "_law_ways" "_law_ways" (defArgs s__law_ways) (defBody s__law_ways) (defScope s__law_ways) .none kV__law_ways dc__law_ways pm__law_ways an__law_ways cd__law_ways ct__law_ways), sl__law_ways⟩)
    (c__law_ways : PySem.W.codeIn K cd__law_ways "_law_ways" = true) (k__law_ways : PySem.W.keepIn K (.ref f__law_ways) = true)
    {f__law_longed : Addr} {oc__law_longed kV__law_longed dc__law_longed pm__law_longed cd__law_longed ct__law_longed : Value} {od__law_longed an__law_longed : Option Addr} {sl__law_longed : Array (Option Value)}
    (a__law_longed : PySem.W.nsIn K mainGlobals "_law_longed" = some (some (.ref f__law_longed)))
    (l__law_longed : K.lookup f__law_longed = some ⟨oc__law_longed, od__law_longed, .func (PySem.W.fnOf "_law_longed" "_law_longed" (defArgs s__law_longed) (defBody s__law_longed) (defScope s__law_longed) .none kV__law_longed dc__law_longed pm__law_longed an__law_longed cd__law_longed ct__law_longed), sl__law_longed⟩)
    (c__law_longed : PySem.W.codeIn K cd__law_longed "_law_longed" = true) (k__law_longed : PySem.W.keepIn K (.ref f__law_longed) = true)
    {f__law_is_long : Addr} {oc__law_is_long kV__law_is_long dc__law_is_long pm__law_is_long cd__law_is_long ct__law_is_long : Value} {od__law_is_long an__law_is_long : Option Addr} {sl__law_is_long : Array (Option Value)}
    (a__law_is_long : PySem.W.nsIn K mainGlobals "_law_is_long" = some (some (.ref f__law_is_long)))
    (l__law_is_long : K.lookup f__law_is_long = some ⟨oc__law_is_long, od__law_is_long, .func (PySem.W.fnOf "_law_is_long" "_law_is_long" (defArgs s__law_is_long) (defBody s__law_is_long) (defScope s__law_is_long) .none kV__law_is_long dc__law_is_long pm__law_is_long an__law_is_long cd__law_is_long ct__law_is_long), sl__law_is_long⟩)
    (c__law_is_long : PySem.W.codeIn K cd__law_is_long "_law_is_long" = true) (k__law_is_long : PySem.W.keepIn K (.ref f__law_is_long) = true)
    {f__law_along : Addr} {oc__law_along kV__law_along dc__law_along pm__law_along cd__law_along ct__law_along : Value} {od__law_along an__law_along : Option Addr} {sl__law_along : Array (Option Value)}
    (a__law_along : PySem.W.nsIn K mainGlobals "_law_along" = some (some (.ref f__law_along)))
    (l__law_along : K.lookup f__law_along = some ⟨oc__law_along, od__law_along, .func (PySem.W.fnOf "_law_along" "_law_along" (defArgs s__law_along) (defBody s__law_along) (defScope s__law_along) .none kV__law_along dc__law_along pm__law_along an__law_along cd__law_along ct__law_along), sl__law_along⟩)
    (c__law_along : PySem.W.codeIn K cd__law_along "_law_along" = true) (k__law_along : PySem.W.keepIn K (.ref f__law_along) = true)
    {f__law_at : Addr} {oc__law_at kV__law_at dc__law_at pm__law_at cd__law_at ct__law_at : Value} {od__law_at an__law_at : Option Addr} {sl__law_at : Array (Option Value)}
    (a__law_at : PySem.W.nsIn K mainGlobals "_law_at" = some (some (.ref f__law_at)))
    (l__law_at : K.lookup f__law_at = some ⟨oc__law_at, od__law_at, .func (PySem.W.fnOf "_law_at" "_law_at" (defArgs s__law_at) (defBody s__law_at) (defScope s__law_at) .none kV__law_at dc__law_at pm__law_at an__law_at cd__law_at ct__law_at), sl__law_at⟩)
    (c__law_at : PySem.W.codeIn K cd__law_at "_law_at" = true) (k__law_at : PySem.W.keepIn K (.ref f__law_at) = true)
    {f__law_mark_at : Addr} {oc__law_mark_at kV__law_mark_at dc__law_mark_at pm__law_mark_at cd__law_mark_at ct__law_mark_at : Value} {od__law_mark_at an__law_mark_at : Option Addr} {sl__law_mark_at : Array (Option Value)}
    (a__law_mark_at : PySem.W.nsIn K mainGlobals "_law_mark_at" = some (some (.ref f__law_mark_at)))
    (l__law_mark_at : K.lookup f__law_mark_at = some ⟨oc__law_mark_at, od__law_mark_at, .func (PySem.W.fnOf "_law_mark_at" "_law_mark_at" (defArgs s__law_mark_at) (defBody s__law_mark_at) (defScope s__law_mark_at) .none kV__law_mark_at dc__law_mark_at pm__law_mark_at an__law_mark_at cd__law_mark_at ct__law_mark_at), sl__law_mark_at⟩)
    (c__law_mark_at : PySem.W.codeIn K cd__law_mark_at "_law_mark_at" = true) (k__law_mark_at : PySem.W.keepIn K (.ref f__law_mark_at) = true)
    {f__law_is_ring : Addr} {oc__law_is_ring kV__law_is_ring dc__law_is_ring pm__law_is_ring cd__law_is_ring ct__law_is_ring : Value} {od__law_is_ring an__law_is_ring : Option Addr} {sl__law_is_ring : Array (Option Value)}
    (a__law_is_ring : PySem.W.nsIn K mainGlobals "_law_is_ring" = some (some (.ref f__law_is_ring)))
    (l__law_is_ring : K.lookup f__law_is_ring = some ⟨oc__law_is_ring, od__law_is_ring, .func (PySem.W.fnOf "_law_is_ring" "_law_is_ring" (defArgs s__law_is_ring) (defBody s__law_is_ring) (defScope s__law_is_ring) .none kV__law_is_ring dc__law_is_ring pm__law_is_ring an__law_is_ring cd__law_is_ring ct__law_is_ring), sl__law_is_ring⟩)
    (c__law_is_ring : PySem.W.codeIn K cd__law_is_ring "_law_is_ring" = true) (k__law_is_ring : PySem.W.keepIn K (.ref f__law_is_ring) = true)
    {f__law_places : Addr} {oc__law_places kV__law_places dc__law_places pm__law_places cd__law_places ct__law_places : Value} {od__law_places an__law_places : Option Addr} {sl__law_places : Array (Option Value)}
    (a__law_places : PySem.W.nsIn K mainGlobals "_law_places" = some (some (.ref f__law_places)))
    (l__law_places : K.lookup f__law_places = some ⟨oc__law_places, od__law_places, .func (PySem.W.fnOf "_law_places" "_law_places" (defArgs s__law_places) (defBody s__law_places) (defScope s__law_places) .none kV__law_places dc__law_places pm__law_places an__law_places cd__law_places ct__law_places), sl__law_places⟩)
    (c__law_places : PySem.W.codeIn K cd__law_places "_law_places" = true) (k__law_places : PySem.W.keepIn K (.ref f__law_places) = true)
    {f__law_row : Addr} {oc__law_row kV__law_row dc__law_row pm__law_row cd__law_row ct__law_row : Value} {od__law_row an__law_row : Option Addr} {sl__law_row : Array (Option Value)}
    (a__law_row : PySem.W.nsIn K mainGlobals "_law_row" = some (some (.ref f__law_row)))
    (l__law_row : K.lookup f__law_row = some ⟨oc__law_row, od__law_row, .func (PySem.W.fnOf "_law_row" "_law_row" (defArgs s__law_row) (defBody s__law_row) (defScope s__law_row) .none kV__law_row dc__law_row pm__law_row an__law_row cd__law_row ct__law_row), sl__law_row⟩)
    (c__law_row : PySem.W.codeIn K cd__law_row "_law_row" = true) (k__law_row : PySem.W.keepIn K (.ref f__law_row) = true)
    {f__law_odd : Addr} {oc__law_odd kV__law_odd dc__law_odd pm__law_odd cd__law_odd ct__law_odd : Value} {od__law_odd an__law_odd : Option Addr} {sl__law_odd : Array (Option Value)}
    (a__law_odd : PySem.W.nsIn K mainGlobals "_law_odd" = some (some (.ref f__law_odd)))
    (l__law_odd : K.lookup f__law_odd = some ⟨oc__law_odd, od__law_odd, .func (PySem.W.fnOf "_law_odd" "_law_odd" (defArgs s__law_odd) (defBody s__law_odd) (defScope s__law_odd) .none kV__law_odd dc__law_odd pm__law_odd an__law_odd cd__law_odd ct__law_odd), sl__law_odd⟩)
    (c__law_odd : PySem.W.codeIn K cd__law_odd "_law_odd" = true) (k__law_odd : PySem.W.keepIn K (.ref f__law_odd) = true)
    {f__law_right : Addr} {oc__law_right kV__law_right dc__law_right pm__law_right cd__law_right ct__law_right : Value} {od__law_right an__law_right : Option Addr} {sl__law_right : Array (Option Value)}
    (a__law_right : PySem.W.nsIn K mainGlobals "_law_right" = some (some (.ref f__law_right)))
    (l__law_right : K.lookup f__law_right = some ⟨oc__law_right, od__law_right, .func (PySem.W.fnOf "_law_right" "_law_right" (defArgs s__law_right) (defBody s__law_right) (defScope s__law_right) .none kV__law_right dc__law_right pm__law_right an__law_right cd__law_right ct__law_right), sl__law_right⟩)
    (c__law_right : PySem.W.codeIn K cd__law_right "_law_right" = true) (k__law_right : PySem.W.keepIn K (.ref f__law_right) = true)
    {f_law : Addr} {oc_law kV_law dc_law pm_law cd_law ct_law : Value} {od_law an_law : Option Addr} {sl_law : Array (Option Value)}
    (a_law : PySem.W.nsIn K mainGlobals "law" = some (some (.ref f_law)))
    (l_law : K.lookup f_law = some ⟨oc_law, od_law, .func (PySem.W.fnOf "law" "law" (defArgs s_law) (defBody s_law) (defScope s_law) .none kV_law dc_law pm_law an_law cd_law ct_law), sl_law⟩)
    (c_law : PySem.W.codeIn K cd_law "law" = true) (k_law : PySem.W.keepIn K (.ref f_law) = true)
    (z_len : PySem.W.nsIn K mainGlobals "len" = some none)
    (z_tuple : PySem.W.nsIn K mainGlobals "tuple" = some none)
    (z_isinstance : PySem.W.nsIn K mainGlobals "isinstance" = some none)
    (z_str : PySem.W.nsIn K mainGlobals "str" = some none)
    (z_list : PySem.W.nsIn K mainGlobals "list" = some none)
    (z_reversed : PySem.W.nsIn K mainGlobals "reversed" = some none)
    (z_int : PySem.W.nsIn K mainGlobals "int" = some none)
    (z_enumerate : PySem.W.nsIn K mainGlobals "enumerate" = some none)
    (z_bool : PySem.W.nsIn K mainGlobals "bool" = some none)
    (z_range : PySem.W.nsIn K mainGlobals "range" = some none)
    (z_min : PySem.W.nsIn K mainGlobals "min" = some none)
    (z_max : PySem.W.nsIn K mainGlobals "max" = some none)
    {t_LETTERS : Tok} (e_LETTERS : PySem.W.nsIn K mainGlobals "LETTERS" = some (some (.str "abcdefghijklmnopqrstuvwxyz" t_LETTERS)))
    {t_LONGEST : Tok} (e_LONGEST : PySem.W.nsIn K mainGlobals "LONGEST" = some (some (.int 6 t_LONGEST)))
    {t_FIGURES : Tok} (e_FIGURES : PySem.W.nsIn K mainGlobals "FIGURES" = some (some (.str "0123456789" t_FIGURES)))
    {p_ONE : Addr} {dd_ONE : Option Addr} {n_ONE : Nat} {sl_ONE : Array (Option Value)} {t_ONE : Tok} (e_ONE : PySem.W.nsIn K mainGlobals "ONE" = some (some (.ref p_ONE))) (q_ONE : K.lookup p_ONE = some ⟨.type "tuple", dd_ONE, .seq #[.str "one" t_ONE] n_ONE, sl_ONE⟩)
    {t_MOST_DEPTH : Tok} (e_MOST_DEPTH : PySem.W.nsIn K mainGlobals "MOST_DEPTH" = some (some (.int 12 t_MOST_DEPTH)))
    {t_MOST_LEAVES : Tok} (e_MOST_LEAVES : PySem.W.nsIn K mainGlobals "MOST_LEAVES" = some (some (.int 24 t_MOST_LEAVES)))
    {p_THING : Addr} {dd_THING : Option Addr} {n_THING : Nat} {sl_THING : Array (Option Value)} {t_THING : Tok} (e_THING : PySem.W.nsIn K mainGlobals "THING" = some (some (.ref p_THING))) (q_THING : K.lookup p_THING = some ⟨.type "tuple", dd_THING, .seq #[.str "thing" t_THING] n_THING, sl_THING⟩)
    {t_MOST_DEEP : Tok} (e_MOST_DEEP : PySem.W.nsIn K mainGlobals "MOST_DEEP" = some (some (.int 80 t_MOST_DEEP)))
    {t_MOST_PARTS : Tok} (e_MOST_PARTS : PySem.W.nsIn K mainGlobals "MOST_PARTS" = some (some (.int 400 t_MOST_PARTS))) :
    ∃ fd : FuncData, (∀ (s : Shared) (v : Value), BindsTo s fd ⟨[v], []⟩ [("_law_script", v)]) ∧ ∀ base : Heap, K.In base → base.Ns mainGlobals mg → FnOk l.prog w K mg base CX0 206 fa fd ["_law_script"] (liftSp K (lawSp 63)) := by
  have e := hfa.symm.trans (PySem.W.mg_of X G a_law)
  cases e
  have N_is_mark' := fn_mk (ps := P_is_mark) X G a_is_mark l_is_mark c_is_mark k_is_mark fun _ _ _ _ _ _ us hl => match us, hl with | [_], _ => rfl
  have N_is_number' := fn_mk (ps := P_is_number) X G a_is_number l_is_number c_is_number k_is_number fun _ _ _ _ _ _ us hl => match us, hl with | [_], _ => rfl
  have N_is_name' := fn_mk (ps := P_is_name) X G a_is_name l_is_name c_is_name k_is_name fun _ _ _ _ _ _ us hl => match us, hl with | [_], _ => rfl
  have N_has_form' := fn_mk (ps := P_has_form) X G a_has_form l_has_form c_has_form k_has_form fun _ _ _ _ _ _ us hl => match us, hl with | [_, _], _ => rfl
  have N_is_kind' := fn_mk (ps := P_is_kind) X G a_is_kind l_is_kind c_is_kind k_is_kind fun _ _ _ _ _ _ us hl => match us, hl with | [_], _ => rfl
  have N_leaves_of' := fn_mk (ps := P_leaves_of) X G a_leaves_of l_leaves_of c_leaves_of k_leaves_of fun _ _ _ _ _ _ us hl => match us, hl with | [_], _ => rfl
  have N_inner' := fn_mk (ps := P_inner) X G a_inner l_inner c_inner k_inner fun _ _ _ _ _ _ us hl => match us, hl with | [_], _ => rfl
  have N_has_head' := fn_mk (ps := P_has_head) X G a_has_head l_has_head c_has_head k_has_head fun _ _ _ _ _ _ us hl => match us, hl with | [_, _], _ => rfl
  have N_parts_left' := fn_mk (ps := P_parts_left) X G a_parts_left l_parts_left c_parts_left k_parts_left fun _ _ _ _ _ _ us hl => match us, hl with | [_, _, _, _], _ => rfl
  have N_is_program' := fn_mk (ps := P_is_program) X G a_is_program l_is_program c_is_program k_is_program fun _ _ _ _ _ _ us hl => match us, hl with | [_], _ => rfl
  have N_part_at' := fn_mk (ps := P_part_at) X G a_part_at l_part_at c_part_at k_part_at fun _ _ _ _ _ _ us hl => match us, hl with | [_, _], _ => rfl
  have N_known_as' := fn_mk (ps := P_known_as) X G a_known_as l_known_as c_known_as k_known_as fun _ _ _ _ _ _ us hl => match us, hl with | [_, _], _ => rfl
  have N_kind_here' := fn_mk (ps := P_kind_here) X G a_kind_here l_kind_here c_kind_here k_kind_here fun _ _ _ _ _ _ us hl => match us, hl with | [_, _, _], _ => rfl
  have N_kind_within' := fn_mk (ps := P_kind_within) X G a_kind_within l_kind_within c_kind_within k_kind_within fun _ _ _ _ _ _ us hl => match us, hl with | [_, _, _], _ => rfl
  have N_kind_of' := fn_mk (ps := P_kind_of) X G a_kind_of l_kind_of c_kind_of k_kind_of fun _ _ _ _ _ _ us hl => match us, hl with | [_, _], _ => rfl
  have N_taken_name' := fn_mk (ps := P_taken_name) X G a_taken_name l_taken_name c_taken_name k_taken_name fun _ _ _ _ _ _ us hl => match us, hl with | [_], _ => rfl
  have N_is_long_here' := fn_mk (ps := P_is_long_here) X G a_is_long_here l_is_long_here c_is_long_here k_is_long_here fun _ _ _ _ _ _ us hl => match us, hl with | [_, _, _, _], _ => rfl
  have N_gone_along' := fn_mk (ps := P_gone_along) X G a_gone_along l_gone_along c_gone_along k_gone_along fun _ _ _ _ _ _ us hl => match us, hl with | [_, _, _], _ => rfl
  have N_is_long' := fn_mk (ps := P_is_long) X G a_is_long l_is_long c_is_long k_is_long fun _ _ _ _ _ _ us hl => match us, hl with | [_, _, _], _ => rfl
  have N_is_whole' := fn_mk (ps := P_is_whole) X G a_is_whole l_is_whole c_is_whole k_is_whole fun _ _ _ _ _ _ us hl => match us, hl with | [_], _ => rfl
  have N_is_place' := fn_mk (ps := P_is_place) X G a_is_place l_is_place c_is_place k_is_place fun _ _ _ _ _ _ us hl => match us, hl with | [_, _], _ => rfl
  have N_kind_at' := fn_mk (ps := P_kind_at) X G a_kind_at l_kind_at c_kind_at k_kind_at fun _ _ _ _ _ _ us hl => match us, hl with | [_, _, _], _ => rfl
  have N_is_ring' := fn_mk (ps := P_is_ring) X G a_is_ring l_is_ring c_is_ring k_is_ring fun _ _ _ _ _ _ us hl => match us, hl with | [_, _, _, _, _], _ => rfl
  have N__law_pool' := fn_mk (ps := P__law_pool) X G a__law_pool l__law_pool c__law_pool k__law_pool fun _ _ _ _ _ _ us hl => match us, hl with | [_, _], _ => rfl
  have N__law_take' := fn_mk (ps := P__law_take) X G a__law_take l__law_take c__law_take k__law_take fun _ _ _ _ _ _ us hl => match us, hl with | [_, _], _ => rfl
  have N__law_kind' := fn_mk (ps := P__law_kind) X G a__law_kind l__law_kind c__law_kind k__law_kind fun _ _ _ _ _ _ us hl => match us, hl with | [_, _, _], _ => rfl
  have N__law_ways' := fn_mk (ps := P__law_ways) X G a__law_ways l__law_ways c__law_ways k__law_ways fun _ _ _ _ _ _ us hl => match us, hl with | [_], _ => rfl
  have N__law_longed' := fn_mk (ps := P__law_longed) X G a__law_longed l__law_longed c__law_longed k__law_longed fun _ _ _ _ _ _ us hl => match us, hl with | [_, _, _, _], _ => rfl
  have N__law_is_long' := fn_mk (ps := P__law_is_long) X G a__law_is_long l__law_is_long c__law_is_long k__law_is_long fun _ _ _ _ _ _ us hl => match us, hl with | [_, _, _, _], _ => rfl
  have N__law_along' := fn_mk (ps := P__law_along) X G a__law_along l__law_along c__law_along k__law_along fun _ _ _ _ _ _ us hl => match us, hl with | [_, _, _], _ => rfl
  have N__law_at' := fn_mk (ps := P__law_at) X G a__law_at l__law_at c__law_at k__law_at fun _ _ _ _ _ _ us hl => match us, hl with | [_, _], _ => rfl
  have N__law_mark_at' := fn_mk (ps := P__law_mark_at) X G a__law_mark_at l__law_mark_at c__law_mark_at k__law_mark_at fun _ _ _ _ _ _ us hl => match us, hl with | [_, _, _], _ => rfl
  have N__law_is_ring' := fn_mk (ps := P__law_is_ring) X G a__law_is_ring l__law_is_ring c__law_is_ring k__law_is_ring fun _ _ _ _ _ _ us hl => match us, hl with | [_, _, _, _, _], _ => rfl
  have N__law_places' := fn_mk (ps := P__law_places) X G a__law_places l__law_places c__law_places k__law_places fun _ _ _ _ _ _ us hl => match us, hl with | [_, _], _ => rfl
  have N__law_row' := fn_mk (ps := P__law_row) X G a__law_row l__law_row c__law_row k__law_row fun _ _ _ _ _ _ us hl => match us, hl with | [_], _ => rfl
  have N__law_odd' := fn_mk (ps := P__law_odd) X G a__law_odd l__law_odd c__law_odd k__law_odd fun _ _ _ _ _ _ us hl => match us, hl with | [_, _], _ => rfl
  have N__law_right' := fn_mk (ps := P__law_right) X G a__law_right l__law_right c__law_right k__law_right fun _ _ _ _ _ _ us hl => match us, hl with | [_, _, _, _, _], _ => rfl
  have N_law' := fn_mk (ps := P_law) X G a_law l_law c_law k_law fun _ _ _ _ _ _ us hl => match us, hl with | [_], _ => rfl
  have m_len : mg "len" = none := PySem.W.mg_none_of X G z_len
  have m_tuple : mg "tuple" = none := PySem.W.mg_none_of X G z_tuple
  have m_isinstance : mg "isinstance" = none := PySem.W.mg_none_of X G z_isinstance
  have m_str : mg "str" = none := PySem.W.mg_none_of X G z_str
  have m_list : mg "list" = none := PySem.W.mg_none_of X G z_list
  have m_reversed : mg "reversed" = none := PySem.W.mg_none_of X G z_reversed
  have m_int : mg "int" = none := PySem.W.mg_none_of X G z_int
  have m_enumerate : mg "enumerate" = none := PySem.W.mg_none_of X G z_enumerate
  have m_bool : mg "bool" = none := PySem.W.mg_none_of X G z_bool
  have m_range : mg "range" = none := PySem.W.mg_none_of X G z_range
  have m_min : mg "min" = none := PySem.W.mg_none_of X G z_min
  have m_max : mg "max" = none := PySem.W.mg_none_of X G z_max
  have c_LETTERS : Cst K mg "LETTERS" (.str "abcdefghijklmnopqrstuvwxyz") := cst_str (PySem.W.mg_of X G e_LETTERS)
  have c_LONGEST : Cst K mg "LONGEST" (.int 6) := cst_int (PySem.W.mg_of X G e_LONGEST)
  have c_FIGURES : Cst K mg "FIGURES" (.str "0123456789") := cst_str (PySem.W.mg_of X G e_FIGURES)
  have c_ONE : Cst K mg "ONE" (.tup [.str "one"]) := cst_strs (ys := ["one"]) (PySem.W.mg_of X G e_ONE) q_ONE rfl rfl (.cons ⟨_, rfl⟩ .nil) (by decide)
  have c_MOST_DEPTH : Cst K mg "MOST_DEPTH" (.int 12) := cst_int (PySem.W.mg_of X G e_MOST_DEPTH)
  have c_MOST_LEAVES : Cst K mg "MOST_LEAVES" (.int 24) := cst_int (PySem.W.mg_of X G e_MOST_LEAVES)
  have c_THING : Cst K mg "THING" (.tup [.str "thing"]) := cst_strs (ys := ["thing"]) (PySem.W.mg_of X G e_THING) q_THING rfl rfl (.cons ⟨_, rfl⟩ .nil) (by decide)
  have c_MOST_DEEP : Cst K mg "MOST_DEEP" (.int 80) := cst_int (PySem.W.mg_of X G e_MOST_DEEP)
  have c_MOST_PARTS : Cst K mg "MOST_PARTS" (.int 400) := cst_int (PySem.W.mg_of X G e_MOST_PARTS)
  let T : Tx K mg := { a_is_mark := _, fd_is_mark := _, n_is_mark := N_is_mark', a_is_number := _, fd_is_number := _, n_is_number := N_is_number', a_is_name := _, fd_is_name := _, n_is_name := N_is_name', a_has_form := _, fd_has_form := _, n_has_form := N_has_form', a_is_kind := _, fd_is_kind := _, n_is_kind := N_is_kind', a_leaves_of := _, fd_leaves_of := _, n_leaves_of := N_leaves_of', a_inner := _, fd_inner := _, n_inner := N_inner', a_has_head := _, fd_has_head := _, n_has_head := N_has_head', a_parts_left := _, fd_parts_left := _, n_parts_left := N_parts_left', a_is_program := _, fd_is_program := _, n_is_program := N_is_program', a_part_at := _, fd_part_at := _, n_part_at := N_part_at', a_known_as := _, fd_known_as := _, n_known_as := N_known_as', a_kind_here := _, fd_kind_here := _, n_kind_here := N_kind_here', a_kind_within := _, fd_kind_within := _, n_kind_within := N_kind_within', a_kind_of := _, fd_kind_of := _, n_kind_of := N_kind_of', a_taken_name := _, fd_taken_name := _, n_taken_name := N_taken_name', a_is_long_here := _, fd_is_long_here := _, n_is_long_here := N_is_long_here', a_gone_along := _, fd_gone_along := _, n_gone_along := N_gone_along', a_is_long := _, fd_is_long := _, n_is_long := N_is_long', a_is_whole := _, fd_is_whole := _, n_is_whole := N_is_whole', a_is_place := _, fd_is_place := _, n_is_place := N_is_place', a_kind_at := _, fd_kind_at := _, n_kind_at := N_kind_at', a_is_ring := _, fd_is_ring := _, n_is_ring := N_is_ring', a__law_pool := _, fd__law_pool := _, n__law_pool := N__law_pool', a__law_take := _, fd__law_take := _, n__law_take := N__law_take', a__law_kind := _, fd__law_kind := _, n__law_kind := N__law_kind', a__law_ways := _, fd__law_ways := _, n__law_ways := N__law_ways', a__law_longed := _, fd__law_longed := _, n__law_longed := N__law_longed', a__law_is_long := _, fd__law_is_long := _, n__law_is_long := N__law_is_long', a__law_along := _, fd__law_along := _, n__law_along := N__law_along', a__law_at := _, fd__law_at := _, n__law_at := N__law_at', a__law_mark_at := _, fd__law_mark_at := _, n__law_mark_at := N__law_mark_at', a__law_is_ring := _, fd__law_is_ring := _, n__law_is_ring := N__law_is_ring', a__law_places := _, fd__law_places := _, n__law_places := N__law_places', a__law_row := _, fd__law_row := _, n__law_row := N__law_row', a__law_odd := _, fd__law_odd := _, n__law_odd := N__law_odd', a__law_right := _, fd__law_right := _, n__law_right := N__law_right', a_law := _, fd_law := _, n_law := N_law', m_len := m_len, m_tuple := m_tuple, m_isinstance := m_isinstance, m_str := m_str, m_list := m_list, m_reversed := m_reversed, m_int := m_int, m_enumerate := m_enumerate, m_bool := m_bool, m_range := m_range, m_min := m_min, m_max := m_max, c_LETTERS := c_LETTERS, c_LONGEST := c_LONGEST, c_FIGURES := c_FIGURES, c_ONE := c_ONE, c_MOST_DEPTH := c_MOST_DEPTH, c_MOST_LEAVES := c_MOST_LEAVES, c_THING := c_THING, c_MOST_DEEP := c_MOST_DEEP, c_MOST_PARTS := c_MOST_PARTS }
  exact ⟨_, fun s v => .of_eq rfl, fun base _ _ => ok_law T⟩
end Kf
open PySem PySem.W PyProof.Rows
set_option maxHeartbeats 0 in
theorem PySem.Challenge.cw_kindfill_k44_rings_let_by_holds : PySem.Challenge.rw_kindfill_k44_rings_let_by.Holds := by
  w_on; o_law; k_head; (case hw => w_witness2)
  k_fill
  refine L2.walk_of (l := PySem.Challenge.rw_kindfill_k44_rings_let_by) (n := 63) (k := 206) (x := "_law_script") (CX := fun _ => L2.CX0) (sp := fun w => Kf.liftSp _ (Kf.lawSp 63)) rfl (by decide) rfl ⟨rfl, by decide, by decide⟩ (fun w h Y => PySem.W.kIn_of Y) ?F (fun _ _ a ns hl _ hS => Kf.law_start hl hS) (fun _ _ _ _ _ h => h)
  case F =>
    intro w mg fa h KX G hmg
    refine' Kf.all_mk KX G hmg ?a_is_mark ?l_is_mark ?c_is_mark ?k_is_mark ?a_is_number ?l_is_number ?c_is_number ?k_is_number ?a_is_name ?l_is_name ?c_is_name ?k_is_name ?a_has_form ?l_has_form ?c_has_form ?k_has_form ?a_is_kind ?l_is_kind ?c_is_kind ?k_is_kind ?a_leaves_of ?l_leaves_of ?c_leaves_of ?k_leaves_of ?a_inner ?l_inner ?c_inner ?k_inner ?a_has_head ?l_has_head ?c_has_head ?k_has_head ?a_parts_left ?l_parts_left ?c_parts_left ?k_parts_left ?a_is_program ?l_is_program ?c_is_program ?k_is_program ?a_part_at ?l_part_at ?c_part_at ?k_part_at ?a_known_as ?l_known_as ?c_known_as ?k_known_as ?a_kind_here ?l_kind_here ?c_kind_here ?k_kind_here ?a_kind_within ?l_kind_within ?c_kind_within ?k_kind_within ?a_kind_of ?l_kind_of ?c_kind_of ?k_kind_of ?a_taken_name ?l_taken_name ?c_taken_name ?k_taken_name ?a_is_long_here ?l_is_long_here ?c_is_long_here ?k_is_long_here ?a_gone_along ?l_gone_along ?c_gone_along ?k_gone_along ?a_is_long ?l_is_long ?c_is_long ?k_is_long ?a_is_whole ?l_is_whole ?c_is_whole ?k_is_whole ?a_is_place ?l_is_place ?c_is_place ?k_is_place ?a_kind_at ?l_kind_at ?c_kind_at ?k_kind_at ?a_is_ring ?l_is_ring ?c_is_ring ?k_is_ring ?a__law_pool ?l__law_pool ?c__law_pool ?k__law_pool ?a__law_take ?l__law_take ?c__law_take ?k__law_take ?a__law_kind ?l__law_kind ?c__law_kind ?k__law_kind ?a__law_ways ?l__law_ways ?c__law_ways ?k__law_ways ?a__law_longed ?l__law_longed ?c__law_longed ?k__law_longed ?a__law_is_long ?l__law_is_long ?c__law_is_long ?k__law_is_long ?a__law_along ?l__law_along ?c__law_along ?k__law_along ?a__law_at ?l__law_at ?c__law_at ?k__law_at ?a__law_mark_at ?l__law_mark_at ?c__law_mark_at ?k__law_mark_at ?a__law_is_ring ?l__law_is_ring ?c__law_is_ring ?k__law_is_ring ?a__law_places ?l__law_places ?c__law_places ?k__law_places ?a__law_row ?l__law_row ?c__law_row ?k__law_row ?a__law_odd ?l__law_odd ?c__law_odd ?k__law_odd ?a__law_right ?l__law_right ?c__law_right ?k__law_right ?a_law ?l_law ?c_law ?k_law ?z_len ?z_tuple ?z_isinstance ?z_str ?z_list ?z_reversed ?z_int ?z_enumerate ?z_bool ?z_range ?z_min ?z_max ?e_LETTERS ?e_LONGEST ?e_FIGURES ?e_ONE ?q_ONE ?e_MOST_DEPTH ?e_MOST_LEAVES ?e_THING ?q_THING ?e_MOST_DEEP ?e_MOST_PARTS
    (case a_is_mark => k_is)
    (case l_is_mark => k_is)
    (case c_is_mark => k_is)
    (case k_is_mark => k_is)
    (case a_is_number => k_is)
    (case l_is_number => k_is)
    (case c_is_number => k_is)
    (case k_is_number => k_is)
    (case a_is_name => k_is)
    (case l_is_name => k_is)
    (case c_is_name => k_is)
    (case k_is_name => k_is)
    (case a_has_form => k_is)
    (case l_has_form => k_is)
    (case c_has_form => k_is)
    (case k_has_form => k_is)
    (case a_is_kind => k_is)
    (case l_is_kind => k_is)
    (case c_is_kind => k_is)
    (case k_is_kind => k_is)
    (case a_leaves_of => k_is)
    (case l_leaves_of => k_is)
    (case c_leaves_of => k_is)
    (case k_leaves_of => k_is)
    (case a_inner => k_is)
    (case l_inner => k_is)
    (case c_inner => k_is)
    (case k_inner => k_is)
    (case a_has_head => k_is)
    (case l_has_head => k_is)
    (case c_has_head => k_is)
    (case k_has_head => k_is)
    (case a_parts_left => k_is)
    (case l_parts_left => k_is)
    (case c_parts_left => k_is)
    (case k_parts_left => k_is)
    (case a_is_program => k_is)
    (case l_is_program => k_is)
    (case c_is_program => k_is)
    (case k_is_program => k_is)
    (case a_part_at => k_is)
    (case l_part_at => k_is)
    (case c_part_at => k_is)
    (case k_part_at => k_is)
    (case a_known_as => k_is)
    (case l_known_as => k_is)
    (case c_known_as => k_is)
    (case k_known_as => k_is)
    (case a_kind_here => k_is)
    (case l_kind_here => k_is)
    (case c_kind_here => k_is)
    (case k_kind_here => k_is)
    (case a_kind_within => k_is)
    (case l_kind_within => k_is)
    (case c_kind_within => k_is)
    (case k_kind_within => k_is)
    (case a_kind_of => k_is)
    (case l_kind_of => k_is)
    (case c_kind_of => k_is)
    (case k_kind_of => k_is)
    (case a_taken_name => k_is)
    (case l_taken_name => k_is)
    (case c_taken_name => k_is)
    (case k_taken_name => k_is)
    (case a_is_long_here => k_is)
    (case l_is_long_here => k_is)
    (case c_is_long_here => k_is)
    (case k_is_long_here => k_is)
    (case a_gone_along => k_is)
    (case l_gone_along => k_is)
    (case c_gone_along => k_is)
    (case k_gone_along => k_is)
    (case a_is_long => k_is)
    (case l_is_long => k_is)
    (case c_is_long => k_is)
    (case k_is_long => k_is)
    (case a_is_whole => k_is)
    (case l_is_whole => k_is)
    (case c_is_whole => k_is)
    (case k_is_whole => k_is)
    (case a_is_place => k_is)
    (case l_is_place => k_is)
    (case c_is_place => k_is)
    (case k_is_place => k_is)
    (case a_kind_at => k_is)
    (case l_kind_at => k_is)
    (case c_kind_at => k_is)
    (case k_kind_at => k_is)
    (case a_is_ring => k_is)
    (case l_is_ring => k_is)
    (case c_is_ring => k_is)
    (case k_is_ring => k_is)
    (case a__law_pool => k_is)
    (case l__law_pool => k_is)
    (case c__law_pool => k_is)
    (case k__law_pool => k_is)
    (case a__law_take => k_is)
    (case l__law_take => k_is)
    (case c__law_take => k_is)
    (case k__law_take => k_is)
    (case a__law_kind => k_is)
    (case l__law_kind => k_is)
    (case c__law_kind => k_is)
    (case k__law_kind => k_is)
    (case a__law_ways => k_is)
    (case l__law_ways => k_is)
    (case c__law_ways => k_is)
    (case k__law_ways => k_is)
    (case a__law_longed => k_is)
    (case l__law_longed => k_is)
    (case c__law_longed => k_is)
    (case k__law_longed => k_is)
    (case a__law_is_long => k_is)
    (case l__law_is_long => k_is)
    (case c__law_is_long => k_is)
    (case k__law_is_long => k_is)
    (case a__law_along => k_is)
    (case l__law_along => k_is)
    (case c__law_along => k_is)
    (case k__law_along => k_is)
    (case a__law_at => k_is)
    (case l__law_at => k_is)
    (case c__law_at => k_is)
    (case k__law_at => k_is)
    (case a__law_mark_at => k_is)
    (case l__law_mark_at => k_is)
    (case c__law_mark_at => k_is)
    (case k__law_mark_at => k_is)
    (case a__law_is_ring => k_is)
    (case l__law_is_ring => k_is)
    (case c__law_is_ring => k_is)
    (case k__law_is_ring => k_is)
    (case a__law_places => k_is)
    (case l__law_places => k_is)
    (case c__law_places => k_is)
    (case k__law_places => k_is)
    (case a__law_row => k_is)
    (case l__law_row => k_is)
    (case c__law_row => k_is)
    (case k__law_row => k_is)
    (case a__law_odd => k_is)
    (case l__law_odd => k_is)
    (case c__law_odd => k_is)
    (case k__law_odd => k_is)
    (case a__law_right => k_is)
    (case l__law_right => k_is)
    (case c__law_right => k_is)
    (case k__law_right => k_is)
    (case a_law => k_is)
    (case l_law => k_is)
    (case c_law => k_is)
    (case k_law => k_is)
    (case z_len => k_is)
    (case z_tuple => k_is)
    (case z_isinstance => k_is)
    (case z_str => k_is)
    (case z_list => k_is)
    (case z_reversed => k_is)
    (case z_int => k_is)
    (case z_enumerate => k_is)
    (case z_bool => k_is)
    (case z_range => k_is)
    (case z_min => k_is)
    (case z_max => k_is)
    (case e_LETTERS => k_is)
    (case e_LONGEST => k_is)
    (case e_FIGURES => k_is)
    (case e_ONE => k_is)
    (case q_ONE => k_is)
    (case e_MOST_DEPTH => k_is)
    (case e_MOST_LEAVES => k_is)
    (case e_THING => k_is)
    (case q_THING => k_is)
    (case e_MOST_DEEP => k_is)
    (case e_MOST_PARTS => k_is)
