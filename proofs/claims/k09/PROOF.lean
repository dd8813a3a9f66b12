import PyProof.Rows.All
import Wide.All
import OpenK.AllK
import Wide.FinOn
import HandS.ForMost
import HandS.ForExc
import HandS.IsInst
import HandS.Deep
import HandS.Wide
import HandS.RevRange
import HandS.More
import HandS.TupLe
import HandS.ExcIs
import HandS.RaiseMore
import KE.KRevSl
import HandS.SortKw
import KE.KMinKey
import HandS.CallSlots
import HandS.Defaults
import HandS.Flow
import PySem.Challenge.RW_kindfill_k09_tidied
set_option Elab.async false
set_option maxRecDepth 100000
set_option linter.all false
/-! Kf: a layer of readings over plain data. -/
namespace Kf
open PySem PySem.Spec L2
open PyProof.Rows hiding St

/-- plain data; scr is the script, ref an owned cell -/
inductive D where
  | non | bl (b : Bool) | int (i : Int) | str (x : Str) | tup (ds : List D) | lst (ds : List D) | ref (a : Addr) | ty (n : String) | scr (ns : List Int) | edic
  deriving Inhabited

/-- what an owned address holds -/
inductive Cell where
  | lst (ds : List D)
  | pool
  | dic (kvs : List (Key × D))
  | dicL (kvs : List (Key × D)) (o : HO)

abbrev Ow := Addr → Option Cell
def updO (O : Ow) (a : Addr) (c : Cell) : Ow := fun b => if b = a then some c else O b
theorem updO_same {O : Ow} {a : Addr} {c : Cell} : updO O a c a = some c := if_pos rfl
theorem updO_ne {O : Ow} {a b : Addr} {c : Cell} (h : b ≠ a) : updO O a c b = O b := if_neg h
theorem updO_updO {O : Ow} {a : Addr} {c d : Cell} : updO (updO O a c) a d = updO O a d := by
  funext b; unfold updO; split <;> rfl
theorem updO_self {O : Ow} {a : Addr} {c : Cell} (h : O a = some c) : updO O a c = O := by
  funext b; unfold updO; split
  · rename_i e; rw [e, h]
  · rfl
/-- without a cell -/
def delO (O : Ow) (a : Addr) : Ow := fun b => if b = a then none else O b
theorem delO_updO {O : Ow} {a : Addr} {c : Cell} (h : O a = none) : delO (updO O a c) a = O := by
  funext b; unfold delO updO; split
  · rename_i e; rw [e, h]
  · rfl

abbrev DEnv := List (Option D)
abbrev VD := D → Ow → Prop
abbrev FE := DEnv → Ow → VD → Prop
abbrev FT := DEnv → Ow → (Bool → Ow → Prop) → Prop
abbrev FA := DEnv → Ow → (List D → Ow → Prop) → Prop

section
variable (K : PySem.W.Frag) (F : Hp)
mutual
def Rep : D → V → Prop
  | .non, v => v = .non
  | .bl b, v => v = .bl b
  | .int i, v => v = .int i
  | .str x, v => v = .str x
  | .tup ds, v => ∃ a xs, v = .ref a ∧ SqT K F a xs ∧ RepAll ds xs
  | .lst ds, v => ∃ a xs, v = .ref a ∧ F a = some (.lst xs) ∧ RepAll ds xs
  | .ref a, v => v = .ref a
  | .ty n, v => v = .ty n
  | .scr ns, v => ∃ a, v = .ref a ∧ SqL K F a (ns.map V.int)
  | .edic, v => ∃ a, v = .ref a ∧ F a = some (.dK [])
def RepAll : List D → List V → Prop
  | [], vs => vs = []
  | d :: ds, vs => ∃ v r, vs = v :: r ∧ Rep d v ∧ RepAll ds r
end
end

theorem Same.seqT {K : PySem.W.Frag} {H H' : Hp} {a : Addr} {xs : List V} (e : Same H H') (h : SqT K H a xs) : SqT K H' a xs := by
  rcases h with (h | ⟨o, h⟩) | h
  · exact .inl (.inl (e _ _ h))
  · exact .inl (.inr ⟨o, e _ _ h⟩)
  · exact .inr h

section
variable {K : PySem.W.Frag} {F F' : Hp}
mutual
theorem Rep.mono (s : Same F F') : ∀ (d : D) (v : V), Rep K F d v → Rep K F' d v
  | .non, _, h => by simpa only [Rep] using h
  | .bl _, _, h => by simpa only [Rep] using h
  | .int _, _, h => by simpa only [Rep] using h
  | .str _, _, h => by simpa only [Rep] using h
  | .ref _, _, h => by simpa only [Rep] using h
  | .ty _, _, h => by simpa only [Rep] using h
  | .tup ds, _, h => by
    simp only [Rep] at h ⊢
    obtain ⟨a, xs, e, h1, h2⟩ := h
    exact ⟨a, xs, e, Same.seqT s h1, RepAll.mono s ds xs h2⟩
  | .lst ds, _, h => by
    simp only [Rep] at h ⊢
    obtain ⟨a, xs, e, h1, h2⟩ := h
    exact ⟨a, xs, e, s _ _ h1, RepAll.mono s ds xs h2⟩
  | .scr ns, _, h => by
    simp only [Rep] at h ⊢
    obtain ⟨a, e, h1⟩ := h
    exact ⟨a, e, s.seq h1⟩
  | .edic, _, h => by
    simp only [Rep] at h ⊢
    obtain ⟨a, e, h1⟩ := h
    exact ⟨a, e, s _ _ h1⟩
theorem RepAll.mono (s : Same F F') : ∀ (ds : List D) (vs : List V), RepAll K F ds vs → RepAll K F' ds vs
  | [], _, h => by simpa only [RepAll] using h
  | d :: ds, _, h => by
    simp only [RepAll] at h ⊢
    obtain ⟨v, r, e, h1, h2⟩ := h
    exact ⟨v, r, e, Rep.mono s d v h1, RepAll.mono s ds r h2⟩
end
theorem RepAll.length : ∀ {ds : List D} {vs : List V}, RepAll K F ds vs → ds.length = vs.length
  | [], _, h => by simp only [RepAll] at h; rw [h]; rfl
  | d :: ds, _, h => by
    simp only [RepAll] at h
    obtain ⟨v, r, rfl, _, h2⟩ := h
    rw [List.length_cons, List.length_cons, RepAll.length h2]
theorem RepAll.get : ∀ {ds : List D} {vs : List V} {i : Nat} {d : D}, RepAll K F ds vs → ds[i]? = some d → ∃ v, vs[i]? = some v ∧ Rep K F d v
  | [], _, _, _, h, e => by simp at e
  | d :: ds, _, i, _, h, e => by
    simp only [RepAll] at h
    obtain ⟨v, r, rfl, h1, h2⟩ := h
    cases i with
    | zero => simp at e; subst e; exact ⟨v, rfl, h1⟩
    | succ i => simp at e ⊢; exact RepAll.get h2 e
theorem RepAll.append : ∀ {ds es : List D} {vs ws : List V}, RepAll K F ds vs → RepAll K F es ws → RepAll K F (ds ++ es) (vs ++ ws)
  | [], _, _, _, h, q => by simp only [RepAll] at h; subst h; exact q
  | d :: ds, es, _, ws, h, q => by
    simp only [RepAll] at h
    obtain ⟨v, r, rfl, h1, h2⟩ := h
    rw [List.cons_append, List.cons_append]
    simp only [RepAll]
    exact ⟨v, r ++ ws, rfl, h1, RepAll.append h2 q⟩
theorem RepAll.nil : RepAll K F [] [] := by simp only [RepAll]
theorem RepAll.cons {d : D} {ds : List D} {v : V} {vs : List V} (h : Rep K F d v) (q : RepAll K F ds vs) : RepAll K F (d :: ds) (v :: vs) := by
  simp only [RepAll]; exact ⟨v, vs, rfl, h, q⟩
theorem RepAll.one {d : D} {v : V} (h : Rep K F d v) : RepAll K F [d] [v] := .cons h .nil
theorem RepAll.set {x : D} {y : V} (hx : Rep K F x y) : ∀ {ds : List D} {vs : List V} (i : Nat), RepAll K F ds vs → RepAll K F (ds.set i x) (vs.set i y)
  | [], _, _, h => by simp only [RepAll] at h; subst h; exact .nil
  | d :: ds, _, i, h => by
    simp only [RepAll] at h
    obtain ⟨v, r, rfl, h1, h2⟩ := h
    cases i with
    | zero => exact .cons hx h2
    | succ i => exact .cons h1 (RepAll.set hx i h2)
theorem RepAll.drop : ∀ {ds : List D} {vs : List V} (n : Nat), RepAll K F ds vs → RepAll K F (ds.drop n) (vs.drop n)
  | _, _, 0, h => h
  | [], _, n + 1, h => by simp only [RepAll] at h; subst h; exact .nil
  | d :: ds, _, n + 1, h => by
    simp only [RepAll] at h
    obtain ⟨v, r, rfl, h1, h2⟩ := h
    exact RepAll.drop n h2
theorem RepAll.take : ∀ {ds : List D} {vs : List V} (n : Nat), RepAll K F ds vs → RepAll K F (ds.take n) (vs.take n)
  | _, _, 0, h => .nil
  | [], _, n + 1, h => by simp only [RepAll] at h; subst h; exact .nil
  | d :: ds, _, n + 1, h => by
    simp only [RepAll] at h
    obtain ⟨v, r, rfl, h1, h2⟩ := h
    exact .cons h1 (RepAll.take n h2)
theorem RepAll.eraseIdx : ∀ {ds : List D} {vs : List V} (n : Nat), RepAll K F ds vs → RepAll K F (ds.eraseIdx n) (vs.eraseIdx n)
  | [], _, n, h => by simp only [RepAll] at h; subst h; exact .nil
  | d :: ds, _, n, h => by
    simp only [RepAll] at h
    obtain ⟨v, r, rfl, h1, h2⟩ := h
    cases n with
    | zero => exact h2
    | succ n => exact .cons h1 (RepAll.eraseIdx n h2)
theorem RepAll.reverse {ds : List D} {vs : List V} (h : RepAll K F ds vs) : RepAll K F ds.reverse vs.reverse := by
  induction ds generalizing vs with
  | nil => simp only [RepAll] at h; subst h; exact .nil
  | cons d ds ih =>
    simp only [RepAll] at h
    obtain ⟨v, r, rfl, h1, h2⟩ := h
    rw [List.reverse_cons, List.reverse_cons]
    exact .append (ih h2) (.one h1)
theorem RepAll.ints {vs : List V} : ∀ {ns : List Int}, RepAll K F (ns.map D.int) vs → vs = ns.map V.int := by
  intro ns h
  induction ns generalizing vs with
  | nil => rw [List.map_nil] at h; simpa only [RepAll, List.map_nil] using h
  | cons n ns ih =>
    rw [List.map_cons] at h
    simp only [RepAll, Rep] at h
    obtain ⟨v, r, rfl, rfl, h2⟩ := h
    rw [ih h2]; rfl
theorem RepAll.strs {vs : List V} : ∀ {ns : List Str}, RepAll K F (ns.map D.str) vs → vs = ns.map V.str := by
  intro ns h
  induction ns generalizing vs with
  | nil => rw [List.map_nil] at h; simpa only [RepAll, List.map_nil] using h
  | cons n ns ih =>
    rw [List.map_cons] at h
    simp only [RepAll, Rep] at h
    obtain ⟨v, r, rfl, rfl, h2⟩ := h
    rw [ih h2]; rfl
theorem RepAll.bls {vs : List V} : ∀ {ns : List Bool}, RepAll K F (ns.map D.bl) vs → vs = ns.map V.bl := by
  intro ns h
  induction ns generalizing vs with
  | nil => rw [List.map_nil] at h; simpa only [RepAll, List.map_nil] using h
  | cons n ns ih =>
    rw [List.map_cons] at h
    simp only [RepAll, Rep] at h
    obtain ⟨v, r, rfl, rfl, h2⟩ := h
    rw [ih h2]; rfl
theorem RepAll.of_ints : ∀ {ns : List Int}, RepAll K F (ns.map D.int) (ns.map V.int)
  | [] => .nil
  | n :: ns => .cons (by simp only [Rep]) RepAll.of_ints
theorem RepAll.of_strs : ∀ {ns : List Str}, RepAll K F (ns.map D.str) (ns.map V.str)
  | [] => .nil
  | n :: ns => .cons (by simp only [Rep]) RepAll.of_strs
end

/-! ### the ghost state -/
/-- the entries of a dict -/
def KvOk (K : PySem.W.Frag) (F : Hp) : List (Key × D) → List (Key × V) → Prop := Paired fun p q => p.1 = q.1 ∧ Rep K F p.2 q.2
theorem KvOk.mono {K : PySem.W.Frag} {F F' : Hp} (s : Same F F') {kvs : List (Key × D)} {vs : List (Key × V)} (h : KvOk K F kvs vs) : KvOk K F' kvs vs := Paired.mapP h fun _ _ z => ⟨z.1, z.2.mono s⟩
def CellOk (K : PySem.W.Frag) (F H : Hp) (a : Addr) : Cell → Prop
  | .lst ds => ∃ vs, H a = some (.lst vs) ∧ RepAll K F ds vs
  | .pool => ∃ x y : Int, H a = some (.lst [.int x, .int y]) ∧ 0 ≤ x ∧ 0 ≤ y ∧ y < 2147483647
  | .dic kvs => ∃ vs : List (Key × V), H a = some (.dK vs) ∧ KvOk K F kvs vs
  | .dicL kvs o => H a = some o ∧ ∃ (od : Obj) (vs : List (Key × V)), o = .frz od (.dK vs) ∧ KvOk K F kvs vs
/-- what is known of F and P all the while: it bears more of both -/
structure MX where
  rel : Hp → Hp → Prop
  mono : ∀ {F F' P P' : Hp}, rel F P → Same F F' → Same P P' → rel F' P'
def MT : MX := ⟨fun _ _ => True, fun _ _ _ => trivial⟩
variable {M : MX}
/-- F: what never changes; O: what is owned; P: what stands aside -/
structure Gd (M : MX) (K : PySem.W.Frag) (F : Hp) (O : Ow) (P : Hp) (H : Hp) : Prop where
  fz : Same F H
  ow : ∀ a c, O a = some c → F a = none ∧ P a = none ∧ CellOk K F H a c
  as : ∀ a o, P a = some o → F a = none ∧ H a = some o
  rl : M.rel F P

theorem CellOk.some {K : PySem.W.Frag} {F H : Hp} {a : Addr} {c : Cell} (h : CellOk K F H a c) : ∃ o, H a = some o := by
  cases c with
  | lst ds => obtain ⟨vs, h, _⟩ := h; exact ⟨_, h⟩
  | pool => obtain ⟨x, y, h, _⟩ := h; exact ⟨_, h⟩
  | dic kvs => obtain ⟨vs, h, _⟩ := h; exact ⟨_, h⟩
  | dicL kvs o => exact ⟨_, h.1⟩
theorem CellOk.mono {K : PySem.W.Frag} {F F' H H' : Hp} {a : Addr} {c : Cell} (h : CellOk K F H a c) (s : Same F F') (e : H' a = H a) : CellOk K F' H' a c := by
  cases c with
  | lst ds => obtain ⟨vs, h, r⟩ := h; exact ⟨vs, e.trans h, r.mono s⟩
  | pool => obtain ⟨x, y, h, r⟩ := h; exact ⟨x, y, e.trans h, r⟩
  | dic kvs => obtain ⟨vs, h, r⟩ := h; exact ⟨vs, e.trans h, r.mono s⟩
  | dicL kvs o => obtain ⟨h, od, vs, r1, r2⟩ := h; exact ⟨e.trans h, od, vs, r1, r2.mono s⟩

section
variable {K : PySem.W.Frag} {F P H : Hp} {O : Ow} {p : Addr} {o : HO}
theorem Gd.freeF (g : Gd M K F O P H) (h : H p = none) : F p = none := g.fz.free h
theorem Gd.freeO (g : Gd M K F O P H) (h : H p = none) : O p = none := by
  cases e : O p with
  | none => rfl
  | some c =>
    obtain ⟨u, q⟩ := (g.ow p c e).2.2.some
    rw [h] at q; cases q
theorem Gd.freeP (g : Gd M K F O P H) (h : H p = none) : P p = none := by
  cases e : P p with
  | none => rfl
  | some c =>
    have q := (g.as p c e).2
    rw [h] at q; cases q
theorem same_upd {H : Hp} {p : Addr} {o : HO} (h : H p = none) : Same H (upd H p o) := fun b x e => by
  rw [upd_ne (ne_of_none e h)]; exact e
theorem Same.upd2 {F H : Hp} {p : Addr} {o : HO} (s : Same F H) : Same (upd F p o) (upd H p o) := fun b x e => by
  unfold upd at e ⊢
  split
  · rename_i q; rw [if_pos q] at e; exact e
  · rename_i q; rw [if_neg q] at e; exact s b x e
/-- a new thing that never changes -/
theorem Gd.new (g : Gd M K F O P H) (h : H p = none) : Gd M K (upd F p o) O P (upd H p o) := by
  have hF := g.freeF h
  have hO := g.freeO h
  have hP := g.freeP h
  refine ⟨Same.upd2 g.fz, fun a c e => ?_, fun a u e => ?_, M.mono g.rl (same_upd hF) (Same.refl _)⟩
  · have ne : a ≠ p := fun q => by rw [q, hO] at e; cases e
    obtain ⟨h1, h2, h3⟩ := g.ow a c e
    exact ⟨(upd_ne ne).trans h1, h2, h3.mono (same_upd hF) (upd_ne ne)⟩
  · have ne : a ≠ p := fun q => by rw [q, hP] at e; cases e
    obtain ⟨h1, h2⟩ := g.as a u e
    exact ⟨(upd_ne ne).trans h1, (upd_ne ne).trans h2⟩
/-- a thing of the heap that nothing speaks of -/
theorem Gd.skip (g : Gd M K F O P H) (h : H p = none) : Gd M K F O P (upd H p o) := by
  have hO := g.freeO h
  have hP := g.freeP h
  refine ⟨fun b x e => (same_upd h) b x (g.fz b x e), fun a c e => ?_, fun a u e => ?_, g.rl⟩
  · have ne : a ≠ p := fun q => by rw [q, hO] at e; cases e
    obtain ⟨h1, h2, h3⟩ := g.ow a c e
    exact ⟨h1, h2, h3.mono (Same.refl _) (upd_ne ne)⟩
  · have ne : a ≠ p := fun q => by rw [q, hP] at e; cases e
    obtain ⟨h1, h2⟩ := g.as a u e
    exact ⟨h1, (upd_ne ne).trans h2⟩
/-- a new owned cell -/
theorem Gd.newO (g : Gd M K F O P H) (h : H p = none) {c : Cell} (hc : CellOk K F (upd H p o) p c) : Gd M K F (updO O p c) P (upd H p o) := by
  have hF := g.freeF h
  have g' := g.skip (o := o) h
  refine ⟨g'.fz, fun a d e => ?_, g'.as, g'.rl⟩
  by_cases q : a = p
  · subst q
    rw [updO_same] at e; cases e
    exact ⟨hF, g.freeP h, hc⟩
  · rw [updO_ne q] at e
    exact g'.ow a d e
/-- an owned cell changes -/
theorem Gd.setO (g : Gd M K F O P H) {c0 : Cell} (h : O p = some c0) {c : Cell} (hc : CellOk K F (upd H p o) p c) : Gd M K F (updO O p c) P (upd H p o) := by
  obtain ⟨hF, hP, _⟩ := g.ow p c0 h
  refine ⟨fun b x e => ?_, fun a d e => ?_, fun a u e => ?_, g.rl⟩
  · have ne : b ≠ p := fun q => by rw [q, hF] at e; cases e
    rw [upd_ne ne]; exact g.fz b x e
  · by_cases q : a = p
    · subst q
      rw [updO_same] at e; cases e
      exact ⟨hF, hP, hc⟩
    · rw [updO_ne q] at e
      obtain ⟨h1, h2, h3⟩ := g.ow a d e
      exact ⟨h1, h2, h3.mono (Same.refl _) (upd_ne q)⟩
  · have ne : a ≠ p := fun q => by rw [q, hP] at e; cases e
    obtain ⟨h1, h2⟩ := g.as a u e
    exact ⟨h1, (upd_ne ne).trans h2⟩
/-- an owned cell's word is another one of the same thing -/
theorem Gd.retell (g : Gd M K F O P H) {c0 : Cell} (h : O p = some c0) {c : Cell} (hc : CellOk K F H p c) : Gd M K F (updO O p c) P H := by
  obtain ⟨hF, hP, _⟩ := g.ow p c0 h
  refine ⟨g.fz, fun a d e => ?_, g.as, g.rl⟩
  by_cases q : a = p
  · subst q
    rw [updO_same] at e; cases e
    exact ⟨hF, hP, hc⟩
  · rw [updO_ne q] at e
    exact g.ow a d e
/-- an owned list is owned no more: it never changes from now on -/
theorem Gd.freeze (g : Gd M K F O P H) {ds : List D} (h : O p = some (.lst ds)) : ∃ F', Same F F' ∧ Gd M K F' (delO O p) P H ∧ Rep K F' (.lst ds) (.ref p) := by
  obtain ⟨hF, hP, vs, hH, hr⟩ := g.ow p _ h
  have s : Same F (upd F p (.lst vs)) := same_upd hF
  refine ⟨upd F p (.lst vs), s, ⟨fun b x e => ?_, fun a c e => ?_, fun a u e => ?_, M.mono g.rl s (Same.refl _)⟩, ?_⟩
  · by_cases q : b = p
    · subst q; rw [upd_same] at e; cases e; exact hH
    · rw [upd_ne q] at e; exact g.fz b x e
  · unfold delO at e
    by_cases q : a = p
    · rw [if_pos q] at e; cases e
    · rw [if_neg q] at e
      obtain ⟨h1, h2, h3⟩ := g.ow a c e
      exact ⟨(upd_ne q).trans h1, h2, h3.mono s rfl⟩
  · have q : a ≠ p := fun z => by rw [z, hP] at e; cases e
    obtain ⟨h1, h2⟩ := g.as a u e
    exact ⟨(upd_ne q).trans h1, h2⟩
  · simp only [Rep]
    exact ⟨p, vs, rfl, upd_same, hr.mono s⟩
/-- an owned cell is forgotten -/
theorem Gd.drop (g : Gd M K F O P H) : Gd M K F (delO O p) P H := by
  refine ⟨g.fz, fun a c e => ?_, g.as, g.rl⟩
  unfold delO at e
  by_cases q : a = p
  · rw [if_pos q] at e; cases e
  · rw [if_neg q] at e; exact g.ow a c e
end

/-! ### environments -/
def EnvOk (K : PySem.W.Frag) (F : Hp) (ρ : DEnv) (σ : St) : Prop := ρ.length = σ.length ∧ ∀ (i : Nat) (d : D), ρ[i]? = some (some d) → ∃ v, σ[i]? = some (some v) ∧ Rep K F d v
section
variable {K : PySem.W.Frag} {F F' : Hp} {ρ : DEnv} {σ : St}
theorem EnvOk.mono (h : EnvOk K F ρ σ) (s : Same F F') : EnvOk K F' ρ σ := ⟨h.1, fun i d e => let ⟨v, q, r⟩ := h.2 i d e; ⟨v, q, r.mono s⟩⟩
theorem EnvOk.set (h : EnvOk K F ρ σ) {d : D} {v : V} (r : Rep K F d v) (i : Nat) : EnvOk K F (ρ.set i (some d)) (σ.set i (some v)) := by
  refine ⟨by rw [List.length_set, List.length_set, h.1], fun j e q => ?_⟩
  by_cases c : i = j
  · subst c
    by_cases hl : i < ρ.length
    · rw [List.getElem?_set_self hl] at q
      cases q
      exact ⟨v, by rw [List.getElem?_set_self (h.1 ▸ hl)], r⟩
    · rw [List.getElem?_eq_none (by rw [List.length_set]; omega)] at q; cases q
  · rw [List.getElem?_set_ne c] at q ⊢
    exact h.2 j e q
theorem EnvOk.wipe (h : EnvOk K F ρ σ) (i : Nat) : EnvOk K F (ρ.set i none) (σ.set i none) := by
  refine ⟨by rw [List.length_set, List.length_set, h.1], fun j e q => ?_⟩
  by_cases c : i = j
  · subst c
    by_cases hl : i < ρ.length
    · rw [List.getElem?_set_self hl] at q; cases q
    · rw [List.getElem?_eq_none (by rw [List.length_set]; omega)] at q; cases q
  · rw [List.getElem?_set_ne c] at q ⊢
    exact h.2 j e q
theorem envOk_start : ∀ {ds : List D} {vs : List V} (n : Nat), RepAll K F ds vs → EnvOk K F (ds.map some ++ List.replicate n none) (vs.map some ++ List.replicate n none) := by
  intro ds vs n h
  have hl := h.length
  refine ⟨by simp [hl], fun i d e => ?_⟩
  by_cases c : i < ds.length
  · rw [List.getElem?_append_left (by simpa using c), List.getElem?_map] at e
    obtain ⟨d', e1, e2⟩ := Option.map_eq_some_iff.mp e
    cases e2
    obtain ⟨v, h1, h2⟩ := h.get e1
    refine ⟨v, ?_, h2⟩
    rw [List.getElem?_append_left (by simpa [← hl] using c), List.getElem?_map, h1]; rfl
  · rw [List.getElem?_append_right (by simpa using c)] at e
    rw [List.getElem?_replicate] at e
    split at e <;> cases e
end

/-! ### readings over data, lifted -/
def PostE (M : MX) (K : PySem.W.Frag) (F P : Hp) (R : VD) (Q : VK) : Prop := ∀ d O' F' H' v, R d O' → Same F F' → Gd M K F' O' P H' → Rep K F' d v → Q v H'
def PostT (M : MX) (K : PySem.W.Frag) (F P : Hp) (R : Bool → Ow → Prop) (Q : Bool → Hp → Prop) : Prop := ∀ b O' F' H', R b O' → Same F F' → Gd M K F' O' P H' → Q b H'
def PostA (M : MX) (K : PySem.W.Frag) (F P : Hp) (R : List D → Ow → Prop) (Q : List V → Hp → Prop) : Prop := ∀ ds O' F' H' vs, R ds O' → Same F F' → Gd M K F' O' P H' → RepAll K F' ds vs → Q vs H'
def liftE (M : MX) (K : PySem.W.Frag) (f : FE) : TE := fun σ H Q => ∃ F O P ρ R, Gd M K F O P H ∧ EnvOk K F ρ σ ∧ f ρ O R ∧ PostE M K F P R Q
def liftT (M : MX) (K : PySem.W.Frag) (f : FT) : TT := fun σ H Q => ∃ F O P ρ R, Gd M K F O P H ∧ EnvOk K F ρ σ ∧ f ρ O R ∧ PostT M K F P R Q
def liftA (M : MX) (K : PySem.W.Frag) (f : FA) : TA := fun σ H Q => ∃ F O P ρ R, Gd M K F O P H ∧ EnvOk K F ρ σ ∧ f ρ O R ∧ PostA M K F P R Q
abbrev DE (M : MX) (X : Cx) (e : Expr) (f : FE) : Prop := PE X e (liftE M X.K f)
abbrev DT (M : MX) (X : Cx) (e : Expr) (f : FT) : Prop := PT X e (liftT M X.K f)
abbrev DA (M : MX) (X : Cx) (es : List Expr) (f : FA) : Prop := PA X es (liftA M X.K f)

theorem peMono {X : Cx} {e : Expr} {t t' : TE} (h : PE X e t) (imp : ∀ σ H Q, t' σ H Q → t σ H Q) : PE X e t' := ⟨fun pins s σ H Q I q => h.run pins s σ H Q I (imp σ H Q q)⟩
theorem ptMono {X : Cx} {e : Expr} {t t' : TT} (h : PT X e t) (imp : ∀ σ H Q, t' σ H Q → t σ H Q) : PT X e t' := ⟨fun pins s σ H Q I q => h.run pins s σ H Q I (imp σ H Q q)⟩
theorem pwMono {X : Cx} {e : Expr} {t t' : TT} (h : PW X e t) (imp : ∀ σ H Q, t' σ H Q → t σ H Q) : PW X e t' := ⟨fun whole pins s σ H Q I q => h.run whole pins s σ H Q I (imp σ H Q q)⟩
theorem paMono {X : Cx} {es : List Expr} {t t' : TA} (h : PA X es t) (imp : ∀ σ H Q, t' σ H Q → t σ H Q) : PA X es t' := ⟨fun pos pins s σ H Q I q => h.run pos pins s σ H Q I (imp σ H Q q)⟩
theorem psMono {X : Cx} {st : Stmt} {t t' : TS} (h : PS X st t) (imp : ∀ D σ H, t' D σ H → t D σ H) : PS X st t' := ⟨fun pins s σ H D I q => h.run pins s σ H D I (imp D σ H q)⟩
theorem pssMono {X : Cx} {st : List Stmt} {t t' : TS} (h : PSs X st t) (imp : ∀ D σ H, t' D σ H → t D σ H) : PSs X st t' := ⟨fun pins s σ H D I q => h.run pins s σ H D I (imp D σ H q)⟩

section
variable {X : Cx} {a b c e : Expr} {es : List Expr} {fa fb fc : FE} {pos : Pos}

/-! ### names and constants -/
def envGet (o : Option (Option D)) (O : Ow) (Q : VD) : Prop := match o with
  | some (some d) => Q d O
  | _ => False
theorem envGet_s {d : D} {O : Ow} {Q : VD} : envGet (some (some d)) O Q = Q d O := rfl
def fVar (i : Nat) : FE := fun ρ O Q => envGet ρ[i]? O Q
def fC (d : D) : FE := fun _ O Q => Q d O
theorem de_var (i : Nat) {x : Str} (hN : X.N[i]? = some x := by rfl) (hv : Vis X.env.scope x := by first | exact Or.inl rfl | exact Or.inr (Or.inl rfl) | exact Or.inr (Or.inr rfl)) (hd : (x == ("__debug__" : Str)) = false := by decide)
    (hcd : (x == ("__classdict__" : Str)) = false := by decide) : DE M X (.Name x pos) (fVar i) := by
  refine peMono (pe_var hN hv hd hcd) fun σ H Q h => ?_
  obtain ⟨F, O, P, ρ, R, g, en, q, po⟩ := h
  unfold fVar envGet at q
  split at q
  · rename_i d e
    obtain ⟨v, e', r⟩ := en.2 i d e
    exact ⟨v, e', po d O F H v q (Same.refl _) g r⟩
  · exact q.elim
/-- a constant: what is the same everywhere -/
theorem de_const {t : TE} {d : D} {v : V} (h : PE X e t) (ht : ∀ σ H Q, Q v H → t σ H Q) (hr : ∀ F, Rep X.K F d v) : DE M X e (fC d) := by
  refine peMono h fun σ H Q h => ?_
  obtain ⟨F, O, P, ρ, R, g, en, q, po⟩ := h
  exact ht σ H Q (po d O F H v q (Same.refl _) g (hr F))
theorem de_int {i : Int} {j : Nat} : DE M X (.Constant (.int i) j pos) (fC (.int i)) := de_const pe_int (fun _ _ _ q => q) fun _ => by simp only [Rep]
theorem de_bl {i : Bool} {j : Nat} : DE M X (.Constant (.bool i) j pos) (fC (.bl i)) := de_const pe_bl (fun _ _ _ q => q) fun _ => by simp only [Rep]
theorem de_non {j : Nat} : DE M X (.Constant .none j pos) (fC .non) := de_const pe_non (fun _ _ _ q => q) fun _ => by simp only [Rep]
theorem de_str {x : Str} {j : Nat} : DE M X (.Constant (.str x) j pos) (fC (.str x)) := de_const pe_str (fun _ _ _ q => q) fun _ => by simp only [Rep]
theorem de_glob {x : Str} {d : D} {v : V} {u : Value} (hg : Gl X x) (hm : X.mg x = some u) (r : RelV v u) (hr : ∀ F, Rep X.K F d v) (hd : (x == ("__debug__" : Str)) = false := by decide) : DE M X (.Name x pos) (fC d) :=
  de_const (pe_glob hg hm r hd) (fun _ _ _ q => q) hr
theorem de_bltn {x : Str} {d : D} {v : V} {u : Value} (hg : Gl X x) (hm : X.mg x = none) (hv : bootBuiltins x = some u) (r : RelV v u) (hr : ∀ F, Rep X.K F d v) (hn : x ≠ "__name__" := by decide) (hd : (x == ("__debug__" : Str)) = false := by decide) : DE M X (.Name x pos) (fC d) :=
  de_const (pe_bltn hg hm hv r hn hd) (fun _ _ _ q => q) hr

/-! ### operators -/
abbrev R2D := D → D → Ow → VD → Prop
abbrev R1D := D → Ow → VD → Prop
def liftR2 (M : MX) (K : PySem.W.Frag) (r : R2D) : R2 := fun x y H Q => ∃ F O P dx dy R, Gd M K F O P H ∧ Rep K F dx x ∧ Rep K F dy y ∧ r dx dy O R ∧ PostE M K F P R Q
def liftR1 (M : MX) (K : PySem.W.Frag) (r : R1D) : V → Hp → VK → Prop := fun x H Q => ∃ F O P dx R, Gd M K F O P H ∧ Rep K F dx x ∧ r dx O R ∧ PostE M K F P R Q
def liftRA (M : MX) (K : PySem.W.Frag) (r : List D → Ow → VD → Prop) : List V → Hp → VK → Prop := fun xs H Q => ∃ F O P ds R, Gd M K F O P H ∧ RepAll K F ds xs ∧ r ds O R ∧ PostE M K F P R Q
def fOp (r : R2D) (fa fb : FE) : FE := fun ρ O Q => fa ρ O fun x O1 => fb ρ O1 fun y O2 => r x y O2 Q
theorem fOp_lift {r : R2D} : ∀ σ H Q, liftE M X.K (fOp r fa fb) σ H Q → tOp (liftR2 M X.K r) (liftE M X.K fa) (liftE M X.K fb) σ H Q := by
  intro σ H Q h
  obtain ⟨F, O, P, ρ, R, g, en, q, po⟩ := h
  refine ⟨F, O, P, ρ, _, g, en, q, fun x O1 F1 H1 v q1 s1 g1 r1 => ?_⟩
  refine ⟨F1, O1, P, ρ, _, g1, en.mono s1, q1, fun y O2 F2 H2 w q2 s2 g2 r2 => ?_⟩
  exact ⟨F2, O2, P, x, y, R, g2, r1.mono s2, r2, q2, fun d O' F' H' z q3 s3 g3 r3 => po d O' F' H' z q3 (s1.trans (s2.trans s3)) g3 r3⟩
abbrev OpD (M : MX) (X : Cx) (f : Value → Value → Sem Value) (r : R2D) : Prop := OpR X f (liftR2 M X.K r)
theorem de_op {op : Operator} {r : R2D} (ho : OpD M X (binaryOp op) r) (ha : DE M X a fa) (hb : DE M X b fb) : DE M X (.BinOp a op b pos) (fOp r fa fb) := peMono (pe_op ho ha hb) fOp_lift
theorem de_cmp {op : CmpOp} {r : R2D} (ho : OpD M X (compareOp op) r) (ha : DE M X a fa) (hb : DE M X b fb) (hm : behindInMarks op b = false) : DE M X (.Compare a [op] [b] pos) (fOp r fa fb) := peMono (pe_cmpR ho ha hb hm) fOp_lift
/-- a value as a test: it must be a bool -/
def fTest (f : FE) : FT := fun ρ O Q => f ρ O fun d O1 => ∃ k, d = .bl k ∧ Q k O1
theorem tTest_lift {f : FE} {t : TE} (hl : ∀ σ H Q, liftE M X.K f σ H Q → t σ H Q) : ∀ σ H Q, liftT M X.K (fTest f) σ H Q → tTest t σ H Q := by
  intro σ H Q h
  obtain ⟨F, O, P, ρ, R, g, en, q, po⟩ := h
  refine hl σ H _ ⟨F, O, P, ρ, _, g, en, q, fun d O' F' H' v q1 s1 g1 r1 => ?_⟩
  obtain ⟨k, rfl, q2⟩ := q1
  simp only [Rep] at r1
  exact ⟨k, r1, po k O' F' H' q2 s1 g1⟩
theorem dt_cmp {op : CmpOp} {r : R2D} (ho : OpD M X (compareOp op) r) (ha : DE M X a fa) (hb : DE M X b fb) (hm : behindInMarks op b = false) : DT M X (.Compare a [op] [b] pos) (fTest (fOp r fa fb)) :=
  ptMono (pt_cmpR ho ha hb hm) (tTest_lift fOp_lift)
theorem dt_val (h : DE M X e fa) (he : ∀ whole, isTrue e X.env whole = (do let v ← whole; standAt e.pos; holding [v] (truthy v)) := by intro _; rfl) : DT M X e (fTest fa) :=
  ptMono (pt_val h he) (tTest_lift fun _ _ _ q => q)
/-- a op1 b op2 c -/
def fChain (r r' : R2D) (fa fb fc : FE) : FE := fun ρ O Q => fa ρ O fun x O1 => fb ρ O1 fun y O2 => r x y O2 fun z O3 => ∃ k, z = .bl k ∧ (if k = true then fc ρ O3 fun w O4 => r' y w O4 Q else Q (.bl false) O3)
theorem fChain_lift {r r' : R2D} : ∀ σ H Q, liftE M X.K (fChain r r' fa fb fc) σ H Q → tChain (liftR2 M X.K r) (liftR2 M X.K r') (liftE M X.K fa) (liftE M X.K fb) (liftE M X.K fc) σ H Q := by
  intro σ H Q h
  obtain ⟨F, O, P, ρ, R, g, en, q, po⟩ := h
  refine ⟨F, O, P, ρ, _, g, en, q, fun x O1 F1 H1 v q1 s1 g1 r1 => ?_⟩
  refine ⟨F1, O1, P, ρ, _, g1, en.mono s1, q1, fun y O2 F2 H2 w q2 s2 g2 r2 => ?_⟩
  refine ⟨F2, O2, P, x, y, _, g2, r1.mono s2, r2, q2, fun d O3 F3 H3 z q3 s3 g3 r3 => ?_⟩
  obtain ⟨k, rfl, q4⟩ := q3
  simp only [Rep] at r3
  refine ⟨k, r3, ?_⟩
  cases k with
  | true =>
    rw [if_pos rfl] at q4 ⊢
    refine ⟨F3, O3, P, ρ, _, g3, en.mono (s1.trans (s2.trans s3)), q4, fun w2 O4 F4 H4 z q5 s4 g4 r4 => ?_⟩
    exact ⟨F4, O4, P, y, w2, R, g4, r2.mono (s3.trans s4), r4, q5, fun d O' F' H' z q6 s5 g5 r5 => po d O' F' H' z q6 (s1.trans (s2.trans (s3.trans (s4.trans s5)))) g5 r5⟩
  | false =>
    rw [if_neg Bool.false_ne_true] at q4 ⊢
    exact po _ O3 F3 H3 _ q4 (s1.trans (s2.trans s3)) g3 (by simp only [Rep])
theorem de_chain {op op' : CmpOp} {r r' : R2D} (ho : OpD M X (compareOp op) r) (ho' : OpD M X (compareOp op') r') (ha : DE M X a fa) (hb : DE M X b fb) (hc : DE M X c fc)
    (hm : lastMarks [op, op'] [b, c] = false := by with_unfolding_all rfl) : DE M X (.Compare a [op, op'] [b, c] pos) (fChain r r' fa fb fc) := peMono (pe_chain ho ho' ha hb hc hm) fChain_lift
theorem dt_chain {op op' : CmpOp} {r r' : R2D} (ho : OpD M X (compareOp op) r) (ho' : OpD M X (compareOp op') r') (ha : DE M X a fa) (hb : DE M X b fb) (hc : DE M X c fc)
    (hm : lastMarks [op, op'] [b, c] = false := by with_unfolding_all rfl) : DT M X (.Compare a [op, op'] [b, c] pos) (fTest (fChain r r' fa fb fc)) := ptMono (pt_chain ho ho' ha hb hc hm) (tTest_lift fChain_lift)
/-! ### and, or, not -/
variable {tA tB' : FT} {rest : List Expr}
def fAnd (t u : FT) : FT := fun ρ O Q => t ρ O fun c O1 => if c = true then u ρ O1 Q else Q false O1
def fOr (t u : FT) : FT := fun ρ O Q => t ρ O fun c O1 => if c = true then Q true O1 else u ρ O1 Q
def fNot (t : FT) : FT := fun ρ O Q => t ρ O fun c O1 => Q (!c) O1
abbrev DW (M : MX) (X : Cx) (e : Expr) (f : FT) : Prop := PW X e (liftT M X.K f)
theorem fAnd_lift : ∀ σ H Q, liftT M X.K (fAnd tA tB') σ H Q → tAnd (liftT M X.K tA) (liftT M X.K tB') σ H Q := by
  intro σ H Q h
  obtain ⟨F, O, P, ρ, R, g, en, q, po⟩ := h
  refine ⟨F, O, P, ρ, _, g, en, q, fun k O1 F1 H1 q1 s1 g1 => ?_⟩
  cases k with
  | true =>
    rw [if_pos rfl] at q1 ⊢
    exact ⟨F1, O1, P, ρ, R, g1, en.mono s1, q1, fun b O' F' H' q2 s2 g2 => po b O' F' H' q2 (s1.trans s2) g2⟩
  | false =>
    rw [if_neg Bool.false_ne_true] at q1 ⊢
    exact po _ O1 F1 H1 q1 s1 g1
theorem fOr_lift : ∀ σ H Q, liftT M X.K (fOr tA tB') σ H Q → tOr (liftT M X.K tA) (liftT M X.K tB') σ H Q := by
  intro σ H Q h
  obtain ⟨F, O, P, ρ, R, g, en, q, po⟩ := h
  refine ⟨F, O, P, ρ, _, g, en, q, fun k O1 F1 H1 q1 s1 g1 => ?_⟩
  cases k with
  | false =>
    rw [if_neg Bool.false_ne_true] at q1 ⊢
    exact ⟨F1, O1, P, ρ, R, g1, en.mono s1, q1, fun b O' F' H' q2 s2 g2 => po b O' F' H' q2 (s1.trans s2) g2⟩
  | true =>
    rw [if_pos rfl] at q1 ⊢
    exact po _ O1 F1 H1 q1 s1 g1
theorem dw_and1 (ha : DT M X a tA) : DW M X (.BoolOp .And [a] pos) tA := pw_and1 ha
theorem dw_or1 (ha : DT M X a tA) : DW M X (.BoolOp .Or [a] pos) tA := pw_or1 ha
theorem dw_and (ha : DT M X a tA) (hb : DW M X (.BoolOp .And (b :: rest) pos) tB') : DW M X (.BoolOp .And (a :: b :: rest) pos) (fAnd tA tB') := pwMono (pw_and ha hb) fAnd_lift
theorem dw_or (ha : DT M X a tA) (hb : DW M X (.BoolOp .Or (b :: rest) pos) tB') : DW M X (.BoolOp .Or (a :: b :: rest) pos) (fOr tA tB') := pwMono (pw_or ha hb) fOr_lift
theorem dt_of (h : DW M X e tA) : DT M X e tA := h.pt
theorem dt_not (ha : DT M X a tA) : DT M X (.UnaryOp .Not a pos) (fNot tA) := by
  refine ptMono (pt_not ha) fun σ H Q h => ?_
  obtain ⟨F, O, P, ρ, R, g, en, q, po⟩ := h
  exact ⟨F, O, P, ρ, _, g, en, q, fun k O1 F1 H1 q1 s1 g1 => po _ O1 F1 H1 q1 s1 g1⟩
/-- .. as values (bools) -/
def fAndV (fa fb : FE) : FE := fun ρ O Q => fa ρ O fun x O1 => ∃ c, x = .bl c ∧ if c = true then fb ρ O1 Q else Q (.bl false) O1
def fOrV (fa fb : FE) : FE := fun ρ O Q => fa ρ O fun x O1 => ∃ c, x = .bl c ∧ if c = true then Q (.bl true) O1 else fb ρ O1 Q
def fNotV (fa : FE) : FE := fun ρ O Q => fa ρ O fun x O1 => ∃ c, x = .bl c ∧ Q (.bl (!c)) O1
theorem de_one {op} (h : DE M X a fa) : DE M X (.BoolOp op [a] pos) fa := pe_one h
theorem de_and (ha : DE M X a fa) (hb : DE M X (.BoolOp .And (b :: rest) pos) fb) : DE M X (.BoolOp .And (a :: b :: rest) pos) (fAndV fa fb) := by
  refine peMono (pe_and ha hb) fun σ H Q h => ?_
  obtain ⟨F, O, P, ρ, R, g, en, q, po⟩ := h
  refine ⟨F, O, P, ρ, _, g, en, q, fun k O1 F1 H1 v q1 s1 g1 r1 => ?_⟩
  obtain ⟨c, rfl, q1⟩ := q1
  simp only [Rep] at r1
  refine ⟨c, r1, ?_⟩
  cases c with
  | true =>
    rw [if_pos rfl] at q1 ⊢
    exact ⟨F1, O1, P, ρ, R, g1, en.mono s1, q1, fun b O' F' H' v q2 s2 g2 => po b O' F' H' v q2 (s1.trans s2) g2⟩
  | false =>
    rw [if_neg Bool.false_ne_true] at q1 ⊢
    exact po _ O1 F1 H1 _ q1 s1 g1 (by simp only [Rep])
theorem de_or (ha : DE M X a fa) (hb : DE M X (.BoolOp .Or (b :: rest) pos) fb) : DE M X (.BoolOp .Or (a :: b :: rest) pos) (fOrV fa fb) := by
  refine peMono (pe_or ha hb) fun σ H Q h => ?_
  obtain ⟨F, O, P, ρ, R, g, en, q, po⟩ := h
  refine ⟨F, O, P, ρ, _, g, en, q, fun k O1 F1 H1 v q1 s1 g1 r1 => ?_⟩
  obtain ⟨c, rfl, q1⟩ := q1
  simp only [Rep] at r1
  refine ⟨c, r1, ?_⟩
  cases c with
  | false =>
    rw [if_neg Bool.false_ne_true] at q1 ⊢
    exact ⟨F1, O1, P, ρ, R, g1, en.mono s1, q1, fun b O' F' H' v q2 s2 g2 => po b O' F' H' v q2 (s1.trans s2) g2⟩
  | true =>
    rw [if_pos rfl] at q1 ⊢
    exact po _ O1 F1 H1 _ q1 s1 g1 (by simp only [Rep])
theorem de_not (ha : DE M X a fa) : DE M X (.UnaryOp .Not a pos) (fNotV fa) := by
  refine peMono (pe_not ha) fun σ H Q h => ?_
  obtain ⟨F, O, P, ρ, R, g, en, q, po⟩ := h
  refine ⟨F, O, P, ρ, _, g, en, q, fun k O1 F1 H1 v q1 s1 g1 r1 => ?_⟩
  obtain ⟨c, rfl, q1⟩ := q1
  simp only [Rep] at r1
  exact ⟨c, r1, po _ O1 F1 H1 _ q1 s1 g1 (by simp only [Rep])⟩
/-- a if t else b -/
def fIf (t : FT) (fa fb : FE) : FE := fun ρ O Q => t ρ O fun c O1 => if c = true then fa ρ O1 Q else fb ρ O1 Q
theorem de_ifExp (hc : DT M X c tA) (ha : DE M X a fa) (hb : DE M X b fb) : DE M X (.IfExp c a b pos) (fIf tA fa fb) := by
  refine peMono (pe_ifExp hc ha hb) fun σ H Q h => ?_
  obtain ⟨F, O, P, ρ, R, g, en, q, po⟩ := h
  refine ⟨F, O, P, ρ, _, g, en, q, fun k O1 F1 H1 q1 s1 g1 => ?_⟩
  cases k with
  | true =>
    rw [if_pos rfl] at q1 ⊢
    exact ⟨F1, O1, P, ρ, R, g1, en.mono s1, q1, fun b O' F' H' v q2 s2 g2 => po b O' F' H' v q2 (s1.trans s2) g2⟩
  | false =>
    rw [if_neg Bool.false_ne_true] at q1 ⊢
    exact ⟨F1, O1, P, ρ, R, g1, en.mono s1, q1, fun b O' F' H' v q2 s2 g2 => po b O' F' H' v q2 (s1.trans s2) g2⟩
/-! ### argument lists, displays -/
def fNil : FA := fun _ O Q => Q [] O
def fCons (fa : FE) (fr : FA) : FA := fun ρ O Q => fa ρ O fun x O1 => fr ρ O1 fun xs O2 => Q (x :: xs) O2
variable {fr : FA}
theorem da_nil : DA M X [] fNil := paMono pa_nil fun σ H Q h => by
  obtain ⟨F, O, P, ρ, R, g, en, q, po⟩ := h
  exact po [] O F H [] q (Same.refl _) g .nil
theorem da_cons (ha : DE M X e fa) (hr : DA M X es fr) (hs : starEach (e :: es) X.env = (false, eval e X.env) :: starEach es X.env := by rfl) : DA M X (e :: es) (fCons fa fr) := by
  refine paMono (pa_cons ha hr hs) fun σ H Q h => ?_
  obtain ⟨F, O, P, ρ, R, g, en, q, po⟩ := h
  refine ⟨F, O, P, ρ, _, g, en, q, fun x O1 F1 H1 v q1 s1 g1 r1 => ?_⟩
  exact ⟨F1, O1, P, ρ, _, g1, en.mono s1, q1, fun xs O2 F2 H2 vs q2 s2 g2 r2 => po _ O2 F2 H2 _ q2 (s1.trans s2) g2 (.cons (r1.mono s2) r2)⟩
def fTup (fr : FA) : FE := fun ρ O Q => fr ρ O fun xs O1 => xs.length ≤ sizeLine ∧ Q (.tup xs) O1
theorem de_tup {x1} (h : DA M X es fr) : DE M X (.Tuple es x1 pos) (fTup fr) := by
  refine peMono (pe_tup h) fun σ H Q h => ?_
  obtain ⟨F, O, P, ρ, R, g, en, q, po⟩ := h
  refine ⟨F, O, P, ρ, _, g, en, q, fun xs O1 F1 H1 vs q1 s1 g1 r1 => ?_⟩
  refine ⟨by rw [← r1.length]; exact q1.1, fun p hp => ?_⟩
  have hF := g1.freeF hp
  refine po (.tup xs) O1 (upd F1 p (.tup vs)) _ _ q1.2 (s1.trans (same_upd hF)) (g1.new hp) ?_
  simp only [Rep]
  exact ⟨p, vs, rfl, .inl (.inl upd_same), r1.mono (same_upd hF)⟩
/-- a list that never changes -/
def fLst (fr : FA) : FE := fun ρ O Q => fr ρ O fun xs O1 => xs.length ≤ sizeLine ∧ Q (.lst xs) O1
theorem de_lst (h : DA M X es fr) : DE M X (.List es pos) (fLst fr) := by
  refine peMono (pe_lst h) fun σ H Q h => ?_
  obtain ⟨F, O, P, ρ, R, g, en, q, po⟩ := h
  refine ⟨F, O, P, ρ, _, g, en, q, fun xs O1 F1 H1 vs q1 s1 g1 r1 => ?_⟩
  refine ⟨by rw [← r1.length]; exact q1.1, fun p hp => ?_⟩
  have hF := g1.freeF hp
  refine po (.lst xs) O1 (upd F1 p (.lst vs)) _ _ q1.2 (s1.trans (same_upd hF)) (g1.new hp) ?_
  simp only [Rep]
  exact ⟨p, vs, rfl, upd_same, r1.mono (same_upd hF)⟩
/-- a list that is owned -/
def fLstO (fr : FA) : FE := fun ρ O Q => fr ρ O fun xs O1 => xs.length ≤ sizeLine ∧ ∀ p, O1 p = none → Q (.ref p) (updO O1 p (.lst xs))
theorem de_lstO (h : DA M X es fr) : DE M X (.List es pos) (fLstO fr) := by
  refine peMono (pe_lst h) fun σ H Q h => ?_
  obtain ⟨F, O, P, ρ, R, g, en, q, po⟩ := h
  refine ⟨F, O, P, ρ, _, g, en, q, fun xs O1 F1 H1 vs q1 s1 g1 r1 => ?_⟩
  refine ⟨by rw [← r1.length]; exact q1.1, fun p hp => ?_⟩
  exact po (.ref p) _ F1 _ _ (q1.2 p (g1.freeO hp)) s1 (g1.newO hp ⟨vs, upd_same, r1⟩) (by simp only [Rep])
/-- the law's pool: two numbers that are not negative -/
def rPool (xs : List D) (O : Ow) (Q : VD) : Prop := match xs with
  | [.int x, .int y] => 0 ≤ x ∧ 0 ≤ y ∧ y < 2147483647 ∧ ∀ p, O p = none → Q (.ref p) (updO O p .pool)
  | _ => False
def fPool (fr : FA) : FE := fun ρ O Q => fr ρ O fun xs O1 => rPool xs O1 Q
theorem de_pool (h : DA M X es fr) : DE M X (.List es pos) (fPool fr) := by
  refine peMono (pe_lst h) fun σ H Q h => ?_
  obtain ⟨F, O, P, ρ, R, g, en, q, po⟩ := h
  refine ⟨F, O, P, ρ, _, g, en, q, fun xs O1 F1 H1 vs q1 s1 g1 r1 => ?_⟩
  unfold rPool at q1
  split at q1
  · simp only [RepAll, Rep] at r1
    obtain ⟨_, _, rfl, rfl, _, _, rfl, rfl, rfl⟩ := r1
    refine ⟨show 2 ≤ sizeLine by decide, fun p hp => ?_⟩
    exact po (.ref p) _ F1 _ _ (q1.2.2.2 p (g1.freeO hp)) s1 (g1.newO hp ⟨_, _, upd_same, q1.1, q1.2.1, q1.2.2.1⟩) (by simp only [Rep])
  · exact q1.elim
end
end Kf
namespace Kf
open PySem PySem.Spec L2
open PyProof.Rows hiding St
variable {M : MX}

/-! ### data that is told apart by == -/
mutual
def toPy : D → PyData
  | .non => .none
  | .bl b => .bool b
  | .int i => .int i
  | .str x => .str x
  | .tup ds => .tuple (toPys ds)
  | .lst ds => .list (toPys ds)
  | .ref _ => .dict []
  | .ty _ => .dict []
  | .scr ns => .list (ns.map .int)
  | .edic => .dict []
def toPys : List D → List PyData
  | [] => []
  | d :: ds => toPy d :: toPys ds
end
mutual
def isPy : D → Bool
  | .non => true
  | .bl _ => true
  | .int _ => true
  | .str x => PyData.strOk x
  | .tup ds => isPys ds
  | .lst ds => isPys ds
  | .ref _ => false
  | .ty _ => false
  | .scr _ => false
  | .edic => false
def isPys : List D → Bool
  | [] => true
  | d :: ds => isPy d && isPys ds
end
theorem toPys_map : ∀ ds : List D, toPys ds = ds.map toPy
  | [] => rfl
  | d :: ds => by rw [toPys, toPys_map ds, List.map_cons]
theorem isPys_all : ∀ ds : List D, isPys ds = ds.all isPy
  | [] => rfl
  | d :: ds => by rw [isPys, isPys_all ds, List.all_cons]
mutual
theorem isPy_lay : ∀ d : D, isPy d = true → (toPy d).canLay0 = true
  | .non, _ => by simp only [toPy, PyData.canLay0]
  | .bl _, _ => by simp only [toPy, PyData.canLay0]
  | .int _, _ => by simp only [toPy, PyData.canLay0]
  | .str x, h => by simp only [isPy] at h; simp only [toPy, PyData.canLay0]; exact h
  | .tup ds, h => by simp only [isPy] at h; simp only [toPy, PyData.canLay0]; exact isPys_lay ds h
  | .lst ds, h => by simp only [isPy] at h; simp only [toPy, PyData.canLay0]; exact isPys_lay ds h
  | .ref _, h => by simp only [isPy] at h; cases h
  | .ty _, h => by simp only [isPy] at h; cases h
  | .scr _, h => by simp only [isPy] at h; cases h
  | .edic, h => by simp only [isPy] at h; cases h
theorem isPys_lay : ∀ ds : List D, isPys ds = true → PyData.canLayAll0 (toPys ds) = true
  | [], _ => by simp only [toPys, PyData.canLayAll0]
  | d :: ds, h => by
    simp only [isPys, Bool.and_eq_true] at h
    simp only [toPys, PyData.canLayAll0, Bool.and_eq_true]
    exact ⟨isPy_lay d h.1, isPys_lay ds h.2⟩
end
/-- how deep a datum is -/
def dp (d : D) : Nat := (toPy d).depth
section
variable {K : PySem.W.Frag} {F H : Hp}
mutual
theorem Rep.dp (s : Same F H) : ∀ (d : D) (v : V), isPy d = true → Rep K F d v → Dp K H v (toPy d)
  | .non, v, _, r => by simp only [Rep] at r; subst r; simp only [toPy]; exact .non
  | .bl b, v, _, r => by simp only [Rep] at r; subst r; simp only [toPy]; exact .bl b
  | .int b, v, _, r => by simp only [Rep] at r; subst r; simp only [toPy]; exact .int b
  | .str b, v, _, r => by simp only [Rep] at r; subst r; simp only [toPy]; exact .str b
  | .tup ds, v, h, r => by
    simp only [isPy] at h
    simp only [Rep] at r
    obtain ⟨a, xs, rfl, r1, r2⟩ := r
    simp only [toPy]
    exact .tup (Same.seqT s r1) (RepAll.dp s ds xs h r2)
  | .lst ds, v, h, r => by
    simp only [isPy] at h
    simp only [Rep] at r
    obtain ⟨a, xs, rfl, r1, r2⟩ := r
    simp only [toPy]
    exact .lst (SqL.of (s _ _ r1)) (RepAll.dp s ds xs h r2)
  | .ref _, _, h, _ => by simp only [isPy] at h; cases h
  | .ty _, _, h, _ => by simp only [isPy] at h; cases h
  | .scr _, _, h, _ => by simp only [isPy] at h; cases h
  | .edic, _, h, _ => by simp only [isPy] at h; cases h
theorem RepAll.dp (s : Same F H) : ∀ (ds : List D) (vs : List V), isPys ds = true → RepAll K F ds vs → DpAll K H vs (toPys ds)
  | [], vs, _, r => by simp only [RepAll] at r; subst r; simp only [toPys]; exact .nil
  | d :: ds, vs, h, r => by
    simp only [isPys, Bool.and_eq_true] at h
    simp only [RepAll] at r
    obtain ⟨v, q, rfl, r1, r2⟩ := r
    simp only [toPys]
    exact .cons (Rep.dp s d v h.1 r1) (RepAll.dp s ds q h.2 r2)
end
end

/-! ### an owned list read -/
def deref (O : Ow) : D → D
  | .ref a => match O a with
    | some (.lst ds) => .lst ds
    | _ => .ref a
  | d => d
/-- as Rep, but a list may be owned -/
def RepH (K : PySem.W.Frag) (F H : Hp) (d : D) (v : V) : Prop := match d with
  | .lst ds => ∃ a xs, v = .ref a ∧ H a = some (.lst xs) ∧ RepAll K F ds xs
  | d => Rep K F d v
section
variable {K : PySem.W.Frag} {F P H : Hp} {O : Ow}
theorem Gd.deref (g : Gd M K F O P H) {d : D} {v : V} (r : Rep K F d v) : RepH K F H (deref O d) v := by
  cases d with
  | lst ds =>
    simp only [Rep] at r
    obtain ⟨a, xs, e, h1, h2⟩ := r
    exact ⟨a, xs, e, g.fz _ _ h1, h2⟩
  | ref a =>
    cases e : O a with
    | none =>
      have z : Kf.deref O (.ref a) = .ref a := by simp only [Kf.deref, e]
      rw [z]; exact r
    | some c =>
      cases c with
      | pool =>
        have z : Kf.deref O (.ref a) = .ref a := by simp only [Kf.deref, e]
        rw [z]; exact r
      | dic kvs =>
        have z : Kf.deref O (.ref a) = .ref a := by simp only [Kf.deref, e]
        rw [z]; exact r
      | dicL kvs o =>
        have z : Kf.deref O (.ref a) = .ref a := by simp only [Kf.deref, e]
        rw [z]; exact r
      | lst ds =>
        have z : Kf.deref O (.ref a) = .lst ds := by simp only [Kf.deref, e]
        rw [z]
        obtain ⟨_, _, vs, h1, h2⟩ := g.ow a _ e
        simp only [Rep] at r
        exact ⟨a, vs, r, h1, h2⟩
  | _ => exact r
theorem RepH.dp (s : Same F H) {d : D} {v : V} (h : isPy d = true) (r : RepH K F H d v) : Dp K H v (toPy d) := by
  cases d with
  | lst ds =>
    obtain ⟨a, xs, rfl, h1, h2⟩ := r
    simp only [isPy] at h
    simp only [toPy]
    exact .lst (SqL.of h1) (RepAll.dp s ds xs h h2)
  | _ => exact Rep.dp s _ v h r

/-- read through owned lists at any depth -/
def ddf (O : Ow) : Nat → D → D
  | 0, d => d
  | n + 1, .ref a => match O a with
    | some (.lst ds) => .lst (ds.map (ddf O n))
    | _ => .ref a
  | n + 1, .tup ds => .tup (ds.map (ddf O n))
  | n + 1, .lst ds => .lst (ds.map (ddf O n))
  | _ + 1, d => d
theorem repAll_map {f : D → D} {F' : Hp} (h : ∀ d v, Rep K F d v → Rep K F' (f d) v) : ∀ {ds : List D} {vs : List V}, RepAll K F ds vs → RepAll K F' (ds.map f) vs
  | [], _, r => by simp only [RepAll] at r; subst r; exact .nil
  | d :: ds, _, r => by
    simp only [RepAll] at r
    obtain ⟨v, w, rfl, r1, r2⟩ := r
    rw [List.map_cons]
    exact .cons (h d v r1) (repAll_map h r2)
theorem Gd.ddf (g : Gd M K F O P H) : ∀ (n : Nat) (d : D) (v : V), Rep K F d v → Rep K H (ddf O n d) v
  | 0, d, v, r => r.mono g.fz
  | n + 1, d, v, r => by
    cases d with
    | tup ds =>
      simp only [Rep] at r
      obtain ⟨a, xs, e, h1, h2⟩ := r
      simp only [Kf.ddf, Rep]
      exact ⟨a, xs, e, Same.seqT g.fz h1, repAll_map (Gd.ddf g n) h2⟩
    | lst ds =>
      simp only [Rep] at r
      obtain ⟨a, xs, e, h1, h2⟩ := r
      simp only [Kf.ddf, Rep]
      exact ⟨a, xs, e, g.fz _ _ h1, repAll_map (Gd.ddf g n) h2⟩
    | ref a =>
      cases e : O a with
      | none =>
        have z : Kf.ddf O (n + 1) (.ref a) = .ref a := by simp only [Kf.ddf, e]
        rw [z]; exact r.mono g.fz
      | some c =>
        cases c with
        | lst ds =>
          have z : Kf.ddf O (n + 1) (.ref a) = .lst (ds.map (Kf.ddf O n)) := by simp only [Kf.ddf, e]
          rw [z]
          obtain ⟨_, _, vs, h1, h2⟩ := g.ow a _ e
          simp only [Rep] at r ⊢
          exact ⟨a, vs, r, h1, repAll_map (Gd.ddf g n) h2⟩
        | _ =>
          have z : Kf.ddf O (n + 1) (.ref a) = .ref a := by simp only [Kf.ddf, e]
          rw [z]; exact r.mono g.fz
    | _ => simp only [Kf.ddf]; exact r.mono g.fz
/-! what holds no owned list is read as it is -/
theorem ddf_py {O : Ow} : ∀ (n : Nat) (d : D), isPy d = true → ddf O n d = d
  | 0, d, h => rfl
  | n + 1, d, h => by
    have hm : ∀ ds : List D, isPys ds = true → ds.map (ddf O n) = ds := fun ds hd => by
      rw [isPys_all, List.all_eq_true] at hd
      exact (List.map_congr_left fun x hx => ddf_py n x (hd x hx)).trans (List.map_id' ds)
    cases d with
    | tup ds => simp only [isPy] at h; simp only [ddf, hm ds h]
    | lst ds => simp only [isPy] at h; simp only [ddf, hm ds h]
    | ref a => simp [isPy] at h
    | _ => rfl
theorem ddf_deref {O : Ow} {n : Nat} {d : D} (h : isPy (deref O d) = true) : ddf O (n + 1) d = deref O d := by
  cases d with
  | ref a =>
    cases e : O a with
    | none =>
      have z : deref O (.ref a) = .ref a := by simp only [deref, e]
      rw [z] at h; simp [isPy] at h
    | some c =>
      cases c with
      | lst ds =>
        have z : deref O (.ref a) = .lst ds := by simp only [deref, e]
        have z2 : ddf O (n + 1) (.ref a) = .lst (ds.map (ddf O n)) := by simp only [ddf, e]
        rw [z] at h ⊢
        rw [z2]
        simp only [isPy] at h
        rw [isPys_all, List.all_eq_true] at h
        rw [(List.map_congr_left fun x hx => ddf_py n x (h x hx)).trans (List.map_id' ds)]
      | _ =>
        have z : deref O (.ref a) = .ref a := by simp only [deref, e]
        rw [z] at h; simp [isPy] at h
  | _ => exact ddf_py (n + 1) _ h
/-! ### ends -/
theorem PostE.at {R : VD} {Q : VK} {d : D} {v : V} (po : PostE M K F P R Q) (g : Gd M K F O P H) (h : R d O) (r : Rep K F d v) : Q v H := po d O F H v h (Same.refl _) g r
theorem PostE.lst {R : VD} {Q : VK} {ds : List D} {vs : List V} {p : Addr} (po : PostE M K F P R Q) (g : Gd M K F O P H) (h : R (.lst ds) O) (r : RepAll K F ds vs) (hp : H p = none) : Q (.ref p) (upd H p (.lst vs)) := by
  have hF := g.freeF hp
  refine po (.lst ds) O (upd F p (.lst vs)) _ _ h (same_upd hF) (g.new hp) ?_
  simp only [Rep]
  exact ⟨p, vs, rfl, upd_same, r.mono (same_upd hF)⟩
theorem PostE.tup {R : VD} {Q : VK} {ds : List D} {vs : List V} {p : Addr} (po : PostE M K F P R Q) (g : Gd M K F O P H) (h : R (.tup ds) O) (r : RepAll K F ds vs) (hp : H p = none) : Q (.ref p) (upd H p (.tup vs)) := by
  have hF := g.freeF hp
  refine po (.tup ds) O (upd F p (.tup vs)) _ _ h (same_upd hF) (g.new hp) ?_
  simp only [Rep]
  exact ⟨p, vs, rfl, .inl (.inl upd_same), r.mono (same_upd hF)⟩
theorem PostE.lstO {R : VD} {Q : VK} {ds : List D} {vs : List V} {p : Addr} (po : PostE M K F P R Q) (g : Gd M K F O P H) (h : ∀ p, O p = none → R (.ref p) (updO O p (.lst ds))) (r : RepAll K F ds vs) (hp : H p = none) : Q (.ref p) (upd H p (.lst vs)) :=
  po (.ref p) _ F _ _ (h p (g.freeO hp)) (Same.refl _) (g.newO hp ⟨vs, upd_same, r⟩) (by simp only [Rep])
theorem PostE.more {R : VD} {Q : VK} {F' : Hp} (po : PostE M K F P R Q) (s : Same F F') : PostE M K F' P R Q := fun d O' F2 H' v q s2 g r => po d O' F2 H' v q (s.trans s2) g r
end

section
variable {X : Cx}
theorem opD_of {f : Value → Value → Sem Value} {r : R2D}
    (h : ∀ (pins : List (Addr × Obj)) (s : Shared) (σ : St) (F P H : Hp) (O : Ow) (x y : V) (dx dy : D) (v u : Value) (R : VD) (Q : VK), Inv X pins σ H s → RelV x v → RelV y u → Gd M X.K F O P H → Rep X.K F dx x → Rep X.K F dy y → r dx dy O R → PostE M X.K F P R Q →
      ∃ r0, OpR X f r0 ∧ r0 x y H Q) : OpD M X f r := by
  intro pins s σ H x y v u Q I rx ry q
  obtain ⟨F, O, P, dx, dy, R, g, r1, r2, q, po⟩ := q
  obtain ⟨r0, o, z⟩ := h pins s σ F P H O x y dx dy v u R Q I rx ry g r1 r2 q po
  exact o pins s σ H x y v u Q I rx ry z

/-! ### + - * // % ** -/
def rAddD : R2D := fun x y O Q => match deref O x, deref O y with
  | .int i, .int j => Q (.int (i + j)) O
  | .int i, .bl k => Q (.int (i + b2i k)) O
  | .str i, .str j => i.length + j.length ≤ sizeLine ∧ Q (.str (i ++ j)) O
  | .lst xs, .lst ys => xs.length + ys.length ≤ sizeLine ∧ Q (.lst (xs ++ ys)) O
  | .tup xs, .tup ys => xs ≠ [] ∧ xs.length + ys.length ≤ sizeLine ∧ Q (.tup (xs ++ ys)) O
  | _, _ => False
/-- .. of two lists, the new one owned -/
def rCatO : R2D := fun x y O Q => match deref O x, deref O y with
  | .lst xs, .lst ys => xs.length + ys.length ≤ sizeLine ∧ ∀ p, O p = none → Q (.ref p) (updO O p (.lst (xs ++ ys)))
  | _, _ => False
theorem od_add : OpD M X (binaryOp .Add) rAddD := by
  refine opD_of fun pins s σ F P H O x y dx dy v u R Q I rx ry g r1 r2 q po => ?_
  have h1 := g.deref r1
  have h2 := g.deref r2
  unfold rAddD at q
  revert q h1 h2
  generalize Kf.deref O dx = ex
  generalize Kf.deref O dy = ey
  intro q h1 h2
  cases ex <;> cases ey <;> first | exact q.elim | skip
  · simp only [RepH, Rep] at h1 h2
    exact ⟨_, op_add_ib, _, _, h1, h2, po.at g q (by simp only [Rep])⟩
  · simp only [RepH, Rep] at h1 h2
    exact ⟨_, op_add, _, _, h1, h2, po.at g q (by simp only [Rep])⟩
  · simp only [RepH, Rep] at h1 h2
    exact ⟨_, op_add_str, _, _, h1, h2, q.1, po.at g q.2 (by simp only [Rep])⟩
  · simp only [RepH, Rep] at h1 h2
    obtain ⟨a, xs, rfl, a1, a2⟩ := h1
    obtain ⟨b, ys, rfl, b1, b2⟩ := h2
    obtain ⟨q1, q2, q3⟩ := q
    refine ⟨_, op_catT, a, b, xs, ys, rfl, rfl, Same.seqT g.fz a1, Same.seqT g.fz b1, ?_, by rw [← a2.length, ← b2.length]; exact q2, fun e => ?_, fun e p hp => ?_⟩
    · intro e; rw [e] at a2; have := a2.length; exact q1 (List.eq_nil_of_length_eq_zero (by simpa using this))
    · rw [e] at b2
      have l0 := b2.length
      rename_i ex ey
      have e0 : ey = [] := List.eq_nil_of_length_eq_zero (by simpa using l0)
      rw [e0, List.append_nil] at q3
      refine po.at g q3 ?_
      simp only [Rep]
      exact ⟨a, xs, rfl, a1, a2⟩
    · exact po.tup g q3 (a2.append b2) hp
  · obtain ⟨a, xs, rfl, a1, a2⟩ := h1
    obtain ⟨b, ys, rfl, b1, b2⟩ := h2
    exact ⟨_, op_cat, a, b, xs, ys, rfl, rfl, a1, b1, by rw [← a2.length, ← b2.length]; exact q.1, fun p hp => po.lst g q.2 (a2.append b2) hp⟩
theorem od_catO : OpD M X (binaryOp .Add) rCatO := by
  refine opD_of fun pins s σ F P H O x y dx dy v u R Q I rx ry g r1 r2 q po => ?_
  have h1 := g.deref r1
  have h2 := g.deref r2
  unfold rCatO at q
  revert q h1 h2
  generalize Kf.deref O dx = ex
  generalize Kf.deref O dy = ey
  intro q h1 h2
  cases ex <;> cases ey <;> first | exact q.elim | skip
  obtain ⟨a, xs, rfl, a1, a2⟩ := h1
  obtain ⟨b, ys, rfl, b1, b2⟩ := h2
  exact ⟨_, op_cat, a, b, xs, ys, rfl, rfl, a1, b1, by rw [← a2.length, ← b2.length]; exact q.1, fun p hp => po.lstO g q.2 (a2.append b2) hp⟩
def rInts (C : Int → Int → Prop) (f : Int → Int → D) : R2D := fun x y O Q => match x, y with
  | .int i, .int j => C i j ∧ Q (f i j) O
  | _, _ => False
theorem od_ints {f : Value → Value → Sem Value} {C : Int → Int → Prop} {g : Int → Int → V} {k : Int → Int → D} (h : OpR X f (rI C g)) (hk : ∀ F i j, Rep X.K F (k i j) (g i j)) : OpD M X f (rInts C k) := by
  refine opD_of fun pins s σ F P H O x y dx dy v u R Q I rx ry gd r1 r2 q po => ?_
  unfold rInts at q
  cases dx <;> first | exact q.elim | skip
  cases dy <;> first | exact q.elim | skip
  simp only [Rep] at r1 r2
  exact ⟨_, h, _, _, r1, r2, q.1, po.at gd q.2 (hk F _ _)⟩
def rInts0 (f : Int → Int → D) : R2D := fun x y O Q => match x, y with
  | .int i, .int j => Q (f i j) O
  | _, _ => False
theorem od_ints0 {f : Value → Value → Sem Value} {g : Int → Int → V} {k : Int → Int → D} (h : OpR X f (rI0 g)) (hk : ∀ F i j, Rep X.K F (k i j) (g i j)) : OpD M X f (rInts0 k) := by
  refine opD_of fun pins s σ F P H O x y dx dy v u R Q I rx ry gd r1 r2 q po => ?_
  unfold rInts0 at q
  cases dx <;> first | exact q.elim | skip
  cases dy <;> first | exact q.elim | skip
  simp only [Rep] at r1 r2
  exact ⟨_, h, _, _, r1, r2, po.at gd q (hk F _ _)⟩
theorem od_sub : OpD M X (binaryOp .Sub) (rInts0 fun i j => .int (i - j)) := od_ints0 op_sub fun _ _ _ => by simp only [Rep]
theorem od_mul : OpD M X (binaryOp .Mult) (rInts CMul fun i j => .int (i * j)) := od_ints op_mul fun _ _ _ => by simp only [Rep]
/-- // and divmod by a positive divisor below 2 ^ 60 -/
def CDv (i j : Int) : Prop := 0 < j ∧ j < 1329227995784915872903807060280344576
theorem CDv.w {i j : Int} (h : CDv i j) : CDivW i j := by
  obtain ⟨h1, h2⟩ := h
  exact wide_div h1 (b := 120) (by omega) (by decide) (by decide)
theorem op_fdivV : OpR X (binaryOp .FloorDiv) (rI CDv fun i j => .int (i / j)) := fun pins s σ H x y v u Q I rx ry ⟨i, j, e1, e2, c, q⟩ => op_fdivW pins s σ H x y v u Q I rx ry ⟨i, j, e1, e2, c.w, q⟩
theorem od_div : OpD M X (binaryOp .FloorDiv) (rInts CDv fun i j => .int (i / j)) := od_ints op_fdivV fun _ _ _ => by simp only [Rep]
theorem od_mod : OpD M X (binaryOp .Mod) (rInts (fun _ j => 0 < j) fun i j => .int (i % j)) := od_ints op_mod fun _ _ _ => by simp only [Rep]
theorem od_pow : OpD M X (binaryOp .Pow) (rInts CPow fun i j => .int (i ^ j.toNat)) := od_ints op_pow fun _ _ _ => by simp only [Rep]
/-! ### comparisons -/
/-- < of ints, of texts -/
def rLtD : R2D := fun x y O Q => match x, y with
  | .int i, .int j => Q (.bl (decide (i < j))) O
  | .str i, .str j => Q (.bl (decide (i.cps.toList < j.cps.toList))) O
  | _, _ => False
theorem od_lt : OpD M X (compareOp .Lt) rLtD := by
  refine opD_of fun pins s σ F P H O x y dx dy v u R Q I rx ry gd r1 r2 q po => ?_
  unfold rLtD at q
  cases dx <;> first | exact q.elim | skip
  all_goals cases dy <;> first | exact q.elim | skip
  · simp only [Rep] at r1 r2
    exact ⟨_, op_lt, _, _, r1, r2, po.at gd q (by simp only [Rep])⟩
  · simp only [Rep] at r1 r2
    exact ⟨_, op_lt_str, _, _, r1, r2, po.at gd q (by simp only [Rep])⟩
def rLeD : R2D := fun x y O Q => match x, y with
  | .int i, .int j => Q (.bl (decide (i ≤ j))) O
  | .str i, .str j => Q (.bl (!decide (j.cps.toList < i.cps.toList))) O
  | _, _ => False
theorem od_le : OpD M X (compareOp .LtE) rLeD := by
  refine opD_of fun pins s σ F P H O x y dx dy v u R Q I rx ry gd r1 r2 q po => ?_
  unfold rLeD at q
  cases dx <;> first | exact q.elim | skip
  all_goals cases dy <;> first | exact q.elim | skip
  · simp only [Rep] at r1 r2
    exact ⟨_, op_le, _, _, r1, r2, po.at gd q (by simp only [Rep])⟩
  · simp only [Rep] at r1 r2
    exact ⟨_, op_le_str, _, _, r1, r2, po.at gd q (by simp only [Rep])⟩
theorem od_gt : OpD M X (compareOp .Gt) (rInts0 fun i j => .bl (decide (j < i))) := od_ints0 op_gt fun _ _ _ => by simp only [Rep]
theorem od_ge : OpD M X (compareOp .GtE) (rInts0 fun i j => .bl (decide (j ≤ i))) := od_ints0 op_ge fun _ _ _ => by simp only [Rep]
/-- == of data; the answer by eqv -/
def rEqD (neg : Bool) : R2D := fun x y O Q => isPy (ddf O 192 x) = true ∧ isPy (ddf O 192 y) = true ∧ min (dp (ddf O 192 x)) (dp (ddf O 192 y)) ≤ 190 ∧ Q (.bl (neg ^^ PyData.eqv (toPy (ddf O 192 x)) (toPy (ddf O 192 y)))) O
theorem od_eq (hu : X.A.units + 200 < cLine) : OpD M X (compareOp .Eq) (rEqD false) := by
  intro pins s σ H x y v u Q I rx ry q
  obtain ⟨F, O, P, dx, dy, R, g, r1, r2, ⟨q1, q2, q3, q4⟩, po⟩ := q
  obtain ⟨as, w1⟩ := Dp.reads I _ x v (Rep.dp (Same.refl _) _ _ q1 (g.ddf 192 _ _ r1)) rx
  obtain ⟨bs, w2⟩ := Dp.reads I _ y u (Rep.dp (Same.refl _) _ _ q2 (g.ddf 192 _ _ r2)) ry
  have hroom : X.A.units + min (toPy (ddf O 192 dx)).depth (toPy (ddf O 192 dy)).depth < cLine := by
    have : min (toPy (ddf O 192 dx)).depth (toPy (ddf O 192 dy)).depth ≤ 190 := q3
    omega
  refine SeqAt.compareEq_reads w1 w2 (isPy_lay _ q1) (isPy_lay _ q2) hroom ⟨.bl _, H, I, rfl, ?_⟩
  rw [Bool.false_xor] at q4
  exact po.at g q4 (by simp only [Rep])
theorem od_ne (hu : X.A.units + 200 < cLine) : OpD M X (compareOp .NotEq) (rEqD true) := by
  intro pins s σ H x y v u Q I rx ry q
  obtain ⟨F, O, P, dx, dy, R, g, r1, r2, ⟨q1, q2, q3, q4⟩, po⟩ := q
  obtain ⟨as, w1⟩ := Dp.reads I _ x v (Rep.dp (Same.refl _) _ _ q1 (g.ddf 192 _ _ r1)) rx
  obtain ⟨bs, w2⟩ := Dp.reads I _ y u (Rep.dp (Same.refl _) _ _ q2 (g.ddf 192 _ _ r2)) ry
  have hroom : X.A.units + min (toPy (ddf O 192 dx)).depth (toPy (ddf O 192 dy)).depth < cLine := by
    have : min (toPy (ddf O 192 dx)).depth (toPy (ddf O 192 dy)).depth ≤ 190 := q3
    omega
  refine SeqAt.compareNe_reads w1 w2 (isPy_lay _ q1) (isPy_lay _ q2) hroom ⟨.bl _, H, I, rfl, ?_⟩
  rw [Bool.true_xor] at q4
  exact po.at g q4 (by simp only [Rep])
/-- is None, is not None -/
def isNon : D → Bool
  | .non => true
  | _ => false
theorem Rep.isNon {K : PySem.W.Frag} {F : Hp} {d : D} {v : V} (r : Rep K F d v) : decide (v = .non) = isNon d := by
  cases d <;> simp only [Rep] at r <;> first | (subst r; rfl) | (obtain ⟨a, xs, rfl, _⟩ := r; rfl) | (obtain ⟨a, rfl, _⟩ := r; rfl)
def rIsN (neg : Bool) : R2D := fun x y O Q => match y with
  | .non => Q (.bl (neg ^^ isNon x)) O
  | _ => False
theorem od_is : OpD M X (compareOp .Is) (rIsN false) := by
  refine opD_of fun pins s σ F P H O x y dx dy v u R Q I rx ry g r1 r2 q po => ?_
  unfold rIsN at q
  cases dy <;> first | exact q.elim | skip
  simp only [Rep] at r2
  refine ⟨_, op_isN, r2, ?_⟩
  rw [Bool.false_xor] at q
  rw [r1.isNon]
  exact po.at g q (by simp only [Rep])
theorem od_isnot : OpD M X (compareOp .IsNot) (rIsN true) := by
  refine opD_of fun pins s σ F P H O x y dx dy v u R Q I rx ry g r1 r2 q po => ?_
  unfold rIsN at q
  cases dy <;> first | exact q.elim | skip
  simp only [Rep] at r2
  refine ⟨_, op_notN, r2, ?_⟩
  rw [Bool.true_xor] at q
  rw [r1.isNon]
  exact po.at g q (by simp only [Rep])
/-- x in y: one sign in a text; a datum in a list; a flat one in a tuple -/
def flatD : D → Bool
  | .non => true
  | .bl _ => true
  | .int _ => true
  | .str x => PyData.strOk x
  | _ => false
def rInD (neg : Bool) : R2D := fun x y O Q => match deref O y with
  | .str z => match x with
    | .str i => ∃ c, i = ⟨#[c]⟩ ∧ Q (.bl (neg ^^ decide (c ∈ z.cps.toList))) O
    | _ => False
  | .lst ds => isPy (deref O x) = true ∧ isPys ds = true ∧ dp (deref O x) ≤ 190 ∧ Q (.bl (neg ^^ ds.any fun z => PyData.eqv (toPy z) (toPy (deref O x)))) O
  | .tup ds => isPy (deref O x) = true ∧ isPys ds = true ∧ dp (deref O x) ≤ 190 ∧ Q (.bl (neg ^^ ds.any fun z => PyData.eqv (toPy z) (toPy (deref O x)))) O
  | _ => False
theorem any_toPys (d : PyData) : ∀ ds : List D, (toPys ds).any (fun z => PyData.eqv z d) = ds.any fun z => PyData.eqv (toPy z) d
  | [] => rfl
  | x :: ds => by rw [toPys, List.any_cons, List.any_cons, any_toPys d ds]
theorem flat_of {K : PySem.W.Frag} {F : Hp} {d : D} {v : V} (h : flatD d = true) (r : Rep K F d v) : flatV v = true := by
  cases d <;> simp only [flatD] at h <;> first | cases h | skip
  all_goals simp only [Rep] at r; subst r; rfl
theorem eqV_of {K : PySem.W.Frag} {F : Hp} {d e : D} {v u : V} (h : flatD d = true) (h' : flatD e = true) (r : Rep K F d v) (r' : Rep K F e u) : eqV v u = PyData.eqv (toPy d) (toPy e) := by
  cases d <;> simp only [flatD] at h <;> first | cases h | skip
  all_goals cases e <;> simp only [flatD] at h' <;> first | cases h' | skip
  all_goals simp only [Rep] at r r'; subst r r'; simp only [eqV, toPy, PyData.eqv]
theorem inV_of {K : PySem.W.Frag} {F : Hp} {x : D} {v : V} (h : flatD x = true) (r : Rep K F x v) : ∀ {ds : List D} {vs : List V}, ds.all flatD = true → RepAll K F ds vs → vs.all flatV = true ∧ inV v vs = ds.any fun z => PyData.eqv (toPy z) (toPy x)
  | [], vs, _, q => by simp only [RepAll] at q; subst q; exact ⟨rfl, rfl⟩
  | d :: ds, vs, hd, q => by
    simp only [RepAll] at q
    obtain ⟨w, ws, rfl, q1, q2⟩ := q
    rw [List.all_cons, Bool.and_eq_true] at hd
    obtain ⟨i1, i2⟩ := inV_of h r hd.2 q2
    unfold inV at i2 ⊢
    rw [List.all_cons, List.any_cons, List.any_cons, i2, eqV_of hd.1 h q1 r, flat_of hd.1 q1, i1]
    exact ⟨rfl, rfl⟩
theorem od_in_gen {op : CmpOp} {neg : Bool} (hu : X.A.units + 200 < cLine)
    (h1 : OpR X (compareOp op) (fun x y H Q => ∃ (c : Nat) (z : Str), x = .str ⟨#[c]⟩ ∧ y = .str z ∧ Q (.bl (neg ^^ decide (c ∈ z.cps.toList))) H))
    (h2 : ∀ (pins : List (Addr × Obj)) (s : Shared) (σ : St) (H : Hp) (x y : V) (v u : Value) (Q : VK) (d : PyData) (ds : List PyData), Inv X pins σ H s → RelV x v → RelV y u → Dp X.K H x d → Dp X.K H y (.list ds) → d.canLay0 = true → PyData.canLayAll0 ds = true → d.depth ≤ 190 →
      Q (.bl (neg ^^ ds.any fun z => PyData.eqv z d)) H → wpAny (model X.prog X.w) X.A (compareOp op v u) (EP X pins σ Q) X.xe s)
    (h3 : ∀ (pins : List (Addr × Obj)) (s : Shared) (σ : St) (H : Hp) (x y : V) (v u : Value) (Q : VK) (d : PyData) (ds : List PyData), Inv X pins σ H s → RelV x v → RelV y u → Dp X.K H x d → Dp X.K H y (.tuple ds) → d.canLay0 = true → PyData.canLayAll0 ds = true → d.depth ≤ 190 →
      Q (.bl (neg ^^ ds.any fun z => PyData.eqv z d)) H → wpAny (model X.prog X.w) X.A (compareOp op v u) (EP X pins σ Q) X.xe s) : OpD M X (compareOp op) (rInD neg) := by
  intro pins s σ H x y v u Q I rx ry q
  obtain ⟨F, O, P, dx, dy, R, g, r1, r2, q, po⟩ := q
  have e2 := g.deref r2
  unfold rInD at q
  revert q e2
  generalize hey : Kf.deref O dy = ey
  intro q e2
  cases ey <;> first | exact q.elim | skip
  · cases dx <;> first | exact q.elim | skip
    simp only [RepH, Rep] at e2 r1
    obtain ⟨c, rfl, q⟩ := q
    exact h1 pins s σ H x y v u Q I rx ry ⟨c, _, r1, e2, po.at g q (by simp only [Rep])⟩
  · simp only [RepH, Rep] at e2
    obtain ⟨b, ys, rfl, b1, b2⟩ := e2
    obtain ⟨q1, q2, q3, q4⟩ := q
    refine h3 pins s σ H x _ v u Q _ _ I rx ry ((g.deref r1).dp g.fz q1) (.tup (Same.seqT g.fz b1) (RepAll.dp g.fz _ ys q2 b2)) (isPy_lay _ q1) (isPys_lay _ q2) q3 ?_
    rw [any_toPys]
    exact po.at g q4 (by simp only [Rep])
  · obtain ⟨q1, q2, q3, q4⟩ := q
    obtain ⟨b, ys, rfl, b1, b2⟩ := e2
    refine h2 pins s σ H x _ v u Q _ _ I rx ry ((g.deref r1).dp g.fz q1) (.lst (SqL.of b1) (RepAll.dp g.fz _ ys q2 b2)) (isPy_lay _ q1) (isPys_lay _ q2) q3 ?_
    rw [any_toPys]
    exact po.at g q4 (by simp only [Rep])
theorem od_in (hu : X.A.units + 200 < cLine) : OpD M X (compareOp .In) (rInD false) := by
  refine od_in_gen hu (fun pins s σ H x y v u Q I rx ry q => ?_) (fun pins s σ H x y v u Q d ds I rx ry hd he c1 c2 c3 q => ?_) (fun pins s σ H x y v u Q d ds I rx ry hd he c1 c2 c3 q => ?_)
  · obtain ⟨c, z, e1, e2, q⟩ := q
    rw [Bool.false_xor] at q
    exact op_in_sign pins s σ H x y v u Q I rx ry ⟨c, z, e1, e2, q⟩
  · obtain ⟨as, r1⟩ := Dp.reads I d x v hd rx
    obtain ⟨bs, r2⟩ := Dp.reads I (.list ds) y u he ry
    rw [Bool.false_xor] at q
    exact SeqAt.in_list_reads r2 r1 c2 c1 (by omega) ⟨.bl _, H, I, rfl, q⟩
  · obtain ⟨as, r1⟩ := Dp.reads I d x v hd rx
    obtain ⟨bs, r2⟩ := Dp.reads I (.tuple ds) y u he ry
    rw [Bool.false_xor] at q
    exact SeqAt.in_tuple_reads r2 r1 c2 c1 (by omega) ⟨.bl _, H, I, rfl, q⟩
theorem od_notin (hu : X.A.units + 200 < cLine) : OpD M X (compareOp .NotIn) (rInD true) := by
  refine od_in_gen hu (fun pins s σ H x y v u Q I rx ry q => ?_) (fun pins s σ H x y v u Q d ds I rx ry hd he c1 c2 c3 q => ?_) (fun pins s σ H x y v u Q d ds I rx ry hd he c1 c2 c3 q => ?_)
  · obtain ⟨c, z, e1, e2, q⟩ := q
    rw [Bool.true_xor] at q
    exact op_notIn_sign pins s σ H x y v u Q I rx ry ⟨c, z, e1, e2, q⟩
  · obtain ⟨as, r1⟩ := Dp.reads I d x v hd rx
    obtain ⟨bs, r2⟩ := Dp.reads I (.list ds) y u he ry
    rw [Bool.true_xor] at q
    exact SeqAt.notIn_list_reads r2 r1 c2 c1 (by omega) ⟨.bl _, H, I, rfl, q⟩
  · obtain ⟨as, r1⟩ := Dp.reads I d x v hd rx
    obtain ⟨bs, r2⟩ := Dp.reads I (.tuple ds) y u he ry
    rw [Bool.true_xor] at q
    exact SeqAt.notIn_tuple_reads r2 r1 c2 c1 (by omega) ⟨.bl _, H, I, rfl, q⟩
end
end Kf
namespace Kf
open PySem PySem.Spec L2
open PyProof.Rows hiding St
variable {M : MX}

section
variable {X : Cx} {a b e : Expr} {es : List Expr} {fa fb : FE} {fr : FA} {pos p2 : Pos}

/-! ### subscripts -/
def rIxD : R2D := fun x y O Q => match deref O x, y with
  | .lst ds, .int i => match atI ds i with
    | some d => Q d O
    | none => False
  | .tup ds, .int i => match atI ds i with
    | some d => Q d O
    | none => False
  | .str z, .int i => z.length ≤ sizeLine ∧ match atI z.cps.toList i with
    | some c => Q (.str ⟨#[c]⟩) O
    | none => False
  | .scr ns, .int i => match atI ns i with
    | some n => Q (.int n) O
    | none => False
  | .ref a, .int i => match O a with
    | some .pool => (i = 0 ∧ ∀ x : Int, 0 ≤ x → Q (.int x) O) ∨ (i = 1 ∧ ∀ x : Int, 0 ≤ x → x < 2147483647 → Q (.int x) O)
    | _ => False
  | _, _ => False
theorem RepAll.atI {K : PySem.W.Frag} {F : Hp} {ds : List D} {vs : List V} {i : Int} {d : D} (r : RepAll K F ds vs) (h : atI ds i = some d) : ∃ v, L2.atI vs i = some v ∧ Rep K F d v := by
  unfold L2.atI at h ⊢
  rw [← r.length]
  obtain ⟨j, h1, h2⟩ := Option.bind_eq_some_iff.mp h
  obtain ⟨v, e, q⟩ := r.get h2
  exact ⟨v, Option.bind_eq_some_iff.mpr ⟨j, h1, e⟩, q⟩
theorem atI_map {α β : Type} (f : α → β) (xs : List α) (i : Int) : L2.atI (xs.map f) i = (L2.atI xs i).map f := by
  unfold L2.atI
  rw [List.length_map]
  cases ixN xs.length i with
  | none => rfl
  | some j => simp
theorem id_ix : IxR X (liftR2 M X.K rIxD) := by
  intro value slice pins s σ H x y v u Q I rx ry q hp
  obtain ⟨F, O, P, dx, dy, R, g, r1, r2, q, po⟩ := q
  have h1 := g.deref r1
  unfold rIxD at q
  revert q h1
  generalize Kf.deref O dx = ex
  intro q h1
  cases ex <;> first | exact q.elim | skip
  all_goals cases dy <;> first | exact q.elim | skip
  all_goals simp only [Rep] at r2; subst r2
  · rename_i z i
    simp only [RepH, Rep] at h1; subst h1
    dsimp only at q
    obtain ⟨q0, q⟩ := q
    cases e : L2.atI z.cps.toList i with
    | none => rw [e] at q; exact q.elim
    | some c =>
      rw [e] at q
      exact ix_str value slice pins s σ H _ _ v u Q I rx ry ⟨z, i, c, rfl, rfl, q0, e, po.at g q (by simp only [Rep])⟩ hp
  · rename_i ds i
    simp only [RepH, Rep] at h1
    obtain ⟨c, xs, rfl, h1, h2⟩ := h1
    dsimp only at q
    cases e : L2.atI ds i with
    | none => rw [e] at q; exact q.elim
    | some d =>
      rw [e] at q
      obtain ⟨w, e2, rw'⟩ := h2.atI e
      exact ix_tup value slice pins s σ H _ _ v u Q I rx ry ⟨c, xs, i, w, rfl, rfl, Same.seqT g.fz h1, e2, po.at g q rw'⟩ hp
  · rename_i ds i
    obtain ⟨c, xs, rfl, h1, h2⟩ := h1
    dsimp only at q
    cases e : L2.atI ds i with
    | none => rw [e] at q; exact q.elim
    | some d =>
      rw [e] at q
      obtain ⟨w, e2, rw'⟩ := h2.atI e
      exact ix_list value slice pins s σ H _ _ v u Q I rx ry ⟨c, xs, i, w, rfl, rfl, SqL.of h1, e2, po.at g q rw'⟩ hp
  · rename_i c i
    simp only [RepH, Rep] at h1
    subst h1
    dsimp only at q
    cases e : O c with
    | none => rw [e] at q; exact q.elim
    | some cl =>
      rw [e] at q
      cases cl with
      | lst _ => exact q.elim
      | dic _ => exact q.elim
      | dicL _ _ => exact q.elim
      | pool =>
        obtain ⟨_, _, z, y, hH, h2, h3, h4⟩ := g.ow c _ e
        rcases q with ⟨rfl, q⟩ | ⟨rfl, q⟩
        · exact ix_list value slice pins s σ H _ _ v u Q I rx ry ⟨c, _, 0, .int z, rfl, rfl, SqL.of hH, rfl, po.at g (q z h2) (by simp only [Rep])⟩ hp
        · exact ix_list value slice pins s σ H _ _ v u Q I rx ry ⟨c, _, 1, .int y, rfl, rfl, SqL.of hH, rfl, po.at g (q y h3 h4) (by simp only [Rep])⟩ hp
  · rename_i ns i
    simp only [RepH, Rep] at h1
    obtain ⟨c, rfl, h1⟩ := h1
    dsimp only at q
    cases e : L2.atI ns i with
    | none => rw [e] at q; exact q.elim
    | some n =>
      rw [e] at q
      have e2 : L2.atI (ns.map V.int) i = some (.int n) := by rw [atI_map, e]; rfl
      exact ix_list value slice pins s σ H _ _ v u Q I rx ry ⟨c, _, i, _, rfl, rfl, g.fz.seq h1, e2, po.at g q (by simp only [Rep])⟩ hp
theorem de_ix (ha : DE M X a fa) (hb : DE M X b fb) (hs : PlainIx b := by intro _ _; rfl) : DE M X (.Subscript a b pos) (fOp rIxD fa fb) := peMono (pe_ix id_ix ha hb hs) fOp_lift
/-! ### slices -/
abbrev FO := DEnv → Ow → (Option Int → Ow → Prop) → Prop
def liftO (M : MX) (K : PySem.W.Frag) (f : FO) : TO := fun σ H Q => ∃ F O P ρ R, Gd M K F O P H ∧ EnvOk K F ρ σ ∧ f ρ O R ∧ ∀ o O' F' H', R o O' → Same F F' → Gd M K F' O' P H' → Q o H'
abbrev DO (M : MX) (X : Cx) (e : Option Expr) (f : FO) : Prop := PO X e (liftO M X.K f)
theorem poMono {X : Cx} {e : Option Expr} {t t' : TO} (h : PO X e t) (imp : ∀ σ H Q, t' σ H Q → t σ H Q) : PO X e t' := ⟨fun pins s σ H Q I q => h.run pins s σ H Q I (imp σ H Q q)⟩
def fNoPart : FO := fun _ O Q => Q none O
def asI (d : D) (O : Ow) (Q : Option Int → Ow → Prop) : Prop := match d with
  | .int i => Q (some i) O
  | _ => False
theorem asI_i {i : Int} {O : Ow} {Q : Option Int → Ow → Prop} : asI (.int i) O Q = Q (some i) O := rfl
def fPart (f : FE) : FO := fun ρ O Q => f ρ O fun d O1 => asI d O1 Q
theorem do_none : DO M X none fNoPart := poMono po_none fun σ H Q h => by
  obtain ⟨F, O, P, ρ, R, g, en, q, po⟩ := h
  exact po none O F H q (Same.refl _) g
theorem do_some (h : DE M X e fa) : DO M X (some e) (fPart fa) := poMono (po_some h) fun σ H Q h => by
  obtain ⟨F, O, P, ρ, R, g, en, q, po⟩ := h
  refine ⟨F, O, P, ρ, _, g, en, q, fun d O' F' H' v q1 s1 g1 r1 => ?_⟩
  unfold asI at q1
  cases d <;> first | exact q1.elim | skip
  simp only [Rep] at r1
  exact ⟨_, r1, po _ O' F' H' q1 s1 g1⟩
def cut {α : Type} (xs : List α) (lo hi : Option Int) : List α := (xs.drop (HT.sIx xs.length 0 lo)).take (HT.sIx xs.length xs.length hi - HT.sIx xs.length 0 lo)
theorem RepAll.cut {K : PySem.W.Frag} {F : Hp} {ds : List D} {vs : List V} (r : RepAll K F ds vs) (lo hi : Option Int) : RepAll K F (Kf.cut ds lo hi) (cutV vs lo hi) := by
  unfold Kf.cut cutV
  rw [r.length]
  exact (r.drop _).take _
abbrev R3D := D → Option Int → Option Int → Ow → VD → Prop
def rSlD : R3D := fun x lo hi O Q => match deref O x with
  | .lst ds => Q (.lst (cut ds lo hi)) O
  | .tup ds => ¬ (HT.sIx ds.length 0 lo = 0 ∧ HT.sIx ds.length ds.length hi = ds.length) ∧ Q (.tup (cut ds lo hi)) O
  | .str z => z.length ≤ sizeLine ∧ Q (.str (cutS z lo hi)) O
  | _ => False
/-- .. the new list owned -/
def rSlO : R3D := fun x lo hi O Q => match deref O x with
  | .lst ds => ∀ p, O p = none → Q (.ref p) (updO O p (.lst (cut ds lo hi)))
  | _ => False
def liftR3 (M : MX) (K : PySem.W.Frag) (r : R3D) : V → Option Int → Option Int → Hp → VK → Prop := fun x lo hi H Q => ∃ F O P dx R, Gd M K F O P H ∧ Rep K F dx x ∧ r dx lo hi O R ∧ PostE M K F P R Q
theorem sd_sl : SlR X (liftR3 M X.K rSlD) := by
  intro pins s σ H x v vl vu lo hi sl Q I rx hs pl pu q
  obtain ⟨F, O, P, dx, R, g, r1, q, po⟩ := q
  have h1 := g.deref r1
  unfold rSlD at q
  revert q h1
  generalize Kf.deref O dx = ex
  intro q h1
  cases ex <;> first | exact q.elim | skip
  · simp only [RepH, Rep] at h1
    exact sl_str pins s σ H x v vl vu lo hi sl Q I rx hs pl pu ⟨_, h1, q.1, po.at g q.2 (by simp only [Rep])⟩
  · simp only [RepH, Rep] at h1
    obtain ⟨c, xs, rfl, h1, h2⟩ := h1
    refine sl_tup pins s σ H _ v vl vu lo hi sl Q I rx hs pl pu ⟨c, xs, rfl, Same.seqT g.fz h1, by rw [← h2.length]; exact q.1, fun p hp => po.tup g q.2 (h2.cut lo hi) hp⟩
  · obtain ⟨c, xs, rfl, h1, h2⟩ := h1
    exact sl_list pins s σ H _ v vl vu lo hi sl Q I rx hs pl pu ⟨c, xs, rfl, SqL.of h1, fun p hp => po.lst g q (h2.cut lo hi) hp⟩
theorem sd_slO : SlR X (liftR3 M X.K rSlO) := by
  intro pins s σ H x v vl vu lo hi sl Q I rx hs pl pu q
  obtain ⟨F, O, P, dx, R, g, r1, q, po⟩ := q
  have h1 := g.deref r1
  unfold rSlO at q
  revert q h1
  generalize Kf.deref O dx = ex
  intro q h1
  cases ex <;> first | exact q.elim | skip
  obtain ⟨c, xs, rfl, h1, h2⟩ := h1
  exact sl_list pins s σ H _ v vl vu lo hi sl Q I rx hs pl pu ⟨c, xs, rfl, SqL.of h1, fun p hp => po.lstO g q (h2.cut lo hi) hp⟩
def fSl (r : R3D) (fe : FE) (fl fh : FO) : FE := fun ρ O Q => fe ρ O fun x O1 => fl ρ O1 fun l O2 => fh ρ O2 fun u O3 => r x l u O3 Q
theorem de_sliceR {r : R3D} {lo hi : Option Expr} {fl fh : FO} (hr : SlR X (liftR3 M X.K r)) (he : DE M X e fa) (hl : DO M X lo fl) (hu : DO M X hi fh) : DE M X (.Subscript e (.Slice lo hi none p2) pos) (fSl r fa fl fh) := by
  refine peMono (pe_slice hr he hl hu) fun σ H Q h => ?_
  obtain ⟨F, O, P, ρ, R, g, en, q, po⟩ := h
  refine ⟨F, O, P, ρ, _, g, en, q, fun x O1 F1 H1 v q1 s1 g1 r1 => ?_⟩
  refine ⟨F1, O1, P, ρ, _, g1, en.mono s1, q1, fun l O2 F2 H2 q2 s2 g2 => ?_⟩
  refine ⟨F2, O2, P, ρ, _, g2, en.mono (s1.trans s2), q2, fun u O3 F3 H3 q3 s3 g3 => ?_⟩
  exact ⟨F3, O3, P, x, R, g3, r1.mono (s2.trans s3), q3, po.more (s1.trans (s2.trans s3))⟩
theorem de_slice {lo hi : Option Expr} {fl fh : FO} (he : DE M X e fa) (hl : DO M X lo fl) (hu : DO M X hi fh) : DE M X (.Subscript e (.Slice lo hi none p2) pos) (fSl rSlD fa fl fh) := de_sliceR sd_sl he hl hu
theorem de_sliceO {lo hi : Option Expr} {fl fh : FO} (he : DE M X e fa) (hl : DO M X lo fl) (hu : DO M X hi fh) : DE M X (.Subscript e (.Slice lo hi none p2) pos) (fSl rSlO fa fl fh) := de_sliceR sd_slO he hl hu
/-! ### -a -/
def rNeg : R1D := fun x O Q => match x with
  | .int i => Q (.int (-i)) O
  | _ => False
def fUn (r : R1D) (f : FE) : FE := fun ρ O Q => f ρ O fun x O1 => r x O1 Q
theorem de_neg (ha : DE M X a fa) : DE M X (.UnaryOp .USub a pos) (fUn rNeg fa) := by
  refine peMono (pe_un un_neg ha) fun σ H Q h => ?_
  obtain ⟨F, O, P, ρ, R, g, en, q, po⟩ := h
  refine ⟨F, O, P, ρ, _, g, en, q, fun x O1 F1 H1 v q1 s1 g1 r1 => ?_⟩
  cases x <;> first | exact q1.elim | skip
  simp only [Rep] at r1
  exact ⟨_, r1, (po.more s1).at g1 q1 (by simp only [Rep])⟩
/-! ### calls of built-ins -/
abbrev RAD := List D → Ow → VD → Prop
abbrev CallD (M : MX) (X : Cx) (f : Value) (r : RAD) : Prop := CallR X f (liftRA M X.K r)
def fCB (r : RAD) (fr : FA) : FE := fun ρ O Q => fr ρ O fun ds O1 => r ds O1 Q
theorem fCB_lift {r : RAD} : ∀ σ H Q, liftE M X.K (fCB r fr) σ H Q → tCB (liftRA M X.K r) (liftA M X.K fr) σ H Q := by
  intro σ H Q h
  obtain ⟨F, O, P, ρ, R, g, en, q, po⟩ := h
  refine ⟨F, O, P, ρ, _, g, en, q, fun ds O1 F1 H1 vs q1 s1 g1 r1 => ?_⟩
  exact ⟨F1, O1, P, ds, R, g1, r1, q1, po.more s1⟩
theorem de_callB {id : String} {r : RAD} {x : Str} {p : Pos} (hc : CallD M X (.builtin id) r) (hg : Gl X x) (hm : X.mg x = none) (hv : bootBuiltins x = some (.builtin id)) (ha : DA M X (e :: es) fr) (hn : x ≠ "__name__" := by decide) (hdb : (x == ("__debug__" : Str)) = false := by decide)
    (he : starEach (e :: es) X.env = (false, eval e X.env) :: starEach es X.env := by rfl) (hpl : (backTo pos (starEach es X.env)).any (·.1) = false := by rfl) : DE M X (.Call (.Name x p) (e :: es) [] pos) (fCB r fr) :=
  peMono (pe_callB hc hg hm hv ha hn hdb he hpl) fCB_lift
theorem de_callTy {T : String} {r : RAD} {x : Str} {p : Pos} (hc : CallD M X (.type T) r) (hg : Gl X x) (hm : X.mg x = none) (hv : bootBuiltins x = some (.type T)) (ha : DA M X (e :: es) fr) (hn : x ≠ "__name__" := by decide) (hdb : (x == ("__debug__" : Str)) = false := by decide)
    (he : starEach (e :: es) X.env = (false, eval e X.env) :: starEach es X.env := by rfl) (hpl : (backTo pos (starEach es X.env)).any (·.1) = false := by rfl) : DE M X (.Call (.Name x p) (e :: es) [] pos) (fCB r fr) :=
  peMono (pe_callTy hc hg hm hv ha hn hdb he hpl) fCB_lift
theorem callD_of {f : Value} {r : RAD}
    (h : ∀ (F P H : Hp) (O : Ow) (xs : List V) (ds : List D) (R : VD) (Q : VK), Gd M X.K F O P H → RepAll X.K F ds xs → r ds O R → PostE M X.K F P R Q → ∃ r0, CallR X f r0 ∧ r0 xs H Q) : CallD M X f r := by
  intro pins s σ H xs us Q I rx q
  obtain ⟨F, O, P, ds, R, g, r1, q, po⟩ := q
  obtain ⟨r0, o, z⟩ := h F P H O xs ds R Q g r1 q po
  exact o pins s σ H xs us Q I rx z
/-- len -/
def rLenD : RAD := fun ds O Q => match ds with
  | [x] => match deref O x with
    | .lst ds => Q (.int ds.length) O
    | .tup ds => Q (.int ds.length) O
    | .str z => z.length ≤ sizeLine ∧ Q (.int z.length) O
    | .scr ns => Q (.int ns.length) O
    | _ => False
  | _ => False
theorem RepAll.one' {K : PySem.W.Frag} {F : Hp} {d : D} {vs : List V} (h : RepAll K F [d] vs) : ∃ v, vs = [v] ∧ Rep K F d v := by
  simp only [RepAll] at h
  obtain ⟨v, r, rfl, h1, rfl⟩ := h
  exact ⟨v, rfl, h1⟩
theorem RepAll.two' {K : PySem.W.Frag} {F : Hp} {d e : D} {vs : List V} (h : RepAll K F [d, e] vs) : ∃ v w, vs = [v, w] ∧ Rep K F d v ∧ Rep K F e w := by
  simp only [RepAll] at h
  obtain ⟨v, r, rfl, h1, w, r2, rfl, h2, rfl⟩ := h
  exact ⟨v, w, rfl, h1, h2⟩
theorem cd_len : CallD M X (.builtin "len") rLenD := by
  refine callD_of fun F P H O xs ds R Q g r1 q po => ?_
  match ds, q with
  | [x], q =>
    obtain ⟨v, rfl, r1'⟩ := r1.one'
    have h1 := g.deref r1'
    unfold rLenD at q
    dsimp only at q
    revert q h1
    generalize Kf.deref O x = ex
    intro q h1
    cases ex <;> first | exact q.elim | skip
    · simp only [RepH, Rep] at h1
      exact ⟨_, call_len_str, _, by rw [h1], q.1, po.at g q.2 (by simp only [Rep])⟩
    · simp only [RepH, Rep] at h1
      obtain ⟨c, xs, rfl, h1, h2⟩ := h1
      exact ⟨_, call_len_seq, c, xs, rfl, .inr (Same.seqT g.fz h1), po.at g q (by simp only [Rep]; rw [h2.length])⟩
    · obtain ⟨c, xs, rfl, h1, h2⟩ := h1
      exact ⟨_, call_len_seq, c, xs, rfl, .inl (SqL.of h1), po.at g q (by simp only [Rep]; rw [h2.length])⟩
    · simp only [RepH, Rep] at h1
      obtain ⟨c, rfl, h1⟩ := h1
      exact ⟨_, call_len_seq, c, _, rfl, .inl (g.fz.seq h1), po.at g q (by simp only [Rep]; rw [List.length_map])⟩
/-- max, min of two ints -/
def rMax2 : RAD := fun ds O Q => match ds with
  | [.int i, .int j] => Q (.int (if j > i then j else i)) O
  | _ => False
def rMin2 : RAD := fun ds O Q => match ds with
  | [.int i, .int j] => Q (.int (if j < i then j else i)) O
  | _ => False
theorem cd_max2 (hc : X.calm = true) : CallD M X (.builtin "max") rMax2 := by
  refine callD_of fun F P H O xs ds R Q g r1 q po => ?_
  unfold rMax2 at q
  split at q
  · obtain ⟨v, w, rfl, h1, h2⟩ := r1.two'
    simp only [Rep] at h1 h2
    exact ⟨_, call_max2 hc, _, _, by rw [h1, h2], po.at g q (by simp only [Rep])⟩
  · exact q.elim
theorem cd_min2 (hc : X.calm = true) : CallD M X (.builtin "min") rMin2 := by
  refine callD_of fun F P H O xs ds R Q g r1 q po => ?_
  unfold rMin2 at q
  split at q
  · obtain ⟨v, w, rfl, h1, h2⟩ := r1.two'
    simp only [Rep] at h1 h2
    exact ⟨_, call_min2 hc, _, _, by rw [h1, h2], po.at g q (by simp only [Rep])⟩
  · exact q.elim
/-- int(i), int(b); str(i) -/
def rInt1 : RAD := fun ds O Q => match ds with
  | [.int i] => Q (.int i) O
  | [.bl k] => Q (.int (if k then 1 else 0)) O
  | _ => False
theorem cd_int1 : CallD M X (.type "int") rInt1 := by
  refine callD_of fun F P H O xs ds R Q g r1 q po => ?_
  unfold rInt1 at q
  split at q
  · obtain ⟨v, rfl, h1⟩ := r1.one'
    simp only [Rep] at h1
    exact ⟨_, call_int1, .inl ⟨_, by rw [h1], po.at g q (by simp only [Rep])⟩⟩
  · obtain ⟨v, rfl, h1⟩ := r1.one'
    simp only [Rep] at h1
    exact ⟨_, call_int1, .inr ⟨_, by rw [h1], po.at g q (by simp only [Rep])⟩⟩
  · exact q.elim
def rStr1 : RAD := fun ds O Q => match ds with
  | [.int i] => i.natAbs.log2 < 1920 ∧ Q (.str (toString i)) O
  | _ => False
theorem cd_str1 : CallD M X (.type "str") rStr1 := by
  refine callD_of fun F P H O xs ds R Q g r1 q po => ?_
  unfold rStr1 at q
  split at q
  · obtain ⟨v, rfl, h1⟩ := r1.one'
    simp only [Rep] at h1
    exact ⟨_, call_str_int, _, by rw [h1], q.1, po.at g q.2 (by simp only [Rep])⟩
  · exact q.elim
/-- list(x): a new list; tuple(x) -/
def rList1 : RAD := fun ds O Q => match ds with
  | [x] => match deref O x with
    | .lst ds => Q (.lst ds) O
    | .tup ds => Q (.lst ds) O
    | _ => False
  | _ => False
def rList1O : RAD := fun ds O Q => match ds with
  | [x] => match deref O x with
    | .lst ds => ∀ p, O p = none → Q (.ref p) (updO O p (.lst ds))
    | .tup ds => ∀ p, O p = none → Q (.ref p) (updO O p (.lst ds))
    | _ => False
  | _ => False
def rTup1 : RAD := fun ds O Q => match ds with
  | [x] => match deref O x with
    | .lst ds => Q (.tup ds) O
    | .tup ds => Q (.tup ds) O
    | _ => False
  | _ => False
theorem cd_list1 : CallD M X (.type "list") rList1 := by
  refine callD_of fun F P H O xs ds R Q g r1 q po => ?_
  match ds, q with
  | [x], q =>
    obtain ⟨v, rfl, r1'⟩ := r1.one'
    have h1 := g.deref r1'
    unfold rList1 at q
    dsimp only at q
    revert q h1
    generalize Kf.deref O x = ex
    intro q h1
    cases ex <;> first | exact q.elim | skip
    · simp only [RepH, Rep] at h1
      obtain ⟨c, xs, rfl, h1, h2⟩ := h1
      exact ⟨_, call_list_of, c, xs, rfl, .inr (Same.seqT g.fz h1), fun p hp => po.lst g q h2 hp⟩
    · obtain ⟨c, xs, rfl, h1, h2⟩ := h1
      exact ⟨_, call_list_of, c, xs, rfl, .inl (SqL.of h1), fun p hp => po.lst g q h2 hp⟩
theorem cd_list1O : CallD M X (.type "list") rList1O := by
  refine callD_of fun F P H O xs ds R Q g r1 q po => ?_
  match ds, q with
  | [x], q =>
    obtain ⟨v, rfl, r1'⟩ := r1.one'
    have h1 := g.deref r1'
    unfold rList1O at q
    dsimp only at q
    revert q h1
    generalize Kf.deref O x = ex
    intro q h1
    cases ex <;> first | exact q.elim | skip
    · simp only [RepH, Rep] at h1
      obtain ⟨c, xs, rfl, h1, h2⟩ := h1
      exact ⟨_, call_list_of, c, xs, rfl, .inr (Same.seqT g.fz h1), fun p hp => po.lstO g q h2 hp⟩
    · obtain ⟨c, xs, rfl, h1, h2⟩ := h1
      exact ⟨_, call_list_of, c, xs, rfl, .inl (SqL.of h1), fun p hp => po.lstO g q h2 hp⟩
theorem cd_tup1 : CallD M X (.type "tuple") rTup1 := by
  refine callD_of fun F P H O xs ds R Q g r1 q po => ?_
  match ds, q with
  | [x], q =>
    obtain ⟨v, rfl, r1'⟩ := r1.one'
    have h1 := g.deref r1'
    unfold rTup1 at q
    dsimp only at q
    revert q h1
    generalize Kf.deref O x = ex
    intro q h1
    cases ex <;> first | exact q.elim | skip
    · have h0 := h1
      simp only [RepH, Rep] at h1
      obtain ⟨c, xs, rfl, h1, h2⟩ := h1
      exact ⟨_, call_tuple_of, c, xs, rfl, .inr ⟨Same.seqT g.fz h1, po.at g q h0⟩⟩
    · obtain ⟨c, xs, rfl, h1, h2⟩ := h1
      exact ⟨_, call_tuple_of, c, xs, rfl, .inl ⟨SqL.of h1, fun p hp => po.tup g q h2 hp⟩⟩
/-- sum of a list of ints -/
def asInts : List D → Option (List Int)
  | [] => some []
  | .int i :: ds => (asInts ds).map (i :: ·)
  | _ :: _ => none
theorem asInts_map (ns : List Int) : asInts (ns.map D.int) = some ns := by
  induction ns with
  | nil => rfl
  | cons n ns ih => rw [List.map_cons, asInts, ih]; rfl
theorem of_asInts : ∀ {ds : List D} {ns : List Int}, asInts ds = some ns → ds = ns.map D.int
  | [], ns, h => by cases h; rfl
  | d :: ds, ns, h => by
    cases d <;> simp only [asInts] at h <;> first | cases h | skip
    obtain ⟨m, h1, rfl⟩ := Option.map_eq_some_iff.mp h
    rw [of_asInts h1]; rfl
def rSumD : RAD := fun ds O Q => match ds with
  | [x] => match deref O x with
    | .lst ds => match asInts ds with
      | some ns => Q (.int ns.sum) O
      | none => False
    | _ => False
  | _ => False
theorem cd_sum (hc : X.calm = true) : CallD M X (.builtin "sum") rSumD := by
  refine callD_of fun F P H O xs ds R Q g r1 q po => ?_
  match ds, q with
  | [x], q =>
    obtain ⟨v, rfl, r1'⟩ := r1.one'
    have h1 := g.deref r1'
    unfold rSumD at q
    dsimp only at q
    revert q h1
    generalize Kf.deref O x = ex
    intro q h1
    cases ex <;> first | exact q.elim | skip
    rename_i ds
    obtain ⟨c, xs, rfl, h1, h2⟩ := h1
    dsimp only at q
    cases e : asInts ds with
    | none => rw [e] at q; exact q.elim
    | some ns =>
      rw [e] at q
      rw [of_asInts e] at h2
      have e3 := h2.ints
      subst e3
      exact ⟨_, cr_sum hc, c, ns, rfl, SqL.of h1, po.at g q (by simp only [Rep])⟩
/-- divmod: a new tuple -/
def rDivmod : RAD := fun ds O Q => match ds with
  | [.int i, .int j] => CDv i j ∧ Q (.tup [.int (i / j), .int (i % j)]) O
  | _ => False
theorem call_divmodW : CallR X (.builtin "divmod") (fun xs H Q => ∃ i j, xs = [.int i, .int j] ∧ CDv i j ∧ ∀ p, H p = none → Q (.ref p) (upd H p (.tup [.int (i / j), .int (i % j)]))) := by
  intro pins s σ H xs us Q I r h
  obtain ⟨i, j, rfl, c, q⟩ := h
  obtain ⟨u, w', rfl, ⟨t, rfl⟩, ⟨t', rfl⟩⟩ := vals2 r
  have h1 : (0 : Int) < j := c.1
  refine divmod_int (by omega) ?_ (.inl (PyProof.noPylong_of_log2 c.w.2))
  rw [Int.fdiv_eq_ediv_of_nonneg i (by omega), Int.fmod_eq_emod_of_nonneg i (by omega)]
  have hn : H s.heap.objs.size = none := I.hok.fresh (Nat.le_refl _)
  refine ⟨.ref s.heap.objs.size, _, ?_, rfl, q _ hn⟩
  refine I.laid (fun b o e => Heap.get?_push_of_some _ e) (Nat.le_refl _) ⟨show 2 ≤ sizeLine by decide, [.int (i / j) s.toks, .int (i % j) (s.toks + 1)], .cons ⟨_, rfl⟩ (.cons ⟨_, rfl⟩ .nil), ?_⟩
  exact ⟨_, Heap.get?_push_size s.heap rfl, rfl, 0, rfl⟩
theorem cd_divmod : CallD M X (.builtin "divmod") rDivmod := by
  refine callD_of fun F P H O xs ds R Q g r1 q po => ?_
  unfold rDivmod at q
  split at q
  · obtain ⟨v, w, rfl, h1, h2⟩ := r1.two'
    simp only [Rep] at h1 h2
    subst h1 h2
    exact ⟨_, call_divmodW, _, _, rfl, q.1, fun p hp => po.tup g q.2 (.cons (by simp only [Rep]) (.one (by simp only [Rep]))) hp⟩
  · exact q.elim
/-! ### isinstance -/
def tyNm (O : Ow) : D → String
  | .non => "NoneType"
  | .bl _ => "bool"
  | .int _ => "int"
  | .str _ => "str"
  | .tup _ => "tuple"
  | .lst _ => "list"
  | .edic => "dict"
  | .ref a => match O a with
    | some (.lst _) => "list"
    | some .pool => "list"
    | some (.dic _) => "dict"
    | _ => ""
  | _ => ""
def insOf (t n : String) : Bool := t == n || (t == "bool" && n == "int")
def insTy : List String := ["NoneType", "bool", "int", "str", "tuple", "list", "dict"]
def insCl : List String := ["bool", "int", "str", "tuple", "list", "dict"]
theorem ins_kit : (insTy.all fun t => insCl.all fun n => decide (kitB t n = some (insOf t n))) = true := by decide +kernel
theorem ins_kit' {t n : String} (ht : t ∈ insTy) (hn : n ∈ insCl) : kitB t n = some (insOf t n) := by
  have h := List.all_eq_true.mp (List.all_eq_true.mp ins_kit t ht) n hn
  exact of_decide_eq_true h
def rIsiD : RAD := fun ds O Q => match ds with
  | [x, .ty n] => insCl.contains n = true ∧ insTy.contains (tyNm O x) = true ∧ Q (.bl (insOf (tyNm O x) n)) O
  | _ => False
theorem tyX_of {K : PySem.W.Frag} {F P H : Hp} {O : Ow} {d : D} {v : V} (g : Gd M K F O P H) (r : Rep K F d v) (h : insTy.contains (tyNm O d) = true) : TyX K H v (.type (tyNm O d)) := by
  cases d with
  | non => simp only [Rep] at r; subst r; exact .base .non
  | bl b => simp only [Rep] at r; subst r; exact .base (.bl b)
  | int i => simp only [Rep] at r; subst r; exact .base (.int i)
  | str x => simp only [Rep] at r; subst r; exact .base (.str x)
  | tup ds =>
    simp only [Rep] at r
    obtain ⟨a, xs, rfl, h1, _⟩ := r
    rcases h1 with (h1 | ⟨o, h1⟩) | ⟨o, its, n, h1, h2, _⟩
    · exact .base (.tup (g.fz _ _ h1))
    · exact .fTuple (g.fz _ _ h1)
    · exact .kTuple h1 h2
  | lst ds =>
    simp only [Rep] at r
    obtain ⟨a, xs, rfl, h1, _⟩ := r
    exact .base (.lst (g.fz _ _ h1))
  | edic =>
    simp only [Rep] at r
    obtain ⟨a, rfl, h1⟩ := r
    exact .base (.dK (g.fz _ _ h1))
  | ref a =>
    simp only [Rep] at r
    subst r
    cases e : O a with
    | none =>
      have z : tyNm O (.ref a) = "" := by simp only [tyNm, e]
      rw [z] at h; exact absurd h (by decide)
    | some c =>
      have q := (g.ow a c e).2.2
      cases c with
      | lst ds =>
        have z : tyNm O (.ref a) = "list" := by simp only [tyNm, e]
        rw [z]; obtain ⟨vs, q, _⟩ := q; exact .base (.lst q)
      | pool =>
        have z : tyNm O (.ref a) = "list" := by simp only [tyNm, e]
        rw [z]; obtain ⟨x, y, q, _⟩ := q; exact .base (.lst q)
      | dic kvs =>
        have z : tyNm O (.ref a) = "dict" := by simp only [tyNm, e]
        rw [z]; obtain ⟨vs, q, _⟩ := q; exact .base (.dK q)
      | dicL kvs o =>
        have z : tyNm O (.ref a) = "" := by simp only [tyNm, e]
        rw [z] at h; exact absurd h (by decide)
  | ty n => simp [tyNm, insTy] at h
  | scr ns => simp [tyNm, insTy] at h
theorem cd_isi : CallD M X (.builtin "isinstance") rIsiD := by
  refine callD_of fun F P H O xs ds R Q g r1 q po => ?_
  unfold rIsiD at q
  split at q
  · obtain ⟨v, w, rfl, h1, h2⟩ := r1.two'
    simp only [Rep] at h2
    subst h2
    obtain ⟨q1, q2, q3⟩ := q
    exact ⟨_, call_isi, _, _, _, _, _, rfl, .ty _, tyX_of g h1 q2, kit_ty (ins_kit' (by simpa using q2) (by simpa using q1)), po.at g q3 (by simp only [Rep])⟩
  · exact q.elim
/-! ### methods of built-in types -/
abbrev RMD := D → List D → Ow → VD → Prop
def liftRM (M : MX) (K : PySem.W.Frag) (r : RMD) : V → List V → Hp → VK → Prop := fun x xs H Q => ∃ F O P dx ds R, Gd M K F O P H ∧ Rep K F dx x ∧ RepAll K F ds xs ∧ r dx ds O R ∧ PostE M K F P R Q
abbrev MtD (M : MX) (X : Cx) (id : String) (r : RMD) : Prop := MtR X id (liftRM M X.K r)
def tyOk (T : String) (O : Ow) (d : D) : Bool := T == "list" && tyNm O d == "list" || T == "str" && tyNm O d == "str"
theorem tyV_of {K : PySem.W.Frag} {F P H : Hp} {O : Ow} {d : D} {v : V} {T : String} (g : Gd M K F O P H) (r : Rep K F d v) (h : tyOk T O d = true) : tyV K T v H := by
  unfold tyOk at h
  rw [Bool.or_eq_true, Bool.and_eq_true, Bool.and_eq_true] at h
  rcases h with ⟨h1, h2⟩ | ⟨h1, h2⟩
  · have e1 : T = "list" := by simpa using h1
    have e2 : tyNm O d = "list" := by simpa using h2
    subst e1
    cases d <;> first | (simp [tyNm] at e2; done) | skip
    · simp only [Rep] at r
      obtain ⟨a, xs, rfl, q, _⟩ := r
      exact Or.inl ⟨rfl, xs, SqL.of (g.fz _ _ q)⟩
    · rename_i a
      simp only [Rep] at r
      subst r
      cases e : O a with
      | none => simp [tyNm, e] at e2
      | some c =>
        have q := (g.ow a c e).2.2
        cases c with
        | lst ds => obtain ⟨vs, q, _⟩ := q; exact Or.inl ⟨rfl, vs, SqL.of q⟩
        | pool => obtain ⟨x, y, q, _⟩ := q; exact Or.inl ⟨rfl, _, SqL.of q⟩
        | dic _ => simp [tyNm, e] at e2
        | dicL _ _ => simp [tyNm, e] at e2
  · have e1 : T = "str" := by simpa using h1
    have e2 : tyNm O d = "str" := by simpa using h2
    subst e1
    cases d <;> first | (simp [tyNm] at e2; done) | skip
    · simp only [Rep] at r; subst r; rfl
    · rename_i a
      cases e : O a with
      | none => simp [tyNm, e] at e2
      | some c => cases c <;> simp [tyNm, e] at e2
def fBM (T : String) (r : RMD) (fo : FE) (fr : FA) : FE := fun ρ O Q => fo ρ O fun x O1 => tyOk T O1 x = true ∧ fr ρ O1 fun ds O2 => r x ds O2 Q
def fBM0 (T : String) (r : RMD) (fo : FE) : FE := fun ρ O Q => fo ρ O fun x O1 => tyOk T O1 x = true ∧ r x [] O1 Q
variable {o : Expr} {fo : FE} {name : Str} {apos cpos : Pos} {T id : String} {r : RMD}
theorem de_bm (pa : PlainAttrs T) (slot : Slot T name id) (hty : typeOf (.builtin id) = pure (.type "method_descriptor")) (hm : MtD M X id r) (ho : DE M X o fo) (ha : DA M X (e :: es) fr)
    (hbase : attributeBase o name X.env (eval o X.env) = eval o X.env := by rfl)
    (hfew : ((backTo cpos (starEach (e :: es) X.env)).all (fun x => !x.1) && (backToKw cpos (keywordEach [] X.env)).all (fun x => x.1.isSome)
      && decide ((e :: es).length + ([] : List Keyword).length + (if ([] : List Keyword).isEmpty then 0 else 1) < 30)) = true := by rfl)
    (hline : (apos.endLine == cpos.line) = true := by rfl) (hs : starEach (e :: es) X.env = (false, eval e X.env) :: starEach es X.env := by rfl) (hplain : (backTo cpos (starEach es X.env)).any (·.1) = false := by rfl) :
    DE M X (.Call (.Attribute o name apos) (e :: es) [] cpos) (fBM T r fo fr) := by
  refine peMono (pe_bm pa slot hty hm ho ha hbase hfew hline hs hplain) fun σ H Q h => ?_
  obtain ⟨F, O, P, ρ, R, g, en, q, po⟩ := h
  refine ⟨F, O, P, ρ, _, g, en, q, fun x O1 F1 H1 v q1 s1 g1 r1 => ⟨tyV_of g1 r1 q1.1, ?_⟩⟩
  refine ⟨F1, O1, P, ρ, _, g1, en.mono s1, q1.2, fun ds O2 F2 H2 vs q2 s2 g2 r2 => ?_⟩
  exact ⟨F2, O2, P, x, ds, R, g2, r1.mono s2, r2, q2, po.more (s1.trans s2)⟩
theorem de_bm0 (pa : PlainAttrs T) (slot : Slot T name id) (hty : typeOf (.builtin id) = pure (.type "method_descriptor")) (hm : MtD M X id r) (ho : DE M X o fo)
    (hbase : attributeBase o name X.env (eval o X.env) = eval o X.env := by rfl) (hline : (apos.endLine == cpos.line) = true := by rfl) : DE M X (.Call (.Attribute o name apos) [] [] cpos) (fBM0 T r fo) := by
  refine peMono (pe_bm0 pa slot hty hm ho hbase hline) fun σ H Q h => ?_
  obtain ⟨F, O, P, ρ, R, g, en, q, po⟩ := h
  refine ⟨F, O, P, ρ, _, g, en, q, fun x O1 F1 H1 v q1 s1 g1 r1 => ⟨tyV_of g1 r1 q1.1, ?_⟩⟩
  exact ⟨F1, O1, P, x, [], R, g1, r1, .nil, q1.2, po.more s1⟩
theorem mtD_of {id : String} {r : RMD}
    (h : ∀ (F P H : Hp) (O : Ow) (x : V) (xs : List V) (dx : D) (ds : List D) (R : VD) (Q : VK), Gd M X.K F O P H → Rep X.K F dx x → RepAll X.K F ds xs → r dx ds O R → PostE M X.K F P R Q → ∃ r0, MtR X id r0 ∧ r0 x xs H Q) : MtD M X id r := by
  intro pins s σ H x xs v us Q I rx rxs q
  obtain ⟨F, O, P, dx, ds, R, g, r1, r2, q, po⟩ := q
  obtain ⟨r0, o, z⟩ := h F P H O x xs dx ds R Q g r1 r2 q po
  exact o pins s σ H x xs v us Q I rx rxs z
/-- xs.append(y), an owned list -/
def rAppendD : RMD := fun x ds O Q => match x, ds with
  | .ref a, [y] => match O a with
    | some (.lst xs) => xs.length < sizeLine ∧ Q .non (updO O a (.lst (xs ++ [y])))
    | _ => False
  | _, _ => False
theorem md_append : MtD M X "list.append" rAppendD := by
  refine mtD_of fun F P H O x xs dx ds R Q g r1 r2 q po => ?_
  unfold rAppendD at q
  split at q
  · rename_i a y
    obtain ⟨v, rfl, r2'⟩ := r2.one'
    simp only [Rep] at r1
    subst r1
    cases e : O a with
    | none => rw [e] at q; exact q.elim
    | some c =>
      rw [e] at q
      cases c with
      | pool => exact q.elim
      | dic _ => exact q.elim
      | dicL _ _ => exact q.elim
      | lst zs =>
        obtain ⟨_, _, vs, h1, h2⟩ := g.ow a _ e
        refine ⟨_, mt_append, a, vs, v, rfl, rfl, h1, by rw [← h2.length]; exact q.1, ?_⟩
        exact po .non _ F _ _ q.2 (Same.refl _) (g.setO e ⟨_, upd_same, h2.append (.one r2')⟩) (by simp only [Rep])
  · exact q.elim
/-- xs.extend(ys) -/
def rExtendD : RMD := fun x ds O Q => match x, ds with
  | .ref a, [y] => match O a, deref O y with
    | some (.lst xs), .lst ys => xs.length + ys.length ≤ sizeLine ∧ Q .non (updO O a (.lst (xs ++ ys)))
    | _, _ => False
  | _, _ => False
theorem md_extend : MtD M X "list.extend" rExtendD := by
  refine mtD_of fun F P H O x xs dx ds R Q g r1 r2 q po => ?_
  unfold rExtendD at q
  split at q
  · rename_i a y
    obtain ⟨v, rfl, r2'⟩ := r2.one'
    simp only [Rep] at r1
    subst r1
    have h2 := g.deref r2'
    revert q h2
    generalize Kf.deref O y = ey
    intro q h2
    cases e : O a with
    | none => rw [e] at q; exact q.elim
    | some c =>
      rw [e] at q
      cases c with
      | pool => exact q.elim
      | dic _ => exact q.elim
      | dicL _ _ => exact q.elim
      | lst zs =>
        cases ey <;> first | exact q.elim | skip
        obtain ⟨b, ws, rfl, h3, h4⟩ := h2
        obtain ⟨_, _, vs, h5, h6⟩ := g.ow a _ e
        refine ⟨_, mt_extend, a, b, vs, ws, rfl, rfl, h5, h3, by rw [← h6.length, ← h4.length]; exact q.1, ?_⟩
        exact po .non _ F _ _ q.2 (Same.refl _) (g.setO e ⟨_, upd_same, h6.append h4⟩) (by simp only [Rep])
  · exact q.elim
/-- xs.pop() -/
def rPopD : RMD := fun x ds O Q => match x, ds with
  | .ref a, [] => match O a with
    | some (.lst xs) => match xs[xs.length - 1]? with
      | some d => Q d (updO O a (.lst xs.dropLast))
      | none => False
    | _ => False
  | _, _ => False
theorem RepAll.dropLast {K : PySem.W.Frag} {F : Hp} {ds : List D} {vs : List V} (h : RepAll K F ds vs) : RepAll K F ds.dropLast vs.dropLast := by
  rw [List.dropLast_eq_take, List.dropLast_eq_take, h.length]
  exact h.take _
theorem md_pop : MtD M X "list.pop" rPopD := by
  refine mtD_of fun F P H O x xs dx ds R Q g r1 r2 q po => ?_
  unfold rPopD at q
  split at q
  · rename_i a
    simp only [RepAll] at r2
    subst r2
    simp only [Rep] at r1
    subst r1
    cases e : O a with
    | none => rw [e] at q; exact q.elim
    | some c =>
      rw [e] at q
      cases c with
      | pool => exact q.elim
      | dic _ => exact q.elim
      | dicL _ _ => exact q.elim
      | lst zs =>
        dsimp only at q
        obtain ⟨_, _, vs, h1, h2⟩ := g.ow a _ e
        cases e2 : zs[zs.length - 1]? with
        | none => rw [e2] at q; exact q.elim
        | some d =>
          rw [e2] at q
          obtain ⟨v, e3, r3⟩ := h2.get e2
          refine ⟨_, mt_pop, a, vs, v, rfl, rfl, h1, by rw [← h2.length]; exact e3, ?_⟩
          exact po d _ F _ _ q (Same.refl _) (g.setO e ⟨_, upd_same, h2.dropLast⟩) r3
  · exact q.elim
/-- sep.join(xs) -/
def asStrs : List D → Option (List Str)
  | [] => some []
  | .str i :: ds => (asStrs ds).map (i :: ·)
  | _ :: _ => none
theorem asStrs_map (ns : List Str) : asStrs (ns.map D.str) = some ns := by
  induction ns with
  | nil => rfl
  | cons n ns ih => rw [List.map_cons, asStrs, ih]; rfl
theorem of_asStrs : ∀ {ds : List D} {ns : List Str}, asStrs ds = some ns → ds = ns.map D.str
  | [], ns, h => by cases h; rfl
  | d :: ds, ns, h => by
    cases d <;> simp only [asStrs] at h <;> first | cases h | skip
    obtain ⟨m, h1, rfl⟩ := Option.map_eq_some_iff.mp h
    rw [of_asStrs h1]; rfl
end
end Kf
namespace Kf
open PySem PySem.Spec L2
open PyProof.Rows hiding St
variable {M : MX}

/-! ### statements -/
structure DEnds where
  nx : DEnv → Ow → Prop
  rt : VD
  bk : DEnv → Ow → Prop := fun _ _ => False
  ct : DEnv → Ow → Prop := fun _ _ => False
abbrev GS := DEnds → DEnv → Ow → Prop
def PostN (M : MX) (K : PySem.W.Frag) (F P : Hp) (R : DEnv → Ow → Prop) (Q : L2.St → Hp → Prop) : Prop := ∀ ρ O' F' H' σ, R ρ O' → Same F F' → Gd M K F' O' P H' → EnvOk K F' ρ σ → Q σ H'
structure PostS (M : MX) (K : PySem.W.Frag) (F P : Hp) (R : DEnds) (D : Ends) : Prop where
  nx : PostN M K F P R.nx D.nx
  rt : PostE M K F P R.rt D.rt
  bk : PostN M K F P R.bk D.bk
  ct : PostN M K F P R.ct D.ct
theorem PostN.more {K : PySem.W.Frag} {F F' P : Hp} {R : DEnv → Ow → Prop} {Q : L2.St → Hp → Prop} (po : PostN M K F P R Q) (s : Same F F') : PostN M K F' P R Q := fun ρ O' F2 H' σ q s2 g en => po ρ O' F2 H' σ q (s.trans s2) g en
theorem PostS.more {K : PySem.W.Frag} {F F' P : Hp} {R : DEnds} {D : Ends} (po : PostS M K F P R D) (s : Same F F') : PostS M K F' P R D := ⟨po.nx.more s, po.rt.more s, po.bk.more s, po.ct.more s⟩
def liftS (M : MX) (K : PySem.W.Frag) (g : GS) : TS := fun D σ H => ∃ F O P ρ R, Gd M K F O P H ∧ EnvOk K F ρ σ ∧ g R ρ O ∧ PostS M K F P R D
abbrev DS (M : MX) (X : Cx) (st : Stmt) (g : GS) : Prop := PS X st (liftS M X.K g)
abbrev DSs (M : MX) (X : Cx) (st : List Stmt) (g : GS) : Prop := PSs X st (liftS M X.K g)

section
variable {X : Cx} {st : Stmt} {rest : List Stmt} {g u : GS} {e c : Expr} {fe : FE} {ft : FT} {pos : Pos}
def gNext : GS := fun R ρ O => R.nx ρ O
def gSeq (g u : GS) : GS := fun R ρ O => g { R with nx := u R } ρ O
theorem dss_nil : DSs M X [] gNext := pssMono pss_nil fun D σ H h => by
  obtain ⟨F, O, P, ρ, R, g, en, q, po⟩ := h
  exact po.nx ρ O F H σ q (Same.refl _) g en
theorem dss_cons (h1 : DS M X st g) (h2 : DSs M X rest u) : DSs M X (st :: rest) (gSeq g u) := pssMono (pss_cons h1 h2) fun D σ H h => by
  obtain ⟨F, O, P, ρ, R, g, en, q, po⟩ := h
  exact ⟨F, O, P, ρ, { R with nx := u R }, g, en, q, fun ρ' O' F' H' σ' q' s g' en' => ⟨F', O', P, ρ', R, g', en', q', po.more s⟩, po.rt, po.bk, po.ct⟩
theorem dss_one (h1 : DS M X st g) : DSs M X [st] g := pss_one h1
theorem ds_pass : DS M X (.Pass pos) gNext := psMono ps_pass fun D σ H h => by
  obtain ⟨F, O, P, ρ, R, g, en, q, po⟩ := h
  exact po.nx ρ O F H σ q (Same.refl _) g en
/-- what is never come to -/
def gNever : GS := fun _ _ _ => False
theorem ds_never : DS M X st gNever := psMono ps_never fun D σ H h => by
  obtain ⟨F, O, P, ρ, R, g, en, q, po⟩ := h
  exact q
def gBreak : GS := fun R ρ O => R.bk ρ O
theorem ds_break : DS M X (.Break pos) gBreak := psMono ps_break fun D σ H h => by
  obtain ⟨F, O, P, ρ, R, g, en, q, po⟩ := h
  exact po.bk ρ O F H σ q (Same.refl _) g en
def gDrop (fe : FE) : GS := fun R ρ O => fe ρ O fun _ O1 => R.nx ρ O1
theorem ds_expr (he : DE M X e fe) (hs : swapsWith e none pos.line X.env = pure false := by rfl) : DS M X (.Expr e pos) (gDrop fe) := psMono (ps_expr he hs) fun D σ H h => by
  obtain ⟨F, O, P, ρ, R, g, en, q, po⟩ := h
  exact ⟨F, O, P, ρ, _, g, en, q, fun d O1 F1 H1 v q1 s1 g1 _ => po.nx ρ O1 F1 H1 σ q1 s1 g1 (en.mono s1)⟩
def gRet (fe : FE) : GS := fun R ρ O => fe ρ O R.rt
theorem ds_ret (he : DE M X e fe) : DS M X (.Return (some e) pos) (gRet fe) := psMono (ps_ret he) fun D σ H h => by
  obtain ⟨F, O, P, ρ, R, g, en, q, po⟩ := h
  exact ⟨F, O, P, ρ, R.rt, g, en, q, po.rt⟩
/-- an owned list is handed back: from now on it never changes -/
def gRetF (fe : FE) : GS := fun R ρ O => fe ρ O fun d O1 => match d with
  | .ref a => match O1 a with
    | some (.lst ds) => R.rt (.lst ds) (delO O1 a)
    | _ => False
  | _ => False
theorem ds_retF (he : DE M X e fe) : DS M X (.Return (some e) pos) (gRetF fe) := psMono (ps_ret he) fun D σ H h => by
  obtain ⟨F, O, P, ρ, R, g, en, q, po⟩ := h
  refine ⟨F, O, P, ρ, _, g, en, q, fun d O1 F1 H1 v q1 s1 g1 r1 => ?_⟩
  split at q1 <;> first | exact q1.elim | skip
  rename_i a
  split at q1 <;> first | exact q1.elim | skip
  rename_i ds e1
  simp only [Rep] at r1
  subst r1
  obtain ⟨F2, s2, g2, r2⟩ := g1.freeze e1
  exact po.rt (.lst ds) (delO O1 a) F2 H1 (.ref a) q1 (s1.trans s2) g2 r2
def gRetN : GS := fun R _ O => R.rt .non O
theorem ds_retN : DS M X (.Return none pos) gRetN := psMono ps_retN fun D σ H h => by
  obtain ⟨F, O, P, ρ, R, g, en, q, po⟩ := h
  exact po.rt.at g q (by simp only [Rep])
def gIf (c : FT) (g u : GS) : GS := fun R ρ O => c ρ O fun b O1 => if b = true then g R ρ O1 else u R ρ O1
theorem ds_if {a b : List Stmt} (hc : DT M X c ft) (ha : DSs M X a g) (hb : DSs M X b u) : DS M X (.If c a b pos) (gIf ft g u) := psMono (ps_if hc ha hb) fun D σ H h => by
  obtain ⟨F, O, P, ρ, R, g, en, q, po⟩ := h
  refine ⟨F, O, P, ρ, _, g, en, q, fun k O1 F1 H1 q1 s1 g1 => ?_⟩
  cases k with
  | true => rw [if_pos rfl] at q1 ⊢; exact ⟨F1, O1, P, ρ, R, g1, en.mono s1, q1, po.more s1⟩
  | false => rw [if_neg Bool.false_ne_true] at q1 ⊢; exact ⟨F1, O1, P, ρ, R, g1, en.mono s1, q1, po.more s1⟩
/-- an owned list in slot i never changes from now on -/
def gFrz (i : Nat) (g : GS) : GS := fun R ρ O => match ρ[i]? with
  | some (some (.ref a)) => match O a with
    | some (.lst ds) => g R (ρ.set i (some (.lst ds))) (delO O a)
    | _ => False
  | _ => False
theorem EnvOk.frz {K : PySem.W.Frag} {F F' : Hp} {ρ : DEnv} {σ : L2.St} {i : Nat} {a : Addr} {d : D} (h : EnvOk K F ρ σ) (s : Same F F') (e : ρ[i]? = some (some (.ref a))) (r : Rep K F' d (.ref a)) : EnvOk K F' (ρ.set i (some d)) σ := by
  obtain ⟨v, e1, r1⟩ := h.2 i _ e
  simp only [Rep] at r1
  subst r1
  refine ⟨by rw [List.length_set]; exact h.1, fun j d' q => ?_⟩
  by_cases c : i = j
  · subst c
    by_cases hl : i < ρ.length
    · rw [List.getElem?_set_self hl] at q
      cases q
      exact ⟨.ref a, e1, r⟩
    · rw [List.getElem?_eq_none (by rw [List.length_set]; omega)] at q; cases q
  · rw [List.getElem?_set_ne c] at q
    exact (h.mono s).2 j d' q
theorem liftS_frz {i : Nat} : ∀ D σ H, liftS M X.K (gFrz i g) D σ H → liftS M X.K g D σ H := fun D σ H h => by
  obtain ⟨F, O, P, ρ, R, gd, en, q, po⟩ := h
  unfold gFrz at q
  split at q
  · rename_i a e1
    split at q
    · rename_i ds e2
      obtain ⟨F2, s2, g2, r2⟩ := gd.freeze e2
      exact ⟨F2, delO O a, P, _, R, g2, en.frz s2 e1 r2, q, po.more s2⟩
    · exact q.elim
  · exact q.elim
theorem dss_frz (i : Nat) (h : DSs M X rest g) : DSs M X rest (gFrz i g) := pssMono h liftS_frz

/-! ### targets -/
inductive Pat where
  | nm (i : Nat)
  | tp (ps : List Pat)
mutual
def patT (K : PySem.W.Frag) : Pat → TG
  | .nm i => gName i
  | .tp ps => gTup K ps.length (patTs K ps)
def patTs (K : PySem.W.Frag) : List Pat → TGs
  | [] => gNil
  | p :: ps => gCons (patT K p) (patTs K ps)
end
mutual
def patD : Pat → D → DEnv → Option DEnv
  | .nm i, d, ρ => some (ρ.set i (some d))
  | .tp ps, .tup ds, ρ => patDs ps ds ρ
  | .tp _, _, _ => none
def patDs : List Pat → List D → DEnv → Option DEnv
  | [], [], ρ => some ρ
  | p :: ps, d :: ds, ρ => (patD p d ρ).bind (patDs ps ds)
  | _, _, _ => none
end
mutual
def patI : Pat → List Nat
  | .nm i => [i]
  | .tp ps => patIs ps
def patIs : List Pat → List Nat
  | [] => []
  | p :: ps => patI p ++ patIs ps
end
/-- the two states are alike but at some slots -/
def Off (vs : List Nat) (σ σ' : L2.St) : Prop := σ.length = σ'.length ∧ ∀ i, i ∉ vs → σ'[i]? = σ[i]?
theorem patDs_length : ∀ {ps : List Pat} {ds : List D} {ρ ρ' : DEnv}, patDs ps ds ρ = some ρ' → ps.length = ds.length
  | [], [], _, _, _ => rfl
  | [], _ :: _, _, _, h => by simp only [patDs] at h; cases h
  | _ :: _, [], _, _, h => by simp only [patDs] at h; cases h
  | p :: ps, d :: ds, ρ, ρ', h => by
    simp only [patDs] at h
    obtain ⟨ρ1, h1, h2⟩ := Option.bind_eq_some_iff.mp h
    rw [List.length_cons, List.length_cons, patDs_length h2]
mutual
theorem pat_ok {K : PySem.W.Frag} {F P H : Hp} {O : Ow} (gd : Gd M K F O P H) : ∀ (p : Pat) (d : D) (v : V) (ρ ρ' : DEnv) (σ : L2.St) (Q : L2.St → Hp → Prop), patD p d ρ = some ρ' → Rep K F d v → EnvOk K F ρ σ →
    (∀ σ', EnvOk K F ρ' σ' → Off (patI p) σ σ' → Q σ' H) → patT K p v σ H Q
  | .nm i, d, v, ρ, ρ', σ, Q, h, r, en, q => by
    simp only [patD] at h
    cases h
    simp only [patT]
    refine q _ (en.set r i) ⟨by rw [List.length_set], fun j hj => ?_⟩
    simp only [patI, List.mem_singleton] at hj
    rw [List.getElem?_set_ne (fun e => hj e.symm)]
  | .tp ps, d, v, ρ, ρ', σ, Q, h, r, en, q => by
    cases d <;> simp only [patD] at h <;> first | cases h | skip
    simp only [Rep] at r
    obtain ⟨a, xs, rfl, r1, r2⟩ := r
    simp only [patT]
    refine ⟨a, xs, rfl, Same.seqT gd.fz r1, ?_, ?_⟩
    · rw [← r2.length, patDs_length h]
    · exact pats_ok gd ps _ xs ρ ρ' σ Q h r2 en fun σ' en' off => q σ' en' (by simpa only [patI] using off)
theorem pats_ok {K : PySem.W.Frag} {F P H : Hp} {O : Ow} (gd : Gd M K F O P H) : ∀ (ps : List Pat) (ds : List D) (vs : List V) (ρ ρ' : DEnv) (σ : L2.St) (Q : L2.St → Hp → Prop), patDs ps ds ρ = some ρ' → RepAll K F ds vs → EnvOk K F ρ σ →
    (∀ σ', EnvOk K F ρ' σ' → Off (patIs ps) σ σ' → Q σ' H) → patTs K ps vs σ H Q
  | [], [], vs, ρ, ρ', σ, Q, h, r, en, q => by
    simp only [patDs] at h
    cases h
    simp only [RepAll] at r
    subst r
    simp only [patTs]
    exact ⟨rfl, q σ en ⟨rfl, fun _ _ => rfl⟩⟩
  | [], _ :: _, _, _, _, _, _, h, _, _, _ => by simp only [patDs] at h; cases h
  | _ :: _, [], _, _, _, _, _, h, _, _, _ => by simp only [patDs] at h; cases h
  | p :: ps, d :: ds, vs, ρ, ρ', σ, Q, h, r, en, q => by
    simp only [patDs] at h
    obtain ⟨ρ1, h1, h2⟩ := Option.bind_eq_some_iff.mp h
    simp only [RepAll] at r
    obtain ⟨v, ws, rfl, r1, r2⟩ := r
    simp only [patTs]
    refine ⟨v, ws, rfl, ?_⟩
    refine pat_ok gd p d v ρ ρ1 σ _ h1 r1 en fun σ1 en1 off1 => ?_
    refine pats_ok gd ps ds ws ρ1 ρ' σ1 Q h2 r2 en1 fun σ2 en2 off2 => q σ2 en2 ⟨off1.1.trans off2.1, fun i hi => ?_⟩
    simp only [patIs, List.mem_append, not_or] at hi
    rw [off2.2 i hi.2, off1.2 i hi.1]
end
abbrev DP (X : Cx) (tg : Expr) (p : Pat) : Prop := PG X tg (patT X.K p)
abbrev DPs (X : Cx) (tgs : List Expr) (ps : List Pat) : Prop := PGs X tgs (patTs X.K ps)
theorem dp_name {i : Nat} {x : Str} (hN : X.N.Nodup) (hi : X.N[i]? = some x) (hx : Loc X.env.scope x) (hf : X.fn x = true ∨ X.env.scope.names.lookup x = some .local := by first | exact .inl rfl | exact .inr rfl | assumption) : DP X (.Name x pos) (.nm i) := by
  show PG X _ (patT X.K (.nm i))
  rw [show patT X.K (.nm i) = gName i by simp only [patT]]
  exact pg_name hN hi hx hf
theorem dps_nil : DPs X [] [] := by
  show PGs X _ (patTs X.K [])
  rw [show patTs X.K [] = gNil by simp only [patTs]]
  exact pgs_nil
theorem dps_cons {e : Expr} {es : List Expr} {p : Pat} {ps : List Pat} (h1 : DP X e p) (h2 : DPs X es ps)
    (hs : (assignEach (e :: es) X.env).map (·.2) = assign e X.env :: (assignEach es X.env).map (·.2) := by rfl) : DPs X (e :: es) (p :: ps) := by
  show PGs X _ (patTs X.K (p :: ps))
  rw [show patTs X.K (p :: ps) = gCons (patT X.K p) (patTs X.K ps) by simp only [patTs]]
  exact pgs_cons h1 h2 hs
theorem dp_tup {es : List Expr} {k : Nat} {ps : List Pat} (hc : X.calm = true) (h : DPs X es ps)
    (hn : (assignEach es X.env).length = ps.length := by rfl) (hst : (assignEach es X.env).findIdx? (·.1) = none := by rfl) : DP X (.Tuple es k pos) (.tp ps) := by
  show PG X _ (patT X.K (.tp ps))
  rw [show patT X.K (.tp ps) = gTup X.K ps.length (patTs X.K ps) by simp only [patT]]
  exact pg_tup hc h hn hst
def patGet (o : Option DEnv) (N : DEnv → Prop) : Prop := match o with
  | some ρ => N ρ
  | none => False
theorem patGet_s {ρ : DEnv} {N : DEnv → Prop} : patGet (some ρ) N = N ρ := rfl
/-- target = value -/
def gAsg (fe : FE) (p : Pat) : GS := fun R ρ O => fe ρ O fun d O1 => patGet (patD p d ρ) fun ρ' => R.nx ρ' O1
theorem ds_asg {tg e : Expr} {p : Pat} (he : DE M X e fe) (hg : DP X tg p) (hs : swapsWithSole [tg] e pos.line X.env = pure false := by rfl) (hw : swappedStores [tg] e X.env = pure none := by rfl) (h1 : (assignEach [tg] X.env).map (·.2) = [assign tg X.env] := by rfl) : DS M X (.Assign [tg] e pos) (gAsg fe p) :=
  psMono (ps_asg he hg hs hw h1) fun D σ H h => by
    obtain ⟨F, O, P, ρ, R, g, en, q, po⟩ := h
    refine ⟨F, O, P, ρ, _, g, en, q, fun d O1 F1 H1 v q1 s1 g1 r1 => ?_⟩
    cases e1 : patD p d ρ with
    | none => rw [e1] at q1; exact q1.elim
    | some ρ' =>
      rw [e1] at q1
      exact pat_ok g1 p d v ρ ρ' σ _ e1 r1 (en.mono s1) fun σ' en' _ => po.nx ρ' O1 F1 H1 σ' q1 s1 g1 en'
/-- name = value -/
def gSet (fe : FE) (i : Nat) : GS := fun R ρ O => fe ρ O fun d O1 => R.nx (ρ.set i (some d)) O1
theorem gSet_lift {te : TE} {i : Nat} (hl : ∀ σ H Q, liftE M X.K fe σ H Q → te σ H Q) : ∀ D σ H, liftS M X.K (gSet fe i) D σ H → tAsg te (gName i) D σ H := fun D σ H h => by
  obtain ⟨F, O, P, ρ, R, g, en, q, po⟩ := h
  exact hl _ _ _ ⟨F, O, P, ρ, _, g, en, q, fun d O1 F1 H1 v q1 s1 g1 r1 => po.nx _ O1 F1 H1 _ q1 s1 g1 ((en.mono s1).set r1 i)⟩
theorem ds_set {i : Nat} {x : Str} {e : Expr} {pos' : Pos} (hN : X.N.Nodup) (hi : X.N[i]? = some x) (hx : Loc X.env.scope x) (he : DE M X e fe) (hs : swapsWith e (some (.Name x pos')) pos.line X.env = pure false := by rfl) (hf : X.fn x = true ∨ X.env.scope.names.lookup x = some .local := by first | exact .inl rfl | exact .inr rfl | assumption) :
    DS M X (.Assign [.Name x pos'] e pos) (gSet fe i) := psMono (ps_set hN hi hx he hs hf) (gSet_lift fun _ _ _ q => q)
/-- name op= e -/
def gAug (i : Nat) (fe : FE) (r : R2D) : GS := fun R ρ O => match ρ[i]? with
  | some (some x) => fe ρ O fun y O1 => r x y O1 fun z O2 => R.nx (ρ.set i (some z)) O2
  | _ => False
theorem ds_aug {i : Nat} {x : Str} {e : Expr} {op : Operator} {r : R2D} {pos' : Pos} (hN : X.N.Nodup) (hi : X.N[i]? = some x) (hx : Loc X.env.scope x) (he : DE M X e fe) (ho : OpD M X (inplaceOp op) r) (hf : X.fn x = true ∨ X.env.scope.names.lookup x = some .local := by first | exact .inl rfl | exact .inr rfl | assumption) :
    DS M X (.AugAssign (.Name x pos') op e pos) (gAug i fe r) := psMono (ps_aug (ti := liftR2 M X.K r) hN hi hx he ho hf) fun D σ H h => by
  obtain ⟨F, O, P, ρ, R, g, en, q, po⟩ := h
  unfold gAug at q
  split at q <;> first | exact q.elim | skip
  rename_i d e1
  obtain ⟨v, e2, r2⟩ := en.2 i d e1
  refine ⟨v, e2, F, O, P, ρ, _, g, en, q, fun y O1 F1 H1 w q1 s1 g1 r1 => ?_⟩
  exact ⟨F1, O1, P, d, y, _, g1, r2.mono s1, r1, q1, fun z O2 F2 H2 zv q2 s2 g2 r3 => po.nx _ O2 F2 H2 _ q2 (s1.trans s2) g2 ((en.mono (s1.trans s2)).set r3 i)⟩
/-- o[i] = v, an owned list -/
def rSetD (x y d : D) (O : Ow) (N : Ow → Prop) : Prop := match x, y with
  | .ref a, .int k => match O a with
    | some (.lst ds) => match ixN ds.length k with
      | some j => N (updO O a (.lst (ds.set j d)))
      | none => False
    | some .pool => match d with
      | .int z => ((k = 0 ∧ 0 ≤ z) ∨ (k = 1 ∧ 0 ≤ z ∧ z < 2147483647)) ∧ N O
      | _ => False
    | _ => False
  | _, _ => False
def gSetIx (fo fi fe : FE) : GS := fun R ρ O => fe ρ O fun d O1 => fo ρ O1 fun x O2 => fi ρ O2 fun y O3 => rSetD x y d O3 (R.nx ρ)
theorem ds_setIx {o i e : Expr} {fo fi : FE} {p1 : Pos} (ho : DE M X o fo) (hi : DE M X i fi) (he : DE M X e fe)
    (ha : ∀ v, assign (.Subscript o i p1) X.env v = (do
      let ov ← holding [v] (eval o X.env)
      let iv ← holding [v, ov] (eval i X.env)
      standAt p1
      holding [v, ov, iv] (setItem ov iv v)
      release [v, ov, iv] []) := by intro _; rfl)
    (hs : swapsWithSole [.Subscript o i p1] e pos.line X.env = pure false := by rfl) (hw : swappedStores [.Subscript o i p1] e X.env = pure none := by rfl) : DS M X (.Assign [.Subscript o i p1] e pos) (gSetIx fo fi fe) :=
  psMono (ps_asg he (pg_sub ho hi set_list ha) hs hw) fun D σ H h => by
    obtain ⟨F, O, P, ρ, R, g, en, q, po⟩ := h
    refine ⟨F, O, P, ρ, _, g, en, q, fun d O1 F1 H1 v q1 s1 g1 r1 => ?_⟩
    refine ⟨F1, O1, P, ρ, _, g1, en.mono s1, q1, fun x O2 F2 H2 w q2 s2 g2 r2 => ?_⟩
    refine ⟨F2, O2, P, ρ, _, g2, en.mono (s1.trans s2), q2, fun y O3 F3 H3 z q3 s3 g3 r3 => ?_⟩
    unfold rSetD at q3
    cases x <;> first | exact q3.elim | skip
    cases y <;> first | exact q3.elim | skip
    rename_i a k
    simp only [Rep] at r2 r3
    subst r2 r3
    dsimp only at q3
    cases e1 : O3 a with
    | none => rw [e1] at q3; exact q3.elim
    | some c =>
      rw [e1] at q3
      cases c with
      | dic kvs => exact q3.elim
      | dicL kvs o => exact q3.elim
      | pool =>
        dsimp only at q3
        cases d <;> first | exact q3.elim | skip
        simp only [Rep] at r1
        subst r1
        obtain ⟨_, _, z, y, hH, h2, h3, h4⟩ := g3.ow a _ e1
        obtain ⟨q4, q5⟩ := q3
        have s4 := s1.trans (s2.trans s3)
        rcases q4 with ⟨rfl, h5⟩ | ⟨rfl, h5, h6⟩
        · refine ⟨a, _, 0, 0, rfl, rfl, hH, rfl, ?_⟩
          have g4 := g3.setO e1 (o := .lst [.int _, .int y]) (c := .pool) ⟨_, y, upd_same, h5, h3, h4⟩
          rw [updO_self e1] at g4
          exact po.nx ρ _ F3 _ σ q5 s4 g4 (en.mono s4)
        · refine ⟨a, _, 1, 1, rfl, rfl, hH, rfl, ?_⟩
          have g4 := g3.setO e1 (o := .lst [.int z, .int _]) (c := .pool) ⟨z, _, upd_same, h2, h5, h6⟩
          rw [updO_self e1] at g4
          exact po.nx ρ _ F3 _ σ q5 s4 g4 (en.mono s4)
      | lst ds =>
        dsimp only at q3
        cases e2 : ixN ds.length k with
        | none => rw [e2] at q3; exact q3.elim
        | some j =>
          rw [e2] at q3
          obtain ⟨_, _, vs, h1, h2⟩ := g3.ow a _ e1
          refine ⟨a, vs, k, j, rfl, rfl, h1, by rw [← h2.length]; exact e2, ?_⟩
          exact po.nx ρ _ F3 _ σ q3 (s1.trans (s2.trans s3)) (g3.setO e1 ⟨_, upd_same, h2.set (r1.mono (s2.trans s3)) j⟩) (en.mono (s1.trans (s2.trans s3)))

/-! ### what is walked -/
/-- the walk yields just these, whatever comes meanwhile -/
def ItOk (M : MX) (K : PySem.W.Frag) (F : Hp) (J : It) (ds : List D) : Prop := ∀ F' O' P' H', Same F F' → Gd M K F' O' P' H' → ∀ i : Nat,
  (∀ d, ds[i]? = some d → J.go i H' ∧ ∀ x H'', J.yld i H' x H'' → ∃ F'', Same F' F'' ∧ Gd M K F'' O' P' H'' ∧ Rep K F'' d x) ∧ (ds.length ≤ i → J.stop i H')
abbrev FI := DEnv → Ow → (List D → Ow → Prop) → Prop
def liftI (M : MX) (K : PySem.W.Frag) (f : FI) : TI := fun σ H Q => ∃ F O P ρ R, Gd M K F O P H ∧ EnvOk K F ρ σ ∧ f ρ O R ∧ ∀ ds O' F' H' J, R ds O' → Same F F' → Gd M K F' O' P H' → ItOk M K F' J ds → Q J H'
abbrev DI (M : MX) (X : Cx) (tg iter : Expr) (f : FI) : Prop := PI X tg iter (liftI M X.K f)
theorem piMono {X : Cx} {tg iter : Expr} {t t' : TI} (h : PI X tg iter t) (imp : ∀ σ H Q, t' σ H Q → t σ H Q) : PI X tg iter t' := ⟨fun pins s σ H Q I q => h.run pins s σ H Q I (imp σ H Q q)⟩
variable {tg iter l : Expr} {fl : FE} {fr : FA}
theorem SqL.inj' {K : PySem.W.Frag} {H : Hp} {a : Addr} {xs ys : List V} (h : H a = some (.lst xs)) : SqL K H a xs := SqL.of h
def asL (d : D) (O : Ow) (Q : List D → Ow → Prop) : Prop := match d with
  | .lst ds => Q ds O
  | _ => False
def asT (d : D) (O : Ow) (Q : List D → Ow → Prop) : Prop := match d with
  | .tup ds => Q ds O
  | _ => False
def asSg (d : D) (O : Ow) (Q : List D → Ow → Prop) : Prop := match d with
  | .str x => Q (x.cps.toList.map fun c => .str ⟨#[c]⟩) O
  | _ => False
def asR1 (ds : List D) (O : Ow) (Q : Int → Nat → Ow → Prop) : Prop := match ds with
  | [.int j] => -(2 ^ 62) ≤ j ∧ j < 2 ^ 62 ∧ Q 0 j.toNat O
  | _ => False
def asR2 (ds : List D) (O : Ow) (Q : Int → Nat → Ow → Prop) : Prop := match ds with
  | [.int i, .int j] => (-(2 ^ 62) ≤ i ∧ i < 2 ^ 62 ∧ -(2 ^ 62) ≤ j ∧ j < 2 ^ 62) ∧ Q i (j - i).toNat O
  | _ => False
def asL1 (ds : List D) (O : Ow) (Q : List D → Ow → Prop) : Prop := match ds with
  | [.lst ds] => Q ds O
  | _ => False
def asL2 (ds : List D) (O : Ow) (Q : List D → List D → Ow → Prop) : Prop := match ds with
  | [.lst ds, .lst es] => Q ds es O
  | _ => False
section
variable {O : Ow} {xs ys : List D} {i j : Int}
theorem asL_l {Q : List D → Ow → Prop} : asL (.lst xs) O Q = Q xs O := rfl
theorem asT_t {Q : List D → Ow → Prop} : asT (.tup xs) O Q = Q xs O := rfl
theorem asSg_s {Q : List D → Ow → Prop} {x : Str} : asSg (.str x) O Q = Q (x.cps.toList.map fun c => .str ⟨#[c]⟩) O := rfl
theorem asR1_i {Q : Int → Nat → Ow → Prop} : asR1 [.int j] O Q = (-(2 ^ 62) ≤ j ∧ j < 2 ^ 62 ∧ Q 0 j.toNat O) := rfl
theorem asR2_i {Q : Int → Nat → Ow → Prop} : asR2 [.int i, .int j] O Q = ((-(2 ^ 62) ≤ i ∧ i < 2 ^ 62 ∧ -(2 ^ 62) ≤ j ∧ j < 2 ^ 62) ∧ Q i (j - i).toNat O) := rfl
theorem asL1_l {Q : List D → Ow → Prop} : asL1 [.lst xs] O Q = Q xs O := rfl
theorem asL2_l {Q : List D → List D → Ow → Prop} : asL2 [.lst xs, .lst ys] O Q = Q xs ys O := rfl
end
/-- a list -/
def fiList (fl : FE) : FI := fun ρ O Q => fl ρ O fun d O1 => asL d O1 Q
theorem di_list (hl : DE M X l fl) : DI M X tg l (fiList fl) := piMono (pi_list hl) fun σ H Q h => by
  obtain ⟨F, O, P, ρ, R, g, en, q, po⟩ := h
  refine ⟨F, O, P, ρ, _, g, en, q, fun d O1 F1 H1 v q1 s1 g1 r1 => ?_⟩
  unfold asL at q1
  cases d <;> first | exact q1.elim | skip
  rename_i ds
  simp only [Rep] at r1
  obtain ⟨a, xs, rfl, h1, h2⟩ := r1
  refine ⟨a, rfl, ⟨xs, SqL.of (g1.fz _ _ h1)⟩, po ds O1 F1 H1 _ q1 s1 g1 fun F2 O2 P2 H2 s2 g2 i => ⟨fun d e => ?_, fun hi => ?_⟩⟩
  · have sq : SqL X.K H2 a xs := SqL.of (g2.fz _ _ (s2 _ _ h1))
    obtain ⟨w, e1, r1⟩ := h2.get e
    refine ⟨⟨xs, w, sq, e1⟩, fun x H3 hy => ?_⟩
    obtain ⟨rfl, hx⟩ := hy
    have := hx xs sq
    rw [e1] at this
    cases this
    exact ⟨F2, Same.refl _, g2, r1.mono s2⟩
  · exact ⟨xs, SqL.of (g2.fz _ _ (s2 _ _ h1)), by rw [← h2.length]; exact hi⟩
/-- a tuple -/
def fiTup (fl : FE) : FI := fun ρ O Q => fl ρ O fun d O1 => asT d O1 Q
theorem SqT.uniq {K : PySem.W.Frag} {F : Hp} {a : Addr} {xs ys : List V} (h : SqT K F a xs) (h' : SqT K F a ys) (hk : ∀ o, K.lookup a = some o → F a = none) : xs = ys := by
  rcases h with (h | ⟨o, h⟩) | ⟨o, its, n, h1, h2, h3, h4, h5⟩
  · rcases h' with (h' | ⟨o', h'⟩) | ⟨o', its', n', h1', _⟩
    · rw [h] at h'; cases h'; rfl
    · rw [h] at h'; cases h'
    · rw [hk _ h1'] at h; cases h
  · rcases h' with (h' | ⟨o', h'⟩) | ⟨o', its', n', h1', _⟩
    · rw [h] at h'; cases h'
    · rw [h] at h'; cases h'; rfl
    · rw [hk _ h1'] at h; cases h
  · rcases h' with (h' | ⟨o', h'⟩) | ⟨o', its', n', h1', h2', h3', h4', h5'⟩
    · rw [hk _ h1] at h'; cases h'
    · rw [hk _ h1] at h'; cases h'
    · rw [h1] at h1'; cases h1'
      rw [h3] at h3'; cases h3'
      exact Vals.inj h5 h5'
theorem di_tup (hl : DE M X l fl) : DI M X tg l (fiTup fl) := piMono (pi_tup hl) fun σ H Q h => by
  obtain ⟨F, O, P, ρ, R, g, en, q, po⟩ := h
  refine ⟨F, O, P, ρ, _, g, en, q, fun d O1 F1 H1 v q1 s1 g1 r1 => ?_⟩
  unfold asT at q1
  cases d <;> first | exact q1.elim | skip
  rename_i ds
  simp only [Rep] at r1
  obtain ⟨a, xs, rfl, h1, h2⟩ := r1
  refine ⟨a, rfl, ⟨xs, Same.seqT g1.fz h1⟩, po ds O1 F1 H1 _ q1 s1 g1 fun F2 O2 P2 H2 s2 g2 i => ⟨fun d e => ?_, fun hi => ?_⟩⟩
  · have sq : SqT X.K H2 a xs := Same.seqT g2.fz (Same.seqT s2 h1)
    obtain ⟨w, e1, r1⟩ := h2.get e
    refine ⟨⟨xs, w, sq, e1⟩, fun x H3 hy => ?_⟩
    obtain ⟨rfl, hx⟩ := hy
    have := hx xs sq
    rw [e1] at this
    cases this
    exact ⟨F2, Same.refl _, g2, r1.mono s2⟩
  · exact ⟨xs, Same.seqT g2.fz (Same.seqT s2 h1), by rw [← h2.length]; exact hi⟩
/-- range(n), range(a, b) -/
def rangeD (lo : Int) (n : Nat) : List D := (List.range n).map fun i => .int (lo + (i : Nat))
theorem itOk_range {K : PySem.W.Frag} {F : Hp} (lo : Int) (n : Nat) : ItOk M K F (Itr lo n) (rangeD lo n) := fun F2 O2 P2 H2 s2 g2 i => by
  refine ⟨fun d e => ?_, fun hi => ?_⟩
  · unfold rangeD at e
    rw [List.getElem?_map] at e
    obtain ⟨j, e1, e2⟩ := Option.map_eq_some_iff.mp e
    have hi : i < n := by
      have := List.getElem?_eq_some_iff.mp e1
      obtain ⟨h, _⟩ := this
      simpa using h
    have hj : j = i := by
      rw [List.getElem?_range hi] at e1
      exact (Option.some.inj e1).symm
    subst hj
    subst e2
    refine ⟨hi, fun x H3 hy => ?_⟩
    obtain ⟨rfl, rfl⟩ := hy
    exact ⟨F2, Same.refl _, g2, by simp only [Rep]⟩
  · unfold rangeD at hi
    rw [List.length_map, List.length_range] at hi
    exact hi
def fiRng1 (fr : FA) : FI := fun ρ O Q => fr ρ O fun ds O1 => asR1 ds O1 fun i n O2 => Q (rangeD i n) O2
theorem di_range1 {a : Expr} {p : Pos} (hg : Gl X "range") (hm : X.mg "range" = none) (ha : DA M X [a] fr) (hs : starEach [a] X.env = [(false, eval a X.env)] := by rfl) : DI M X tg (.Call (.Name "range" p) [a] [] pos) (fiRng1 fr) :=
  piMono (pi_range1 hg hm ha hs) fun σ H Q h => by
    obtain ⟨F, O, P, ρ, R, g, en, q, po⟩ := h
    refine ⟨F, O, P, ρ, _, g, en, q, fun ds O1 F1 H1 vs q1 s1 g1 r1 => ?_⟩
    unfold asR1 at q1
    split at q1
    · obtain ⟨v, rfl, r1'⟩ := r1.one'
      simp only [Rep] at r1'
      exact ⟨_, by rw [r1'], q1.1, q1.2.1, po _ O1 F1 H1 _ q1.2.2 s1 g1 (itOk_range 0 _)⟩
    · exact q1.elim
def fiRng2 (fr : FA) : FI := fun ρ O Q => fr ρ O fun ds O1 => asR2 ds O1 fun i n O2 => Q (rangeD i n) O2
theorem di_range2 {a b : Expr} {p : Pos} (hg : Gl X "range") (hm : X.mg "range" = none) (ha : DA M X [a, b] fr) (hs : starEach [a, b] X.env = [(false, eval a X.env), (false, eval b X.env)] := by rfl) (hs2 : starEach [b] X.env = [(false, eval b X.env)] := by rfl) : DI M X tg (.Call (.Name "range" p) [a, b] [] pos) (fiRng2 fr) :=
  piMono (pi_range2 hg hm ha hs hs2) fun σ H Q h => by
    obtain ⟨F, O, P, ρ, R, g, en, q, po⟩ := h
    refine ⟨F, O, P, ρ, _, g, en, q, fun ds O1 F1 H1 vs q1 s1 g1 r1 => ?_⟩
    unfold asR2 at q1
    split at q1
    · obtain ⟨v, w, rfl, r1', r2'⟩ := r1.two'
      simp only [Rep] at r1' r2'
      exact ⟨_, _, by rw [r1', r2'], q1.1, po _ O1 F1 H1 _ q1.2 s1 g1 (itOk_range _ _)⟩
    · exact q1.elim
/-- a text, sign by sign -/
def signsD (x : Str) : List D := x.cps.toList.map fun c => .str ⟨#[c]⟩
def fiStr (fl : FE) : FI := fun ρ O Q => fl ρ O fun d O1 => asSg d O1 Q
theorem di_str (hl : DE M X l fl) : DI M X tg l (fiStr fl) := piMono (pi_str hl) fun σ H Q h => by
  obtain ⟨F, O, P, ρ, R, g, en, q, po⟩ := h
  refine ⟨F, O, P, ρ, _, g, en, q, fun d O1 F1 H1 v q1 s1 g1 r1 => ?_⟩
  unfold asSg at q1
  cases d <;> first | exact q1.elim | skip
  rename_i x
  simp only [Rep] at r1
  refine ⟨x, r1, po _ O1 F1 H1 _ q1 s1 g1 fun F2 O2 P2 H2 s2 g2 i => ⟨fun d e => ?_, fun hi => ?_⟩⟩
  · unfold signsD at e
    rw [List.getElem?_map] at e
    obtain ⟨c, e1, rfl⟩ := Option.map_eq_some_iff.mp e
    have hi : i < x.cps.size := by
      obtain ⟨h, _⟩ := List.getElem?_eq_some_iff.mp e1
      simpa using h
    refine ⟨hi, fun y H3 hy => ?_⟩
    obtain ⟨rfl, c', e2, rfl⟩ := hy
    rw [Array.getElem?_toList] at e1
    rw [e1] at e2
    cases e2
    exact ⟨F2, Same.refl _, g2, by simp only [Rep]⟩
  · unfold signsD at hi
    rw [List.length_map, Array.length_toList] at hi
    exact hi
/-- enumerate(xs) -/
def enumD (ds : List D) : List D := ds.zipIdx.map fun p => .tup [.int (p.2 : Nat), p.1]
theorem enumD_get (ds : List D) (i : Nat) : (enumD ds)[i]? = ds[i]?.map fun d => .tup [.int (i : Nat), d] := by
  unfold enumD
  rw [List.getElem?_map, List.getElem?_zipIdx]
  cases ds[i]? with
  | none => rfl
  | some d => simp
theorem enumD_length (ds : List D) : (enumD ds).length = ds.length := by unfold enumD; rw [List.length_map, List.length_zipIdx]
def fiEnum (fr : FA) : FI := fun ρ O Q => fr ρ O fun ds O1 => asL1 ds O1 fun ds O2 => Q (enumD ds) O2
theorem di_enum {e : Expr} {p tpos : Pos} {elts : List Expr} {kk : Nat} (hg : Gl X "enumerate") (hm : X.mg "enumerate" = none) (ha : DA M X [e] fr) (hs : starEach [e] X.env = [(false, eval e X.env)] := by rfl) :
    DI M X (.Tuple elts kk tpos) (.Call (.Name "enumerate" p) [e] [] pos) (fiEnum fr) := piMono (pi_enum hg hm ha hs) fun σ H Q h => by
  obtain ⟨F, O, P, ρ, R, g, en, q, po⟩ := h
  refine ⟨F, O, P, ρ, _, g, en, q, fun ds O1 F1 H1 vs q1 s1 g1 r1 => ?_⟩
  unfold asL1 at q1
  split at q1
  · rename_i ds
    obtain ⟨v, rfl, r1'⟩ := r1.one'
    simp only [Rep] at r1'
    obtain ⟨a, xs, rfl, h1, h2⟩ := r1'
    refine ⟨a, xs, rfl, SqL.of (g1.fz _ _ h1), po _ O1 F1 H1 _ q1 s1 g1 fun F2 O2 P2 H2 s2 g2 i => ⟨fun d e => ?_, fun hi => ?_⟩⟩
    · rw [enumD_get] at e
      obtain ⟨d0, e0, rfl⟩ := Option.map_eq_some_iff.mp e
      have sq : SqL X.K H2 a xs := SqL.of (g2.fz _ _ (s2 _ _ h1))
      obtain ⟨w, e1, r1⟩ := h2.get e0
      refine ⟨⟨xs, w, sq, e1⟩, fun x H3 hy => ?_⟩
      obtain ⟨T, y, rfl, hT, rfl, hx⟩ := hy
      have hxx := hx xs sq
      rw [e1] at hxx
      cases hxx
      have hF := g2.freeF hT
      refine ⟨upd F2 T (.tup [.int (i : Nat), w]), same_upd hF, g2.new hT, ?_⟩
      simp only [Rep]
      refine ⟨T, _, rfl, .inl (.inl upd_same), .cons (by simp only [Rep]) (.one ((r1.mono s2).mono (same_upd hF)))⟩
    · rw [enumD_length] at hi
      exact ⟨xs, SqL.of (g2.fz _ _ (s2 _ _ h1)), by rw [← h2.length]; exact hi⟩
  · exact q1.elim
/-- zip(xs, ys) -/
def zipD (ds es : List D) : List D := (ds.zip es).map fun p => .tup [p.1, p.2]
def fiZip (fr : FA) : FI := fun ρ O Q => fr ρ O fun ds O1 => asL2 ds O1 fun ds es O2 => Q (zipD ds es) O2
theorem di_zip {e e2 : Expr} {p tpos : Pos} {elts : List Expr} {kk : Nat} (hg : Gl X "zip") (hm : X.mg "zip" = none) (ha : DA M X [e, e2] fr)
    (hs : starEach [e, e2] X.env = (false, eval e X.env) :: starEach [e2] X.env := by rfl) (hpl : (backTo pos (starEach [e2] X.env)).any (·.1) = false := by rfl) :
    DI M X (.Tuple elts kk tpos) (.Call (.Name "zip" p) [e, e2] [] pos) (fiZip fr) := piMono (pi_zip hg hm ha hs hpl) fun σ H Q h => by
  obtain ⟨F, O, P, ρ, R, g, en, q, po⟩ := h
  refine ⟨F, O, P, ρ, _, g, en, q, fun ds O1 F1 H1 vs q1 s1 g1 r1 => ?_⟩
  unfold asL2 at q1
  split at q1
  · rename_i ds es
    obtain ⟨v, w, rfl, r1', r2'⟩ := r1.two'
    simp only [Rep] at r1' r2'
    obtain ⟨a, xs, rfl, h1, h2⟩ := r1'
    obtain ⟨b, ys, rfl, k1, k2⟩ := r2'
    refine ⟨a, b, xs, ys, rfl, SqL.of (g1.fz _ _ h1), SqL.of (g1.fz _ _ k1), po _ O1 F1 H1 _ q1 s1 g1 fun F2 O2 P2 H2 s2 g2 i => ⟨fun d e => ?_, fun hi => ?_⟩⟩
    · unfold zipD at e
      rw [List.getElem?_map] at e
      obtain ⟨pq, e0, rfl⟩ := Option.map_eq_some_iff.mp e
      obtain ⟨e0a, e0b⟩ := List.getElem?_zip_eq_some.mp e0
      have sq : SqL X.K H2 a xs := SqL.of (g2.fz _ _ (s2 _ _ h1))
      have sq2 : SqL X.K H2 b ys := SqL.of (g2.fz _ _ (s2 _ _ k1))
      obtain ⟨w, e1, r1⟩ := h2.get e0a
      obtain ⟨w2, e2, r2⟩ := k2.get e0b
      refine ⟨⟨xs, ys, w, w2, sq, sq2, e1, e2⟩, fun x H3 hy => ?_⟩
      obtain ⟨T, y, y2, rfl, hT, rfl, hx, hx2⟩ := hy
      have hxx := hx xs sq
      rw [e1] at hxx
      cases hxx
      have hxx2 := hx2 ys sq2
      rw [e2] at hxx2
      cases hxx2
      have hF := g2.freeF hT
      refine ⟨upd F2 T (.tup [w, w2]), same_upd hF, g2.new hT, ?_⟩
      simp only [Rep]
      refine ⟨T, _, rfl, .inl (.inl upd_same), .cons ((r1.mono s2).mono (same_upd hF)) (.one ((r2.mono s2).mono (same_upd hF)))⟩
    · unfold zipD at hi
      rw [List.length_map, List.length_zip] at hi
      refine ⟨xs, ys, SqL.of (g2.fz _ _ (s2 _ _ h1)), SqL.of (g2.fz _ _ (s2 _ _ k1)), ?_⟩
      rw [← h2.length, ← k2.length]
      omega
  · exact q1.elim
/-- reversed(xs) -/
def fiRev (fr : FA) : FI := fun ρ O Q => fr ρ O fun ds O1 => asL1 ds O1 fun ds O2 => Q ds.reverse O2
theorem di_rev {e : Expr} {p : Pos} (hg : Gl X "reversed") (hm : X.mg "reversed" = none) (ha : DA M X [e] fr) (hs : starEach [e] X.env = [(false, eval e X.env)] := by rfl) : DI M X tg (.Call (.Name "reversed" p) [e] [] pos) (fiRev fr) := piMono (pi_reversed hg hm ha hs) fun σ H Q h => by
  obtain ⟨F, O, P, ρ, R, g, en, q, po⟩ := h
  refine ⟨F, O, P, ρ, _, g, en, q, fun ds O1 F1 H1 vs q1 s1 g1 r1 => ?_⟩
  unfold asL1 at q1
  split at q1
  · rename_i ds
    obtain ⟨v, rfl, r1'⟩ := r1.one'
    simp only [Rep] at r1'
    obtain ⟨a, xs, rfl, h1, h2⟩ := r1'
    refine ⟨a, xs, rfl, SqL.of (g1.fz _ _ h1), po _ O1 F1 H1 _ q1 s1 g1 fun F2 O2 P2 H2 s2 g2 i => ⟨fun d e => ?_, fun hi => ?_⟩⟩
    · have hl : i < ds.length := by
        obtain ⟨h, _⟩ := List.getElem?_eq_some_iff.mp e
        simpa using h
      rw [List.getElem?_reverse hl] at e
      have sq : SqL X.K H2 a xs := SqL.of (g2.fz _ _ (s2 _ _ h1))
      obtain ⟨w, e1, r1⟩ := h2.get e
      rw [h2.length] at e1
      refine ⟨⟨by rw [← h2.length]; exact hl, xs, w, sq, e1⟩, fun x H3 hy => ?_⟩
      obtain ⟨rfl, hx⟩ := hy
      have hxx := hx xs sq
      rw [e1] at hxx
      cases hxx
      exact ⟨F2, Same.refl _, g2, r1.mono s2⟩
    · rw [List.length_reverse, h2.length] at hi
      exact hi
  · exact q1.elim
/-! ### for -/
def forD (p : Pat) (gb : GS) (R : DEnds) : List D → DEnv → Ow → Prop
  | [], ρ, O => R.nx ρ O
  | d :: ds, ρ, O => patGet (patD p d ρ) fun ρ1 => gb { R with nx := forD p gb R ds, ct := forD p gb R ds, bk := R.nx } ρ1 O
def gFor (fi : FI) (p : Pat) (gb : GS) : GS := fun R ρ O => fi ρ O fun ds O1 => forD p gb R ds ρ O1
theorem ds_for {body : List Stmt} {fi : FI} {p : Pat} {gb : GS} (hp : PassesOwn (model X.prog X.w) X.A X.env X.xe) (hc : X.calm = true) (hi : DI M X tg iter fi) (hg : DP X tg p) (hb : DSs M X body gb)
    (hs : ∀ x, foldedSetIterable iter X.env x = pure x := by intro _; rfl) : DS M X (.For tg iter body [] pos) (gFor fi p gb) := psMono (ps_for hp hc hi hg hb hs) fun D σ H h => by
  obtain ⟨F, O, P, ρ, R, g, en, q, po⟩ := h
  refine ⟨F, O, P, ρ, _, g, en, q, fun ds O1 F1 H1 J q1 s1 g1 it => ?_⟩
  refine ⟨fun i m σ H => ∃ F2 O2 ρ2, i + m = ds.length ∧ Same F1 F2 ∧ Gd M X.K F2 O2 P H ∧ EnvOk X.K F2 ρ2 σ ∧ forD p gb R (ds.drop i) ρ2 O2,
    ⟨ds.length, F1, O1, ρ, by omega, Same.refl _, g1, en.mono s1, by rw [List.drop_zero]; exact q1⟩, fun i m σ2 H2 hW => ?_⟩
  obtain ⟨F2, O2, ρ2, hm, s2, g2, en2, q2⟩ := hW
  obtain ⟨it1, it2⟩ := it F2 O2 P H2 s2 g2 i
  by_cases hi : i < ds.length
  · obtain ⟨hgo, hy⟩ := it1 ds[i] (List.getElem?_eq_getElem hi)
    rw [List.drop_eq_getElem_cons hi] at q2
    unfold forD at q2
    refine .inr ⟨hgo, fun σ' H' => ∃ F3 O3 ρ3, Same F1 F3 ∧ Gd M X.K F3 O3 P H' ∧ EnvOk X.K F3 ρ3 σ' ∧ forD p gb R (ds.drop (i + 1)) ρ3 O3, fun σ' H' hN => ?_, fun x H' hyy => ?_⟩
    · obtain ⟨F3, O3, ρ3, s3, g3, en3, q3⟩ := hN
      exact ⟨m - 1, by omega, F3, O3, ρ3, by omega, s3, g3, en3, q3⟩
    · obtain ⟨F3, s3, g3, r3⟩ := hy x H' hyy
      cases e1 : patD p ds[i] ρ2 with
      | none => rw [e1] at q2; exact q2.elim
      | some ρ3 =>
        rw [e1] at q2
        refine pat_ok g3 p ds[i] x ρ2 ρ3 σ2 _ e1 r3 (en2.mono s3) fun σ4 en4 _ => ?_
        refine ⟨F3, O2, P, ρ3, _, g3, en4, q2, ⟨fun ρ5 O5 F5 H5 σ5 q5 s5 g5 en5 => ?_, ?_, ?_, fun ρ5 O5 F5 H5 σ5 q5 s5 g5 en5 => ?_⟩⟩
        · exact ⟨F5, O5, ρ5, s2.trans (s3.trans s5), g5, en5, q5⟩
        · exact po.rt.more (s1.trans (s2.trans s3))
        · exact po.nx.more (s1.trans (s2.trans s3))
        · exact ⟨F5, O5, ρ5, s2.trans (s3.trans s5), g5, en5, q5⟩
  · refine .inl ⟨it2 (by omega), ?_⟩
    rw [List.drop_eq_nil_of_le (by omega)] at q2
    exact po.nx ρ2 O2 F2 H2 σ2 q2 (s1.trans s2) g2 en2
/-! ### while -/
def gWhile (ft : FT) (gb : GS) : GS := fun R ρ O => ∃ I : Nat → DEnv → Ow → Prop, (∃ m, I m ρ O) ∧ ∀ m ρ O, I m ρ O →
  ft ρ O fun b O1 => if b = true then gb { R with nx := fun ρ' O' => ∃ m', m' < m ∧ I m' ρ' O', ct := fun ρ' O' => ∃ m', m' < m ∧ I m' ρ' O', bk := R.nx } ρ O1 else R.nx ρ O1
theorem ds_while {body : List Stmt} {gb : GS} (hp : PassesOwn (model X.prog X.w) X.A X.env X.xe) (hc : DT M X c ft) (hb : DSs M X body gb) : DS M X (.While c body [] pos) (gWhile ft gb) := psMono (ps_while hp hc hb) fun D σ H h => by
  obtain ⟨F, O, P, ρ, R, g, en, ⟨I, ⟨m0, h0⟩, hI⟩, po⟩ := h
  refine ⟨fun m σ H => ∃ F2 O2 ρ2, Same F F2 ∧ Gd M X.K F2 O2 P H ∧ EnvOk X.K F2 ρ2 σ ∧ I m ρ2 O2, ⟨m0, F, O, ρ, Same.refl _, g, en, h0⟩, fun m σ2 H2 hW => ?_⟩
  obtain ⟨F2, O2, ρ2, s2, g2, en2, q2⟩ := hW
  refine ⟨F2, O2, P, ρ2, _, g2, en2, hI m ρ2 O2 q2, fun k O3 F3 H3 q3 s3 g3 => ?_⟩
  cases k with
  | false => rw [if_neg Bool.false_ne_true] at q3 ⊢; exact po.nx ρ2 O3 F3 H3 σ2 q3 (s2.trans s3) g3 (en2.mono s3)
  | true =>
    rw [if_pos rfl] at q3 ⊢
    refine ⟨fun σ' H' => ∃ F4 O4 ρ4, Same F F4 ∧ Gd M X.K F4 O4 P H' ∧ EnvOk X.K F4 ρ4 σ' ∧ ∃ m', m' < m ∧ I m' ρ4 O4, fun σ' H' hN => ?_, ?_⟩
    · obtain ⟨F4, O4, ρ4, s4, g4, en4, m', hm, q4⟩ := hN
      exact ⟨m', hm, F4, O4, ρ4, s4, g4, en4, q4⟩
    · refine ⟨F3, O3, P, ρ2, _, g3, en2.mono s3, q3, ⟨fun ρ5 O5 F5 H5 σ5 q5 s5 g5 en5 => ?_, ?_, ?_, fun ρ5 O5 F5 H5 σ5 q5 s5 g5 en5 => ?_⟩⟩
      · exact ⟨F5, O5, ρ5, s2.trans (s3.trans s5), g5, en5, q5⟩
      · exact po.rt.more (s2.trans s3)
      · exact po.nx.more (s2.trans s3)
      · exact ⟨F5, O5, ρ5, s2.trans (s3.trans s5), g5, en5, q5⟩
end
end Kf
namespace Kf
open PySem PySem.Spec L2
open PyProof.Rows hiding St
variable {M : MX}

/-! ### a thing that stands aside -/
section
variable {K : PySem.W.Frag} {F P H : Hp} {O : Ow} {p : Addr} {o o' : HO}
theorem Gd.aside (g : Gd M K F O P H) (h : H p = none) : Gd M K F O (upd P p o) (upd H p o) := by
  have hF := g.freeF h
  have hO := g.freeO h
  have g' := g.skip (o := o) h
  refine ⟨g'.fz, fun a c e => ?_, fun a u e => ?_, M.mono g.rl (Same.refl _) (same_upd (g.freeP h))⟩
  · have ne : a ≠ p := fun q => by rw [q, hO] at e; cases e
    obtain ⟨h1, h2, h3⟩ := g'.ow a c e
    exact ⟨h1, (upd_ne ne).trans h2, h3⟩
  · by_cases q : a = p
    · subst q; rw [upd_same] at e; cases e; exact ⟨hF, upd_same⟩
    · rw [upd_ne q] at e; exact g'.as a u e
theorem Gd.asideSet (g : Gd M K F O (upd P p o) H) (mk : M.rel F (upd P p o')) : Gd M K F O (upd P p o') (upd H p o') := by
  obtain ⟨hF, hH⟩ := g.as p o upd_same
  refine ⟨fun b x e => ?_, fun a c e => ?_, fun a u e => ?_, mk⟩
  · have ne : b ≠ p := fun q => by rw [q, hF] at e; cases e
    rw [upd_ne ne]; exact g.fz b x e
  · obtain ⟨h1, h2, h3⟩ := g.ow a c e
    have ne : a ≠ p := fun q => by rw [q, upd_same] at h2; cases h2
    rw [upd_ne ne] at h2
    exact ⟨h1, (upd_ne ne).trans h2, h3.mono (Same.refl _) (upd_ne ne)⟩
  · by_cases q : a = p
    · subst q; rw [upd_same] at e; cases e; exact ⟨hF, upd_same⟩
    · rw [upd_ne q] at e
      obtain ⟨h1, h2⟩ := g.as a u ((upd_ne q).trans e)
      exact ⟨h1, (upd_ne q).trans h2⟩
theorem Gd.asideFz (g : Gd M K F O (upd P p o) H) (hP : P p = none) (mk : M.rel F P) : Same F (upd F p o) ∧ Gd M K (upd F p o) O P H := by
  obtain ⟨hF, hH⟩ := g.as p o upd_same
  have s : Same F (upd F p o) := same_upd hF
  refine ⟨s, fun b x e => ?_, fun a c e => ?_, fun a u e => ?_, M.mono mk s (Same.refl _)⟩
  · by_cases q : b = p
    · subst q; rw [upd_same] at e; cases e; exact hH
    · rw [upd_ne q] at e; exact g.fz b x e
  · obtain ⟨h1, h2, h3⟩ := g.ow a c e
    have ne : a ≠ p := fun q => by rw [q, upd_same] at h2; cases h2
    rw [upd_ne ne] at h2
    exact ⟨(upd_ne ne).trans h1, h2, h3.mono s rfl⟩
  · have ne : a ≠ p := fun q => by rw [q, hP] at e; cases e
    obtain ⟨h1, h2⟩ := g.as a u ((upd_ne ne).trans e)
    exact ⟨(upd_ne ne).trans h1, h2⟩
theorem Gd.asideOw (g : Gd M K F O (upd P p o) H) (hP : P p = none) (mk : M.rel F P) {c : Cell} (hc : CellOk K F H p c) : O p = none ∧ Gd M K F (updO O p c) P H := by
  obtain ⟨hF, hH⟩ := g.as p o upd_same
  have hO : O p = none := by
    cases e : O p with
    | none => rfl
    | some c =>
      have q := (g.ow p c e).2.1
      rw [upd_same] at q; cases q
  refine ⟨hO, g.fz, fun a d e => ?_, fun a u e => ?_, mk⟩
  · by_cases q : a = p
    · subst q; rw [updO_same] at e; cases e; exact ⟨hF, hP, hc⟩
    · rw [updO_ne q] at e
      obtain ⟨h1, h2, h3⟩ := g.ow a d e
      rw [upd_ne q] at h2
      exact ⟨h1, h2, h3⟩
  · have ne : a ≠ p := fun q => by rw [q, hP] at e; cases e
    exact g.as a u ((upd_ne ne).trans e)
end

/-! ### list comprehensions -/
def wipeD (ρ : DEnv) : List Nat → DEnv
  | [] => ρ
  | v :: vs => (wipeD ρ vs).set v none
theorem EnvOk.wipes {K : PySem.W.Frag} {F : Hp} {ρ : DEnv} {σ : L2.St} (h : EnvOk K F ρ σ) : ∀ vs : List Nat, EnvOk K F (wipeD ρ vs) (L2.wipe σ vs)
  | [] => h
  | v :: vs => by unfold wipeD L2.wipe; exact (EnvOk.wipes h vs).wipe v
theorem wipe_in {σ : L2.St} {i : Nat} : ∀ {vs : List Nat}, i ∈ vs → (wipe σ vs)[i]? = if i < σ.length then some none else none
  | [], h => by cases h
  | v :: vs, h => by
    unfold L2.wipe
    by_cases e : v = i
    · subst e
      by_cases c : v < σ.length
      · rw [if_pos c, List.getElem?_set_self (by rw [wipe_length]; exact c)]
      · rw [if_neg c, List.getElem?_eq_none (by rw [List.length_set, wipe_length]; omega)]
    · rw [List.getElem?_set_ne e]
      exact wipe_in ((List.mem_cons.mp h).resolve_left fun q => e q.symm)
theorem wipe_off {σ τ : L2.St} {vs ws : List Nat} (h : Off ws (wipe σ vs) τ) (hs : ∀ i ∈ ws, i ∈ vs) : wipe τ vs = wipe σ vs := by
  refine List.ext_getElem? fun i => ?_
  have hl : τ.length = σ.length := by rw [← h.1, wipe_length]
  by_cases c : i ∈ vs
  · rw [wipe_in c, wipe_in c, hl]
  · rw [wipe_out c]
    exact h.2 i fun q => c (hs i q)
def lcD (p : Pat) (ft : FT) (fe : FE) (ρ : DEnv) : List D → List D → Ow → (List D → Ow → Prop) → Prop
  | [], acc, O, Q => Q acc O
  | d :: ds, acc, O, Q => patGet (patD p d ρ) fun ρ1 => ft ρ1 O fun b O1 => if b = true then fe ρ1 O1 fun e O2 => acc.length < sizeLine ∧ lcD p ft fe ρ ds (acc ++ [e]) O2 Q else lcD p ft fe ρ ds acc O1 Q
def fLc (fi : FI) (p : Pat) (ft : FT) (fe : FE) (vs : List Nat) : FE := fun ρ O Q => fi ρ O fun ds O1 => lcD p ft fe (wipeD ρ vs) ds [] O1 fun acc O2 => Q (.lst acc) O2
def fLcO (fi : FI) (p : Pat) (ft : FT) (fe : FE) (vs : List Nat) : FE := fun ρ O Q => fi ρ O fun ds O1 => lcD p ft fe (wipeD ρ vs) ds [] O1 fun acc O2 => ∀ q, O2 q = none → Q (.ref q) (updO O2 q (.lst acc))
def fYes : FT := fun _ O Q => Q true O
section
variable {X : Cx} {elt tg iter : Expr} {ifs : List Expr} {scope : Scope} {own : List (Str × Nat)} {pos : Pos} {fi : FI} {p : Pat} {ft : FT} {fe : FE}
theorem dts_nil : PTs X [] (liftT M X.K fYes) := ⟨fun pins s σ H Q I h => by
  obtain ⟨F, O, P, ρ, R, g, en, q, po⟩ := h
  exact pts_nil.run pins s σ H Q I (po true O F H q (Same.refl _) g)⟩
theorem dts_one {c : Expr} (h : DT M X c ft) : PTs X [c] (liftT M X.K ft) := pts_one h
theorem fLc_core {vs : List Nat} {K : PySem.W.Frag} (hv : ∀ i ∈ patI p, i ∈ vs) {σ : L2.St} {H : Hp} {Q : VK} {F P : Hp} {O : Ow} {ρ : DEnv} {R : List D → Ow → Prop} (g : Gd M K F O P H) (en : EnvOk K F ρ σ)
    (q : fi ρ O fun ds O1 => lcD p ft fe (wipeD ρ vs) ds [] O1 R)
    (po : ∀ acc O' F' H' q vacc, R acc O' → Same F F' → P q = none → M.rel F' P → Gd M K F' O' (upd P q (.lst vacc)) H' → RepAll K F' acc vacc → Q (.ref q) H') :
    tLc (liftI M K fi) (patT K p) (liftT M K ft) (liftE M K fe) vs σ H Q := by
  refine ⟨F, O, P, ρ, _, g, en, q, fun ds O1 F1 H1 J q1 s1 g1 it D hD => ?_⟩
  have hP := g1.freeP hD
  refine ⟨fun i m H => ∃ F2 O2 acc vacc, i + m = ds.length ∧ Same F1 F2 ∧ Gd M K F2 O2 (upd P D (.lst vacc)) H ∧ RepAll K F2 acc vacc ∧ lcD p ft fe (wipeD ρ vs) (ds.drop i) acc O2 R,
    ⟨ds.length, F1, O1, [], [], by omega, Same.refl _, g1.aside hD, .nil, by rw [List.drop_zero]; exact q1⟩, fun i m H2 hW => ?_⟩
  obtain ⟨F2, O2, acc, vacc, hm, s2, g2, ra, q2⟩ := hW
  obtain ⟨it1, it2⟩ := it F2 O2 (upd P D (.lst vacc)) H2 s2 g2 i
  by_cases hi : i < ds.length
  · obtain ⟨hgo, hy⟩ := it1 ds[i] (List.getElem?_eq_getElem hi)
    rw [List.drop_eq_getElem_cons hi] at q2
    unfold lcD at q2
    refine .inr ⟨hgo, fun H' => ∃ F3 O3 acc vacc, Same F1 F3 ∧ Gd M K F3 O3 (upd P D (.lst vacc)) H' ∧ RepAll K F3 acc vacc ∧ lcD p ft fe (wipeD ρ vs) (ds.drop (i + 1)) acc O3 R, fun H' hN => ?_, fun x H' hyy => ?_⟩
    · obtain ⟨F3, O3, acc3, vacc3, s3, g3, r3, q3⟩ := hN
      exact ⟨m - 1, by omega, F3, O3, acc3, vacc3, by omega, s3, g3, r3, q3⟩
    · obtain ⟨F3, s3, g3, r3⟩ := hy x H' hyy
      cases e1 : patD p ds[i] (wipeD ρ vs) with
      | none => rw [e1] at q2; exact q2.elim
      | some ρ3 =>
        rw [e1] at q2
        refine pat_ok g3 p ds[i] x (wipeD ρ vs) ρ3 (wipe σ vs) _ e1 r3 ((en.mono (s1.trans (s2.trans s3))).wipes vs) fun σ4 en4 off => ?_
        refine ⟨wipe_off off hv, F3, O2, upd P D (.lst vacc), ρ3, _, g3, en4, q2, fun b O5 F5 H5 q5 s5 g5 => ?_⟩
        cases b with
        | true =>
          rw [if_pos rfl] at q5 ⊢
          refine ⟨F5, O5, upd P D (.lst vacc), ρ3, _, g5, en4.mono s5, q5, fun y O6 F6 H6 w q6 s6 g6 r6 => ?_⟩
          refine ⟨vacc, (g6.as D _ upd_same).2, by rw [← ra.length]; exact q6.1, F6, O6, acc ++ [y], vacc ++ [w], s2.trans (s3.trans (s5.trans s6)), g6.asideSet (M.mono g1.rl (s2.trans (s3.trans (s5.trans s6))) (same_upd hP)), (ra.mono (s3.trans (s5.trans s6))).append (.one r6), q6.2⟩
        | false =>
          rw [if_neg Bool.false_ne_true] at q5 ⊢
          exact ⟨F5, O5, acc, vacc, s2.trans (s3.trans s5), g5, ra.mono (s3.trans s5), q5⟩
  · rw [List.drop_eq_nil_of_le (by omega)] at q2
    exact .inl ⟨it2 (by omega), po acc O2 F2 H2 D vacc q2 (s1.trans s2) hP (M.mono g1.rl s2 (Same.refl _)) g2 ra⟩
theorem fLc_lift {vs : List Nat} {K : PySem.W.Frag} (hv : ∀ i ∈ patI p, i ∈ vs) : ∀ σ H Q, liftE M K (fLc fi p ft fe vs) σ H Q → tLc (liftI M K fi) (patT K p) (liftT M K ft) (liftE M K fe) vs σ H Q := fun σ H Q h => by
  obtain ⟨F, O, P, ρ, R, g, en, q, po⟩ := h
  refine fLc_core hv g en q fun acc O' F' H' a vacc q1 s1 hP mk g1 r1 => ?_
  obtain ⟨s2, g2⟩ := g1.asideFz hP mk
  refine po (.lst acc) O' _ H' _ q1 (s1.trans s2) g2 ?_
  simp only [Rep]
  exact ⟨a, vacc, rfl, upd_same, r1.mono s2⟩
theorem fLcO_lift {vs : List Nat} {K : PySem.W.Frag} (hv : ∀ i ∈ patI p, i ∈ vs) : ∀ σ H Q, liftE M K (fLcO fi p ft fe vs) σ H Q → tLc (liftI M K fi) (patT K p) (liftT M K ft) (liftE M K fe) vs σ H Q := fun σ H Q h => by
  obtain ⟨F, O, P, ρ, R, g, en, q, po⟩ := h
  refine fLc_core hv g en q fun acc O' F' H' a vacc q1 s1 hP mk g1 r1 => ?_
  obtain ⟨hO, g2⟩ := g1.asideOw hP mk (c := .lst acc) ⟨vacc, (g1.as a _ upd_same).2, r1⟩
  exact po (.ref a) _ F' H' _ (q1 a hO) s1 g2 (by simp only [Rep])
theorem pat_in {vs : List Nat} (h : ((patI p).all fun i => vs.contains i) = true) : ∀ i ∈ patI p, i ∈ vs := fun i hi => by
  have := List.all_eq_true.mp h i hi
  simpa using this
theorem de_lc {vs : List Nat} (hc : X.calm = true) (hN : X.N.Nodup) (hi : DI M X tg iter fi) (ok : BlkOk X.N X.env.scope scope own)
    (hg : ∀ (s : Shared) (H : Hp) (C : Addr) (cl : List (Str × Addr)) (fp : List Addr), DP (X.blk s H scope (compEnvC scope cl C X.env) fp) tg p) (ht : ∀ (s : Shared) (H : Hp) (C : Addr) (cl : List (Str × Addr)) (fp : List Addr), PTs (X.blk s H scope (compEnvC scope cl C X.env) fp) ifs (liftT M X.K ft))
    (he : ∀ (s : Shared) (H : Hp) (C : Addr) (cl : List (Str × Addr)) (fp : List Addr), DE M (X.blk s H scope (compEnvC scope cl C X.env) fp) elt fe) (hvs : own.map (·.2) = vs := by rfl) (hv : ((patI p).all fun i => vs.contains i) = true := by decide) (hs : ∀ x, foldedSetIterable iter X.env x = pure x := by intro _; rfl) :
    DE M X (.ListComp elt [⟨tg, iter, ifs, 0⟩] scope pos) (fLc fi p ft fe vs) := by
  subst hvs
  exact peMono (pe_lc (te := liftE M X.K fe) (g := patT X.K p) hc hN hi ok hg ht he hs) (fLc_lift (pat_in hv))
theorem de_lcO {vs : List Nat} (hc : X.calm = true) (hN : X.N.Nodup) (hi : DI M X tg iter fi) (ok : BlkOk X.N X.env.scope scope own)
    (hg : ∀ (s : Shared) (H : Hp) (C : Addr) (cl : List (Str × Addr)) (fp : List Addr), DP (X.blk s H scope (compEnvC scope cl C X.env) fp) tg p) (ht : ∀ (s : Shared) (H : Hp) (C : Addr) (cl : List (Str × Addr)) (fp : List Addr), PTs (X.blk s H scope (compEnvC scope cl C X.env) fp) ifs (liftT M X.K ft))
    (he : ∀ (s : Shared) (H : Hp) (C : Addr) (cl : List (Str × Addr)) (fp : List Addr), DE M (X.blk s H scope (compEnvC scope cl C X.env) fp) elt fe) (hvs : own.map (·.2) = vs := by rfl) (hv : ((patI p).all fun i => vs.contains i) = true := by decide) (hs : ∀ x, foldedSetIterable iter X.env x = pure x := by intro _; rfl) :
    DE M X (.ListComp elt [⟨tg, iter, ifs, 0⟩] scope pos) (fLcO fi p ft fe vs) := by
  subst hvs
  exact peMono (pe_lc (te := liftE M X.K fe) (g := patT X.K p) hc hN hi ok hg ht he hs) (fLcO_lift (pat_in hv))
/-- name = [..] on one line, the name a local -/
theorem ds_setLc {i : Nat} {vs : List Nat} {y : Str} {py spos : Pos} (hc : X.calm = true) (hN : X.N.Nodup) (hy : X.N[i]? = some y) (hyl : X.env.scope.names.lookup y = some .local)
    (hsw : swapsWith (.ListComp elt [⟨tg, iter, ifs, 0⟩] scope pos) (some (.Name y py)) spos.line X.env = pure true) (hi : DI M X tg iter fi) (ok : BlkOk X.N X.env.scope scope own)
    (hg : ∀ (s : Shared) (H : Hp) (C : Addr) (cl : List (Str × Addr)) (fp : List Addr), DP (X.blk s H scope (compEnvC scope cl C X.env) fp) tg p) (ht : ∀ (s : Shared) (H : Hp) (C : Addr) (cl : List (Str × Addr)) (fp : List Addr), PTs (X.blk s H scope (compEnvC scope cl C X.env) fp) ifs (liftT M X.K ft))
    (he : ∀ (s : Shared) (H : Hp) (C : Addr) (cl : List (Str × Addr)) (fp : List Addr), DE M (X.blk s H scope (compEnvC scope cl C X.env) fp) elt fe) (hvs : own.map (·.2) = vs := by rfl) (hv : ((patI p).all fun i => vs.contains i) = true := by decide) (hs : ∀ x, foldedSetIterable iter X.env x = pure x := by intro _; rfl) :
    DS M X (.Assign [.Name y py] (.ListComp elt [⟨tg, iter, ifs, 0⟩] scope pos) spos) (gSet (fLc fi p ft fe vs) i) := by
  subst hvs
  exact psMono (ps_setLc (te := liftE M X.K fe) (g := patT X.K p) hc hN hy hyl hsw hi ok hg ht he hs) (gSet_lift (fLc_lift (pat_in hv)))
theorem ds_setLcO {i : Nat} {vs : List Nat} {y : Str} {py spos : Pos} (hc : X.calm = true) (hN : X.N.Nodup) (hy : X.N[i]? = some y) (hyl : X.env.scope.names.lookup y = some .local)
    (hsw : swapsWith (.ListComp elt [⟨tg, iter, ifs, 0⟩] scope pos) (some (.Name y py)) spos.line X.env = pure true) (hi : DI M X tg iter fi) (ok : BlkOk X.N X.env.scope scope own)
    (hg : ∀ (s : Shared) (H : Hp) (C : Addr) (cl : List (Str × Addr)) (fp : List Addr), DP (X.blk s H scope (compEnvC scope cl C X.env) fp) tg p) (ht : ∀ (s : Shared) (H : Hp) (C : Addr) (cl : List (Str × Addr)) (fp : List Addr), PTs (X.blk s H scope (compEnvC scope cl C X.env) fp) ifs (liftT M X.K ft))
    (he : ∀ (s : Shared) (H : Hp) (C : Addr) (cl : List (Str × Addr)) (fp : List Addr), DE M (X.blk s H scope (compEnvC scope cl C X.env) fp) elt fe) (hvs : own.map (·.2) = vs := by rfl) (hv : ((patI p).all fun i => vs.contains i) = true := by decide) (hs : ∀ x, foldedSetIterable iter X.env x = pure x := by intro _; rfl) :
    DS M X (.Assign [.Name y py] (.ListComp elt [⟨tg, iter, ifs, 0⟩] scope pos) spos) (gSet (fLcO fi p ft fe vs) i) := by
  subst hvs
  exact psMono (ps_setLc (te := liftE M X.K fe) (g := patT X.K p) hc hN hy hyl hsw hi ok hg ht he hs) (gSet_lift (fLcO_lift (pat_in hv)))
end

/-! ### what a def promises, over data -/
theorem Gd.re {M' : MX} {K : PySem.W.Frag} {F P H : Hp} {O : Ow} (g : Gd M K F O P H) (mk : M'.rel F P) : Gd M' K F O P H := ⟨g.fz, g.ow, g.as, mk⟩
theorem Gd.mt {K : PySem.W.Frag} {F P H : Hp} {O : Ow} (g : Gd M K F O P H) : Gd MT K F O P H := g.re trivial
theorem Gd.less {K : PySem.W.Frag} {F P P0 H : Hp} {O : Ow} (g : Gd MT K F O P H) (s : Same P0 P) : Gd MT K F O P0 H := by
  refine ⟨g.fz, fun a c e => ?_, fun a o e => g.as a o (s a o e), trivial⟩
  obtain ⟨h1, h2, h3⟩ := g.ow a c e
  exact ⟨h1, s.free h2, h3⟩
theorem PostE.mt {K : PySem.W.Frag} {F F1 P H : Hp} {O : Ow} {R : VD} {Q : VK} (po : PostE M K F P R Q) (g : Gd M K F1 O P H) (s1 : Same F F1) : PostE MT K F1 P R Q := fun d O' F' H' v q s g' r => po d O' F' H' v q (s1.trans s) (g'.re (M.mono g.rl s (Same.refl _))) r
abbrev XD := Value → Option (List (Str × D)) → Ow → Prop
abbrev DSp := List D → Ow → VD → XD → Prop
def FsOk (K : PySem.W.Frag) (F : Hp) : List (Str × D) → List (Str × V) → Prop := Paired fun p q => p.1 = q.1 ∧ Rep K F p.2 q.2
def XdOk (K : PySem.W.Frag) (F H : Hp) : Option (List (Str × D)) → Option Addr → Prop
  | none, dd => dd = none
  | some fs, dd => ∃ dx fv, dd = some dx ∧ H dx = some (.xd fv) ∧ FsOk K F fs fv
def PostX (K : PySem.W.Frag) (F P : Hp) (RE : XD) (E : XK) : Prop := ∀ cls fs O' F' H' dd, RE cls fs O' → Same F F' → Gd MT K F' O' P H' → XdOk K F' H' fs dd → E cls dd H'
theorem PostX.more {K : PySem.W.Frag} {F F' P : Hp} {RE : XD} {E : XK} (po : PostX K F P RE E) (s : Same F F') : PostX K F' P RE E := fun cls fs O' F2 H' dd q s2 g x => po cls fs O' F2 H' dd q (s.trans s2) g x
def liftSp (K : PySem.W.Frag) (dsp : DSp) : Sp := fun vs H Q E => ∃ F O P ds R RE, Gd MT K F O P H ∧ RepAll K F ds vs ∧ dsp ds O R RE ∧ PostE MT K F P R Q ∧ PostX K F P RE E
abbrev X0 : XD := fun _ _ _ => False
section
variable {X : Cx} {e : Expr} {es : List Expr} {fr : FA} {CX : CXT} {k : Nat} {f : Addr} {fd : FuncData} {ps : List Str} {dsp : DSp} {x : Str} {p pos : Pos}
def fCall (dsp : DSp) (fr : FA) : FE := fun ρ O Q => fr ρ O fun ds O1 => dsp ds O1 Q X0
theorem de_call (G : FnOk X.prog X.w X.K X.mg X.base CX0 k f fd ps (liftSp X.K dsp)) (hr : Room k X.A) (hg : Gl X x) (hm : X.mg x = some (.ref f)) (hk : PySem.W.keepIn X.K (.ref f) = true) (hb : Binds X.K fd ps [])
    (ha : DA M X (e :: es) fr) (hdb : (x == ("__debug__" : Str)) = false := by decide) (he : starEach (e :: es) X.env = (false, eval e X.env) :: starEach es X.env := by rfl) (hpl : (backTo pos (starEach es X.env)).any (·.1) = false := by rfl) :
    DE M X (.Call (.Name x p) (e :: es) [] pos) (fCall dsp fr) := peMono (pe_call G hr hg hm hk hb .nil pass0 ha hdb he hpl) fun σ H Q h => by
  obtain ⟨F, O, P, ρ, R, g, en, q, po⟩ := h
  refine ⟨F, O, P, ρ, _, g, en, q, fun ds O1 F1 H1 vs q1 s1 g1 r1 => ?_⟩
  show liftSp X.K dsp (vs ++ []) H1 Q E0
  rw [List.append_nil]
  exact ⟨F1, O1, P, ds, R, X0, g1.mt, r1, q1, po.mt g1 s1, fun _ _ _ _ _ _ z => z.elim⟩
end
section
variable {P : Program} {w : World} {K : PySem.W.Frag} {mg : Str → Option Value} {base : Heap}
/-- the names' values at the entry -/
def startD (N : List Str) (ds : List D) : DEnv := ds.map some ++ List.replicate (N.length - ds.length) none
theorem fn_d {x qual : Str} {st : Stmt} {f : Addr} {fd : FuncData} {N ps : List Str} {k : Nat} {dsp : DSp} {g : GS} (F : Fun K x qual st f fd) (S : FnScope N ps (defScope st)) (len : ∀ ds O R RE, dsp ds O R RE → ds.length = ps.length)
    (hder : ∀ (cdv : Value) (A : Around) (outer : List Env) (s : Shared) (H : Hp) (E : XK), Room k (A.deeper (envOfC qual (defScope st) s.heap.objs.size f cdv)) →
      DSs MT (cxOf CX0 P w K mg base N qual (defScope st) f cdv A outer s H E).nox (defBody st) g)
    (hread : ∀ ds O R RE, dsp ds O R RE → g { nx := fun _ O' => R .non O', rt := R } (startD N ds) O) : FnOk P w K mg base CX0 (k + 1) f fd ps (liftSp K dsp) := by
  refine F.ok S (fun vs H Q E h => ?_) fun cdv A outer s H vs Q E hr h => ?_
  · obtain ⟨F, O, P, ds, R, RE, g, r, q, _⟩ := h
    rw [← r.length]; exact len ds O R RE q
  · obtain ⟨F, O, P, ds, R, RE, gd, r, q, po, _⟩ := h
    refine ⟨_, hder cdv A outer s H E hr, F, O, P, startD N ds, { nx := fun _ O' => R .non O', rt := R }, gd, ?_, hread ds O R RE q, ⟨fun ρ O' F' H' σ q1 s1 g1 _ => ?_, po, fun _ _ _ _ _ z => z.elim, fun _ _ _ _ _ z => z.elim⟩⟩
    · unfold startD L2.start
      rw [r.length]
      exact envOk_start _ r
    · exact po .non O' F' H' .non q1 s1 g1 (by simp only [Rep])
end
/-- no calls are left -/
theorem none_left {P : Program} {w : World} {K : PySem.W.Frag} {mg : Str → Option Value} {base : Heap} {CX : CXT} {f : Addr} {fd : FuncData} {ps : List Str} {dsp : DSp} {k : Nat} (no : ∀ ds O R RE, ¬ dsp ds O R RE) : FnOk P w K mg base CX k f fd ps (liftSp K dsp) := by
  have no' : ∀ vs H Q E, ¬ liftSp K dsp vs H Q E := fun vs H Q E h => by
    obtain ⟨F, O, P, ds, R, RE, g, r, q, _⟩ := h
    exact no ds O R RE q
  exact ⟨fun vs H Q E h => absurd h (no' vs H Q E), fun A outer s H args us vs Q E _ _ _ _ h => absurd h (no' vs H Q E)⟩
/-- the law's own promise -/
def lawSp (n : Nat) : DSp := fun ds _ R _ => ∃ ns : List Int, ds = [.scr ns] ∧ ns.length ≤ n ∧ ∀ O, R (.bl true) O
theorem law_start {K : PySem.W.Frag} {H : Hp} {a : Addr} {ns : List Int} {n : Nat} (hl : ns.length ≤ n) (h : SqL K H a (ns.map V.int)) : liftSp K (lawSp n) [.ref a] H (fun v _ => v = .bl true) fun _ _ _ => False := by
  refine ⟨fun b => if b = a then H b else none, fun _ => none, fun _ => none, [.scr ns], fun d _ => d = .bl true, X0, ⟨fun b o e => ?_, (fun _ _ e => nomatch e), (fun _ _ e => nomatch e), trivial⟩, ?_, ⟨ns, rfl, hl, fun _ => rfl⟩, fun d O' F' H' v q _ _ r => ?_, fun _ _ _ _ _ _ z => z.elim⟩
  · split at e
    · exact e
    · cases e
  · refine .one ?_
    simp only [Rep]
    refine ⟨a, rfl, ?_⟩
    rcases h with (h | ⟨o, h⟩) | h
    · exact .inl (.inl ((if_pos rfl).trans h))
    · exact .inl (.inr ⟨o, (if_pos rfl).trans h⟩)
    · exact .inr h
  · subst q
    simpa only [Rep] using r
end Kf
namespace Kf
open PySem PySem.Spec L2
open PyProof.Rows hiding St
variable {M : MX}

abbrev rSubD : R2D := rInts0 fun i j => .int (i - j)
abbrev rMulD : R2D := rInts CMul fun i j => .int (i * j)
abbrev rDivD : R2D := rInts CDv fun i j => .int (i / j)
abbrev rModD : R2D := rInts (fun _ j => 0 < j) fun i j => .int (i % j)
abbrev rPowD : R2D := rInts CPow fun i j => .int (i ^ j.toNat)
abbrev rGtD : R2D := rInts0 fun i j => .bl (decide (j < i))
abbrev rGeD : R2D := rInts0 fun i j => .bl (decide (j ≤ i))
abbrev rIAdd : R2D := rInts0 fun i j => .int (i + j)
theorem oi_add {X : Cx} : OpD M X (inplaceOp .Add) rIAdd := od_ints0 iop_add fun _ _ _ => by simp only [Rep]
theorem oi_sub {X : Cx} : OpD M X (inplaceOp .Sub) rSubD := od_ints0 iop_sub fun _ _ _ => by simp only [Rep]

theorem _root_.L2.Room.u200 {k : Nat} {A : Around} (r : Room k A) : A.units + 200 < cLine := by have := r.un; omega

/-- a def of the text: its place, its name, how it is called -/
structure Fn (K : PySem.W.Frag) (mg : Str → Option Value) (x : Str) (st : Stmt) (ps : List Str) (f : Addr) (fd : FuncData) : Prop where
  F : Fun K x x st f fd
  m : mg x = some (.ref f)
  b : Binds K fd ps []
section
variable {X : Cx} {e : Expr} {es : List Expr} {fr : FA} {k : Nat} {f : Addr} {fd : FuncData} {ps : List Str} {dsp : DSp} {x : Str} {st : Stmt} {p pos : Pos}
theorem de_callN (N : Fn X.K X.mg x st ps f fd) (G : FnOk X.prog X.w X.K X.mg X.base CX0 k f fd ps (liftSp X.K dsp)) (hr : Room k X.A) (hg : Gl X x)
    (ha : DA M X (e :: es) fr) (hdb : (x == ("__debug__" : Str)) = false := by decide) (he : starEach (e :: es) X.env = (false, eval e X.env) :: starEach es X.env := by rfl) (hpl : (backTo pos (starEach es X.env)).any (·.1) = false := by rfl) :
    DE M X (.Call (.Name x p) (e :: es) [] pos) (fCall dsp fr) := de_call G hr hg N.m N.F.kp N.b ha hdb he hpl
/-- a constant of the module -/
def Cst (K : PySem.W.Frag) (mg : Str → Option Value) (x : Str) (d : D) : Prop := ∃ u v, mg x = some u ∧ RelV v u ∧ ∀ F, Rep K F d v
theorem de_cst {d : D} (c : Cst X.K X.mg x d) (hg : Gl X x) (hd : (x == ("__debug__" : Str)) = false := by decide) : DE M X (.Name x pos) (fC d) := by
  obtain ⟨u, v, h1, h2, h3⟩ := c
  exact de_glob hg h1 h2 h3 hd
/-- a built-in class as a value -/
theorem de_ty {n : String} (hv : bootBuiltins x = some (.type n)) (hm : X.mg x = none) (hg : Gl X x) (hn : x ≠ "__name__" := by decide) (hd : (x == ("__debug__" : Str)) = false := by decide) : DE M X (.Name x pos) (fC (.ty n)) :=
  de_bltn (v := .ty n) hg hm hv rfl (fun _ => by simp only [Rep]) hn hd
end
theorem bb_len : bootBuiltins "len" = some (.builtin "len") := by decide +kernel
theorem bb_isinstance : bootBuiltins "isinstance" = some (.builtin "isinstance") := by decide +kernel
theorem bb_max : bootBuiltins "max" = some (.builtin "max") := by decide +kernel
theorem bb_min : bootBuiltins "min" = some (.builtin "min") := by decide +kernel
theorem bb_divmod : bootBuiltins "divmod" = some (.builtin "divmod") := by decide +kernel
theorem bb_sum : bootBuiltins "sum" = some (.builtin "sum") := by decide +kernel
theorem bb_sorted : bootBuiltins "sorted" = some (.builtin "sorted") := by decide +kernel
theorem bb_int : bootBuiltins "int" = some (.type "int") := by decide +kernel
theorem bb_str : bootBuiltins "str" = some (.type "str") := by decide +kernel
theorem bb_bool : bootBuiltins "bool" = some (.type "bool") := by decide +kernel
theorem bb_tuple : bootBuiltins "tuple" = some (.type "tuple") := by decide +kernel
theorem bb_list : bootBuiltins "list" = some (.type "list") := by decide +kernel
theorem bb_dict : bootBuiltins "dict" = some (.type "dict") := by decide +kernel

/-! ### ends that are known -/
theorem cst_int {K : PySem.W.Frag} {mg : Str → Option Value} {x : Str} {i : Int} {t : Tok} (h : mg x = some (.int i t)) : Cst K mg x (.int i) := ⟨_, .int i, h, ⟨t, rfl⟩, fun _ => by simp only [Rep]⟩
theorem cst_str {K : PySem.W.Frag} {mg : Str → Option Value} {x y : Str} {t : Tok} (h : mg x = some (.str y t)) : Cst K mg x (.str y) := ⟨_, .str y, h, ⟨t, rfl⟩, fun _ => by simp only [Rep]⟩
/-- a tuple of texts that stands in the written part -/
theorem cst_strs {K : PySem.W.Frag} {mg : Str → Option Value} {x : Str} {a : Addr} {o : Obj} {its : Array Value} {n : Nat} {ys : List Str} (h : mg x = some (.ref a)) (h1 : K.lookup a = some o) (h2 : o.cls = .type "tuple") (h3 : o.data = .seq its n)
    (h4 : Vals (ys.map V.str) its.toList) (h5 : ys.length ≤ sizeLine) : Cst K mg x (.tup (ys.map .str)) := by
  refine ⟨_, .ref a, h, rfl, fun F => ?_⟩
  simp only [Rep]
  refine ⟨a, ys.map V.str, rfl, .inr ⟨o, its, n, h1, h2, h3, ?_, h4⟩, .of_strs⟩
  have h6 : ys.length = its.size := by
    have := h4.length
    rw [List.length_map] at this
    rw [this]; simp
  omega
end Kf
namespace Kf
open PySem PySem.Spec L2
open PyProof.Rows hiding St
variable {M : MX}

/-! ### the readings at known data -/
section
variable {O : Ow} {Q : VD} {i j : Int} {a b : Str} {xs ys : List D} {d e x y z u : D} {p : Addr} {neg : Bool} {ns : List Int}
theorem deref_ref (h : O p = some (.lst xs)) : deref O (.ref p) = .lst xs := by simp only [deref, h]
theorem deref_tup : deref O (.tup xs) = .tup xs := rfl
theorem deref_lst : deref O (.lst xs) = .lst xs := rfl
theorem deref_int : deref O (.int i) = .int i := rfl
theorem deref_str : deref O (.str a) = .str a := rfl
theorem deref_bl {k : Bool} : deref O (.bl k) = .bl k := rfl
theorem deref_non : deref O .non = .non := rfl
theorem deref_scr : deref O (.scr ns) = .scr ns := rfl
theorem rLt_i : rLtD (.int i) (.int j) O Q = Q (.bl (decide (i < j))) O := rfl
theorem rLt_s : rLtD (.str a) (.str b) O Q = Q (.bl (decide (a.cps.toList < b.cps.toList))) O := rfl
theorem rLe_i : rLeD (.int i) (.int j) O Q = Q (.bl (decide (i ≤ j))) O := rfl
theorem rLe_s : rLeD (.str a) (.str b) O Q = Q (.bl (!decide (b.cps.toList < a.cps.toList))) O := rfl
theorem rInts_i {C : Int → Int → Prop} {f : Int → Int → D} : rInts C f (.int i) (.int j) O Q = (C i j ∧ Q (f i j) O) := rfl
theorem rInts0_i {f : Int → Int → D} : rInts0 f (.int i) (.int j) O Q = Q (f i j) O := rfl
theorem rAdd_i : rAddD (.int i) (.int j) O Q = Q (.int (i + j)) O := rfl
theorem rAdd_ib {k : Bool} : rAddD (.int i) (.bl k) O Q = Q (.int (i + b2i k)) O := rfl
theorem rAdd_s : rAddD (.str a) (.str b) O Q = (a.length + b.length ≤ sizeLine ∧ Q (.str (a ++ b)) O) := rfl
theorem rAdd_l : rAddD (.lst xs) (.lst ys) O Q = (xs.length + ys.length ≤ sizeLine ∧ Q (.lst (xs ++ ys)) O) := rfl
theorem rAdd_t : rAddD (.tup xs) (.tup ys) O Q = (xs ≠ [] ∧ xs.length + ys.length ≤ sizeLine ∧ Q (.tup (xs ++ ys)) O) := rfl
theorem rCatO_l : rCatO (.lst xs) (.lst ys) O Q = (xs.length + ys.length ≤ sizeLine ∧ ∀ p, O p = none → Q (.ref p) (updO O p (.lst (xs ++ ys)))) := rfl
theorem rNeg_i : rNeg (.int i) O Q = Q (.int (-i)) O := rfl
theorem rLen_t : rLenD [.tup xs] O Q = Q (.int xs.length) O := rfl
theorem rLen_l : rLenD [.lst xs] O Q = Q (.int xs.length) O := rfl
theorem rLen_c : rLenD [.scr ns] O Q = Q (.int ns.length) O := rfl
theorem rLen_s : rLenD [.str a] O Q = (a.length ≤ sizeLine ∧ Q (.int a.length) O) := rfl
theorem rLen_r (h : O p = some (.lst xs)) : rLenD [.ref p] O Q = Q (.int xs.length) O := by simp only [rLenD, deref, h]
theorem rMax_i : rMax2 [.int i, .int j] O Q = Q (.int (if j > i then j else i)) O := rfl
theorem rMin_i : rMin2 [.int i, .int j] O Q = Q (.int (if j < i then j else i)) O := rfl
theorem rDivmod_i : rDivmod [.int i, .int j] O Q = (CDv i j ∧ Q (.tup [.int (i / j), .int (i % j)]) O) := rfl
theorem rInt_i : rInt1 [.int i] O Q = Q (.int i) O := rfl
theorem rInt_b {k : Bool} : rInt1 [.bl k] O Q = Q (.int (if k then 1 else 0)) O := rfl
theorem rStr_i : rStr1 [.int i] O Q = (i.natAbs.log2 < 1920 ∧ Q (.str (toString i)) O) := rfl
theorem rList_l : rList1 [.lst xs] O Q = Q (.lst xs) O := rfl
theorem rList_t : rList1 [.tup xs] O Q = Q (.lst xs) O := rfl
theorem rListO_l : rList1O [.lst xs] O Q = ∀ p, O p = none → Q (.ref p) (updO O p (.lst xs)) := rfl
theorem rListO_t : rList1O [.tup xs] O Q = ∀ p, O p = none → Q (.ref p) (updO O p (.lst xs)) := rfl
theorem rTup_l : rTup1 [.lst xs] O Q = Q (.tup xs) O := rfl
theorem rTup_t : rTup1 [.tup xs] O Q = Q (.tup xs) O := rfl
theorem rSum_l {ns : List Int} (h : asInts xs = some ns) : rSumD [.lst xs] O Q = Q (.int ns.sum) O := by simp only [rSumD, deref, h]
theorem ixC0 {α : Type} (x : α) (r : List α) : atI (x :: r) 0 = some x := by
  have := atI_nat (xs := x :: r) (j := 0) (v := x) rfl
  simpa using this
theorem ixC1 {α : Type} (x y : α) (r : List α) : atI (x :: y :: r) 1 = some y := by
  have := atI_nat (xs := x :: y :: r) (j := 1) (v := y) rfl
  simpa using this
theorem ixC2 {α : Type} (x y z : α) (r : List α) : atI (x :: y :: z :: r) 2 = some z := by
  have := atI_nat (xs := x :: y :: z :: r) (j := 2) (v := z) rfl
  simpa using this
theorem ixC3 {α : Type} (x y z u : α) (r : List α) : atI (x :: y :: z :: u :: r) 3 = some u := by
  have := atI_nat (xs := x :: y :: z :: u :: r) (j := 3) (v := u) rfl
  simpa using this
theorem rIx_t (h : atI xs i = some d) : rIxD (.tup xs) (.int i) O Q = Q d O := by simp only [rIxD, deref, h]
theorem rIx_l (h : atI xs i = some d) : rIxD (.lst xs) (.int i) O Q = Q d O := by simp only [rIxD, deref, h]
theorem rIx_c {n : Int} (h : atI ns i = some n) : rIxD (.scr ns) (.int i) O Q = Q (.int n) O := by simp only [rIxD, deref, h]
theorem rIx_s {c : Nat} (h : atI a.cps.toList i = some c) : rIxD (.str a) (.int i) O Q = (a.length ≤ sizeLine ∧ Q (.str ⟨#[c]⟩) O) := by simp only [rIxD, deref, h]
theorem rIx_r (h' : O p = some (.lst xs)) (h : atI xs i = some d) : rIxD (.ref p) (.int i) O Q = Q d O := by simp only [rIxD, deref, h', h]
theorem rIx_t0 : rIxD (.tup (x :: xs)) (.int 0) O Q = Q x O := rIx_t (ixC0 _ _)
theorem rIx_t1 : rIxD (.tup (x :: y :: xs)) (.int 1) O Q = Q y O := rIx_t (ixC1 _ _ _)
theorem rIx_t2 : rIxD (.tup (x :: y :: z :: xs)) (.int 2) O Q = Q z O := rIx_t (ixC2 _ _ _ _)
theorem rIx_t3 : rIxD (.tup (x :: y :: z :: u :: xs)) (.int 3) O Q = Q u O := rIx_t (ixC3 _ _ _ _ _)
theorem rIx_l0 : rIxD (.lst (x :: xs)) (.int 0) O Q = Q x O := rIx_l (ixC0 _ _)
theorem rIx_l1 : rIxD (.lst (x :: y :: xs)) (.int 1) O Q = Q y O := rIx_l (ixC1 _ _ _)
theorem rIx_l2 : rIxD (.lst (x :: y :: z :: xs)) (.int 2) O Q = Q z O := rIx_l (ixC2 _ _ _ _)
theorem rIx_p0 (h : O p = some .pool) : rIxD (.ref p) (.int 0) O Q = ∀ x : Int, 0 ≤ x → Q (.int x) O := by
  simp only [rIxD, deref, h]; simp
theorem rIx_p1 (h : O p = some .pool) : rIxD (.ref p) (.int 1) O Q = ∀ x : Int, 0 ≤ x → x < 2147483647 → Q (.int x) O := by
  simp only [rIxD, deref, h]; simp
theorem rIsN_non : rIsN neg .non .non O Q = Q (.bl (neg ^^ true)) O := rfl
theorem rIsN_t : rIsN neg (.tup xs) .non O Q = Q (.bl (neg ^^ false)) O := rfl
theorem rIsN_x : rIsN neg x .non O Q = Q (.bl (neg ^^ isNon x)) O := rfl
theorem isNon_t : isNon (.tup xs) = false := rfl
theorem isNon_n : isNon .non = true := rfl
theorem isNon_i : isNon (.int i) = false := rfl
theorem isNon_s : isNon (.str a) = false := rfl
theorem isNon_l : isNon (.lst xs) = false := rfl
/-! == -/
/-- == of data -/
def deq (x y : D) : Bool := PyData.eqv (toPy x) (toPy y)
def deqs (xs ys : List D) : Bool := PyData.eqvAll (toPys xs) (toPys ys)
theorem deq_t : deq (.tup xs) (.tup ys) = deqs xs ys := by simp only [deq, toPy, PyData.eqv, deqs]
theorem deq_l : deq (.lst xs) (.lst ys) = deqs xs ys := by simp only [deq, toPy, PyData.eqv, deqs]
theorem deq_tl : deq (.tup xs) (.lst ys) = false := by simp only [deq, toPy, PyData.eqv]
theorem deq_lt : deq (.lst xs) (.tup ys) = false := by simp only [deq, toPy, PyData.eqv]
theorem deq_ts : deq (.tup xs) (.str a) = false := by simp only [deq, toPy, PyData.eqv]
theorem deq_st : deq (.str a) (.tup xs) = false := by simp only [deq, toPy, PyData.eqv]
theorem deq_ls : deq (.lst xs) (.str a) = false := by simp only [deq, toPy, PyData.eqv]
theorem deq_sl : deq (.str a) (.lst xs) = false := by simp only [deq, toPy, PyData.eqv]
theorem deq_ti : deq (.tup xs) (.int i) = false := by simp only [deq, toPy, PyData.eqv]
theorem deq_it : deq (.int i) (.tup xs) = false := by simp only [deq, toPy, PyData.eqv]
theorem deq_li : deq (.lst xs) (.int i) = false := by simp only [deq, toPy, PyData.eqv]
theorem deq_il : deq (.int i) (.lst xs) = false := by simp only [deq, toPy, PyData.eqv]
theorem deq_is : deq (.int i) (.str a) = false := by simp only [deq, toPy, PyData.eqv]
theorem deq_si : deq (.str a) (.int i) = false := by simp only [deq, toPy, PyData.eqv]
theorem deq_nt : deq .non (.tup xs) = false := by simp only [deq, toPy, PyData.eqv]
theorem deq_tn : deq (.tup xs) .non = false := by simp only [deq, toPy, PyData.eqv]
theorem deq_nn : deq .non .non = true := by simp only [deq, toPy, PyData.eqv]
theorem deq_ns : deq .non (.str a) = false := by simp only [deq, toPy, PyData.eqv]
theorem deq_sn : deq (.str a) .non = false := by simp only [deq, toPy, PyData.eqv]
theorem str_beq (a b : Str) : (a == b) = decide (a = b) := by
  by_cases h : a = b
  · subst h; simp
  · rw [decide_eq_false h]; exact beq_eq_false_iff_ne.mpr h
theorem deq_s : deq (.str a) (.str b) = decide (a = b) := by simp only [deq, toPy, PyData.eqv, str_beq]
theorem deq_i : deq (.int i) (.int j) = decide (i = j) := by simp only [deq, toPy, PyData.eqv, Bool.beq_eq_decide_eq]
theorem deq_b {k l : Bool} : deq (.bl k) (.bl l) = decide (k = l) := by simp only [deq, toPy, PyData.eqv, Bool.beq_eq_decide_eq]
theorem deqs_nn : deqs [] [] = true := by simp only [deqs, toPys, PyData.eqvAll]
theorem deqs_nc : deqs [] (y :: ys) = false := by simp only [deqs, toPys, PyData.eqvAll]
theorem deqs_cn : deqs (x :: xs) [] = false := by simp only [deqs, toPys, PyData.eqvAll]
theorem deqs_cc : deqs (x :: xs) (y :: ys) = (deq x y && deqs xs ys) := by simp only [deqs, deq, toPys, PyData.eqvAll]
/-- == at data read through: what is asked, what is answered -/
theorem rEq_dd (hx : isPy (ddf O 192 x) = true) (hy : isPy (ddf O 192 y) = true) (hd : dp (ddf O 192 x) ≤ 190) : rEqD neg x y O Q = Q (.bl (neg ^^ deq (ddf O 192 x) (ddf O 192 y))) O := by
  have hm : min (dp (ddf O 192 x)) (dp (ddf O 192 y)) ≤ 190 := Nat.le_trans (Nat.min_le_left _ _) hd
  simp only [rEqD, hx, hy, hm, deq, true_and]
/-- .. where the right one is flat -/
theorem rEq_dr (hx : isPy (deref O x) = true) (hy : isPy (deref O y) = true) (hd : dp (deref O y) ≤ 190) : rEqD neg x y O Q = Q (.bl (neg ^^ deq (deref O x) (deref O y))) O := by
  have ex : ddf O 192 x = deref O x := ddf_deref hx
  have ey : ddf O 192 y = deref O y := ddf_deref hy
  have hm : min (dp (deref O x)) (dp (deref O y)) ≤ 190 := Nat.le_trans (Nat.min_le_right _ _) hd
  simp only [rEqD, ex, ey, hx, hy, hm, deq, true_and]
/-- == at data: what is asked, what is answered -/
theorem rEq_d (hx : isPy (deref O x) = true) (hy : isPy (deref O y) = true) (hd : dp (deref O x) ≤ 190) : rEqD neg x y O Q = Q (.bl (neg ^^ deq (deref O x) (deref O y))) O := by
  have ex : ddf O 192 x = deref O x := ddf_deref hx
  have ey : ddf O 192 y = deref O y := ddf_deref hy
  rw [rEq_dd (by rw [ex]; exact hx) (by rw [ey]; exact hy) (by rw [ex]; exact hd), ex, ey]
theorem rEq_i : rEqD neg (.int i) (.int j) O Q = Q (.bl (neg ^^ decide (i = j))) O := by
  rw [rEq_d (by simp only [deref, isPy]) (by simp only [deref, isPy]) (by simp [deref, dp, toPy, PyData.depth]), deref_int, deref_int, deq_i]
theorem rEq_b {k l : Bool} : rEqD neg (.bl k) (.bl l) O Q = Q (.bl (neg ^^ decide (k = l))) O := by
  rw [rEq_d (by simp only [deref, isPy]) (by simp only [deref, isPy]) (by simp [deref, dp, toPy, PyData.depth]), deref_bl, deref_bl, deq_b]
theorem rEq_s (h1 : PyData.strOk a = true) (h2 : PyData.strOk b = true) : rEqD neg (.str a) (.str b) O Q = Q (.bl (neg ^^ decide (a = b))) O := by
  rw [rEq_d (by simpa only [deref, isPy] using h1) (by simpa only [deref, isPy] using h2) (by simp [deref, dp, toPy, PyData.depth]), deref_str, deref_str, deq_s]
theorem rIsi_ty {n : String} (h1 : insCl.contains n = true) (h2 : insTy.contains (tyNm O x) = true) : rIsiD [x, .ty n] O Q = Q (.bl (insOf (tyNm O x) n)) O := by
  simp only [rIsiD, h1, h2, true_and]
theorem rApp_r (h : O p = some (.lst xs)) : rAppendD (.ref p) [y] O Q = (xs.length < sizeLine ∧ Q .non (updO O p (.lst (xs ++ [y])))) := by simp only [rAppendD, h]
theorem rExt_r (h : O p = some (.lst xs)) (h' : deref O y = .lst ys) : rExtendD (.ref p) [y] O Q = (xs.length + ys.length ≤ sizeLine ∧ Q .non (updO O p (.lst (xs ++ ys)))) := by simp only [rExtendD, h, h']
theorem rPop_r (h : O p = some (.lst xs)) (h' : xs[xs.length - 1]? = some d) : rPopD (.ref p) [] O Q = Q d (updO O p (.lst xs.dropLast)) := by simp only [rPopD, h, h']
theorem rPop_app (h : O p = some (.lst (xs ++ [d]))) : rPopD (.ref p) [] O Q = Q d (updO O p (.lst xs)) := by
  rw [rPop_r h (d := d) (by simp), List.dropLast_concat]
theorem tyOk_r (h : O p = some (.lst xs)) : tyOk "list" O (.ref p) = true := by simp [tyOk, tyNm, h]
theorem tyOk_l : tyOk "list" O (.lst xs) = true := rfl
theorem tyOk_s : tyOk "str" O (.str a) = true := rfl
theorem rPool_i : rPool [.int i, .int j] O Q = (0 ≤ i ∧ 0 ≤ j ∧ j < 2147483647 ∧ ∀ p, O p = none → Q (.ref p) (updO O p .pool)) := rfl
theorem rSet_p0 {N : Ow → Prop} (h : O p = some .pool) : rSetD (.ref p) (.int 0) (.int i) O N = (0 ≤ i ∧ N O) := by
  simp only [rSetD, h]; simp
theorem rSet_p1 {N : Ow → Prop} (h : O p = some .pool) : rSetD (.ref p) (.int 1) (.int i) O N = ((0 ≤ i ∧ i < 2147483647) ∧ N O) := by
  simp only [rSetD, h]; simp
theorem rSet_r {N : Ow → Prop} {k : Nat} (h : O p = some (.lst xs)) (h' : ixN xs.length i = some k) : rSetD (.ref p) (.int i) d O N = N (updO O p (.lst (xs.set k d))) := by
  simp only [rSetD, h, h']
end
theorem sz_small {n : Nat} (h : n ≤ 1000000) : n ≤ sizeLine := by have := sizeLine_eq; omega
theorem sz_small' {n : Nat} (h : n < 1000000) : n < sizeLine := by have := sizeLine_eq; omega
theorem notX {b : Bool} : (true ^^ b) = !b := Bool.true_xor b
theorem notX' {b : Bool} : (false ^^ b) = b := Bool.false_xor b
/-- patterns -/
theorem patD_nm {i : Nat} {d : D} {ρ : DEnv} : patD (.nm i) d ρ = some (ρ.set i (some d)) := by simp only [patD]
theorem patD_tp {ps : List Pat} {ds : List D} {ρ : DEnv} : patD (.tp ps) (.tup ds) ρ = patDs ps ds ρ := by simp only [patD]
theorem patDs_nil {ρ : DEnv} : patDs [] [] ρ = some ρ := by simp only [patDs]
theorem patDs_cons {p : Pat} {ps : List Pat} {d : D} {ds : List D} {ρ : DEnv} : patDs (p :: ps) (d :: ds) ρ = (patD p d ρ).bind (patDs ps ds) := by simp only [patDs]
/-- a walk that keeps a word -/
theorem forD_inv {p : Pat} {gb : GS} {R : DEnds} (I : DEnv → Ow → Prop) : ∀ (ds : List D) (ρ : DEnv) (O : Ow), I ρ O → (∀ ρ O, I ρ O → R.nx ρ O) →
    (∀ d ∈ ds, ∀ ρ O, I ρ O → ∀ N, (∀ ρ O, I ρ O → N ρ O) → patGet (patD p d ρ) fun ρ1 => gb { R with nx := N, ct := N, bk := R.nx } ρ1 O) → forD p gb R ds ρ O
  | [], ρ, O, h, hd, _ => hd ρ O h
  | d :: ds, ρ, O, h, hd, hs => by
    have q := hs d List.mem_cons_self ρ O h (forD p gb R ds) fun ρ' O' h' => forD_inv I ds ρ' O' h' hd fun d' hm => hs d' (List.mem_cons_of_mem _ hm)
    unfold forD
    exact q

theorem isi_i_int {i : Int} {O : Ow} {Q : VD} : rIsiD [(.int i), .ty "int"] O Q = Q (.bl true) O := by simp [rIsiD, insCl, insTy, tyNm, insOf]
theorem isi_i_bool {i : Int} {O : Ow} {Q : VD} : rIsiD [(.int i), .ty "bool"] O Q = Q (.bl false) O := by simp [rIsiD, insCl, insTy, tyNm, insOf]
theorem isi_i_str {i : Int} {O : Ow} {Q : VD} : rIsiD [(.int i), .ty "str"] O Q = Q (.bl false) O := by simp [rIsiD, insCl, insTy, tyNm, insOf]
theorem isi_i_tuple {i : Int} {O : Ow} {Q : VD} : rIsiD [(.int i), .ty "tuple"] O Q = Q (.bl false) O := by simp [rIsiD, insCl, insTy, tyNm, insOf]
theorem isi_i_list {i : Int} {O : Ow} {Q : VD} : rIsiD [(.int i), .ty "list"] O Q = Q (.bl false) O := by simp [rIsiD, insCl, insTy, tyNm, insOf]
theorem isi_i_dict {i : Int} {O : Ow} {Q : VD} : rIsiD [(.int i), .ty "dict"] O Q = Q (.bl false) O := by simp [rIsiD, insCl, insTy, tyNm, insOf]
theorem isi_b_int {k : Bool} {O : Ow} {Q : VD} : rIsiD [(.bl k), .ty "int"] O Q = Q (.bl true) O := by simp [rIsiD, insCl, insTy, tyNm, insOf]
theorem isi_b_bool {k : Bool} {O : Ow} {Q : VD} : rIsiD [(.bl k), .ty "bool"] O Q = Q (.bl true) O := by simp [rIsiD, insCl, insTy, tyNm, insOf]
theorem isi_b_str {k : Bool} {O : Ow} {Q : VD} : rIsiD [(.bl k), .ty "str"] O Q = Q (.bl false) O := by simp [rIsiD, insCl, insTy, tyNm, insOf]
theorem isi_b_tuple {k : Bool} {O : Ow} {Q : VD} : rIsiD [(.bl k), .ty "tuple"] O Q = Q (.bl false) O := by simp [rIsiD, insCl, insTy, tyNm, insOf]
theorem isi_b_list {k : Bool} {O : Ow} {Q : VD} : rIsiD [(.bl k), .ty "list"] O Q = Q (.bl false) O := by simp [rIsiD, insCl, insTy, tyNm, insOf]
theorem isi_b_dict {k : Bool} {O : Ow} {Q : VD} : rIsiD [(.bl k), .ty "dict"] O Q = Q (.bl false) O := by simp [rIsiD, insCl, insTy, tyNm, insOf]
theorem isi_s_int {a : Str} {O : Ow} {Q : VD} : rIsiD [(.str a), .ty "int"] O Q = Q (.bl false) O := by simp [rIsiD, insCl, insTy, tyNm, insOf]
theorem isi_s_bool {a : Str} {O : Ow} {Q : VD} : rIsiD [(.str a), .ty "bool"] O Q = Q (.bl false) O := by simp [rIsiD, insCl, insTy, tyNm, insOf]
theorem isi_s_str {a : Str} {O : Ow} {Q : VD} : rIsiD [(.str a), .ty "str"] O Q = Q (.bl true) O := by simp [rIsiD, insCl, insTy, tyNm, insOf]
theorem isi_s_tuple {a : Str} {O : Ow} {Q : VD} : rIsiD [(.str a), .ty "tuple"] O Q = Q (.bl false) O := by simp [rIsiD, insCl, insTy, tyNm, insOf]
theorem isi_s_list {a : Str} {O : Ow} {Q : VD} : rIsiD [(.str a), .ty "list"] O Q = Q (.bl false) O := by simp [rIsiD, insCl, insTy, tyNm, insOf]
theorem isi_s_dict {a : Str} {O : Ow} {Q : VD} : rIsiD [(.str a), .ty "dict"] O Q = Q (.bl false) O := by simp [rIsiD, insCl, insTy, tyNm, insOf]
theorem isi_t_int {xs : List D} {O : Ow} {Q : VD} : rIsiD [(.tup xs), .ty "int"] O Q = Q (.bl false) O := by simp [rIsiD, insCl, insTy, tyNm, insOf]
theorem isi_t_bool {xs : List D} {O : Ow} {Q : VD} : rIsiD [(.tup xs), .ty "bool"] O Q = Q (.bl false) O := by simp [rIsiD, insCl, insTy, tyNm, insOf]
theorem isi_t_str {xs : List D} {O : Ow} {Q : VD} : rIsiD [(.tup xs), .ty "str"] O Q = Q (.bl false) O := by simp [rIsiD, insCl, insTy, tyNm, insOf]
theorem isi_t_tuple {xs : List D} {O : Ow} {Q : VD} : rIsiD [(.tup xs), .ty "tuple"] O Q = Q (.bl true) O := by simp [rIsiD, insCl, insTy, tyNm, insOf]
theorem isi_t_list {xs : List D} {O : Ow} {Q : VD} : rIsiD [(.tup xs), .ty "list"] O Q = Q (.bl false) O := by simp [rIsiD, insCl, insTy, tyNm, insOf]
theorem isi_t_dict {xs : List D} {O : Ow} {Q : VD} : rIsiD [(.tup xs), .ty "dict"] O Q = Q (.bl false) O := by simp [rIsiD, insCl, insTy, tyNm, insOf]
theorem isi_l_int {xs : List D} {O : Ow} {Q : VD} : rIsiD [(.lst xs), .ty "int"] O Q = Q (.bl false) O := by simp [rIsiD, insCl, insTy, tyNm, insOf]
theorem isi_l_bool {xs : List D} {O : Ow} {Q : VD} : rIsiD [(.lst xs), .ty "bool"] O Q = Q (.bl false) O := by simp [rIsiD, insCl, insTy, tyNm, insOf]
theorem isi_l_str {xs : List D} {O : Ow} {Q : VD} : rIsiD [(.lst xs), .ty "str"] O Q = Q (.bl false) O := by simp [rIsiD, insCl, insTy, tyNm, insOf]
theorem isi_l_tuple {xs : List D} {O : Ow} {Q : VD} : rIsiD [(.lst xs), .ty "tuple"] O Q = Q (.bl false) O := by simp [rIsiD, insCl, insTy, tyNm, insOf]
theorem isi_l_list {xs : List D} {O : Ow} {Q : VD} : rIsiD [(.lst xs), .ty "list"] O Q = Q (.bl true) O := by simp [rIsiD, insCl, insTy, tyNm, insOf]
theorem isi_l_dict {xs : List D} {O : Ow} {Q : VD} : rIsiD [(.lst xs), .ty "dict"] O Q = Q (.bl false) O := by simp [rIsiD, insCl, insTy, tyNm, insOf]
theorem isi_n_int  {O : Ow} {Q : VD} : rIsiD [.non, .ty "int"] O Q = Q (.bl false) O := by simp [rIsiD, insCl, insTy, tyNm, insOf]
theorem isi_n_bool  {O : Ow} {Q : VD} : rIsiD [.non, .ty "bool"] O Q = Q (.bl false) O := by simp [rIsiD, insCl, insTy, tyNm, insOf]
theorem isi_n_str  {O : Ow} {Q : VD} : rIsiD [.non, .ty "str"] O Q = Q (.bl false) O := by simp [rIsiD, insCl, insTy, tyNm, insOf]
theorem isi_n_tuple  {O : Ow} {Q : VD} : rIsiD [.non, .ty "tuple"] O Q = Q (.bl false) O := by simp [rIsiD, insCl, insTy, tyNm, insOf]
theorem isi_n_list  {O : Ow} {Q : VD} : rIsiD [.non, .ty "list"] O Q = Q (.bl false) O := by simp [rIsiD, insCl, insTy, tyNm, insOf]
theorem isi_n_dict  {O : Ow} {Q : VD} : rIsiD [.non, .ty "dict"] O Q = Q (.bl false) O := by simp [rIsiD, insCl, insTy, tyNm, insOf]
theorem isi_d_int  {O : Ow} {Q : VD} : rIsiD [.edic, .ty "int"] O Q = Q (.bl false) O := by simp [rIsiD, insCl, insTy, tyNm, insOf]
theorem isi_d_bool  {O : Ow} {Q : VD} : rIsiD [.edic, .ty "bool"] O Q = Q (.bl false) O := by simp [rIsiD, insCl, insTy, tyNm, insOf]
theorem isi_d_str  {O : Ow} {Q : VD} : rIsiD [.edic, .ty "str"] O Q = Q (.bl false) O := by simp [rIsiD, insCl, insTy, tyNm, insOf]
theorem isi_d_tuple  {O : Ow} {Q : VD} : rIsiD [.edic, .ty "tuple"] O Q = Q (.bl false) O := by simp [rIsiD, insCl, insTy, tyNm, insOf]
theorem isi_d_list  {O : Ow} {Q : VD} : rIsiD [.edic, .ty "list"] O Q = Q (.bl false) O := by simp [rIsiD, insCl, insTy, tyNm, insOf]
theorem isi_d_dict  {O : Ow} {Q : VD} : rIsiD [.edic, .ty "dict"] O Q = Q (.bl true) O := by simp [rIsiD, insCl, insTy, tyNm, insOf]
theorem isi_r_int {p : Addr} {xs : List D} {O : Ow} {Q : VD} (h : O p = some (.lst xs)) : rIsiD [.ref p, .ty "int"] O Q = Q (.bl false) O := by simp [rIsiD, insCl, insTy, tyNm, insOf, h]
theorem isi_r_bool {p : Addr} {xs : List D} {O : Ow} {Q : VD} (h : O p = some (.lst xs)) : rIsiD [.ref p, .ty "bool"] O Q = Q (.bl false) O := by simp [rIsiD, insCl, insTy, tyNm, insOf, h]
theorem isi_r_str {p : Addr} {xs : List D} {O : Ow} {Q : VD} (h : O p = some (.lst xs)) : rIsiD [.ref p, .ty "str"] O Q = Q (.bl false) O := by simp [rIsiD, insCl, insTy, tyNm, insOf, h]
theorem isi_r_tuple {p : Addr} {xs : List D} {O : Ow} {Q : VD} (h : O p = some (.lst xs)) : rIsiD [.ref p, .ty "tuple"] O Q = Q (.bl false) O := by simp [rIsiD, insCl, insTy, tyNm, insOf, h]
theorem isi_r_list {p : Addr} {xs : List D} {O : Ow} {Q : VD} (h : O p = some (.lst xs)) : rIsiD [.ref p, .ty "list"] O Q = Q (.bl true) O := by simp [rIsiD, insCl, insTy, tyNm, insOf, h]
theorem isi_r_dict {p : Addr} {xs : List D} {O : Ow} {Q : VD} (h : O p = some (.lst xs)) : rIsiD [.ref p, .ty "dict"] O Q = Q (.bl false) O := by simp [rIsiD, insCl, insTy, tyNm, insOf, h]
end Kf
namespace Kf
open PySem PySem.Spec L2
open PyProof.Rows hiding St
variable {M : MX}

/-! ### kinds -/
inductive Kd where
  | mk (m : Str) | one | to (a b : Kd) | both (a b : Kd)
  deriving DecidableEq, Inhabited
def dK : Kd → D
  | .mk m => .tup [.str "mark", .str m]
  | .one => .tup [.str "one"]
  | .to a b => .tup [.str "to", dK a, dK b]
  | .both a b => .tup [.str "both", dK a, dK b]
def Kd.leaves : Kd → Nat
  | .mk _ => 1
  | .one => 1
  | .to a b => a.leaves + b.leaves
  | .both a b => a.leaves + b.leaves
def Kd.depth : Kd → Nat
  | .mk _ => 0
  | .one => 0
  | .to a b => max a.depth b.depth + 1
  | .both a b => max a.depth b.depth + 1
theorem Kd.depth_lt : ∀ k : Kd, k.depth < k.leaves
  | .mk _ => by simp [depth, leaves]
  | .one => by simp [depth, leaves]
  | .to a b => by have := a.depth_lt; have := b.depth_lt; simp only [depth, leaves]; omega
  | .both a b => by have := a.depth_lt; have := b.depth_lt; simp only [depth, leaves]; omega
def Kd.ok : Kd → Bool
  | .mk m => PyData.strOk m
  | .one => true
  | .to a b => a.ok && b.ok
  | .both a b => a.ok && b.ok
theorem so_mark : PyData.strOk "mark" = true := by decide +kernel
theorem so_one : PyData.strOk "one" = true := by decide +kernel
theorem so_to : PyData.strOk "to" = true := by decide +kernel
theorem so_both : PyData.strOk "both" = true := by decide +kernel
theorem isPy_dK : ∀ k : Kd, isPy (dK k) = k.ok
  | .mk m => by simp [dK, isPy, isPys, Kd.ok, so_mark]
  | .one => by simp [dK, isPy, isPys, Kd.ok, so_one]
  | .to a b => by simp [dK, isPy, isPys, Kd.ok, so_to, isPy_dK a, isPy_dK b]
  | .both a b => by simp [dK, isPy, isPys, Kd.ok, so_both, isPy_dK a, isPy_dK b]
theorem dpT (ds : List D) : dp (.tup ds) = PyData.depthAll (toPys ds) + 1 := by simp [dp, toPy, PyData.depth]
theorem dpL (ds : List D) : dp (.lst ds) = PyData.depthAll (toPys ds) + 1 := by simp [dp, toPy, PyData.depth]
theorem dpC (d : D) (ds : List D) : PyData.depthAll (toPys (d :: ds)) = max (dp d) (PyData.depthAll (toPys ds)) := by simp [dp, toPys, PyData.depthAll]
theorem dpN : PyData.depthAll (toPys []) = 0 := by simp [toPys, PyData.depthAll]
theorem dpS (x : Str) : dp (.str x) = 0 := by simp [dp, toPy, PyData.depth]
theorem dpI (x : Int) : dp (.int x) = 0 := by simp [dp, toPy, PyData.depth]
theorem dpB (x : Bool) : dp (.bl x) = 0 := by simp [dp, toPy, PyData.depth]
theorem dpO : dp .non = 0 := by simp [dp, toPy, PyData.depth]
theorem dp_dK : ∀ k : Kd, dp (dK k) = k.depth + 1
  | .mk m => by simp [dK, dpT, dpC, dpN, dpS, Kd.depth]
  | .one => by simp [dK, dpT, dpC, dpN, dpS, Kd.depth]
  | .to a b => by simp [dK, dpT, dpC, dpN, dpS, Kd.depth, dp_dK a, dp_dK b]
  | .both a b => by simp [dK, dpT, dpC, dpN, dpS, Kd.depth, dp_dK a, dp_dK b]
theorem dps_le {n : Nat} : ∀ {ds : List D}, (∀ d ∈ ds, dp d ≤ n) → PyData.depthAll (toPys ds) ≤ n
  | [], _ => by rw [dpN]; omega
  | d :: ds, h => by
    rw [dpC]
    exact Nat.max_le.mpr ⟨h d List.mem_cons_self, dps_le fun e he => h e (List.mem_cons_of_mem _ he)⟩
theorem deref_dK {O : Ow} (k : Kd) : deref O (dK k) = dK k := by cases k <;> rfl
theorem sd_tb : decide (Str.ofString "to" = Str.ofString "both") = false := by decide +kernel
theorem sd_bt : decide (Str.ofString "both" = Str.ofString "to") = false := by decide +kernel
/-- == of kinds is = -/
theorem deq_K : ∀ a b : Kd, deq (dK a) (dK b) = decide (a = b) := by
  intro a
  induction a with
  | mk m => intro b; cases b <;> simp [dK, deq_t, deqs_cc, deqs_nn, deqs_nc, deqs_cn, deq_s]
  | one => intro b; cases b <;> simp [dK, deq_t, deqs_cc, deqs_nn, deqs_nc, deqs_cn, deq_s]
  | to a c ih1 ih2 =>
    intro b
    cases b with
    | both _ _ => simp only [dK, deq_t, deqs_cc, deq_s, sd_tb]; simp
    | _ => simp [dK, deq_t, deqs_cc, deqs_nn, deqs_nc, deqs_cn, deq_s, ih1, ih2]
  | both a c ih1 ih2 =>
    intro b
    cases b with
    | to _ _ => simp only [dK, deq_t, deqs_cc, deq_s, sd_bt]; simp
    | _ => simp [dK, deq_t, deqs_cc, deqs_nn, deqs_nc, deqs_cn, deq_s, ih1, ih2]
theorem rEq_K {neg : Bool} {a b : Kd} {O : Ow} {Q : VD} (ha : a.ok = true) (hb : b.ok = true) (hd : a.depth < 190) : rEqD neg (dK a) (dK b) O Q = Q (.bl (neg ^^ decide (a = b))) O := by
  rw [rEq_d (by rw [deref_dK, isPy_dK, ha]) (by rw [deref_dK, isPy_dK, hb]) (by rw [deref_dK, dp_dK]; omega), deref_dK, deref_dK, deq_K]
/-- == against the empty list -/
theorem deq_nil (xs : List D) : deq (.lst xs) (.lst []) = xs.isEmpty := by
  cases xs <;> simp [deq_l, deqs_nn, deqs_cn]
theorem rEq_nil {neg : Bool} {x : D} {xs : List D} {O : Ow} {Q : VD} (hx : deref O x = .lst xs) (h : isPys xs = true) (hd : dp (.lst xs) ≤ 190) : rEqD neg x (.lst []) O Q = Q (.bl (neg ^^ xs.isEmpty)) O := by
  rw [rEq_d (by rw [hx]; simpa only [isPy] using h) (by simp only [deref, isPy, isPys]) (by rw [hx]; exact hd), hx, deref_lst, deq_nil]
theorem rEq_nilA {neg : Bool} {x : D} {xs : List D} {O : Ow} {Q : VD} (hx : deref O x = .lst xs) (h : isPys xs = true) : rEqD neg x (.lst []) O Q = Q (.bl (neg ^^ xs.isEmpty)) O := by
  rw [rEq_dr (by rw [hx]; simpa only [isPy] using h) (by simp only [deref, isPy, isPys]) (by simp [deref, dp, toPy, toPys, PyData.depth, PyData.depthAll]), hx, deref_lst, deq_nil]
theorem rEq_i2 {neg : Bool} {a b c d : Int} {O : Ow} {Q : VD} : rEqD neg (.lst [.int a, .int b]) (.lst [.int c, .int d]) O Q = Q (.bl (neg ^^ (decide (a = c) && decide (b = d)))) O := by
  rw [rEq_d (by simp [deref, isPy, isPys]) (by simp [deref, isPy, isPys]) (by simp [deref, dpL, dpC, dpN, dpI])]
  simp [deref, deq_l, deqs_cc, deqs_nn, deq_i, deq_b]
theorem rEq_b2 {neg : Bool} {a b c d : Bool} {O : Ow} {Q : VD} : rEqD neg (.lst [.bl a, .bl b]) (.lst [.bl c, .bl d]) O Q = Q (.bl (neg ^^ (decide (a = c) && decide (b = d)))) O := by
  rw [rEq_d (by simp [deref, isPy, isPys]) (by simp [deref, isPy, isPys]) (by simp [deref, dpL, dpC, dpN, dpB])]
  simp [deref, deq_l, deqs_cc, deqs_nn, deq_i, deq_b]

/-! ### the law's pool -/
theorem atI_some {α : Type} {xs : List α} {k : Int} (h0 : 0 ≤ k) (h1 : k < xs.length) : ∃ v, atI xs k = some v ∧ v ∈ xs := by
  have hk : k.toNat < xs.length := by omega
  have e : k = ((k.toNat : Nat) : Int) := by omega
  have q : atI xs ((k.toNat : Nat) : Int) = some xs[k.toNat] := atI_nat (List.getElem?_eq_getElem hk)
  rw [← e] at q
  exact ⟨xs[k.toNat], q, List.getElem_mem hk⟩
theorem poolMod (x : Int) : 0 ≤ x % 2147483647 ∧ x % 2147483647 < 2147483647 := ⟨Int.emod_nonneg _ (by decide), Int.emod_lt_of_pos _ (by decide)⟩
theorem poolNum (c : Int) {k : Int} (h0 : 0 ≤ k) (h1 : k ≤ 1000) : CPow (c % 2147483629 + 104729 * k * k + 11) 3 := by
  have h2 : k * k ≤ 1000 * 1000 := Int.mul_le_mul h1 h1 h0 (by decide)
  have h3 : 0 ≤ k * k := Int.mul_nonneg h0 h0
  have h4 : 0 ≤ c % 2147483629 := Int.emod_nonneg _ (by decide)
  have h5 : c % 2147483629 < 2147483629 := Int.emod_lt_of_pos _ (by decide)
  refine ⟨by decide, by decide, ?_⟩
  rw [Int.mul_assoc]
  omega
def spPool : DSp := fun ds O R _ => ∃ (ns : List Int) (k : Int), ds = [.scr ns, .int k] ∧ 0 ≤ k ∧ k ≤ 1000 ∧ ∀ p, O p = none → R (.ref p) (updO O p .pool)
def spTake : DSp := fun ds O R _ => ∃ (p : Addr) (m : Int), ds = [.ref p, .int m] ∧ O p = some .pool ∧ 0 < m ∧ m < 1329227995784915872903807060280344576 ∧ ∀ r : Int, 0 ≤ r → r < m → R (.int r) O
theorem take_of {p : Addr} {m : Int} {O : Ow} {R : VD} {RE : XD} (hp : O p = some .pool) (h0 : 0 < m) (h1 : m < 1329227995784915872903807060280344576) (h : ∀ r : Int, 0 ≤ r → r < m → R (.int r) O) : spTake [.ref p, .int m] O R RE := ⟨p, m, rfl, hp, h0, h1, h⟩
theorem mem_rangeD {lo : Int} {n : Nat} {d : D} (h : d ∈ rangeD lo n) : ∃ i : Nat, i < n ∧ d = .int (lo + i) := by
  unfold rangeD at h
  obtain ⟨i, h1, rfl⟩ := List.mem_map.mp h
  exact ⟨i, List.mem_range.mp h1, rfl⟩
/-- the law's own loop: how often it goes -/
theorem rngBound (n N : Nat) (hN : N ≤ 1000) (h1 : 1 ≤ N) : (-2 ^ 62 ≤ if (if (N : Int) < n then (N : Int) else n) > 1 then if (N : Int) < n then (N : Int) else n else 1) ∧
    (if (if (N : Int) < n then (N : Int) else n) > 1 then if (N : Int) < n then (N : Int) else n else 1) < 2 ^ 62 ∧
    (if (if (N : Int) < n then (N : Int) else n) > 1 then if (N : Int) < n then (N : Int) else n else 1).toNat ≤ N := by
  refine ⟨?_, ?_, ?_⟩ <;> (repeat' split) <;> omega
end Kf
namespace Kf
open PySem PySem.Spec L2
open PyProof.Rows hiding St
variable {M : MX}

section
variable {X : Cx}
/-! ### more methods -/
def rJoinD : RMD := fun x ds O Q => match x, ds with
  | .str a, [y] => match deref O y with
    | .lst ys => match asStrs ys with
      | some ts => (ts.map (·.length)).sum + ts.length * a.length ≤ 16777216 ∧ Q (.str (Str.join a ts)) O
      | none => False
    | .tup ys => match asStrs ys with
      | some ts => (ts.map (·.length)).sum + ts.length * a.length ≤ 16777216 ∧ Q (.str (Str.join a ts)) O
      | none => False
    | _ => False
  | _, _ => False
theorem md_join : MtD M X "str.join" rJoinD := by
  refine mtD_of fun F P H O x xs dx ds R Q g r1 r2 q po => ?_
  unfold rJoinD at q
  split at q <;> first | exact q.elim | skip
  rename_i a y
  obtain ⟨v, rfl, r2'⟩ := r2.one'
  simp only [Rep] at r1
  subst r1
  have h2 := g.deref r2'
  revert q h2
  generalize Kf.deref O y = ey
  intro q h2
  cases ey <;> first | exact q.elim | skip
  · rename_i ys
    dsimp only at q
    cases e : asStrs ys with
    | none => rw [e] at q; exact q.elim
    | some ts =>
      rw [e] at q
      simp only [RepH, Rep] at h2
      obtain ⟨b, ws, rfl, h3, h4⟩ := h2
      rw [of_asStrs e] at h4
      have e3 := h4.strs
      subst e3
      exact ⟨_, mt_join, a, b, ts, rfl, rfl, .inr (Same.seqT g.fz h3), q.1, po.at g q.2 (by simp only [Rep]; rw [show Txt.join a ts = Str.join a ts from PySem.StrLaws.glued_eq_join a ts])⟩
  · rename_i ys
    dsimp only at q
    cases e : asStrs ys with
    | none => rw [e] at q; exact q.elim
    | some ts =>
      rw [e] at q
      obtain ⟨b, ws, rfl, h3, h4⟩ := h2
      rw [of_asStrs e] at h4
      have e3 := h4.strs
      subst e3
      exact ⟨_, mt_join, a, b, ts, rfl, rfl, .inl (SqL.of h3), q.1, po.at g q.2 (by simp only [Rep]; rw [show Txt.join a ts = Str.join a ts from PySem.StrLaws.glued_eq_join a ts])⟩
def rInsertD : RMD := fun x ds O Q => match x, ds with
  | .ref a, [.int i, y] => match O a with
    | some (.lst xs) => xs.length < sizeLine ∧ 0 ≤ i ∧ i < 2 ^ 63 ∧ Q .non (updO O a (.lst (xs.take i.toNat ++ [y] ++ xs.drop i.toNat)))
    | _ => False
  | _, _ => False
theorem md_insert : MtD M X "list.insert" rInsertD := by
  refine mtD_of fun F P H O x xs dx ds R Q g r1 r2 q po => ?_
  unfold rInsertD at q
  split at q <;> first | exact q.elim | skip
  rename_i a i y
  obtain ⟨v, w, rfl, r2', r3'⟩ := r2.two'
  simp only [Rep] at r1 r2'
  subst r1 r2'
  cases e : O a with
  | none => rw [e] at q; exact q.elim
  | some c =>
    rw [e] at q
    cases c with
    | pool => exact q.elim
    | dic _ => exact q.elim
    | dicL _ _ => exact q.elim
    | lst zs =>
      obtain ⟨_, _, vs, h1, h2⟩ := g.ow a _ e
      refine ⟨_, mt_insert, a, vs, i, w, rfl, rfl, h1, by rw [← h2.length]; exact q.1, q.2.1, q.2.2.1, ?_⟩
      exact po .non _ F _ _ q.2.2.2 (Same.refl _) (g.setO e ⟨_, upd_same, ((h2.take _).append (.one r3')).append (h2.drop _)⟩) (by simp only [Rep])
def rPopAtD : RMD := fun x ds O Q => match x, ds with
  | .ref a, [.int i] => match O a with
    | some (.lst xs) => match ixN xs.length i with
      | some k => match xs[k]? with
        | some d => Q d (updO O a (.lst (xs.eraseIdx k)))
        | none => False
      | none => False
    | _ => False
  | _, _ => False
theorem md_popAt : MtD M X "list.pop" rPopAtD := by
  refine mtD_of fun F P H O x xs dx ds R Q g r1 r2 q po => ?_
  unfold rPopAtD at q
  split at q <;> first | exact q.elim | skip
  rename_i a i
  obtain ⟨v, rfl, r2'⟩ := r2.one'
  simp only [Rep] at r1 r2'
  subst r1 r2'
  cases e : O a with
  | none => rw [e] at q; exact q.elim
  | some c =>
    rw [e] at q
    cases c with
    | pool => exact q.elim
    | dic _ => exact q.elim
    | dicL _ _ => exact q.elim
    | lst zs =>
      dsimp only at q
      obtain ⟨_, _, vs, h1, h2⟩ := g.ow a _ e
      cases e1 : ixN zs.length i with
      | none => rw [e1] at q; exact q.elim
      | some k =>
        rw [e1] at q
        dsimp only at q
        cases e2 : zs[k]? with
        | none => rw [e2] at q; exact q.elim
        | some d =>
          rw [e2] at q
          obtain ⟨u, e3, r3⟩ := h2.get e2
          obtain ⟨k1, k2, k3, k4⟩ := ixN_seq e1
          have hz : vs.length ≤ sizeLine ∨ True := .inr trivial
          by_cases hb : -(2 ^ 63) ≤ i ∧ i < 2 ^ 63
          · refine ⟨_, mt_popAt, a, vs, i, k, u, rfl, rfl, h1, hb.1, hb.2, by rw [← h2.length]; exact k1, e3, ?_⟩
            exact po d _ F _ _ q (Same.refl _) (g.setO e ⟨_, upd_same, h2.eraseIdx k⟩) r3
          · refine ⟨fun _ _ H _ => ∃ xs : List V, H a = some (.lst xs) ∧ ¬ (-(2 ^ 63) ≤ i ∧ i < 2 ^ 63) ∧ -(xs.length : Int) ≤ i ∧ i < xs.length, ?_, vs, h1, hb, by rw [← h2.length]; exact ⟨k3, k4⟩⟩
            intro pins s σ H x xs v us Q I rx rxs h
            obtain ⟨ys, hH, nb, l1, l2⟩ := h
            obtain ⟨_, _, _, _, hl⟩ := I.lst hH
            have := sizeLine_eq
            omega
def rClearD : RMD := fun x ds O Q => match x, ds with
  | .ref a, [] => match O a with
    | some (.lst _) => Q .non (updO O a (.lst []))
    | _ => False
  | _, _ => False
theorem md_clear : MtD M X "list.clear" rClearD := by
  refine mtD_of fun F P H O x xs dx ds R Q g r1 r2 q po => ?_
  unfold rClearD at q
  split at q <;> first | exact q.elim | skip
  rename_i a
  simp only [RepAll] at r2
  simp only [Rep] at r1
  subst r1 r2
  cases e : O a with
  | none => rw [e] at q; exact q.elim
  | some c =>
    rw [e] at q
    cases c with
    | pool => exact q.elim
    | dic _ => exact q.elim
    | dicL _ _ => exact q.elim
    | lst zs =>
      obtain ⟨_, _, vs, h1, h2⟩ := g.ow a _ e
      exact ⟨_, mt_clear, a, vs, rfl, rfl, h1, po .non _ F _ _ q (Same.refl _) (g.setO e ⟨_, upd_same, .nil⟩) (by simp only [Rep])⟩
def rSplitD : RMD := fun x ds O Q => match x, ds with
  | .str a, [.str b] => (b.length == 0) = false ∧ a.length + 2 ≤ sizeLine ∧ Q (.lst ((Txt.split a b).map .str)) O
  | _, _ => False
theorem md_split : MtD M X "str.split" rSplitD := by
  refine mtD_of fun F P H O x xs dx ds R Q g r1 r2 q po => ?_
  unfold rSplitD at q
  split at q <;> first | exact q.elim | skip
  rename_i a b
  obtain ⟨v, rfl, r2'⟩ := r2.one'
  simp only [Rep] at r1 r2'
  subst r1 r2'
  exact ⟨_, mt_split, a, b, rfl, rfl, q.1, q.2.1, fun p hp => po.lst g q.2.2 .of_strs hp⟩
/-- xs.index(y): the first place of an equal one -/
def rIndexD : RMD := fun x ds O Q => match ds with
  | [y] => match deref O x with
    | .lst xs => isPys xs = true ∧ isPy (deref O y) = true ∧ dp (.lst xs) ≤ 64 ∧ dp (deref O y) ≤ 64 ∧ match xs.findIdx? (fun z => deq z (deref O y)) with
      | some j => Q (.int (j : Nat)) O
      | none => False
    | _ => False
  | _ => False
theorem toPys_get {xs : List D} {j : Nat} : (toPys xs)[j]? = xs[j]?.map toPy := by rw [toPys_map, List.getElem?_map]
theorem md_index (hu : X.A.units + 200 < cLine) : MtD M X "list.index" rIndexD := by
  refine mtD_of fun F P H O x xs dx ds R Q g r1 r2 q po => ?_
  unfold rIndexD at q
  split at q <;> first | exact q.elim | skip
  rename_i y
  obtain ⟨v, rfl, r2'⟩ := r2.one'
  have h1 := g.deref r1
  have h2 := g.deref r2'
  revert q h1
  generalize Kf.deref O dx = ex
  intro q h1
  cases ex <;> first | exact q.elim | skip
  rename_i zs
  obtain ⟨q1, q2, q3, q4, q5⟩ := q
  cases e : zs.findIdx? (fun z => deq z (Kf.deref O y)) with
  | none => rw [e] at q5; exact q5.elim
  | some j =>
    rw [e] at q5
    obtain ⟨c, ws, rfl, h3, h4⟩ := h1
    obtain ⟨hj, hp, hn⟩ := List.findIdx?_eq_some_iff_getElem.mp e
    refine ⟨_, mt_indexD (by omega), c, v, _, toPys zs, j, toPy zs[j], rfl, rfl, .lst (SqL.of h3) (RepAll.dp g.fz zs ws q1 h4), h2.dp g.fz q2, ?_, ?_, ?_, hp, fun m z' hm hz => ?_, po.at g q5 (by simp only [Rep])⟩
    · have l1 : (PyData.list (toPys zs)).canLay0 = true := by simp only [PyData.canLay0]; exact isPys_lay zs q1
      have l2 : (PyData.list (toPys zs)).depth ≤ 64 := by have := q3; simpa only [dp, toPy] using this
      simp only [SeqAt.shaped, l1, l2, decide_true, Bool.and_self]
    · have l2 : (toPy (Kf.deref O y)).depth ≤ 64 := q4
      simp only [SeqAt.shaped, isPy_lay _ q2, l2, decide_true, Bool.and_self]
    · rw [toPys_get, List.getElem?_eq_getElem hj]; rfl
    · rw [toPys_get] at hz
      obtain ⟨z, hz1, rfl⟩ := Option.map_eq_some_iff.mp hz
      have hml : m < zs.length := by omega
      rw [List.getElem?_eq_getElem hml] at hz1
      cases hz1
      have := hn m hm
      simpa [deq] using this
end
section
variable {O : Ow} {Q : VD} {i j : Int} {a b : Str} {xs ys : List D} {d e x y z u : D} {p : Addr}
theorem rJoin_l {ts : List Str} (h : asStrs xs = some ts) : rJoinD (.str a) [.lst xs] O Q = ((ts.map (·.length)).sum + ts.length * a.length ≤ 16777216 ∧ Q (.str (Str.join a ts)) O) := by simp only [rJoinD, deref, h]
theorem rJoin_m {ts : List Str} : rJoinD (.str a) [.lst (ts.map .str)] O Q = ((ts.map (·.length)).sum + ts.length * a.length ≤ 16777216 ∧ Q (.str (Str.join a ts)) O) := rJoin_l (asStrs_map ts)
theorem rJoin_r {ts : List Str} (h0 : O p = some (.lst xs)) (h : asStrs xs = some ts) : rJoinD (.str a) [.ref p] O Q = ((ts.map (·.length)).sum + ts.length * a.length ≤ 16777216 ∧ Q (.str (Str.join a ts)) O) := by simp only [rJoinD, deref, h0, h]
theorem rIns_r (h : O p = some (.lst xs)) : rInsertD (.ref p) [.int i, y] O Q = (xs.length < sizeLine ∧ 0 ≤ i ∧ i < 2 ^ 63 ∧ Q .non (updO O p (.lst (xs.take i.toNat ++ [y] ++ xs.drop i.toNat)))) := by simp only [rInsertD, h]
theorem rPop0_r (h : O p = some (.lst (x :: xs))) : rPopAtD (.ref p) [.int 0] O Q = Q x (updO O p (.lst xs)) := by
  have e : ixN (xs.length + 1) 0 = some 0 := by
    unfold ixN
    rw [if_pos (by decide), if_pos (by omega)]; rfl
  simp only [rPopAtD, h, List.length_cons, e, List.getElem?_cons_zero, List.eraseIdx_cons_zero]
theorem rClear_r (h : O p = some (.lst xs)) : rClearD (.ref p) [] O Q = Q .non (updO O p (.lst [])) := by simp only [rClearD, h]
theorem rSplit_s : rSplitD (.str a) [.str b] O Q = ((b.length == 0) = false ∧ a.length + 2 ≤ sizeLine ∧ Q (.lst ((Txt.split a b).map .str)) O) := rfl
theorem rIndex_l {j : Nat} (h1 : isPys xs = true) (h2 : isPy (deref O y) = true) (h3 : dp (.lst xs) ≤ 64) (h4 : dp (deref O y) ≤ 64) (h : xs.findIdx? (fun z => deq z (deref O y)) = some j) : rIndexD (.lst xs) [y] O Q = Q (.int (j : Nat)) O := by
  simp only [rIndexD, deref_lst, h1, h2, h3, h4, h, true_and]
end
/-! ### walks -/
/-- a walk by places -/
theorem forD_ix {p : Pat} {gb : GS} {R : DEnds} (I : Nat → DEnv → Ow → Prop) : ∀ (ds : List D) (k : Nat) (ρ : DEnv) (O : Ow), I k ρ O → (∀ ρ O, I (k + ds.length) ρ O → R.nx ρ O) →
    (∀ i d, ds[i]? = some d → ∀ ρ O, I (k + i) ρ O → ∀ N : DEnv → Ow → Prop, (∀ ρ O, I (k + i + 1) ρ O → N ρ O) → patGet (patD p d ρ) fun ρ1 => gb { R with nx := N, ct := N, bk := R.nx } ρ1 O) → forD p gb R ds ρ O
  | [], k, ρ, O, h, hd, _ => hd ρ O h
  | d :: ds, k, ρ, O, h, hd, hs => by
    have q := hs 0 d rfl ρ O h (forD p gb R ds) fun ρ' O' h' => by
      refine forD_ix I ds (k + 1) ρ' O' h' (fun ρ O z => hd ρ O ?_) fun i d' hi ρ O z N hN => hs (i + 1) d' (by simpa using hi) ρ O ?_ N fun ρ O z => hN ρ O ?_
      · have e : k + (d :: ds).length = k + 1 + ds.length := by rw [List.length_cons]; omega
        rw [e]; exact z
      · have e : k + (i + 1) = k + 1 + i := by omega
        rw [e]; exact z
      · have e : k + 1 + i + 1 = k + (i + 1) + 1 := by omega
        rw [e]; exact z
    unfold forD
    exact q
/-- a comprehension that maps -/
theorem lcD_map {p : Pat} {fe : FE} {ρ : DEnv} {O : Ow} (h : D → D) : ∀ (ds acc : List D) (Q : List D → Ow → Prop), acc.length + ds.length ≤ sizeLine →
    (∀ d ∈ ds, ∀ Q' : VD, Q' (h d) O → patGet (patD p d ρ) fun ρ1 => fe ρ1 O Q') → Q (acc ++ ds.map h) O → lcD p fYes fe ρ ds acc O Q
  | [], acc, Q, _, _, q => by simpa [lcD] using q
  | d :: ds, acc, Q, hl, hs, q => by
    rw [List.length_cons] at hl
    have z := hs d List.mem_cons_self (fun e O2 => acc.length < sizeLine ∧ lcD p fYes fe ρ ds (acc ++ [e]) O2 Q) ⟨by omega, lcD_map h ds _ Q (by rw [List.length_append, List.length_singleton]; omega) (fun d' hd => hs d' (List.mem_cons_of_mem _ hd)) (by simpa using q)⟩
    unfold lcD
    simpa [fYes] using z
/-- a comprehension whose items may be many -/
theorem lcD_all {p : Pat} {fe : FE} {ρ : DEnv} {O : Ow} (A : D → D → Prop) : ∀ (ds acc : List D) (Q : List D → Ow → Prop), acc.length + ds.length ≤ sizeLine →
    (∀ d ∈ ds, ∀ Q' : VD, (∀ e, A d e → Q' e O) → patGet (patD p d ρ) fun ρ1 => fe ρ1 O Q') → (∀ es, Paired A ds es → Q (acc ++ es) O) → lcD p fYes fe ρ ds acc O Q
  | [], acc, Q, _, _, q => by have := q [] .nil; simpa [lcD] using this
  | d :: ds, acc, Q, hl, hs, q => by
    rw [List.length_cons] at hl
    have z := hs d List.mem_cons_self (fun e O2 => acc.length < sizeLine ∧ lcD p fYes fe ρ ds (acc ++ [e]) O2 Q) fun e he => ⟨by omega, lcD_all A ds _ Q (by rw [List.length_append, List.length_singleton]; omega) (fun d' hd => hs d' (List.mem_cons_of_mem _ hd)) fun es hes => by
      have := q (e :: es) (.cons he hes)
      simpa using this⟩
    unfold lcD
    simpa [fYes] using z
/-- a comprehension that maps those that it keeps -/
theorem lcD_filter {p : Pat} {ft : FT} {fe : FE} {ρ : DEnv} {O : Ow} (b : D → Bool) (h : D → D) : ∀ (ds acc : List D) (Q : List D → Ow → Prop), acc.length + ds.length ≤ sizeLine →
    (∀ d ∈ ds, ∀ (Q1 : VD) (Q2 : Ow → Prop), (b d = true → Q1 (h d) O) → (b d = false → Q2 O) → patGet (patD p d ρ) fun ρ1 => ft ρ1 O fun k O1 => if k = true then fe ρ1 O1 Q1 else Q2 O1) → Q (acc ++ (ds.filter b).map h) O → lcD p ft fe ρ ds acc O Q
  | [], acc, Q, _, _, q => by simpa [lcD] using q
  | d :: ds, acc, Q, hl, hs, q => by
    rw [List.length_cons] at hl
    have z := hs d List.mem_cons_self (fun e O2 => acc.length < sizeLine ∧ lcD p ft fe ρ ds (acc ++ [e]) O2 Q) (fun O2 => lcD p ft fe ρ ds acc O2 Q)
      (fun hb => ⟨by omega, lcD_filter b h ds _ Q (by rw [List.length_append, List.length_singleton]; omega) (fun d' hd => hs d' (List.mem_cons_of_mem _ hd)) (by simpa [List.filter_cons, hb] using q)⟩)
      (fun hb => lcD_filter b h ds _ Q (by omega) (fun d' hd => hs d' (List.mem_cons_of_mem _ hd)) (by simpa [List.filter_cons, hb] using q))
    unfold lcD
    exact z
/-! ### what is owned may be forgotten -/
def Sub (O O' : Ow) : Prop := ∀ a c, O a = some c → O' a = some c
theorem Sub.refl (O : Ow) : Sub O O := fun _ _ h => h
theorem Sub.trans {O O1 O2 : Ow} (a : Sub O O1) (b : Sub O1 O2) : Sub O O2 := fun p c h => b p c (a p c h)
theorem sub_upd {O : Ow} {p : Addr} {c : Cell} (h : O p = none) : Sub O (updO O p c) := fun a d e => by
  have ne : a ≠ p := fun q => by rw [q, h] at e; cases e
  rw [updO_ne ne]; exact e
theorem Gd.sub {K : PySem.W.Frag} {F P H : Hp} {O O' : Ow} (g : Gd M K F O' P H) (s : Sub O O') : Gd M K F O P H := ⟨g.fz, fun a c e => g.ow a c (s a c e), g.as, g.rl⟩
/-- at the end what is owned besides is forgotten -/
def VG (R : VD) : VD := fun d O' => ∃ O, Sub O O' ∧ R d O
section
variable {P : Program} {w : World} {K : PySem.W.Frag} {mg : Str → Option Value} {base : Heap}
theorem fn_dG {x qual : Str} {st : Stmt} {f : Addr} {fd : FuncData} {N ps : List Str} {k : Nat} {dsp : DSp} {g : GS} (F : Fun K x qual st f fd) (S : FnScope N ps (defScope st)) (len : ∀ ds O R RE, dsp ds O R RE → ds.length = ps.length)
    (hder : ∀ (cdv : Value) (A : Around) (outer : List Env) (s : Shared) (H : Hp) (E : XK), Room k (A.deeper (envOfC qual (defScope st) s.heap.objs.size f cdv)) →
      DSs MT (cxOf CX0 P w K mg base N qual (defScope st) f cdv A outer s H E).nox (defBody st) g)
    (hread : ∀ ds O R RE, dsp ds O R RE → g { nx := fun _ O' => VG R .non O', rt := VG R } (startD N ds) O) : FnOk P w K mg base CX0 (k + 1) f fd ps (liftSp K dsp) := by
  refine F.ok S (fun vs H Q E h => ?_) fun cdv A outer s H vs Q E hr h => ?_
  · obtain ⟨F, O, P, ds, R, RE, g, r, q, _⟩ := h
    rw [← r.length]; exact len ds O R RE q
  · obtain ⟨F, O, P, ds, R, RE, gd, r, q, po, _⟩ := h
    refine ⟨_, hder cdv A outer s H E hr, F, O, P, startD N ds, { nx := fun _ O' => VG R .non O', rt := VG R }, gd, ?_, hread ds O R RE q, ⟨fun ρ O' F' H' σ q1 s1 g1 _ => ?_, fun d O' F' H' v q1 s1 g1 r1 => ?_, fun _ _ _ _ _ z => z.elim, fun _ _ _ _ _ z => z.elim⟩⟩
    · unfold startD L2.start
      rw [r.length]
      exact envOk_start _ r
    · obtain ⟨O2, s2, q2⟩ := q1
      exact po .non O2 F' H' .non q2 s1 (g1.sub s2) (by simp only [Rep])
    · obtain ⟨O2, s2, q2⟩ := q1
      exact po d O2 F' H' v q2 s1 (g1.sub s2) r1
end
theorem VG.at {R : VD} {d : D} {O : Ow} (h : R d O) : VG R d O := ⟨O, Sub.refl _, h⟩
theorem VG.up {R : VD} {d : D} {O : Ow} {p : Addr} {c : Cell} (h : O p = none) (q : R d O) : VG R d (updO O p c) := ⟨O, sub_upd h, q⟩
theorem rangeD_get {lo : Int} {n i : Nat} {d : D} (h : (rangeD lo n)[i]? = some d) : i < n ∧ d = .int (lo + (i : Nat)) := by
  unfold rangeD at h
  rw [List.getElem?_map] at h
  obtain ⟨j, e1, rfl⟩ := Option.map_eq_some_iff.mp h
  have hi : i < n := by
    obtain ⟨h, _⟩ := List.getElem?_eq_some_iff.mp e1
    simpa using h
  rw [List.getElem?_range hi] at e1
  cases e1
  exact ⟨hi, rfl⟩
theorem rangeD_length (lo : Int) (n : Nat) : (rangeD lo n).length = n := by unfold rangeD; rw [List.length_map, List.length_range]
theorem cut_all {α : Type} {xs : List α} {n : Nat} (h : xs.length ≤ n) : cut xs none (some (n : Int)) = xs := by
  unfold cut
  rw [HT.sIx_none, HT.sIx_nat, List.drop_zero, Nat.sub_zero, Nat.min_eq_right h, List.take_length]
theorem rSl_l {xs : List D} {lo hi : Option Int} {O : Ow} {Q : VD} : rSlD (.lst xs) lo hi O Q = Q (.lst (cut xs lo hi)) O := rfl
theorem rSl_r {xs : List D} {lo hi : Option Int} {O : Ow} {Q : VD} {p : Addr} (h : O p = some (.lst xs)) : rSlD (.ref p) lo hi O Q = Q (.lst (cut xs lo hi)) O := by simp only [rSlD, deref, h]
theorem rSl_t {xs : List D} {lo hi : Option Int} {O : Ow} {Q : VD} (h : ¬ (HT.sIx xs.length 0 lo = 0 ∧ HT.sIx xs.length xs.length hi = xs.length)) : rSlD (.tup xs) lo hi O Q = Q (.tup (cut xs lo hi)) O := by simp only [rSlD, deref, h, not_false_eq_true, true_and]
theorem rSl_s {a : Str} {lo hi : Option Int} {O : Ow} {Q : VD} : rSlD (.str a) lo hi O Q = (a.length ≤ sizeLine ∧ Q (.str (cutS a lo hi)) O) := rfl
end Kf
namespace Kf
open PySem PySem.Spec L2
open PyProof.Rows hiding St
variable {M : MX}
/-! ### t < u of pairs (a number, a truth) -/
def ltIB (a : Int) (p : Bool) (b : Int) (q : Bool) : Bool := if a = b then (!p && q) else decide (a < b)
section
variable {X : Cx}
theorem op_ltIB (hu : X.A.units < cLine) : OpR X (compareOp .Lt) (fun x y H Q => ∃ (l m : Addr) (a b : Int) (p q : Bool), x = .ref l ∧ y = .ref m ∧ SqT X.K H l [.int a, .bl p] ∧ SqT X.K H m [.int b, .bl q] ∧ Q (.bl (ltIB a p b q)) H) := by
  intro pins s σ H x y v u Q I rx ry h
  obtain ⟨l, m, a, b, p, q, rfl, rfl, ha, hb, q0⟩ := h
  cases rx
  cases ry
  obtain ⟨its, r1, p1, _⟩ := I.tuple ha
  obtain ⟨its2, r2, p2, _⟩ := I.tuple hb
  cases r1 with
  | cons x1 t1 =>
    cases t1 with
    | cons x2 t2 =>
      cases t2
      cases r2 with
      | cons y1 u1 =>
        cases u1 with
        | cons y2 u2 =>
          cases u2
          rename_i v1 v2 w1 w2
          obtain ⟨k1, rfl⟩ := x1
          cases x2
          obtain ⟨k2, rfl⟩ := y1
          cases y2
          have R := Ob.RcOp.tuples_lt (A := X.A) (s := s) (e := fun j => if j = 0 then a == b else p == q) (r := fun j => if j = 0 then decide (a < b) else decide (b2i p < b2i q)) p1 p2 hu (fun j h1 h2 => by
            match j, h1, h2 with
            | 0, _, _ => exact SeqAt.EqAt.int_int _ _ _ _
            | 1, _, _ => exact eqAt_V (y := .bl p) (x := .bl q) rfl rfl rfl rfl
            | k + 2, h1, _ => have h3 : k + 2 < 2 := h1; omega) (fun j h1 h2 _ => by
            match j, h1, h2 with
            | 0, _, _ => exact Ob.RcOp.lt_int _ _ _ _
            | 1, _, _ => exact fun _ _ _ _ h => PyProof.Rows.lt_bool h
            | k + 2, h1, _ => have h3 : k + 2 < 2 := h1; omega)
          have e : Ob.lexAt (fun j => if j = 0 then a == b else p == q) (fun j => if j = 0 then decide (a < b) else decide (b2i p < b2i q)) (decide (#[Value.int a k1, Value.bool p].size < #[Value.int b k2, Value.bool q].size)) 0 (min #[Value.int a k1, Value.bool p].size #[Value.int b k2, Value.bool q].size) = ltIB a p b q := by
            have e2 : min #[Value.int a k1, Value.bool p].size #[Value.int b k2, Value.bool q].size = 2 := rfl
            rw [e2]
            simp only [Ob.lexAt_succ, Ob.lexAt_zero, if_true, ltIB]
            by_cases h : a = b
            · subst h; cases p <;> cases q <;> simp [b2i]
            · simp [h]
          have z : wpAny (model X.prog X.w) X.A (compareOp .Lt (.ref l) (.ref m)) (EP X pins σ Q) X.xe s := R X.prog X.w X.xe (EP X pins σ Q) ⟨.bl _, H, I, rfl, by
            have := q0
            rw [← e] at this
            exact this⟩
          exact z
def rLtTD : R2D := fun x y O Q => match x, y with
  | .tup [.int a, .bl p], .tup [.int b, .bl q] => Q (.bl (ltIB a p b q)) O
  | _, _ => False
theorem od_ltT (hu : X.A.units + 200 < cLine) : OpD M X (compareOp .Lt) rLtTD := by
  refine opD_of fun pins s σ F P H O x y dx dy v u R Q I rx ry gd r1 r2 q po => ?_
  unfold rLtTD at q
  split at q
  · rename_i a p b q'
    simp only [Rep, RepAll] at r1 r2
    obtain ⟨l, vs, rfl, hl, rv⟩ := r1
    obtain ⟨m, ws, rfl, hm, rw_⟩ := r2
    obtain ⟨_, _, rfl, rfl, _, _, rfl, rfl, rfl⟩ := rv
    obtain ⟨_, _, rfl, rfl, _, _, rfl, rfl, rfl⟩ := rw_
    exact ⟨_, op_ltIB (by omega), l, m, a, b, p, q', rfl, rfl, Same.seqT gd.fz hl, Same.seqT gd.fz hm, po.at gd q (by simp only [Rep])⟩
  · exact q.elim
end
theorem rLtT_i {a b : Int} {p q : Bool} {O : Ow} {Q : VD} : rLtTD (.tup [.int a, .bl p]) (.tup [.int b, .bl q]) O Q = Q (.bl (ltIB a p b q)) O := rfl
end Kf
namespace Kf
open PySem PySem.Spec L2
open PyProof.Rows hiding St
variable {M : MX}

/-! ### exceptions: what is wished of one, over data -/
abbrev XW := Value → Option (List (Str × D)) → DEnv → Ow → Prop
def PostW (K : PySem.W.Frag) (F P : Hp) (RX : XW) (W : WX) : Prop := ∀ cls fs ρ O' F' H' dd σ, RX cls fs ρ O' → Same F F' → Gd MT K F' O' P H' → XdOk K F' H' fs dd → EnvOk K F' ρ σ → W cls dd σ H'
def mxw (K : PySem.W.Frag) (RX : XW) (W : WX) : MX where
  rel F P := ∃ P0, Same P0 P ∧ PostW K F P0 RX W
  mono := fun ⟨P0, s0, po⟩ s s' => ⟨P0, s0.trans s', fun cls fs ρ O' F' H' dd σ q s2 => po cls fs ρ O' F' H' dd σ q (s.trans s2)⟩
theorem Gd.wish {K : PySem.W.Frag} {F P H : Hp} {O : Ow} {RX : XW} {W : WX} {cls : Value} {fs : Option (List (Str × D))} {ρ : DEnv} {dd : Option Addr} {σ : L2.St}
    (g : Gd (mxw K RX W) K F O P H) (q : RX cls fs ρ O) (x : XdOk K F H fs dd) (en : EnvOk K F ρ σ) : W cls dd σ H := by
  obtain ⟨P0, s0, po⟩ := g.rl
  exact po cls fs ρ O F H dd σ q (Same.refl _) (g.mt.less s0) x en
/-- of nothing -/
abbrev RX0 : XW := fun _ _ _ _ => False

/-- an own class of exceptions without an __init__ of its own -/
structure ExN (K : PySem.W.Frag) (mg : Str → Option Value) (x : Str) (C : Addr) : Prop where
  g : mg x = some (.ref C)
  ex : PySem.W.excIn K C [.type "ValueError", .type "Exception", .type "BaseException", .type "object"] "ValueError.__new__" = true
  kp : PySem.W.keepIn K (.ref C) = true
  sb : PySem.W.subIn K (.ref C) (.type "BaseException") = some true
  ty : PySem.W.typeIn K (.ref C) = some (.type "type")

section
variable {X : Cx} {RX : XW} {W : WX} {x m : Str} {C : Addr} {j : Nat} {p p2 pos pos' : Pos}
def gRaise (RX : XW) (cls : Value) : GS := fun _ ρ O => RX cls none ρ O
theorem ds_raise (N : ExN X.K X.mg x C) (hc : X.calm = true) (tk : Takes X W) (hg : Gl X x) (hdb : (x == ("__debug__" : Str)) = false := by decide) :
    DS (mxw X.K RX W) X (.Raise (some (.Call (.Name x p) [.Constant (.str m) j p2] [] pos)) none pos') (gRaise RX (.ref C)) :=
  psMono (ps_raise hc tk (pmk_own PySem.F.excBase_ValueError N.ex N.g N.kp (raises_own N.sb N.ty) hg hdb)) fun D σ H h => by
    obtain ⟨F, O, P, ρ, R, g, en, q, po⟩ := h
    exact g.wish q rfl en
end
section
variable {X : Cx} {RX : XW} {W : WX} {e : Expr} {es : List Expr} {fr : FA} {k : Nat} {f : Addr} {fd : FuncData} {ps : List Str} {dsp : DSp} {x : Str} {st : Stmt} {p pos : Pos}
/-- a call that may raise -/
def fCallX (dsp : DSp) (RX : XW) (fr : FA) : FE := fun ρ O Q => fr ρ O fun ds O1 => dsp ds O1 Q fun cls fs O' => RX cls fs ρ O'
theorem de_callX (N : Fn X.K X.mg x st ps f fd) (G : FnOk X.prog X.w X.K X.mg X.base (L2.CX X.prog X.w) k f fd ps (liftSp X.K dsp)) (hr : Room k X.A) (tk : Takes X W) (hg : Gl X x)
    (ha : DA (mxw X.K RX W) X (e :: es) fr) (hdb : (x == ("__debug__" : Str)) = false := by decide) (he : starEach (e :: es) X.env = (false, eval e X.env) :: starEach es X.env := by rfl) (hpl : (backTo pos (starEach es X.env)).any (·.1) = false := by rfl) :
    DE (mxw X.K RX W) X (.Call (.Name x p) (e :: es) [] pos) (fCallX dsp RX fr) := peMono (pe_callS G hr hg N.m N.F.kp N.b (fun σ => passAt tk σ) ha hdb he hpl) fun σ H Q h => by
  obtain ⟨F, O, P, ρ, R, g, en, q, po⟩ := h
  refine ⟨F, O, P, ρ, _, g, en, q, fun ds O1 F1 H1 vs q1 s1 g1 r1 => ?_⟩
  refine ⟨F1, O1, P, ds, R, _, g1.mt, r1, q1, po.mt g1 s1, fun cls fs O' F' H' dd q2 s2 g2 xd => ?_⟩
  exact (g2.re ((mxw X.K RX W).mono g1.rl s2 (Same.refl _))).wish q2 xd (en.mono (s1.trans s2))
end
section
variable {P : Program} {w : World} {K : PySem.W.Frag} {mg : Str → Option Value} {base : Heap}
/-- at the end what is owned besides is forgotten -/
def XG (RE : XD) : XW := fun cls fs _ O' => ∃ O, Sub O O' ∧ RE cls fs O
/-- a def that may raise, by its reading -/
theorem fn_dX {x qual : Str} {st : Stmt} {f : Addr} {fd : FuncData} {N ps : List Str} {k : Nat} {dsp : DSp} {g : XW → GS} (F : Fun K x qual st f fd) (S : FnScope N ps (defScope st)) (len : ∀ ds O R RE, dsp ds O R RE → ds.length = ps.length)
    (hder : ∀ (RX : XW) (W : WX) (cdv : Value) (A : Around) (outer : List Env) (s : Shared) (H : Hp) (E : XK), Takes (cxOf (L2.CX P w) P w K mg base N qual (defScope st) f cdv A outer s H E) W →
      PassesOwn (model (cxOf (L2.CX P w) P w K mg base N qual (defScope st) f cdv A outer s H E).prog (cxOf (L2.CX P w) P w K mg base N qual (defScope st) f cdv A outer s H E).w) (cxOf (L2.CX P w) P w K mg base N qual (defScope st) f cdv A outer s H E).A (cxOf (L2.CX P w) P w K mg base N qual (defScope st) f cdv A outer s H E).env (cxOf (L2.CX P w) P w K mg base N qual (defScope st) f cdv A outer s H E).xe →
      Room k (A.deeper (envOfC qual (defScope st) s.heap.objs.size f cdv)) →
      DSs (mxw K RX W) (cxOf (L2.CX P w) P w K mg base N qual (defScope st) f cdv A outer s H E) (defBody st) (g RX))
    (hread : ∀ ds O R RE, dsp ds O R RE → g (XG RE) { nx := fun _ O' => VG R .non O', rt := VG R } (startD N ds) O) : FnOk P w K mg base (L2.CX P w) (k + 1) f fd ps (liftSp K dsp) := by
  refine F.okX S (fun vs H Q E h => ?_) fun cdv A outer s H vs Q E hr h => ?_
  · obtain ⟨F, O, P, ds, R, RE, g, r, q, _⟩ := h
    rw [← r.length]; exact len ds O R RE q
  · obtain ⟨F, O, P', ds, R, RE, gd, r, q, po, px⟩ := h
    have tk : Takes (cxOf (L2.CX P w) P w K mg base N qual (defScope st) f cdv A outer s H E) (fun cls d _ H => E cls d H) := takes_of rfl rfl rfl rfl
    refine ⟨_, hder (XG RE) _ cdv A outer s H E tk (passes_of rfl) hr, F, O, P', startD N ds, { nx := fun _ O' => VG R .non O', rt := VG R }, gd.re ⟨P', Same.refl _, fun cls fs ρ O' F' H' dd σ q1 s1 g1 xd _ => ?_⟩, ?_, hread ds O R RE q, ⟨fun ρ O' F' H' σ q1 s1 g1 _ => ?_, fun d O' F' H' v q1 s1 g1 r1 => ?_, fun _ _ _ _ _ z => z.elim, fun _ _ _ _ _ z => z.elim⟩⟩
    · obtain ⟨O2, s2, q2⟩ := q1
      exact px cls fs O2 F' H' dd q2 s1 (g1.sub s2) xd
    · unfold startD L2.start
      rw [r.length]
      exact envOk_start _ r
    · obtain ⟨O2, s2, q2⟩ := q1
      exact po .non O2 F' H' .non q2 s1 (g1.mt.sub s2) (by simp only [Rep])
    · obtain ⟨O2, s2, q2⟩ := q1
      exact po d O2 F' H' v q2 s1 (g1.mt.sub s2) r1
end

/-! ### try -/
/-- the fields of the exception that a suite holds -/
def XdF (K : PySem.W.Frag) (F P : Hp) : Option (List (Str × D)) → Option Addr → Prop
  | none, dd => dd = none
  | some fs, dd => ∃ dx fv, dd = some dx ∧ (F dx = some (.xd fv) ∨ P dx = some (.xd fv)) ∧ FsOk K F fs fv
theorem FsOk.mono {K : PySem.W.Frag} {F F' : Hp} (s : Same F F') {fs : List (Str × D)} {fv : List (Str × V)} (h : FsOk K F fs fv) : FsOk K F' fs fv := Paired.mapP h fun _ _ z => ⟨z.1, z.2.mono s⟩
def mxe (K : PySem.W.Frag) (fs : Option (List (Str × D))) (d : Option Addr) : MX where
  rel F P := XdF K F P fs d
  mono := fun {F F' P P'} h s s' => by
    cases fs with
    | none => exact h
    | some fs =>
      obtain ⟨dx, fv, e, h1, h2⟩ := h
      exact ⟨dx, fv, e, h1.imp (s _ _) (s' _ _), h2.mono s⟩
/-- the fields are held still -/
theorem Gd.holdX {K : PySem.W.Frag} {F P H : Hp} {O : Ow} {fs : Option (List (Str × D))} {dd : Option Addr} (g : Gd MT K F O P H) (x : XdOk K F H fs dd) : ∃ F', Same F F' ∧ Gd (mxe K fs dd) K F' O P H := by
  cases fs with
  | none => exact ⟨F, Same.refl _, g.re x⟩
  | some fs =>
    obtain ⟨dx, fv, rfl, h1, h2⟩ := x
    cases e : F dx with
    | some o =>
      have z := g.fz _ _ e
      rw [h1] at z
      cases z
      exact ⟨F, Same.refl _, g.re ⟨dx, fv, rfl, .inl e, h2⟩⟩
    | none =>
      cases hP : P dx with
      | some o =>
        have z := (g.as _ _ hP).2
        rw [h1] at z
        cases z
        exact ⟨F, Same.refl _, g.re ⟨dx, fv, rfl, .inr hP, h2⟩⟩
      | none =>
      have s : Same F (upd F dx (.xd fv)) := same_upd e
      refine ⟨_, s, ⟨fun b y q => ?_, fun a c q => ?_, fun a o q => ?_, ⟨dx, fv, rfl, .inl upd_same, h2.mono s⟩⟩⟩
      · by_cases z : b = dx
        · subst z; rw [upd_same] at q; cases q; exact h1
        · rw [upd_ne z] at q; exact g.fz b y q
      · obtain ⟨k1, k2, k3⟩ := g.ow a c q
        have z : a ≠ dx := fun z => by
          subst z
          cases c with
          | lst ds => obtain ⟨vs, k3, _⟩ := k3; rw [h1] at k3; cases k3
          | pool => obtain ⟨x, y, k3, _⟩ := k3; rw [h1] at k3; cases k3
          | dic kvs => obtain ⟨vs, k3, _⟩ := k3; rw [h1] at k3; cases k3
          | dicL kvs o => obtain ⟨k3, od, vs, e1, _⟩ := k3; rw [h1, e1] at k3; cases k3
        exact ⟨(upd_ne z).trans k1, k2, k3.mono s rfl⟩
      · have z : a ≠ dx := fun z => by rw [z, hP] at q; cases q
        obtain ⟨k1, k2⟩ := g.as a o q
        exact ⟨(upd_ne z).trans k1, k2⟩
end Kf
namespace Kf
open PySem PySem.Spec L2
open PyProof.Rows hiding St
variable {M : MX}

def liftSW (K : PySem.W.Frag) (W : WX) (g : XW → GS) : TS := fun D σ H => ∃ RX, liftS (mxw K RX W) K (g RX) D σ H
def liftSE (K : PySem.W.Frag) (g : Option (List (Str × D)) → GS) (d : Option Addr) : TS := fun D σ H => ∃ fs, liftS (mxe K fs d) K (g fs) D σ H
theorem PostS.re {M' : MX} {K : PySem.W.Frag} {F P H : Hp} {O : Ow} {R : DEnds} {D : Ends} (po : PostS M K F P R D) (g : Gd M K F O P H) : PostS M' K F P R D :=
  ⟨fun ρ O' F' H' σ q s g' en => po.nx ρ O' F' H' σ q s (g'.re (M.mono g.rl s (Same.refl _))) en, fun d O' F' H' v q s g' r => po.rt d O' F' H' v q s (g'.re (M.mono g.rl s (Same.refl _))) r,
    fun ρ O' F' H' σ q s g' en => po.bk ρ O' F' H' σ q s (g'.re (M.mono g.rl s (Same.refl _))) en, fun ρ O' F' H' σ q s g' en => po.ct ρ O' F' H' σ q s (g'.re (M.mono g.rl s (Same.refl _))) en⟩
/-- what is wished outside -/
def Outs (M : MX) (K : PySem.W.Frag) (RXo : XW) (Wo : WX) : Prop := ∀ F O P H cls fs ρ dd σ, Gd M K F O P H → RXo cls fs ρ O → XdOk K F H fs dd → EnvOk K F ρ σ → Wo cls dd σ H
theorem outs0 {K : PySem.W.Frag} : Outs M K RX0 (fun _ _ _ _ => False) := fun _ _ _ _ _ _ _ _ _ _ z _ _ => z
theorem outsX {K : PySem.W.Frag} {RX : XW} {W : WX} : Outs (mxw K RX W) K RX W := fun _ _ _ _ _ _ _ _ _ g q x en => g.wish q x en
section
variable {X : Cx} {x n : Str} {c : Value} {i : Nat} {body suite : List Stmt} {b₀ : Stmt} {np pos pos' : Pos} {gb : XW → GS} {gs : Addr → Value → Option (List (Str × D)) → GS} {RXo : XW} {Wo : WX}
theorem pss_sw {W : WX} (h : ∀ RX, DSs (mxw X.K RX W) X body (gb RX)) : PSs X body (liftSW X.K W gb) := ⟨fun pins s σ H D I ⟨RX, q⟩ => (h RX).run pins s σ H D I q⟩
theorem pss_se {d : Option Addr} {g : Option (List (Str × D)) → GS} (h : ∀ fs, DSs (mxe X.K fs d) X body (g fs)) : PSs X body (liftSE X.K g d) := ⟨fun pins s σ H D I ⟨fs, q⟩ => (h fs).run pins s σ H D I q⟩
/-- the ends with slot i empty -/
def endsNo (i : Nat) (R : DEnds) : DEnds := { nx := fun ρ O => R.nx (ρ.set i none) O, rt := R.rt, bk := fun ρ O => R.bk (ρ.set i none) O, ct := fun ρ O => R.ct (ρ.set i none) O }
def xAs (K : PySem.W.Frag) (c : Value) (i : Nat) (gs : Addr → Value → Option (List (Str × D)) → GS) (RXo : XW) (R : DEnds) : XW := fun cls fs ρ O => ∃ b, PySem.W.exmOne K cls c = some b ∧
  (b = true → ∀ a, O a = none → gs a cls fs (endsNo i R) (ρ.set i (some (.ref a))) O) ∧ (b = false → RXo cls fs ρ O)
def xOnly (K : PySem.W.Frag) (c : Value) (gs : Addr → Value → Option (List (Str × D)) → GS) (RXo : XW) (R : DEnds) : XW := fun cls fs ρ O => ∃ b, PySem.W.exmOne K cls c = some b ∧
  (b = true → ∀ a, O a = none → gs a cls fs R ρ O) ∧ (b = false → RXo cls fs ρ O)
/-- try: .. except C as n: .. -/
def gTryAs (K : PySem.W.Frag) (c : Value) (i : Nat) (gb : XW → GS) (gs : Addr → Value → Option (List (Str × D)) → GS) (RXo : XW) : GS := fun R ρ O => gb (xAs K c i gs RXo R) R ρ O
/-- try: .. except C: .. -/
def gTry (K : PySem.W.Frag) (c : Value) (gb : XW → GS) (gs : Addr → Value → Option (List (Str × D)) → GS) (RXo : XW) : GS := fun R ρ O => gb (xOnly K c gs RXo R) R ρ O
theorem ds_try_as (hN : X.N.Nodup) (hi : X.N[i]? = some n) (hln : X.env.kindOf n = some .local) (hc : Names X x c) (tk : Takes X Wo) (ho : Outs M X.K RXo Wo)
    (hb : ∀ (RX : XW) (W : WX) (pn : List (Addr × Obj)) (xe : Value → Shared → Prop), Takes (X.tr pn xe) W → PassesOwn (model X.prog X.w) X.A X.env xe → DSs (mxw X.K RX W) (X.tr pn xe) body (gb RX))
    (hsu : ∀ (fs : Option (List (Str × D))) (a : Addr) (oe : Obj) (cls : Value) (d : Option Addr) (pn : List (Addr × Obj)), Zc cls d oe → (∃ vs, oe.data = .fields vs) → DSs (mxe X.K fs d) (X.suite a ((a, oe) :: pn)) (b₀ :: suite) (gs a cls fs))
    (hs : X.stack = X.env :: X.outer := by rfl) (hf : X.env.frame = some X.env.locals := by rfl) :
    DS M X (.Try body [.ExceptHandler (some (.Name x np)) (some n) (b₀ :: suite) pos'] [] [] pos) (gTryAs X.K c i gb gs RXo) :=
  psMono (ps_try_as (tb := fun W => liftSW X.K W gb) (ts := fun a cls d => liftSE X.K (gs a cls) d) hs hf hN hi hln hc tk (fun W pn xe tk' ps => pss_sw (X := X.tr pn xe) fun RX => hb RX W pn xe tk' ps)
    (fun a oe cls d pn hz hf' => pss_se (X := X.suite a ((a, oe) :: pn)) fun fs => hsu fs a oe cls d pn hz hf')) fun D σ H h => by
  obtain ⟨F, O, P, ρ, R, g, en, q, po⟩ := h
  refine ⟨_, F, O, P, ρ, R, g.re ⟨P, Same.refl _, fun cls fs ρ' O' F' H' dd σ' q1 s1 g1 xd en1 => ?_⟩, en, q, po.re g⟩
  obtain ⟨b, hb1, hb2, hb3⟩ := q1
  refine ⟨b, hb1, fun hbt a ha => ?_, fun hbf => ho F' O' P H' cls fs ρ' dd σ' (g1.re (M.mono g.rl s1 (Same.refl _))) (hb3 hbf) xd en1⟩
  have z := hb2 hbt a (g1.freeO ha)
  obtain ⟨F2, s2, g2⟩ := g1.holdX xd
  refine ⟨fs, F2, O', P, ρ'.set i (some (.ref a)), _, g2, (en1.mono s2).set (by simp only [Rep]) i, z, ⟨fun ρ3 O3 F3 H3 σ3 q3 s3 g3 en3 => ?_, fun d3 O3 F3 H3 v3 q3 s3 g3 r3 => ?_, fun ρ3 O3 F3 H3 σ3 q3 s3 g3 en3 => ?_, fun ρ3 O3 F3 H3 σ3 q3 s3 g3 en3 => ?_⟩⟩
  · exact po.nx _ O3 F3 H3 _ q3 (s1.trans (s2.trans s3)) (g3.re (M.mono g.rl (s1.trans (s2.trans s3)) (Same.refl _))) (en3.wipe i)
  · exact po.rt _ O3 F3 H3 _ q3 (s1.trans (s2.trans s3)) (g3.re (M.mono g.rl (s1.trans (s2.trans s3)) (Same.refl _))) r3
  · exact po.bk _ O3 F3 H3 _ q3 (s1.trans (s2.trans s3)) (g3.re (M.mono g.rl (s1.trans (s2.trans s3)) (Same.refl _))) (en3.wipe i)
  · exact po.ct _ O3 F3 H3 _ q3 (s1.trans (s2.trans s3)) (g3.re (M.mono g.rl (s1.trans (s2.trans s3)) (Same.refl _))) (en3.wipe i)
theorem ds_try (hc : Names X x c) (tk : Takes X Wo) (ho : Outs M X.K RXo Wo)
    (hb : ∀ (RX : XW) (W : WX) (pn : List (Addr × Obj)) (xe : Value → Shared → Prop), Takes (X.tr pn xe) W → PassesOwn (model X.prog X.w) X.A X.env xe → DSs (mxw X.K RX W) (X.tr pn xe) body (gb RX))
    (hsu : ∀ (fs : Option (List (Str × D))) (a : Addr) (oe : Obj) (cls : Value) (d : Option Addr) (pn : List (Addr × Obj)), Zc cls d oe → (∃ vs, oe.data = .fields vs) → DSs (mxe X.K fs d) (X.suite a ((a, oe) :: pn)) (b₀ :: suite) (gs a cls fs))
    (hs : X.stack = X.env :: X.outer := by rfl) (hf : X.env.frame = some X.env.locals := by rfl) :
    DS M X (.Try body [.ExceptHandler (some (.Name x np)) none (b₀ :: suite) pos'] [] [] pos) (gTry X.K c gb gs RXo) :=
  psMono (ps_try_only (tb := fun W => liftSW X.K W gb) (ts := fun a cls d => liftSE X.K (gs a cls) d) hs hf hc tk (fun W pn xe tk' ps => pss_sw (X := X.tr pn xe) fun RX => hb RX W pn xe tk' ps)
    (fun a oe cls d pn hz hf' => pss_se (X := X.suite a ((a, oe) :: pn)) fun fs => hsu fs a oe cls d pn hz hf')) fun D σ H h => by
  obtain ⟨F, O, P, ρ, R, g, en, q, po⟩ := h
  refine ⟨_, F, O, P, ρ, R, g.re ⟨P, Same.refl _, fun cls fs ρ' O' F' H' dd σ' q1 s1 g1 xd en1 => ?_⟩, en, q, po.re g⟩
  obtain ⟨b, hb1, hb2, hb3⟩ := q1
  refine ⟨b, hb1, fun hbt a ha => ?_, fun hbf => ho F' O' P H' cls fs ρ' dd σ' (g1.re (M.mono g.rl s1 (Same.refl _))) (hb3 hbf) xd en1⟩
  have z := hb2 hbt a (g1.freeO ha)
  obtain ⟨F2, s2, g2⟩ := g1.holdX xd
  refine ⟨fs, F2, O', P, ρ', R, g2, en1.mono s2, z, ⟨fun ρ3 O3 F3 H3 σ3 q3 s3 g3 en3 => ?_, fun d3 O3 F3 H3 v3 q3 s3 g3 r3 => ?_, fun ρ3 O3 F3 H3 σ3 q3 s3 g3 en3 => ?_, fun ρ3 O3 F3 H3 σ3 q3 s3 g3 en3 => ?_⟩⟩
  · exact po.nx _ O3 F3 H3 _ q3 (s1.trans (s2.trans s3)) (g3.re (M.mono g.rl (s1.trans (s2.trans s3)) (Same.refl _))) en3
  · exact po.rt _ O3 F3 H3 _ q3 (s1.trans (s2.trans s3)) (g3.re (M.mono g.rl (s1.trans (s2.trans s3)) (Same.refl _))) r3
  · exact po.bk _ O3 F3 H3 _ q3 (s1.trans (s2.trans s3)) (g3.re (M.mono g.rl (s1.trans (s2.trans s3)) (Same.refl _))) en3
  · exact po.ct _ O3 F3 H3 _ q3 (s1.trans (s2.trans s3)) (g3.re (M.mono g.rl (s1.trans (s2.trans s3)) (Same.refl _))) en3
end
/-! ### isinstance of the exception that a suite holds -/
def clsD : D → Value → Prop
  | .ref C, v => v = .ref C
  | .ty n, v => v = .type n
  | _, _ => False
theorem clsD.uniq {K : PySem.W.Frag} {F : Hp} {d : D} {cv u : Value} {v : V} (h : clsD d cv) (r : Rep K F d v) (rv : RelV v u) : u = cv := by
  unfold clsD at h
  split at h
  · simp only [Rep] at r; subst r; subst h; exact rv
  · simp only [Rep] at r; subst r; subst h; exact rv
  · exact h.elim
theorem clsDs {K : PySem.W.Frag} {F : Hp} : ∀ {ds : List D} {cs us : List Value} {vs : List V}, Paired clsD ds cs → RepAll K F ds vs → Vals vs us → us = cs
  | [], _, us, vs, .nil, r, rv => by simp only [RepAll] at r; subst r; cases rv; rfl
  | d :: ds, _, us, vs, .cons h t, r, rv => by
    simp only [RepAll] at r
    obtain ⟨v, w, rfl, r1, r2⟩ := r
    cases rv with
    | cons a b => rw [h.uniq r1 a, clsDs t r2 b]
def rIsED (K : PySem.W.Frag) (a : Addr) (cls : Value) (fs : Option (List (Str × D))) : RAD := fun ds O Q => match ds with
  | [.ref b, .tup cs] => b = a ∧ fs = none ∧ ∃ C us bb, cls = .ref C ∧ ExcC K C ∧ Paired clsD cs us ∧ PySem.W.kitAny K (.ref C) us = some bb ∧ Q (.bl bb) O
  | [.ref b, c] => b = a ∧ fs = none ∧ ∃ C cv bb, cls = .ref C ∧ ExcC K C ∧ clsD c cv ∧ PySem.W.kitOne K (.ref C) cv = some bb ∧ Q (.bl bb) O
  | _ => False
theorem cd_isE {X : Cx} {a : Addr} {oe : Obj} {cls : Value} {d : Option Addr} {fs : Option (List (Str × D))} {pn : List (Addr × Obj)} (hz : Zc cls d oe) (hf : ∃ vs, oe.data = .fields vs) :
    CallD (mxe X.K fs d) (X.suite a ((a, oe) :: pn)) (.builtin "isinstance") (rIsED X.K a cls fs) := by
  intro pins s σ H xs us Q I r h
  obtain ⟨F, O, P, ds, R, g, rr, q, po⟩ := h
  unfold rIsED at q
  split at q
  · rename_i b cs
    obtain ⟨rfl, rfl, C, us', bb, rfl, hC, hp, e, q⟩ := q
    have hd : d = none := g.rl
    subst hd
    obtain ⟨v, w, rfl, r1, r2⟩ := rr.two'
    simp only [Rep] at r1 r2
    subst r1
    obtain ⟨tp, vs, rfl, ht, rs⟩ := r2
    obtain ⟨its, rv, hit, _⟩ := I.tuple (Same.seqT g.fz ht)
    have eu := clsDs hp rs rv
    subst eu
    cases r with
    | cons ra rb =>
      cases rb with
      | cons rb rc =>
        cases rc
        cases ra
        cases rb
        obtain ⟨hget, _⟩ := I.pin (b, oe) (List.mem_append.mpr (.inl List.mem_cons_self))
        obtain ⟨vs, hv⟩ := hf
        have J : PySem.W.InstAt s.heap b oe C none := by
          obtain ⟨oc, od, oda, osl⟩ := oe
          obtain ⟨h1, h2⟩ := hz
          dsimp only at h1 h2 hv
          subst h1 h2 hv
          exact ⟨hget, rfl, rfl, trivial⟩
        obtain ⟨dd, n, sl, hit⟩ : ∃ dd n sl, s.heap.get? tp = some ⟨.type "tuple", dd, .seq its.toArray n, sl⟩ := by
          obtain ⟨⟨oc, od, oda, osl⟩, h1, h2, n, h3⟩ := hit
          dsimp only at h2 h3
          subst h2 h3
          exact ⟨od, n, osl, h1⟩
        exact PySem.W.kia_tup (PySem.W.handS_kitx_exc hC.hg hC.hk hC.hs hC.hd hC.ha hC.hn hC.ht hC.hm) I.kIn J hit e (fun z => nomatch z) fun tk => ⟨.bl bb, H, I.kept (t' := tk) fun _ _ z => z, rfl, po.at g q (by simp only [Rep])⟩
  · rename_i b c _
    obtain ⟨rfl, rfl, C, cv, bb, rfl, hC, hcv, e, q⟩ := q
    have hd : d = none := g.rl
    subst hd
    obtain ⟨v, w, rfl, r1, r2⟩ := rr.two'
    simp only [Rep] at r1
    subst r1
    exact call_isE hC hz hf pins s σ H _ us Q I r ⟨w, cv, bb, rfl, fun u ru => hcv.uniq r2 ru, e, po.at g q (by simp only [Rep])⟩
  · exact q.elim
end Kf
namespace Kf
open PySem PySem.Spec L2
open PyProof.Rows hiding St
/-- an own class of exceptions, as it is named -/
structure Cl (K : PySem.W.Frag) (mg : Str → Option Value) (x : Str) (C : Addr) : Prop where
  g : mg x = some (.ref C)
  sb : PySem.W.subIn K (.ref C) (.type "BaseException") = some true
  hd : PySem.W.hasDictIn K C = true
  ty : PySem.W.typeIn K (.ref C) = some (.type "type")
  sf : PySem.W.subIn K (.ref C) (.ref C) = some true
section
variable {K : PySem.W.Frag} {mg : Str → Option Value} {x : Str} {C D : Addr} {cls : Value} {b : Bool}
theorem cst_cls (c : Cl K mg x C) : Cst K mg x (.ref C) := ⟨_, .ref C, c.g, rfl, fun _ => by simp only [Rep]⟩
theorem Cl.exm (c : Cl K mg x C) (h : PySem.W.subIn K cls (.ref C) = some b) : PySem.W.exmOne K cls (.ref C) = some b := PySem.W.exm_ref c.sb c.hd c.ty h
theorem Cl.kit (c : Cl K mg x C) (h : PySem.W.subIn K (.ref D) (.ref C) = some b) : PySem.W.kitOne K (.ref D) (.ref C) = some b := by
  unfold PySem.W.kitOne
  by_cases e : D = C
  · subst e
    rw [c.sf] at h
    cases h
    rw [if_pos (by simp)]
  · rw [if_neg (by simpa using e)]
    obtain ⟨cd, hc, _⟩ := PySem.W.any_some c.hd
    have e2 : ((PySem.W.clsIn K C).isSome && PySem.W.typeIn K (.ref C) == some (.type "type")) = true := by rw [hc, c.ty] <;> rfl
    show (if ((PySem.W.clsIn K C).isSome && PySem.W.typeIn K (.ref C) == some (.type "type")) = true then PySem.W.subIn K (.ref D) (.ref C) else none) = some b
    rw [if_pos e2, h]
theorem kit_VE (h : PySem.W.subIn K (.ref D) (.type "ValueError") = some b) : PySem.W.kitOne K (.ref D) (.type "ValueError") = some b := by
  unfold PySem.W.kitOne
  rw [if_neg (by simp)]
  show (if PySem.W.kitMeta "ValueError" = true then PySem.W.subIn K (.ref D) (.type "ValueError") else none) = some b
  rw [if_pos (by decide +kernel), h]
theorem kitAny_no (h : ∀ c ∈ cs, PySem.W.kitOne K cls c = some false) : PySem.W.kitAny K cls cs = some false := by
  induction cs with
  | nil => rfl
  | cons c r ih =>
    unfold PySem.W.kitAny
    rw [h c List.mem_cons_self]
    exact ih fun c' hc => h c' (List.mem_cons_of_mem _ hc)
end
theorem bb_ValueError : bootBuiltins "ValueError" = some (.type "ValueError") := by decide +kernel
end Kf
namespace Kf
open PySem PySem.Spec L2
open PyProof.Rows hiding St
variable {M : MX}
section
variable {X : Cx} {e : Expr} {es : List Expr} {fr : FA} {k : Nat} {f : Addr} {fd : FuncData} {ps : List Str} {dsp : DSp} {x : Str} {st : Stmt} {p pos : Pos}
/-- a call that could raise, but does not here -/
theorem de_callX0 (N : Fn X.K X.mg x st ps f fd) (G : FnOk X.prog X.w X.K X.mg X.base (L2.CX X.prog X.w) k f fd ps (liftSp X.K dsp)) (hr : Room k X.A) (hg : Gl X x)
    (ha : DA M X (e :: es) fr) (hdb : (x == ("__debug__" : Str)) = false := by decide) (he : starEach (e :: es) X.env = (false, eval e X.env) :: starEach es X.env := by rfl) (hpl : (backTo pos (starEach es X.env)).any (·.1) = false := by rfl) :
    DE M X (.Call (.Name x p) (e :: es) [] pos) (fCallX dsp RX0 fr) := peMono (pe_callS (E := WE fun _ _ _ _ => False) G hr hg N.m N.F.kp N.b (fun σ => passAt takes0 σ) ha hdb he hpl) fun σ H Q h => by
  obtain ⟨F, O, P, ρ, R, g, en, q, po⟩ := h
  refine ⟨F, O, P, ρ, _, g, en, q, fun ds O1 F1 H1 vs q1 s1 g1 r1 => ?_⟩
  exact ⟨F1, O1, P, ds, R, _, g1.mt, r1, q1, po.mt g1 s1, fun cls fs O' F' H' dd q2 s2 g2 xd => q2⟩
end
/-! ### text * 0, text * 1 -/
section
variable {X : Cx}
def rMulSD : R2D := fun x y O Q => match x, y with
  | .str a, .int n => (n = 0 ∧ Q (.str "") O) ∨ (n = 1 ∧ Q (.str a) O)
  | _, _ => False
theorem op_mulS : OpR X (binaryOp .Mult) (fun x y H Q => ∃ a n, x = .str a ∧ y = .int n ∧ ((n = 0 ∧ Q (.str "") H) ∨ (n = 1 ∧ Q (.str a) H))) := by
  intro pins s σ H x y v u Q I rx ry h
  obtain ⟨a, n, rfl, rfl, h⟩ := h
  obtain ⟨t, rfl⟩ := rx
  obtain ⟨t2, rfl⟩ := ry
  rcases h with ⟨rfl, q⟩ | ⟨rfl, q⟩
  · exact PySem.P.mul_str_none (by decide) (by decide) ⟨.str "", H, I.kept (t' := s.toks + 1) fun _ _ z => z, ⟨_, rfl⟩, q⟩
  · refine PySem.P.mul_str (by decide) (fun _ h => by simp at h) (fun _ h => by simp at h) ?_
    exact ⟨.str a, H, I, ⟨_, rfl⟩, q⟩
theorem od_mulS : OpD M X (binaryOp .Mult) rMulSD := by
  refine opD_of fun pins s σ F P H O x y dx dy v u R Q I rx ry gd r1 r2 q po => ?_
  unfold rMulSD at q
  split at q
  · rename_i a n
    simp only [Rep] at r1 r2
    refine ⟨_, op_mulS, a, n, r1, r2, ?_⟩
    exact q.imp (fun h => ⟨h.1, po.at gd h.2 (by simp only [Rep])⟩) (fun h => ⟨h.1, po.at gd h.2 (by simp only [Rep])⟩)
  · exact q.elim
end
end Kf
namespace Kf
open PySem PySem.Spec L2
open PyProof.Rows hiding St
variable {M : MX}
/-! ### xs[::-1] -/
section
variable {X : Cx} {e st : Expr} {fa : FE} {te : TE} {tst : TO} {fs : FO} {pos p2 : Pos}
theorem pe_sliceRev (he : PE X e te) (hs : PO X (some st) tst) : PE X (.Subscript e (.Slice none none (some st) p2) pos) (fun σ H Q => te σ H fun x H1 => tst σ H1 fun o H2 => o = some (-1) ∧ ∃ a xs, x = .ref a ∧ SqL X.K H2 a xs ∧ ∀ p, H2 p = none → Q (.ref p) (upd H2 p (.lst xs.reverse))) := by
  refine ⟨fun pins s σ H Q I h => ?_⟩
  refine Subscript_ (thn (he.run pins s σ H _ I h) fun v s1 ⟨x, H1, I1, r1, q1⟩ => ?_)
  refine wpAny_Slice ?_
  rw [evalPart_none]
  refine wpAny_pure (wpAny_pure ?_)
  refine thn (hs.run pins s1 σ H1 _ I1 q1) fun vk s3 ⟨o, H3, I3, pk, q3⟩ => ?_
  obtain ⟨rfl, a, xs, rfl, hx, q⟩ := q3
  cases r1
  have I4 : Inv X pins σ H3 { s3 with heap := s3.heap.push { cls := .type "slice", data := .fields #[.none, .none, vk] } } := I3.kept (t' := s3.toks) fun b ob q => Heap.get?_push_of_some _ q
  obtain ⟨its, r, ht, hz⟩ := I4.list hx
  have hlen := r.length
  refine tail_any (ops := [.ref a, .ref s3.heap.objs.size]) ht.isList.typeIs slot_list_getitem.lookup ?_ (by with_unfolding_all rfl)
  refine wpAny_getItem_list_slice ht.isList (Heap.IsSliceOf.new ..) .none .none pk (by decide) ?_ (by rw [List.size_toArray] <;> omega)
  rw [PySem.W.krv_pick]
  refine ⟨.ref _, _, I4.laid (t' := s3.toks) (o := .lst xs.reverse) (fun b ob q => Heap.get?_push_of_some _ q) (Nat.le_refl _) ?_, rfl, q _ (I4.hok.fresh (Nat.le_refl _))⟩
  refine ⟨by rw [List.length_reverse]; omega, its.reverse, 0, r.reverse, Heap.get?_push_size _ rfl⟩
def rRevD (x : D) (o : Option Int) (O : Ow) (Q : VD) : Prop := o = some (-1) ∧ match deref O x with
  | .lst xs => Q (.lst xs.reverse) O
  | _ => False
def fRev (fa : FE) (fs : FO) : FE := fun ρ O Q => fa ρ O fun x O1 => fs ρ O1 fun o O2 => rRevD x o O2 Q
theorem de_rev (he : DE M X e fa) (hs : DO M X (some st) fs) : DE M X (.Subscript e (.Slice none none (some st) p2) pos) (fRev fa fs) := peMono (pe_sliceRev he hs) fun σ H Q h => by
  obtain ⟨F, O, P, ρ, R, g, en, q, po⟩ := h
  refine ⟨F, O, P, ρ, _, g, en, q, fun x O1 F1 H1 v q1 s1 g1 r1 => ?_⟩
  refine ⟨F1, O1, P, ρ, _, g1, en.mono s1, q1, fun o O2 F2 H2 q2 s2 g2 => ?_⟩
  obtain ⟨e, q2⟩ := q2
  refine ⟨e, ?_⟩
  have r2 := r1.mono s2
  have h := g2.deref r2
  revert h q2
  generalize Kf.deref O2 x = y
  intro q2 h
  cases y <;> first | exact q2.elim | skip
  rename_i ds
  obtain ⟨a, xs, rfl, h1, h2⟩ := h
  exact ⟨a, xs, rfl, SqL.of h1, fun p hp => (po.more (s1.trans s2)).lst g2 q2 h2.reverse hp⟩
theorem rRev_l {xs : List D} {O : Ow} {Q : VD} : rRevD (.lst xs) (some (-1)) O Q = Q (.lst xs.reverse) O := by simp [rRevD, deref]
theorem rRev_r {xs : List D} {O : Ow} {Q : VD} {p : Addr} (h : O p = some (.lst xs)) : rRevD (.ref p) (some (-1)) O Q = Q (.lst xs.reverse) O := by simp [rRevD, deref, h]
end
/-! ### reversed(range(n)) -/
section
variable {X : Cx} {tg a : Expr} {fa : FE} {p p2 pos pos2 : Pos}
def asIR (d : D) (O : Ow) (Q : List D → Ow → Prop) : Prop := match d with
  | .int n => -(2 ^ 62) ≤ n ∧ n < 2 ^ 62 ∧ Q (rangeD 0 n.toNat).reverse O
  | _ => False
def fiRevR (fa : FE) : FI := fun ρ O Q => fa ρ O fun d O1 => asIR d O1 Q
theorem itOk_revR {K : PySem.W.Frag} {F : Hp} (n : Nat) : ItOk M K F (Itc ((n : Int) - 1) (-1) n) (rangeD 0 n).reverse := fun F2 O2 P2 H2 s2 g2 i => by
  refine ⟨fun d e => ?_, fun hi => ?_⟩
  · have hl : i < (rangeD 0 n).length := by
      obtain ⟨h, _⟩ := List.getElem?_eq_some_iff.mp e
      simpa using h
    rw [List.getElem?_reverse hl] at e
    rw [rangeD_length] at hl e
    obtain ⟨_, rfl⟩ := rangeD_get e
    refine ⟨hl, fun x H3 hy => ?_⟩
    obtain ⟨rfl, rfl⟩ := hy
    refine ⟨F2, Same.refl _, g2, ?_⟩
    simp only [Rep]
    congr 1
    omega
  · rw [List.length_reverse, rangeD_length] at hi
    exact hi
theorem di_revR (hg : Gl X "reversed") (hm : X.mg "reversed" = none) (hg2 : Gl X "range") (hm2 : X.mg "range" = none) (ha : DE M X a fa)
    (hs : starEach [.Call (.Name "range" p2) [a] [] pos2] X.env = (false, eval (.Call (.Name "range" p2) [a] [] pos2) X.env) :: starEach [] X.env := by rfl) (na : starEach [a] X.env = (false, eval a X.env) :: starEach [] X.env := by rfl) :
    DI M X tg (.Call (.Name "reversed" p) [.Call (.Name "range" p2) [a] [] pos2] [] pos) (fiRevR fa) := piMono (pi_revR hg hm (prg_1 hg2 hm2 ha na) hs) fun σ H Q h => by
  obtain ⟨F, O, P, ρ, R, g, en, q, po⟩ := h
  refine ⟨F, O, P, ρ, _, g, en, q, fun d O1 F1 H1 v q1 s1 g1 r1 => ?_⟩
  unfold asIR at q1
  split at q1
  · rename_i n
    simp only [Rep] at r1
    refine ⟨n, r1, by decide, by decide, q1.1, q1.2.1, po _ O1 F1 H1 _ q1.2.2 s1 g1 ?_⟩
    have e1 : (n - 0).toNat = n.toNat := by rw [Int.sub_zero]
    have e2 : (0 : Int) + ((n - 0).toNat : Nat) - 1 = ((n.toNat : Nat) : Int) - 1 := by rw [e1]; omega
    rw [e2, e1]
    exact itOk_revR _
  · exact q1.elim
theorem asIR_i {n : Int} {O : Ow} {Q : List D → Ow → Prop} : asIR (.int n) O Q = (-(2 ^ 62) ≤ n ∧ n < 2 ^ 62 ∧ Q (rangeD 0 n.toNat).reverse O) := rfl
end
/-! ### sorted, of texts -/
section
variable {X : Cx}
def rSortD : RAD := fun ds O Q => match ds with
  | [x] => match deref O x with
    | .lst xs => match asStrs xs with
      | some ts => ts.length < 64 ∧ ∀ ys : List Str, ys.Perm ts → sortedS ys = true → Q (.lst (ys.map .str)) O
      | none => False
    | _ => False
  | _ => False
theorem cd_sorted : CallD M X (.builtin "sorted") rSortD := by
  refine callD_of fun F P H O xs ds R Q g r q po => ?_
  unfold rSortD at q
  split at q <;> first | exact q.elim | skip
  rename_i x
  obtain ⟨v, rfl, r1⟩ := r.one'
  have h := g.deref r1
  revert h q
  generalize Kf.deref O x = y
  intro q h
  cases y <;> first | exact q.elim | skip
  rename_i ds
  dsimp only at q
  split at q
  · rename_i ts e
    have e2 := of_asStrs e
    subst e2
    obtain ⟨a, vs, rfl, h1, h2⟩ := h
    have e3 := h2.strs
    subst e3
    exact ⟨_, cr_sortedS, a, ts, rfl, SqL.of h1, q.1, fun ys p hp hs hn => po.lst g (q.2 ys hp hs) .of_strs hn⟩
  · exact q.elim
theorem rSort_l {ts : List Str} {O : Ow} {Q : VD} : rSortD [.lst (ts.map .str)] O Q = (ts.length < 64 ∧ ∀ ys : List Str, ys.Perm ts → sortedS ys = true → Q (.lst (ys.map .str)) O) := by simp only [rSortD, deref, asStrs_map]
theorem rSort_r {ts : List Str} {O : Ow} {Q : VD} {p : Addr} (h : O p = some (.lst (ts.map .str))) : rSortD [.ref p] O Q = (ts.length < 64 ∧ ∀ ys : List Str, ys.Perm ts → sortedS ys = true → Q (.lst (ys.map .str)) O) := by simp only [rSortD, deref, h, asStrs_map]
end
end Kf
namespace Kf
open PySem PySem.Spec L2
open PyProof.Rows hiding St
variable {M : MX}
section
variable {X : Cx} {pos : Pos}
/-- {} that never changes -/
def fEdic : FE := fun _ O Q => Q .edic O
theorem de_edic : DE M X (.Dict [] [] pos) fEdic := peMono pe_dnewK fun σ H Q h => by
  obtain ⟨F, O, P, ρ, R, g, en, q, po⟩ := h
  intro p hp
  have hF := g.freeF hp
  refine po .edic O (upd F p (.dK [])) _ _ q (same_upd hF) (g.new hp) ?_
  simp only [Rep]
  exact ⟨p, rfl, upd_same⟩
end
end Kf
namespace Kf
open PySem PySem.Spec L2
open PyProof.Rows hiding St
/-! ### the readings at their arguments -/
theorem ap_gSeq (g u : GS) {R : DEnds} {ρ : DEnv} {O : Ow} : gSeq g u R ρ O = (g { R with nx := u R } ρ O) := rfl
theorem ap_gIf (c : FT) (g u : GS) {R : DEnds} {ρ : DEnv} {O : Ow} : gIf c g u R ρ O = (c ρ O fun b O1 => if b = true then g R ρ O1 else u R ρ O1) := rfl
theorem ap_gRet (fe : FE) {R : DEnds} {ρ : DEnv} {O : Ow} : gRet fe R ρ O = (fe ρ O R.rt) := rfl
theorem ap_gNext  {R : DEnds} {ρ : DEnv} {O : Ow} : gNext  R ρ O = (R.nx ρ O) := rfl
theorem ap_gSet (fe : FE) (i : Nat) {R : DEnds} {ρ : DEnv} {O : Ow} : gSet fe i R ρ O = (fe ρ O fun d O1 => R.nx (ρ.set i (some d)) O1) := rfl
theorem ap_gAsg (fe : FE) (p : Pat) {R : DEnds} {ρ : DEnv} {O : Ow} : gAsg fe p R ρ O = (fe ρ O fun d O1 => patGet (patD p d ρ) fun ρ' => R.nx ρ' O1) := rfl
theorem ap_gDrop (fe : FE) {R : DEnds} {ρ : DEnv} {O : Ow} : gDrop fe R ρ O = (fe ρ O fun _ O1 => R.nx ρ O1) := rfl
theorem ap_gRetF (fe : FE) {R : DEnds} {ρ : DEnv} {O : Ow} : gRetF fe R ρ O = (fe ρ O fun d O1 => match d with
  | .ref a => match O1 a with
    | some (.lst ds) => R.rt (.lst ds) (delO O1 a)
    | _ => False
  | _ => False) := rfl
theorem ap_gRetN  {R : DEnds} {x1_ : DEnv} {O : Ow} : gRetN  R x1_ O = (R.rt .non O) := rfl
theorem ap_gFor (fi : FI) (p : Pat) (gb : GS) {R : DEnds} {ρ : DEnv} {O : Ow} : gFor fi p gb R ρ O = (fi ρ O fun ds O1 => forD p gb R ds ρ O1) := rfl
theorem ap_gSetIx (fo fi fe : FE) {R : DEnds} {ρ : DEnv} {O : Ow} : gSetIx fo fi fe R ρ O = (fe ρ O fun d O1 => fo ρ O1 fun x O2 => fi ρ O2 fun y O3 => rSetD x y d O3 (R.nx ρ)) := rfl
theorem ap_gBreak  {R : DEnds} {ρ : DEnv} {O : Ow} : gBreak  R ρ O = (R.bk ρ O) := rfl
theorem ap_fRev (fa : FE) (fs : FO) {ρ : DEnv} {O : Ow} {Q : VD} : fRev fa fs ρ O Q = (fa ρ O fun x O1 => fs ρ O1 fun o O2 => rRevD x o O2 Q) := rfl
theorem ap_fiRevR (fa : FE) {ρ : DEnv} {O : Ow} {Q : (List D → Ow → Prop)} : fiRevR fa ρ O Q = (fa ρ O fun d O1 => asIR d O1 Q) := rfl
theorem ap_fCallX (dsp : DSp) (RX : XW) (fr : FA) {ρ : DEnv} {O : Ow} {Q : VD} : fCallX dsp RX fr ρ O Q = (fr ρ O fun ds O1 => dsp ds O1 Q fun cls fs O' => RX cls fs ρ O') := rfl
theorem ap_gRaise (RX : XW) (cls : Value) {x0_ : DEnds} {ρ : DEnv} {O : Ow} : gRaise RX cls x0_ ρ O = (RX cls none ρ O) := rfl
theorem ap_gTry (K : PySem.W.Frag) (c : Value) (gb : XW → GS) (gs : Addr → Value → Option (List (Str × D)) → GS) (RXo : XW) {R : DEnds} {ρ : DEnv} {O : Ow} : gTry K c gb gs RXo R ρ O = (gb (xOnly K c gs RXo R) R ρ O) := rfl
theorem ap_gTryAs (K : PySem.W.Frag) (c : Value) (i : Nat) (gb : XW → GS) (gs : Addr → Value → Option (List (Str × D)) → GS) (RXo : XW) {R : DEnds} {ρ : DEnv} {O : Ow} : gTryAs K c i gb gs RXo R ρ O = (gb (xAs K c i gs RXo R) R ρ O) := rfl
theorem ap_gNever  {x0_ : DEnds} {x1_ : DEnv} {x2_ : Ow} : gNever  x0_ x1_ x2_ = (False) := rfl
theorem ap_fEdic  {x0_ : DEnv} {O : Ow} {Q : VD} : fEdic  x0_ O Q = (Q .edic O) := rfl
theorem ap_fTest (f : FE) {ρ : DEnv} {O : Ow} {Q : (Bool → Ow → Prop)} : fTest f ρ O Q = (f ρ O fun d O1 => ∃ k, d = .bl k ∧ Q k O1) := rfl
theorem ap_fOp (r : R2D) (fa fb : FE) {ρ : DEnv} {O : Ow} {Q : VD} : fOp r fa fb ρ O Q = (fa ρ O fun x O1 => fb ρ O1 fun y O2 => r x y O2 Q) := rfl
theorem ap_fVar (i : Nat) {ρ : DEnv} {O : Ow} {Q : VD} : fVar i ρ O Q = (envGet ρ[i]? O Q) := rfl
theorem ap_fC (d : D) {x0_ : DEnv} {O : Ow} {Q : VD} : fC d x0_ O Q = (Q d O) := rfl
theorem ap_fCB (r : RAD) (fr : FA) {ρ : DEnv} {O : Ow} {Q : VD} : fCB r fr ρ O Q = (fr ρ O fun ds O1 => r ds O1 Q) := rfl
theorem ap_fCons (fa : FE) (fr : FA) {ρ : DEnv} {O : Ow} {Q : (List D → Ow → Prop)} : fCons fa fr ρ O Q = (fa ρ O fun x O1 => fr ρ O1 fun xs O2 => Q (x :: xs) O2) := rfl
theorem ap_fNil  {x0_ : DEnv} {O : Ow} {Q : (List D → Ow → Prop)} : fNil  x0_ O Q = (Q [] O) := rfl
theorem ap_fCall (dsp : DSp) (fr : FA) {ρ : DEnv} {O : Ow} {Q : VD} : fCall dsp fr ρ O Q = (fr ρ O fun ds O1 => dsp ds O1 Q X0) := rfl
theorem ap_fAnd (t u : FT) {ρ : DEnv} {O : Ow} {Q : (Bool → Ow → Prop)} : fAnd t u ρ O Q = (t ρ O fun c O1 => if c = true then u ρ O1 Q else Q false O1) := rfl
theorem ap_fOr (t u : FT) {ρ : DEnv} {O : Ow} {Q : (Bool → Ow → Prop)} : fOr t u ρ O Q = (t ρ O fun c O1 => if c = true then Q true O1 else u ρ O1 Q) := rfl
theorem ap_fNot (t : FT) {ρ : DEnv} {O : Ow} {Q : (Bool → Ow → Prop)} : fNot t ρ O Q = (t ρ O fun c O1 => Q (!c) O1) := rfl
theorem ap_fAndV (fa fb : FE) {ρ : DEnv} {O : Ow} {Q : VD} : fAndV fa fb ρ O Q = (fa ρ O fun x O1 => ∃ c, x = .bl c ∧ if c = true then fb ρ O1 Q else Q (.bl false) O1) := rfl
theorem ap_fOrV (fa fb : FE) {ρ : DEnv} {O : Ow} {Q : VD} : fOrV fa fb ρ O Q = (fa ρ O fun x O1 => ∃ c, x = .bl c ∧ if c = true then Q (.bl true) O1 else fb ρ O1 Q) := rfl
theorem ap_fNotV (fa : FE) {ρ : DEnv} {O : Ow} {Q : VD} : fNotV fa ρ O Q = (fa ρ O fun x O1 => ∃ c, x = .bl c ∧ Q (.bl (!c)) O1) := rfl
theorem ap_fIf (t : FT) (fa fb : FE) {ρ : DEnv} {O : Ow} {Q : VD} : fIf t fa fb ρ O Q = (t ρ O fun c O1 => if c = true then fa ρ O1 Q else fb ρ O1 Q) := rfl
theorem ap_fTup (fr : FA) {ρ : DEnv} {O : Ow} {Q : VD} : fTup fr ρ O Q = (fr ρ O fun xs O1 => xs.length ≤ sizeLine ∧ Q (.tup xs) O1) := rfl
theorem ap_fLst (fr : FA) {ρ : DEnv} {O : Ow} {Q : VD} : fLst fr ρ O Q = (fr ρ O fun xs O1 => xs.length ≤ sizeLine ∧ Q (.lst xs) O1) := rfl
theorem ap_fLstO (fr : FA) {ρ : DEnv} {O : Ow} {Q : VD} : fLstO fr ρ O Q = (fr ρ O fun xs O1 => xs.length ≤ sizeLine ∧ ∀ p, O1 p = none → Q (.ref p) (updO O1 p (.lst xs))) := rfl
theorem ap_fChain (r r' : R2D) (fa fb fc : FE) {ρ : DEnv} {O : Ow} {Q : VD} : fChain r r' fa fb fc ρ O Q = (fa ρ O fun x O1 => fb ρ O1 fun y O2 => r x y O2 fun z O3 => ∃ k, z = .bl k ∧ (if k = true then fc ρ O3 fun w O4 => r' y w O4 Q else Q (.bl false) O3)) := rfl
theorem ap_fUn (r : R1D) (f : FE) {ρ : DEnv} {O : Ow} {Q : VD} : fUn r f ρ O Q = (f ρ O fun x O1 => r x O1 Q) := rfl
theorem ap_fBM (T : String) (r : RMD) (fo : FE) (fr : FA) {ρ : DEnv} {O : Ow} {Q : VD} : fBM T r fo fr ρ O Q = (fo ρ O fun x O1 => tyOk T O1 x = true ∧ fr ρ O1 fun ds O2 => r x ds O2 Q) := rfl
theorem ap_fBM0 (T : String) (r : RMD) (fo : FE) {ρ : DEnv} {O : Ow} {Q : VD} : fBM0 T r fo ρ O Q = (fo ρ O fun x O1 => tyOk T O1 x = true ∧ r x [] O1 Q) := rfl
theorem ap_fPool (fr : FA) {ρ : DEnv} {O : Ow} {Q : VD} : fPool fr ρ O Q = (fr ρ O fun xs O1 => rPool xs O1 Q) := rfl
theorem ap_fSl (r : R3D) (fe : FE) (fl fh : FO) {ρ : DEnv} {O : Ow} {Q : VD} : fSl r fe fl fh ρ O Q = (fe ρ O fun x O1 => fl ρ O1 fun l O2 => fh ρ O2 fun u O3 => r x l u O3 Q) := rfl
theorem ap_fPart (f : FE) {ρ : DEnv} {O : Ow} {Q : (Option Int → Ow → Prop)} : fPart f ρ O Q = (f ρ O fun d O1 => asI d O1 Q) := rfl
theorem ap_fNoPart  {x0_ : DEnv} {O : Ow} {Q : (Option Int → Ow → Prop)} : fNoPart  x0_ O Q = (Q none O) := rfl
theorem ap_fiRng1 (fr : FA) {ρ : DEnv} {O : Ow} {Q : (List D → Ow → Prop)} : fiRng1 fr ρ O Q = (fr ρ O fun ds O1 => asR1 ds O1 fun i n O2 => Q (rangeD i n) O2) := rfl
theorem ap_fiRng2 (fr : FA) {ρ : DEnv} {O : Ow} {Q : (List D → Ow → Prop)} : fiRng2 fr ρ O Q = (fr ρ O fun ds O1 => asR2 ds O1 fun i n O2 => Q (rangeD i n) O2) := rfl
theorem ap_fiList (fl : FE) {ρ : DEnv} {O : Ow} {Q : (List D → Ow → Prop)} : fiList fl ρ O Q = (fl ρ O fun d O1 => asL d O1 Q) := rfl
theorem ap_fiTup (fl : FE) {ρ : DEnv} {O : Ow} {Q : (List D → Ow → Prop)} : fiTup fl ρ O Q = (fl ρ O fun d O1 => asT d O1 Q) := rfl
theorem ap_fiStr (fl : FE) {ρ : DEnv} {O : Ow} {Q : (List D → Ow → Prop)} : fiStr fl ρ O Q = (fl ρ O fun d O1 => asSg d O1 Q) := rfl
theorem ap_fiEnum (fr : FA) {ρ : DEnv} {O : Ow} {Q : (List D → Ow → Prop)} : fiEnum fr ρ O Q = (fr ρ O fun ds O1 => asL1 ds O1 fun ds O2 => Q (enumD ds) O2) := rfl
theorem ap_fiZip (fr : FA) {ρ : DEnv} {O : Ow} {Q : (List D → Ow → Prop)} : fiZip fr ρ O Q = (fr ρ O fun ds O1 => asL2 ds O1 fun ds es O2 => Q (zipD ds es) O2) := rfl
theorem ap_fiRev (fr : FA) {ρ : DEnv} {O : Ow} {Q : (List D → Ow → Prop)} : fiRev fr ρ O Q = (fr ρ O fun ds O1 => asL1 ds O1 fun ds O2 => Q ds.reverse O2) := rfl
theorem ap_fLc (fi : FI) (p : Pat) (ft : FT) (fe : FE) (vs : List Nat) {ρ : DEnv} {O : Ow} {Q : VD} : fLc fi p ft fe vs ρ O Q = (fi ρ O fun ds O1 => lcD p ft fe (wipeD ρ vs) ds [] O1 fun acc O2 => Q (.lst acc) O2) := rfl
theorem ap_fLcO (fi : FI) (p : Pat) (ft : FT) (fe : FE) (vs : List Nat) {ρ : DEnv} {O : Ow} {Q : VD} : fLcO fi p ft fe vs ρ O Q = (fi ρ O fun ds O1 => lcD p ft fe (wipeD ρ vs) ds [] O1 fun acc O2 => ∀ q, O2 q = none → Q (.ref q) (updO O2 q (.lst acc))) := rfl
theorem ap_fYes  {x0_ : DEnv} {O : Ow} {Q : (Bool → Ow → Prop)} : fYes  x0_ O Q = (Q true O) := rfl
theorem ap_gAug (i : Nat) (fe : FE) (r : R2D) {R : DEnds} {ρ : DEnv} {O : Ow} : gAug i fe r R ρ O = (match ρ[i]? with
  | some (some x) => fe ρ O fun y O1 => r x y O1 fun z O2 => R.nx (ρ.set i (some z)) O2
  | _ => False) := rfl
end Kf
/-! Dl15: owned dicts whose keys are whole numbers and texts. -/
namespace Kf
open PySem PySem.Spec L2
open PyProof.Rows hiding St
variable {M : MX}
/-! ### tables of data -/
def keyOf : D → Option Key
  | .int i => some (.inl i)
  | .str s => some (.inr s)
  | _ => none
def keyD : Key → D
  | .inl i => .int i
  | .inr s => .str s
theorem keyOf_rep {K : PySem.W.Frag} {F : Hp} {d : D} {v : V} {k : Key} (h : keyOf d = some k) (r : Rep K F d v) : v = kV k := by
  cases d <;> simp only [keyOf] at h <;> first | cases h; done | skip
  all_goals
    cases h
    simp only [Rep] at r
    subst r
    rfl
theorem keyD_rep {K : PySem.W.Frag} {F : Hp} (k : Key) : Rep K F (keyD k) (kV k) := by
  cases k <;> simp only [keyD, Rep, kV]
def valD (kvs : List (Key × D)) (k : Key) : Option D := (kvs.find? fun kv => decide (kv.1 = k)).map (·.2)
def putD (kvs : List (Key × D)) (k : Key) (d : D) : List (Key × D) :=
  if (kvs.any fun kv => decide (kv.1 = k)) = true then kvs.map (fun kv => if kv.1 = k then (kv.1, d) else kv) else kvs ++ [(k, d)]
section
variable {K : PySem.W.Frag} {F H P : Hp} {O : Ow} {kvs : List (Key × D)} {vs : List (Key × V)} {k : Key} {d : D} {v : V} {a : Addr}
theorem KvOk.val (h : KvOk K F kvs vs) : (∀ d, valD kvs k = some d → ∃ v, valV vs k = some v ∧ Rep K F d v) ∧ (valD kvs k = none → valV vs k = none) := by
  induction h with
  | nil => exact ⟨fun d e => by simp [valD] at e, fun _ => rfl⟩
  | @cons p q _ _ r t ih =>
    obtain ⟨r1, r2⟩ := r
    by_cases e : p.1 = k
    · have e2 : q.1 = k := r1 ▸ e
      refine ⟨fun d h => ?_, fun h => ?_⟩
      · simp [valD, List.find?_cons, e] at h
        subst h
        exact ⟨q.2, valV_pos e2, r2⟩
      · simp [valD, List.find?_cons, e] at h
    · have e2 : ¬ q.1 = k := fun z => e (r1.trans z)
      rw [valV_neg e2]
      have e3 : ∀ l : List (Key × D), valD (p :: l) k = valD l k := fun l => by simp [valD, List.find?_cons, e]
      rw [e3]
      exact ih
theorem KvOk.any (h : KvOk K F kvs vs) : (kvs.any fun kv => decide (kv.1 = k)) = (vs.any fun kv => decide (kv.1 = k)) := by
  induction h with
  | nil => rfl
  | cons r _ ih => rw [List.any_cons, List.any_cons, ih, r.1]
theorem KvOk.put (h : KvOk K F kvs vs) (r : Rep K F d v) : KvOk K F (putD kvs k d) (putK vs k v) := by
  unfold putD putK
  rw [h.any (k := k)]
  split
  · rename_i hh; clear hh
    induction h with
    | nil => exact .nil
    | @cons p q _ _ z t ih =>
      rw [List.map_cons, List.map_cons]
      refine .cons ?_ ih
      by_cases e : p.1 = k
      · rw [if_pos e, if_pos (z.1 ▸ e)]; exact ⟨z.1, r⟩
      · rw [if_neg e, if_neg (fun w => e (z.1.trans w))]; exact z
  · exact Paired.snoc h ⟨rfl, r⟩
theorem KvOk.keys (h : KvOk K F kvs vs) : vs.map (·.1) = kvs.map (·.1) := by
  induction h with
  | nil => rfl
  | cons r _ ih => rw [List.map_cons, List.map_cons, ih, r.1]
/-- what a dict holds, locked or not -/
def dicAt (O : Ow) (a : Addr) : Option (List (Key × D)) := match O a with
  | some (.dic kvs) => some kvs
  | some (.dicL kvs _) => some kvs
  | _ => none
theorem Gd.dic (g : Gd M K F O P H) (h : dicAt O a = some kvs) : ∃ vs, Rd H a (.dK vs) ∧ KvOk K F kvs vs := by
  unfold dicAt at h
  split at h <;> first | cases h; done | skip
  · rename_i e
    cases h
    obtain ⟨_, _, vs, h1, h2⟩ := g.ow a _ e
    exact ⟨vs, .inl h1, h2⟩
  · rename_i e
    cases h
    obtain ⟨_, _, h1, od, vs, rfl, h2⟩ := g.ow a _ e
    exact ⟨vs, .inr ⟨od, h1⟩, h2⟩
/-- what stands at a key -/
def rKey (x y : D) (O : Ow) (N : Option D → Prop) : Prop := match x, keyOf y with
  | .ref a, some k => match dicAt O a with
    | some kvs => N (valD kvs k)
    | none => False
  | _, _ => False
theorem Gd.key (g : Gd M K F O P H) {x y : D} {w : V} {N : Option D → Prop} (rx : Rep K F x v) (ry : Rep K F y w) (q : rKey x y O N) :
    ∃ a o oV, v = .ref a ∧ DGet H a w oV ∧ IsD H a ∧ N o ∧ (∀ d, o = some d → ∃ z, oV = some z ∧ Rep K F d z) ∧ (o = none → oV = none) := by
  unfold rKey at q
  split at q <;> first | exact q.elim | skip
  rename_i a k e
  split at q <;> first | exact q.elim | skip
  rename_i kvs e2
  obtain ⟨vs, h1, h2⟩ := g.dic e2
  simp only [Rep] at rx
  have ew := keyOf_rep e ry
  subst ew
  obtain ⟨v1, v2⟩ := h2.val (k := k)
  exact ⟨a, _, _, rx, .inl ⟨vs, k, h1, rfl, rfl⟩, .inl ⟨vs, h1⟩, q, v1, v2⟩
end
section
variable {X : Cx} {o i e f value : Expr} {pos pos' apos cpos : Pos} {fo fi fe fx : FE}
/-- {} that changes -/
def fDicO : FE := fun _ O Q => ∀ p, O p = none → Q (.ref p) (updO O p (.dic []))
theorem de_dicO : DE M X (.Dict [] [] pos) fDicO := peMono pe_dnewK fun σ H Q h => by
  obtain ⟨F, O, P, ρ, R, g, en, q, po⟩ := h
  intro p hp
  exact po (.ref p) _ F _ _ (q p (g.freeO hp)) (Same.refl _) (g.newO hp ⟨[], upd_same, .nil⟩) (by simp only [Rep])
/-- d[k] -/
def rDGet (x y : D) (O : Ow) (Q : VD) : Prop := rKey x y O fun o => match o with
  | some d => Q d O
  | none => False
def fDGet (fo fi : FE) : FE := fun ρ O Q => fo ρ O fun x O1 => fi ρ O1 fun y O2 => rDGet x y O2 Q
theorem de_dget (hu : X.A.units + 200 < cLine) (ho : DE M X o fo) (hi : DE M X i fi) (hs : NoSl i := by intro _ _; rfl) : DE M X (.Subscript o i pos) (fDGet fo fi) := peMono (pe_dget (by omega) ho hi hs) fun σ H Q h => by
  obtain ⟨F, O, P, ρ, R, g, en, q, po⟩ := h
  refine ⟨F, O, P, ρ, _, g, en, q, fun x O1 F1 H1 v q1 s1 g1 r1 => ?_⟩
  refine ⟨F1, O1, P, ρ, _, g1, en.mono s1, q1, fun y O2 F2 H2 w q2 s2 g2 r2 => ?_⟩
  obtain ⟨a, od, oV, rfl, h1, _, n, h2, h3⟩ := g2.key (r1.mono s2) r2 q2
  cases od with
  | none => exact n.elim
  | some d =>
    obtain ⟨z, rfl, rz⟩ := h2 d rfl
    exact ⟨a, z, rfl, h1, (po.more (s1.trans s2)).at g2 n rz⟩
/-- d.get(k), d.get(k, x) -/
def isDc (O : Ow) (x : D) : Bool := match x with
  | .ref a => (dicAt O a).isSome
  | _ => false
theorem isDc_of {K : PySem.W.Frag} {F P H : Hp} {O : Ow} {x : D} {v : V} (g : Gd M K F O P H) (r : Rep K F x v) (h : isDc O x = true) : ∃ a, v = .ref a ∧ IsD H a := by
  cases x <;> simp only [isDc] at h <;> first | cases h; done | skip
  rename_i a
  simp only [Rep] at r
  obtain ⟨kvs, e⟩ := Option.isSome_iff_exists.mp h
  obtain ⟨vs, h1, _⟩ := g.dic e
  exact ⟨a, r, .inl ⟨vs, h1⟩⟩
def fDGet1 (fo fi : FE) : FE := fun ρ O Q => fo ρ O fun x O1 => isDc O1 x = true ∧ fi ρ O1 fun y O2 => rKey x y O2 fun o => Q (o.getD .non) O2
theorem de_dget1 (hu : X.A.units + 200 < cLine) (ho : DE M X o fo) (he : DE M X e fe) (m : M1 X o "get" apos e cpos := by exact ⟨by rfl, by rfl, by rfl, by rfl⟩) : DE M X (.Call (.Attribute o "get" apos) [e] [] cpos) (fDGet1 fo fe) := peMono (pe_dget1 (by omega) ho he m) fun σ H Q h => by
  obtain ⟨F, O, P, ρ, R, g, en, q, po⟩ := h
  refine ⟨F, O, P, ρ, _, g, en, q, fun x O1 F1 H1 v q1 s1 g1 r1 => ?_⟩
  obtain ⟨a, rfl, hd⟩ := isDc_of g1 r1 q1.1
  refine ⟨a, rfl, hd, F1, O1, P, ρ, _, g1, en.mono s1, q1.2, fun y O2 F2 H2 w q2 s2 g2 r2 => ?_⟩
  obtain ⟨a', od, oV, e, h1, _, n, h2, h3⟩ := g2.key (r1.mono s2) r2 q2
  cases e
  refine ⟨oV, h1, ?_⟩
  cases od with
  | none => rw [h3 rfl]; exact (po.more (s1.trans s2)).at g2 n (by simp only [Option.getD_none, Rep])
  | some d =>
    obtain ⟨z, rfl, rz⟩ := h2 d rfl
    exact (po.more (s1.trans s2)).at g2 n rz
def fDGet2 (fo fi fx : FE) : FE := fun ρ O Q => fo ρ O fun x O1 => isDc O1 x = true ∧ fi ρ O1 fun y O2 => fx ρ O2 fun z O3 => rKey x y O3 fun o => Q (o.getD z) O3
theorem de_dget2 (hu : X.A.units + 200 < cLine) (ho : DE M X o fo) (he : DE M X e fe) (hf : DE M X f fx) (m : M2 X o "get" apos e f cpos := by exact ⟨by rfl, by rfl, by rfl, by rfl⟩) : DE M X (.Call (.Attribute o "get" apos) [e, f] [] cpos) (fDGet2 fo fe fx) := peMono (pe_dget2 (by omega) ho he hf m) fun σ H Q h => by
  obtain ⟨F, O, P, ρ, R, g, en, q, po⟩ := h
  refine ⟨F, O, P, ρ, _, g, en, q, fun x O1 F1 H1 v q1 s1 g1 r1 => ?_⟩
  obtain ⟨a, rfl, hd⟩ := isDc_of g1 r1 q1.1
  refine ⟨a, rfl, hd, F1, O1, P, ρ, _, g1, en.mono s1, q1.2, fun y O2 F2 H2 w q2 s2 g2 r2 => ?_⟩
  refine ⟨F2, O2, P, ρ, _, g2, en.mono (s1.trans s2), q2, fun z O3 F3 H3 u q3 s3 g3 r3 => ?_⟩
  obtain ⟨a', od, oV, e, h1, _, n, h2, h3⟩ := g3.key (r1.mono (s2.trans s3)) (r2.mono s3) q3
  cases e
  refine ⟨oV, h1, ?_⟩
  cases od with
  | none => rw [h3 rfl]; exact (po.more (s1.trans (s2.trans s3))).at g3 n r3
  | some d =>
    obtain ⟨z, rfl, rz⟩ := h2 d rfl
    exact (po.more (s1.trans (s2.trans s3))).at g3 n rz
/-- k in d -/
def rDIn (neg : Bool) : R2D := fun y x O Q => rKey x y O fun o => Q (.bl (o.isSome != neg)) O
theorem od_din (hu : X.A.units + 200 < cLine) : OpD M X (compareOp .In) (rDIn false) := by
  intro pins s σ H y x u v Q I ry rx h
  obtain ⟨F, O, P, dy, dx, R, g, r1, r2, q, po⟩ := h
  obtain ⟨a, od, oV, rfl, h1, _, n, h2, h3⟩ := g.key r2 r1 q
  obtain rfl : v = Value.ref a := rx
  refine d_in (by omega) I h1 ry fun s' I' => ⟨.bl oV.isSome, H, I', rfl, ?_⟩
  have e : oV.isSome = od.isSome := by
    cases od with
    | none => simp [h3 rfl]
    | some d => obtain ⟨z, rfl, _⟩ := h2 d rfl; rfl
  exact po.at g n (by simp [Rep, e])
theorem od_dnotin (hu : X.A.units + 200 < cLine) : OpD M X (compareOp .NotIn) (rDIn true) := by
  intro pins s σ H y x u v Q I ry rx h
  obtain ⟨F, O, P, dy, dx, R, g, r1, r2, q, po⟩ := h
  obtain ⟨a, od, oV, rfl, h1, _, n, h2, h3⟩ := g.key r2 r1 q
  obtain rfl : v = Value.ref a := rx
  refine d_notIn (by omega) I h1 ry fun s' I' => ⟨.bl (!oV.isSome), H, I', rfl, ?_⟩
  have e : oV.isSome = od.isSome := by
    cases od with
    | none => simp [h3 rfl]
    | some d => obtain ⟨z, rfl, _⟩ := h2 d rfl; rfl
  exact po.at g n (by simp [Rep, e])
/-- d[k] = v -/
def rDPut (x y d : D) (O : Ow) (N : Ow → Prop) : Prop := match x, keyOf y with
  | .ref a, some k => match O a with
    | some (.dic kvs) => kvs.length < sizeLine ∧ N (updO O a (.dic (putD kvs k d)))
    | _ => False
  | _, _ => False
def gDPut (fo fi fe : FE) : GS := fun R ρ O => fe ρ O fun d O1 => fo ρ O1 fun x O2 => fi ρ O2 fun y O3 => rDPut x y d O3 (R.nx ρ)
theorem ds_dput (hu : X.A.units + 200 < cLine) (ho : DE M X o fo) (hi : DE M X i fi) (he : DE M X value fe) (hs : swapsWith value (some (.Subscript o i pos')) pos.line X.env = pure false := by rfl) :
    DS M X (.Assign [.Subscript o i pos'] value pos) (gDPut fo fi fe) := psMono (ps_dput (by omega) ho hi he hs) fun D σ H h => by
  obtain ⟨F, O, P, ρ, R, g, en, q, po⟩ := h
  refine ⟨F, O, P, ρ, _, g, en, q, fun d O1 F1 H1 v q1 s1 g1 r1 => ?_⟩
  refine ⟨F1, O1, P, ρ, _, g1, en.mono s1, q1, fun x O2 F2 H2 w q2 s2 g2 r2 => ?_⟩
  refine ⟨F2, O2, P, ρ, _, g2, en.mono (s1.trans s2), q2, fun y O3 F3 H3 z q3 s3 g3 r3 => ?_⟩
  unfold rDPut at q3
  split at q3 <;> first | exact q3.elim | skip
  rename_i a k e
  split at q3 <;> first | exact q3.elim | skip
  rename_i kvs e2
  obtain ⟨_, _, vs, h1, h2⟩ := g3.ow a _ e2
  simp only [Rep] at r2
  subst r2
  have ez := keyOf_rep e r3
  subst ez
  have s4 := s1.trans (s2.trans s3)
  refine ⟨a, _, rfl, .k h1 (by rw [← h2.length]; exact q3.1), ?_⟩
  exact po.nx ρ _ F3 _ σ q3.2 s4 (g3.setO e2 ⟨_, upd_same, h2.put (r1.mono (s2.trans s3))⟩) (en.mono s4)
end
/-! ### the keys of a dict -/
section
variable {X : Cx}
def asStrK : List Key → Option (List Str)
  | [] => some []
  | .inr s :: r => (asStrK r).map (s :: ·)
  | .inl _ :: _ => none
theorem asStrK_of : ∀ {l : List Key} {ts : List Str}, asStrK l = some ts → l = ts.map Sum.inr
  | [], _, h => by cases h; rfl
  | .inr s :: r, ts, h => by
    simp only [asStrK] at h
    obtain ⟨u, e, rfl⟩ := Option.map_eq_some_iff.mp h
    rw [asStrK_of e, List.map_cons]
  | .inl _ :: _, _, h => by simp [asStrK] at h
theorem asStrK_map (ts : List Str) : asStrK (ts.map Sum.inr) = some ts := by
  induction ts with
  | nil => rfl
  | cons s r ih => simp [asStrK, ih]
/-- sorted(d), all keys texts -/
def rSortK : RAD := fun ds O Q => match ds with
  | [.ref a] => match dicAt O a with
    | some kvs => match asStrK (kvs.map (·.1)) with
      | some ts => ts.length < 64 ∧ ∀ ys : List Str, ys.Perm ts → sortedS ys = true → Q (.lst (ys.map .str)) O
      | none => False
    | none => False
  | _ => False
theorem cd_sortedK (hc : X.calm = true) : CallD M X (.builtin "sorted") rSortK := by
  refine callD_of fun F P H O xs ds R Q g r q po => ?_
  unfold rSortK at q
  split at q <;> first | exact q.elim | skip
  rename_i a
  split at q <;> first | exact q.elim | skip
  rename_i kvs e
  split at q <;> first | exact q.elim | skip
  rename_i ts e2
  obtain ⟨v, rfl, r1⟩ := r.one'
  simp only [Rep] at r1
  subst r1
  obtain ⟨vs, h1, h2⟩ := g.dic e
  exact ⟨_, call_sortedD hc, a, vs, ts, rfl, h1, by rw [h2.keys]; exact asStrK_of e2, q.1, fun ys p hp hs hn => po.lst g (q.2 ys hp hs) .of_strs hn⟩
end
/-! ### isinstance(x, (T1, T2, ..)) -/
section
variable {X : Cx} {a : Expr} {es : List Expr} {fa : FE} {fr : FA} {p pos tpos : Pos}
def asTys : List D → Option (List String)
  | [] => some []
  | .ty n :: r => (asTys r).map (n :: ·)
  | _ :: _ => none
theorem asTys_rep {K : PySem.W.Frag} {F : Hp} : ∀ {ds : List D} {ns : List String} {vs : List V}, asTys ds = some ns → RepAll K F ds vs → Paired ClsV vs (ns.map Value.type)
  | [], _, _, h, r => by
    cases h
    simp only [RepAll] at r
    subst r
    exact .nil
  | .ty n :: ds, ns, vs, h, r => by
    simp only [asTys] at h
    obtain ⟨u, e, rfl⟩ := Option.map_eq_some_iff.mp h
    simp only [RepAll, Rep] at r
    obtain ⟨v, r', rfl, rfl, h2⟩ := r
    exact .cons (.ty n) (asTys_rep e h2)
  | .non :: _, _, _, h, _ => by simp [asTys] at h
  | .bl _ :: _, _, _, h, _ => by simp [asTys] at h
  | .int _ :: _, _, _, h, _ => by simp [asTys] at h
  | .str _ :: _, _, _, h, _ => by simp [asTys] at h
  | .tup _ :: _, _, _, h, _ => by simp [asTys] at h
  | .lst _ :: _, _, _, h, _ => by simp [asTys] at h
  | .ref _ :: _, _, _, h, _ => by simp [asTys] at h
  | .scr _ :: _, _, _, h, _ => by simp [asTys] at h
  | .edic :: _, _, _, h, _ => by simp [asTys] at h
def rIsiTs (x : D) (ds : List D) (O : Ow) (Q : VD) : Prop := match asTys ds with
  | some ns => ns.length ≤ sizeLine ∧ (ns.all fun n => insCl.contains n) = true ∧ insTy.contains (tyNm O x) = true ∧ Q (.bl (ns.any (insOf (tyNm O x)))) O
  | none => False
theorem kitAny_of {K : PySem.W.Frag} {t : String} (ht : insTy.contains t = true) : ∀ {ns : List String}, (ns.all fun n => insCl.contains n) = true → PySem.W.kitAny K (.type t) (ns.map Value.type) = some (ns.any (insOf t))
  | [], _ => rfl
  | n :: ns, h => by
    rw [List.all_cons, Bool.and_eq_true] at h
    rw [List.map_cons, List.any_cons]
    refine kitAny_cons (kit_ty (ins_kit' (by simpa using ht) (by simpa using h.1))) (fun e => ?_) (fun e => ?_)
    · rw [e, Bool.false_or]; exact kitAny_of ht h.2
    · rw [e, Bool.true_or]
def fIsiT (fa : FE) (fr : FA) : FE := fun ρ O Q => fa ρ O fun x O1 => fr ρ O1 fun ds O2 => rIsiTs x ds O2 Q
theorem de_isiT {x1} (hg : Gl X "isinstance") (hm : X.mg "isinstance" = none) (ha : DE M X a fa) (hr : DA M X es fr)
    (he : starEach [a, .Tuple es x1 tpos] X.env = (false, eval a X.env) :: starEach [.Tuple es x1 tpos] X.env := by rfl)
    (he2 : starEach [.Tuple es x1 tpos] X.env = (false, eval (.Tuple es x1 tpos) X.env) :: starEach [] X.env := by rfl)
    (hpl : (backTo pos (starEach [.Tuple es x1 tpos] X.env)).any (·.1) = false := by rfl) : DE M X (.Call (.Name "isinstance" p) [a, .Tuple es x1 tpos] [] pos) (fIsiT fa fr) :=
  peMono (pe_callB call_isiT hg hm bb_isinstance (pa_cons ha (pa_cons (pe_tup hr) pa_nil he2) he) (by decide) (by decide) he hpl) fun σ H Q h => by
    obtain ⟨F, O, P, ρ, R, g, en, q, po⟩ := h
    refine ⟨F, O, P, ρ, _, g, en, q, fun x O1 F1 H1 v q1 s1 g1 r1 => ?_⟩
    refine ⟨F1, O1, P, ρ, _, g1, en.mono s1, q1, fun ds O2 F2 H2 vs q2 s2 g2 r2 => ?_⟩
    unfold rIsiTs at q2
    split at q2 <;> first | exact q2.elim | skip
    rename_i ns e
    have pr := asTys_rep e r2
    obtain ⟨q3, q4, q5, q6⟩ := q2
    have hl : vs.length = ns.length := by rw [pr.length, List.length_map]
    refine ⟨by rw [hl]; exact q3, fun tp hp => ?_⟩
    have g3 := g2.skip (o := .tup vs) hp
    exact ⟨v, tp, vs, _, _, _, rfl, upd_same, pr, tyX_of g3 (r1.mono s2) q5, kitAny_of q5 q4, (po.more (s1.trans s2)).at g3 q6 (by simp only [Rep])⟩
end
/-! ### a walk along an owned list that stays -/
section
variable {X : Cx} {tg l : Expr} {fl : FE} {pos : Pos}
def forR (a : Addr) (all : List D) (p : Pat) (gb : GS) (R : DEnds) : List D → DEnv → Ow → Prop
  | [], ρ, O => O a = some (.lst all) ∧ R.nx ρ O
  | d :: ds, ρ, O => O a = some (.lst all) ∧ patGet (patD p d ρ) fun ρ1 => gb { R with nx := forR a all p gb R ds, ct := forR a all p gb R ds, bk := R.nx } ρ1 O
def asLR (d : D) (O : Ow) (Q : Addr → List D → Ow → Prop) : Prop := match d with
  | .ref a => match O a with
    | some (.lst ds) => Q a ds O
    | _ => False
  | _ => False
def gForR (fl : FE) (p : Pat) (gb : GS) : GS := fun R ρ O => fl ρ O fun x O1 => asLR x O1 fun a ds O2 => forR a ds p gb R ds ρ O2
theorem ds_forR {body : List Stmt} {p : Pat} {gb : GS} (hp : PassesOwn (model X.prog X.w) X.A X.env X.xe) (hc : X.calm = true) (hl : DE M X l fl) (hg : DP X tg p) (hb : DSs M X body gb)
    (hs : ∀ x, foldedSetIterable l X.env x = pure x := by intro _; rfl) : DS M X (.For tg l body [] pos) (gForR fl p gb) := psMono (ps_for hp hc (pi_list hl) hg hb hs) fun D σ H h => by
  obtain ⟨F, O, P, ρ, R, g, en, q, po⟩ := h
  refine ⟨F, O, P, ρ, _, g, en, q, fun x O1 F1 H1 v q1 s1 g1 r1 => ?_⟩
  unfold asLR at q1
  split at q1 <;> first | exact q1.elim | skip
  rename_i a
  split at q1 <;> first | exact q1.elim | skip
  rename_i ds e
  simp only [Rep] at r1
  subst r1
  obtain ⟨_, _, vs, h1, h2⟩ := g1.ow a _ e
  refine ⟨a, rfl, ⟨vs, SqL.of h1⟩, ?_⟩
  refine ⟨fun i m σ H => ∃ F2 O2 ρ2, i + m = ds.length ∧ Same F1 F2 ∧ Gd M X.K F2 O2 P H ∧ EnvOk X.K F2 ρ2 σ ∧ forR a ds p gb R (ds.drop i) ρ2 O2,
    ⟨ds.length, F1, O1, ρ, by omega, Same.refl _, g1, en.mono s1, by rw [List.drop_zero]; exact q1⟩, fun i m σ2 H2 hW => ?_⟩
  obtain ⟨F2, O2, ρ2, hm, s2, g2, en2, q2⟩ := hW
  by_cases hi : i < ds.length
  · rw [List.drop_eq_getElem_cons hi] at q2
    unfold forR at q2
    obtain ⟨e2, q2⟩ := q2
    obtain ⟨_, _, ws, h3, h4⟩ := g2.ow a _ e2
    have sq : SqL X.K H2 a ws := SqL.of h3
    obtain ⟨w, e3, r3⟩ := h4.get (List.getElem?_eq_getElem hi)
    refine .inr ⟨⟨ws, w, sq, e3⟩, fun σ' H' => ∃ F3 O3 ρ3, Same F1 F3 ∧ Gd M X.K F3 O3 P H' ∧ EnvOk X.K F3 ρ3 σ' ∧ forR a ds p gb R (ds.drop (i + 1)) ρ3 O3, fun σ' H' hN => ?_, fun x H' hyy => ?_⟩
    · obtain ⟨F3, O3, ρ3, s3, g3, en3, q3⟩ := hN
      exact ⟨m - 1, by omega, F3, O3, ρ3, by omega, s3, g3, en3, q3⟩
    · obtain ⟨rfl, hx⟩ := hyy
      have hxx := hx ws sq
      rw [e3] at hxx
      cases hxx
      cases e1 : patD p ds[i] ρ2 with
      | none => rw [e1] at q2; exact q2.elim
      | some ρ3 =>
        rw [e1] at q2
        refine pat_ok g2 p ds[i] _ ρ2 ρ3 σ2 _ e1 r3 en2 fun σ4 en4 _ => ?_
        refine ⟨F2, O2, P, ρ3, _, g2, en4, q2, ⟨fun ρ5 O5 F5 H5 σ5 q5 s5 g5 en5 => ?_, ?_, ?_, fun ρ5 O5 F5 H5 σ5 q5 s5 g5 en5 => ?_⟩⟩
        · exact ⟨F5, O5, ρ5, s2.trans s5, g5, en5, q5⟩
        · exact po.rt.more (s1.trans s2)
        · exact po.nx.more (s1.trans s2)
        · exact ⟨F5, O5, ρ5, s2.trans s5, g5, en5, q5⟩
  · rw [List.drop_eq_nil_of_le (by omega)] at q2
    unfold forR at q2
    obtain ⟨e2, q2⟩ := q2
    obtain ⟨_, _, ws, h3, h4⟩ := g2.ow a _ e2
    exact .inl ⟨⟨ws, SqL.of h3, by rw [← h4.length]; omega⟩, po.nx ρ2 O2 F2 H2 σ2 q2 (s1.trans s2) g2 en2⟩
end
/-! ### a list times a number -/
section
variable {X : Cx} {K : PySem.W.Frag} {F : Hp}
theorem RepAll.reps {ds : List D} {vs : List V} (h : RepAll K F ds vs) : ∀ n : Nat, RepAll K F (List.replicate n ds).flatten (List.replicate n vs).flatten
  | 0 => .nil
  | n + 1 => by
    rw [List.replicate_succ, List.replicate_succ, List.flatten_cons, List.flatten_cons]
    exact h.append (RepAll.reps h n)
def rRepD : R2D := fun x y O Q => match x, y with
  | .lst ds, .int k => (-(2 ^ 63) ≤ k ∧ k < 2 ^ 63 ∧ ds.length * k.toNat ≤ sizeLine) ∧ Q (.lst (List.replicate k.toNat ds).flatten) O
  | _, _ => False
theorem od_rep : OpD M X (binaryOp .Mult) rRepD := by
  refine opD_of fun pins s σ F P H O x y dx dy v u R Q I rx ry gd r1 r2 q po => ?_
  unfold rRepD at q
  split at q
  · rename_i ds k
    simp only [Rep] at r1 r2
    obtain ⟨a, xs, rfl, h1, h2⟩ := r1
    subst r2
    obtain ⟨⟨q1, q2, q3⟩, q4⟩ := q
    exact ⟨_, op_rep, a, k, xs, rfl, rfl, gd.fz _ _ h1, q1, q2, by rw [← h2.length]; exact q3, fun p hp => po.lst gd q4 (h2.reps _) hp⟩
  · exact q.elim
end
/-! ### a call without arguments -/
section
variable {X : Cx} {k : Nat} {f : Addr} {fd : FuncData} {ps : List Str} {dsp : DSp} {x : Str} {st : Stmt} {p pos : Pos}
theorem de_callN0 (N : Fn X.K X.mg x st ps f fd) (G : FnOk X.prog X.w X.K X.mg X.base CX0 k f fd ps (liftSp X.K dsp)) (hr : Room k X.A) (hg : Gl X x) (hdb : (x == ("__debug__" : Str)) = false := by decide) :
    DE M X (.Call (.Name x p) [] [] pos) (fCall dsp fNil) := peMono (pe_call0 G hr hg N.m N.F.kp N.b .nil pass0 hdb) fun σ H Q h => by
  obtain ⟨F, O, P, ρ, R, g, en, q, po⟩ := h
  show liftSp X.K dsp ([] ++ []) H Q E0
  exact ⟨F, O, P, [], R, X0, g.mt, .nil, q, po.mt g (Same.refl _), fun _ _ _ _ _ _ z => z.elim⟩
end
/-! ### the readings at their arguments -/
theorem ap_fDicO {ρ : DEnv} {O : Ow} {Q : VD} : fDicO ρ O Q = (∀ p, O p = none → Q (.ref p) (updO O p (.dic []))) := rfl
theorem ap_fDGet (fo fi : FE) {ρ : DEnv} {O : Ow} {Q : VD} : fDGet fo fi ρ O Q = (fo ρ O fun x O1 => fi ρ O1 fun y O2 => rDGet x y O2 Q) := rfl
theorem ap_fDGet1 (fo fi : FE) {ρ : DEnv} {O : Ow} {Q : VD} : fDGet1 fo fi ρ O Q = (fo ρ O fun x O1 => isDc O1 x = true ∧ fi ρ O1 fun y O2 => rKey x y O2 fun o => Q (o.getD .non) O2) := rfl
theorem ap_fDGet2 (fo fi fx : FE) {ρ : DEnv} {O : Ow} {Q : VD} : fDGet2 fo fi fx ρ O Q = (fo ρ O fun x O1 => isDc O1 x = true ∧ fi ρ O1 fun y O2 => fx ρ O2 fun z O3 => rKey x y O3 fun o => Q (o.getD z) O3) := rfl
theorem ap_gDPut (fo fi fe : FE) {R : DEnds} {ρ : DEnv} {O : Ow} : gDPut fo fi fe R ρ O = (fe ρ O fun d O1 => fo ρ O1 fun x O2 => fi ρ O2 fun y O3 => rDPut x y d O3 (R.nx ρ)) := rfl
theorem ap_fIsiT (fa : FE) (fr : FA) {ρ : DEnv} {O : Ow} {Q : VD} : fIsiT fa fr ρ O Q = (fa ρ O fun x O1 => fr ρ O1 fun ds O2 => rIsiTs x ds O2 Q) := rfl
theorem ap_gForR (fl : FE) (p : Pat) (gb : GS) {R : DEnds} {ρ : DEnv} {O : Ow} : gForR fl p gb R ρ O = (fl ρ O fun x O1 => asLR x O1 fun a ds O2 => forR a ds p gb R ds ρ O2) := rfl
section
variable {O : Ow} {a : Addr} {kvs : List (Key × D)} {Q : VD} {N : Option D → Prop} {k : Key} {x y d : D} {t : Str} {i : Int}
theorem dicAt_d (h : O a = some (.dic kvs)) : dicAt O a = some kvs := by simp only [dicAt, h]
theorem isDc_r (h : O a = some (.dic kvs)) : isDc O (.ref a) = true := by simp only [isDc, dicAt_d h, Option.isSome_some]
theorem rKey_s (h : O a = some (.dic kvs)) : rKey (.ref a) (.str t) O N = N (valD kvs (.inr t)) := by simp only [rKey, keyOf, dicAt_d h]
theorem rKey_i (h : O a = some (.dic kvs)) : rKey (.ref a) (.int i) O N = N (valD kvs (.inl i)) := by simp only [rKey, keyOf, dicAt_d h]
theorem rDPut_s {N : Ow → Prop} (h : O a = some (.dic kvs)) : rDPut (.ref a) (.str t) d O N = (kvs.length < sizeLine ∧ N (updO O a (.dic (putD kvs (.inr t) d)))) := by simp only [rDPut, keyOf, h]
theorem rDPut_i {N : Ow → Prop} (h : O a = some (.dic kvs)) : rDPut (.ref a) (.int i) d O N = (kvs.length < sizeLine ∧ N (updO O a (.dic (putD kvs (.inl i) d)))) := by simp only [rDPut, keyOf, h]
theorem rSortK_r {ts : List Str} (h : O a = some (.dic kvs)) (e : kvs.map (·.1) = ts.map Sum.inr) : rSortK [.ref a] O Q = (ts.length < 64 ∧ ∀ ys : List Str, ys.Perm ts → sortedS ys = true → Q (.lst (ys.map .str)) O) := by
  simp only [rSortK, dicAt_d h, e, asStrK_map]
theorem rRep_l {ds : List D} : rRepD (.lst ds) (.int i) O Q = ((-(2 ^ 63) ≤ i ∧ i < 2 ^ 63 ∧ ds.length * i.toNat ≤ sizeLine) ∧ Q (.lst (List.replicate i.toNat ds).flatten) O) := rfl
theorem asLR_r {xs : List D} {Q : Addr → List D → Ow → Prop} (h : O a = some (.lst xs)) : asLR (.ref a) O Q = Q a xs O := by simp only [asLR, h]
theorem sl1 : ((["list", "tuple"] : List String).length ≤ sizeLine) = True := by simp [sizeLine]
theorem isT_lt (h : insTy.contains (tyNm O x) = true) : rIsiTs x [.ty "list", .ty "tuple"] O Q = Q (.bl (["list", "tuple"].any (insOf (tyNm O x)))) O := by
  have e : asTys [D.ty "list", D.ty "tuple"] = some ["list", "tuple"] := rfl
  have e2 : ((["list", "tuple"] : List String).all fun n => insCl.contains n) = true := by decide
  simp only [rIsiTs, e, sl1, h, e2, true_and]
theorem isT_i : rIsiTs (.int i) [.ty "list", .ty "tuple"] O Q = Q (.bl false) O := isT_lt rfl
theorem isT_s : rIsiTs (.str t) [.ty "list", .ty "tuple"] O Q = Q (.bl false) O := isT_lt rfl
theorem isT_b {b : Bool} : rIsiTs (.bl b) [.ty "list", .ty "tuple"] O Q = Q (.bl false) O := isT_lt rfl
theorem isT_n : rIsiTs .non [.ty "list", .ty "tuple"] O Q = Q (.bl false) O := isT_lt rfl
theorem isT_t {xs : List D} : rIsiTs (.tup xs) [.ty "list", .ty "tuple"] O Q = Q (.bl true) O := isT_lt rfl
theorem isT_l {xs : List D} : rIsiTs (.lst xs) [.ty "list", .ty "tuple"] O Q = Q (.bl true) O := isT_lt rfl
theorem isT_r {xs : List D} (h : O a = some (.lst xs)) : rIsiTs (.ref a) [.ty "list", .ty "tuple"] O Q = Q (.bl true) O := by
  have e : tyNm O (.ref a) = "list" := by simp only [tyNm, h]
  rw [isT_lt (by rw [e]; rfl), e]; rfl
end
/-! ### an owned list that a call tells, frozen at once -/
section
variable {X : Cx} {e : Expr} {fe : FE}
def rFrz (d : D) (O : Ow) (Q : VD) : Prop := match d with
  | .ref a => match O a with
    | some (.lst ds) => Q (.lst ds) (delO O a)
    | _ => False
  | _ => False
def fFrz (fe : FE) : FE := fun ρ O Q => fe ρ O fun d O1 => rFrz d O1 Q
theorem de_frz (he : DE M X e fe) : DE M X e (fFrz fe) := peMono he fun σ H Q h => by
  obtain ⟨F, O, P, ρ, R, g, en, q, po⟩ := h
  refine ⟨F, O, P, ρ, _, g, en, q, fun d O1 F1 H1 v q1 s1 g1 r1 => ?_⟩
  unfold rFrz at q1
  split at q1 <;> first | exact q1.elim | skip
  rename_i a
  split at q1 <;> first | exact q1.elim | skip
  rename_i ds e
  simp only [Rep] at r1
  subst r1
  obtain ⟨F2, s2, g2, r2⟩ := g1.freeze e
  exact po _ _ F2 H1 _ q1 (s1.trans s2) g2 r2
theorem ap_fFrz (fe : FE) {ρ : DEnv} {O : Ow} {Q : VD} : fFrz fe ρ O Q = (fe ρ O fun d O1 => rFrz d O1 Q) := rfl
theorem rFrz_u {p : Addr} {ds : List D} {O : Ow} {Q : VD} (h : O p = none) : rFrz (.ref p) (updO O p (.lst ds)) Q = Q (.lst ds) O := by
  simp only [rFrz, updO_same, delO_updO h]
end
end Kf
/-! Dl16: max(xs), max(xs, default=d) of ints. -/
namespace Kf
open PySem PySem.Spec L2
open PyProof.Rows hiding St
section
variable {prog : Program} {w : World} {A : Around} {Rz : Result → Shared → Prop} {it : Addr} {fp wr : List Addr} {n : Nat} {Pv : Nat → Value → Prop} {Sw : Nat → Heap → Prop}
theorem mx_nm : (toString "max" ++ toString ".loop" : String) = "max.loop" := by decide
/-- the rest of max's walk, whatever keywords stand by -/
theorem mx_more (Wk : Walks prog w A.in1 it fp wr n Pv Sw) (bt : Nat → Nat → Bool) (cmp : CmpOf prog w A.in1 .Gt Pv bt) (B : Addr) (hB : B ∉ fp) (kw : List (Str × Value)) :
    ∀ (left j : Nat) (s : Shared) (u : Value) (ep : Nat), n - (j + 1) = left → j + 1 ≤ n → Sw (j + 1) s.heap → Pv (argBest bt j) u →
      s.heap.get? B = some { cls := .type "list", dict := none, data := .seq #[u, u] ep, slots := #[] } →
      (∀ v h' tk, Pv (argBest bt (n - 1)) v → (∀ b o, b ∉ wr → b ≠ B → s.heap.get? b = some o → h'.get? b = some o) → Rz (.ok (.ret v)) { s with heap := h', toks := tk }) →
      codeAny (model prog w) A (.builtin "max.loop" ⟨[.ref it, .none, .ref B], kw⟩) Rz s := by
  have hBw : B ∉ wr := fun h => hB (Wk.sub _ h)
  intro left
  induction left with
  | zero =>
    intro j s u ep e1 hj st pu hb fin
    have en : j + 1 = n := by omega
    refine codeAny_builtin PySem.F.entry_max_loop ?_
    rw [Around.under_plainId PySem.F.plain_max_loop _]
    refine wpAny_bind (wpAny_seqItems hb rfl ?_)
    refine wpAny_bind (wpAny_tryCatch (Wk.done s _ _ (en ▸ st) fun h' tk kp => ?_))
    have hb' := kp B _ hBw hb
    refine wpAny_bind ?_
    refine wpAny_updateSeq hb' rfl (wpAny_bind (wpAny_letGo (wpAny_pure ?_)))
    exact fin u _ tk (by rw [← en]; exact pu) fun b o h1 h2 e => (Heap.get?_update_other _ _ (Ne.symm h2)).trans (kp b o h1 e)
  | succ left ih =>
    intro j s u ep e1 hj st pu hb fin
    have lt : j + 1 < n := by omega
    refine codeAny_builtin PySem.F.entry_max_loop ?_
    rw [Around.under_plainId PySem.F.plain_max_loop _]
    refine wpAny_bind (wpAny_seqItems hb rfl ?_)
    refine wpAny_bind (wpAny_tryCatch (Wk.item (j + 1) s _ _ lt st fun v h' tk pv st' kp => ?_))
    have hb' := kp B _ hBw hb
    show wpAny _ A.in1 (tryCatch (holding [v, v] (richCompare .Gt v u >>= _)) _ >>= _) _ _ _
    refine wpAny_bind (wpAny_tryCatch (wpAny_holding (wpAny_bind (cmp (j + 1) (argBest bt j) v u _ _ _ pv pu ?_))))
    refine wpAny_bind (wpAny_holding (wpAny_truthy_bool ?_)); refine wpAny_bind (wpAny_letGo (wpAny_pure ?_))
    by_cases c : bt (j + 1) (argBest bt j) = true
    · simp only [c, if_true]
      refine wpAny_bind ?_
      refine wpAny_updateSeq hb' rfl (wpAny_bind (wpAny_letGo ?_)); rw [mx_nm]
      refine wpAny_pure ⟨plainId_quiet PySem.F.plain_max_loop _, ih (j + 1) _ v _ (by omega) lt (Wk.frame _ _ _ st' fun b bf o e => (Heap.get?_update_other _ _ (fun h : B = b => hB (by rw [h]; exact bf))).trans e) (by simp only [argBest, c, if_true]; exact pv) (Heap.get?_update_self _ hb' rfl) fun v2 h2 tk2 p2 k2 => ?_⟩
      exact fin v2 h2 tk2 p2 fun b o h1 h3 e => k2 b o h1 h3 ((Heap.get?_update_other _ _ (Ne.symm h3)).trans (kp b o h1 e))
    · simp only [c, if_false, Bool.false_eq_true]
      refine wpAny_bind (wpAny_letGo ?_); rw [mx_nm]
      refine wpAny_pure ⟨plainId_quiet PySem.F.plain_max_loop _, ih (j + 1) _ u ep (by omega) lt st' (by simp only [argBest, c, if_false, Bool.false_eq_true]; exact pu) hb' fun v2 h2 tk2 p2 k2 => ?_⟩
      exact fin v2 h2 tk2 p2 fun b o h1 h3 e => k2 b o h1 h3 (kp b o h1 e)
theorem mx_first (Wk : Walks prog w A.in1 it fp wr n Pv Sw) (bt : Nat → Nat → Bool) (cmp : CmpOf prog w A.in1 .Gt Pv bt) (B : Addr) (hB : B ∉ fp) (kw : List (Str × Value)) (hn : 0 < n) {s : Shared} {ep : Nat} (st : Sw 0 s.heap)
    (hb : s.heap.get? B = some { cls := .type "list", dict := none, data := .seq #[] ep, slots := #[] })
    (fin : ∀ v h' tk, Pv (argBest bt (n - 1)) v → (∀ b o, b ∉ wr → b ≠ B → s.heap.get? b = some o → h'.get? b = some o) → Rz (.ok (.ret v)) { s with heap := h', toks := tk }) :
    codeAny (model prog w) A (.builtin "max.loop" ⟨[.ref it, .none, .ref B], kw⟩) Rz s := by
  have hBw : B ∉ wr := fun h => hB (Wk.sub _ h)
  refine codeAny_builtin PySem.F.entry_max_loop ?_
  rw [Around.under_plainId PySem.F.plain_max_loop _]
  refine wpAny_bind (wpAny_seqItems hb rfl ?_)
  refine wpAny_bind (wpAny_tryCatch (Wk.item 0 s _ _ hn st fun v h' tk pv st' kp => ?_))
  have hb' := kp B _ hBw hb
  show wpAny _ A.in1 (updateSeq B (fun _ => #[v, v]) >>= _) _ _ _
  refine wpAny_bind ?_
  refine wpAny_updateSeq hb' rfl ?_
  rw [mx_nm]
  refine wpAny_pure ⟨plainId_quiet PySem.F.plain_max_loop _, mx_more Wk bt cmp B hB kw _ 0 _ v _ rfl hn (Wk.frame _ _ _ st' fun b bf o e => (Heap.get?_update_other _ _ (fun h : B = b => hB (by rw [h]; exact bf))).trans e) pv (Heap.get?_update_self _ hb' rfl) fun v2 h2 tk2 p2 k2 => ?_⟩
  exact fin v2 h2 tk2 p2 fun b o h1 h3 e => k2 b o h1 h3 ((Heap.get?_update_other _ _ (Ne.symm h3)).trans (kp b o h1 e))
/-- nothing to look at: the default -/
theorem mx_none (Wk : Walks prog w A.in1 it fp wr 0 Pv Sw) (B : Addr) (hB : B ∉ fp) (d : Value) {s : Shared} {ep : Nat} (st : Sw 0 s.heap)
    (hb : s.heap.get? B = some { cls := .type "list", dict := none, data := .seq #[] ep, slots := #[] })
    (fin : ∀ h' tk, (∀ b o, b ∉ wr → s.heap.get? b = some o → h'.get? b = some o) → Rz (.ok (.ret d)) { s with heap := h', toks := tk }) :
    codeAny (model prog w) A (.builtin "max.loop" ⟨[.ref it, .none, .ref B], [(Str.ofString "default", d)]⟩) Rz s := by
  refine codeAny_builtin PySem.F.entry_max_loop ?_
  rw [Around.under_plainId PySem.F.plain_max_loop _]
  refine wpAny_bind (wpAny_seqItems hb rfl ?_)
  refine wpAny_bind (wpAny_tryCatch (Wk.done s _ _ st fun h' tk kp => ?_))
  refine wpAny_bind (wpAny_rule (wpAny_pure ?_))
  exact fin h' tk kp
end
/-- the greatest, or 0 of none -/
def lmx : List Int → Int
  | [] => 0
  | [a] => a
  | a :: b :: r => if lmx (b :: r) > a then lmx (b :: r) else a
theorem lmx_le : ∀ {ns : List Int} {a : Int}, a ∈ ns → a ≤ lmx ns
  | [b], a, h => by rw [List.mem_singleton.mp h]; exact Int.le_refl _
  | b :: c :: r, a, h => by
    unfold lmx
    rcases List.mem_cons.mp h with rfl | h
    · split <;> omega
    · have := lmx_le h
      split <;> omega
theorem lmx_in : ∀ {ns : List Int}, ns ≠ [] → lmx ns ∈ ns
  | [b], _ => by simp [lmx]
  | b :: c :: r, _ => by
    unfold lmx
    split
    · exact List.mem_cons_of_mem _ (lmx_in (by simp))
    · exact List.mem_cons_self
theorem lmx_eq {ns : List Int} {M : Int} (h : M ∈ ns) (hl : ∀ a, a ∈ ns → a ≤ M) : M = lmx ns := by
  have h1 := lmx_le h
  have h2 := hl _ (lmx_in (ns := ns) (fun e => by rw [e] at h; cases h))
  omega
section
variable {prog : Program} {w : World} {A : Around} {E : Value → Shared → Prop} {s : Shared}
theorem args_maxd (a v : Value) : argsOk "max" ⟨[a], [(Str.ofString "default", v)]⟩ := by unfold argsOk; kernel_rfl
/-- max(l, default=d) of ints -/
theorem max_dflt {l : Addr} {vs : List Value} {ns : List Int} {d : Value} {Q : Value → Shared → Prop} (hh : A.handled = none) (hl : s.heap.IsList l vs.toArray) (hi : IntsAre vs ns)
    (fin : ∀ v h' tk, (∀ b o, s.heap.get? b = some o → h'.get? b = some o) → (ns = [] → v = d) → (ns ≠ [] → ∃ t, v = .int (lmx ns) t) → Q v { s with heap := h', toks := tk }) :
    wpAny (model prog w) A (call (.builtin "max") [.ref l] [(Str.ofString "default", d)]) Q E s := by
  obtain ⟨xs, e⟩ := hi.allInts.items
  have hns : ns = xs.toList.map (·.1) := by rw [← hi.numsOf, ← nums_intItems, ← e]
  have hsz : ns.length = xs.size := by rw [hns, List.length_map, Array.length_toList]
  rw [e] at hl
  refine kmk_tree PySem.F.kind_max PySem.F.plain_max PySem.F.entry_max (args_maxd _ _) ?_
  refine wpAny_bind (wpAny_of_eq (show Builtin.Builtins.bindParams "max" ["key", "default"] 0 ⟨[], [(Str.ofString "default", d)]⟩ = pure [none, some d] from rfl) ?_)
  refine wpAny_bind (wpAny_pure ?_)
  refine wpAny_bind (iter_intList hl fun s₂ e2 st hfp hlI => ?_)
  subst e2
  refine wpAny_bind (wpAny_newObj_type ?_)
  have hSf : ∀ b ∈ [s.heap.objs.size, l], b < (s.heap.push { cls := .type "list_iterator", data := .fields #[.ref l, .int 0 0] }).objs.size := hfp
  have Wk := Walks.list (prog := prog) (w := w) (A := A.in1) hh _ l hlI (intItems xs)
  rw [mx_nm]
  refine wpAny_pure ⟨plainId_quiet PySem.F.plain_max_loop _, ?_⟩
  have hB : (s.heap.push { cls := .type "list_iterator", data := .fields #[.ref l, .int 0 0] }).objs.size ∉ [s.heap.objs.size, l] := fun hm => Nat.lt_irrefl _ (hSf _ hm)
  have old : ∀ b o, s.heap.get? b = some o → b ∉ [s.heap.objs.size] ∧ b ≠ (s.heap.push { cls := .type "list_iterator", data := .fields #[.ref l, .int 0 0] }).objs.size ∧ ((s.heap.push { cls := .type "list_iterator", data := .fields #[.ref l, .int 0 0] }).push (seqObj "list" #[] 0)).get? b = some o := fun b o eb => by
    have hlt := Heap.lt_size eb
    refine ⟨fun hm => absurd (List.mem_singleton.mp hm) (Nat.ne_of_lt hlt), ?_, Heap.get?_push_of_some _ (Heap.get?_push_of_some _ eb)⟩
    rw [Heap.size_push]; exact Nat.ne_of_lt (Nat.lt_succ_of_lt hlt)
  have hsi : (intItems xs).size = ns.length := by rw [hsz]; simp [intItems]
  by_cases h0 : ns = []
  · have hz : (intItems xs).size = 0 := by rw [hsi, h0]; rfl
    rw [hz] at Wk
    refine mx_none Wk _ hB d (Wk.frame _ _ _ st fun b _ o e => Heap.get?_push_of_some _ e) (Heap.get?_push_size _ rfl) fun h' tk kp => ?_
    exact fin d h' tk (fun b o eb => kp b o (old b o eb).1 (old b o eb).2.2) (fun _ => rfl) (fun h => absurd h0 h)
  · have hpos : 0 < xs.size := by rw [← hsz]; exact List.length_pos_iff.mpr h0
    refine mx_first Wk _ (CmpOf.ints_gt (numAt xs) (fun _ _ => intItems_at)) _ hB _ (by rw [hsi, hsz]; exact hpos) (Wk.frame _ _ _ st fun b _ o e => Heap.get?_push_of_some _ e) (Heap.get?_push_size _ rfl) fun v h' tk pv kp => ?_
    refine fin v h' tk (fun b o eb => kp b o (old b o eb).1 (old b o eb).2.1 (old b o eb).2.2) (fun h => absurd h h0) fun _ => ?_
    obtain ⟨t, rfl⟩ := intItems_at pv
    rw [hsi, hsz]
    obtain ⟨h1, h2⟩ := argBest_gt (numAt xs) (xs.size - 1)
    refine ⟨t, ?_⟩
    congr 1
    refine lmx_eq ?_ fun a ha => ?_
    · rw [hns, numAt_eq]; exact getD_mem (by rw [List.length_map, Array.length_toList]; omega)
    · rw [hns] at ha
      obtain ⟨j, hj, rfl⟩ := mem_getD ha
      rw [List.length_map, Array.length_toList] at hj
      rw [← numAt_eq]; exact h2 j (by omega)
end
section
variable {X : Cx} {M : MX} {e : Expr} {es : List Expr} {fa : FE} {pos p kpos pos' : Pos}
def rMaxDf (K : PySem.W.Frag) : List V → List V → Hp → VK → Prop := fun vs zs H Q => ∃ (a : Addr) (ns : List Int) (i : Int), vs = [V.ref a] ∧ zs = [V.int i] ∧ SqL K H a (ns.map V.int) ∧ Q (.int (if ns = [] then i else lmx ns)) H
theorem cr_maxDf (hc : X.calm = true) : CallRK X (.builtin "max") [Str.ofString "default"] (rMaxDf X.K) := by
  intro pins s σ H vs zs us ws Q I r rz h
  obtain ⟨a, ns, i, rfl, rfl, hs, q⟩ := h
  obtain rfl := Vals.ref1 r
  obtain ⟨w1, rfl, ⟨t1, rfl⟩⟩ := vals1 rz
  obtain ⟨its, rv, hl, _⟩ := I.list hs
  refine max_dflt (I.ok.hd hc) hl.isList rv.ints fun v h' tk hk h1 h2 => ?_
  refine ⟨.int _, H, I.kept hk, ?_, q⟩
  by_cases h0 : ns = []
  · rw [if_pos h0, h1 h0]; exact ⟨_, rfl⟩
  · rw [if_neg h0]
    obtain ⟨t, rfl⟩ := h2 h0
    exact ⟨_, rfl⟩
/-- max(xs, default=i) -/
def rMaxD (i : Int) (x : D) (O : Ow) (Q : VD) : Prop := match deref O x with
  | .lst ds => match asInts ds with
    | some ns => Q (.int (if ns = [] then i else lmx ns)) O
    | none => False
  | _ => False
def fMaxD (i : Int) (fa : FE) : FE := fun ρ O Q => fa ρ O fun x O1 => rMaxD i x O1 Q
theorem de_maxD {i : Int} {j : Nat} (hc : X.calm = true) (hg : Gl X "max") (hm : X.mg "max" = none) (hv : bootBuiltins "max" = some (.builtin "max")) (ha : DE M X e fa)
    (hs : starEach [e] X.env = (false, eval e X.env) :: starEach [] X.env := by rfl)
    (he : backTo pos (starEach [e] X.env) = (false, eval e X.env) :: backTo pos (starEach [] X.env) := by rfl) (hpl : (backTo pos (starEach [e] X.env)).any (·.1) = false := by rfl) :
    DE M X (.Call (.Name "max" p) [e] [⟨some "default", .Constant (.int i) j pos', kpos⟩] pos) (fMaxD i fa) := by
  refine peMono (pe_callBK (cr_maxDf hc) hg hm hv (pa_cons ha pa_nil hs) (pk_cons pe_int pk_nil) (by decide) (by decide) he hpl) fun σ H Q h => ?_
  obtain ⟨F, O, P, ρ, R, g, en, q, po⟩ := h
  refine ⟨F, O, P, ρ, _, g, en, q, fun x O1 F1 H1 v q1 s1 g1 r1 => ?_⟩
  have h1 := g1.deref r1
  unfold rMaxD at q1
  revert q1 h1
  generalize Kf.deref O1 x = ex
  intro q1 h1
  cases ex <;> first | exact q1.elim | skip
  rename_i ds
  obtain ⟨c, xs, rfl, h1, h2⟩ := h1
  dsimp only at q1
  cases e0 : asInts ds with
  | none => rw [e0] at q1; exact q1.elim
  | some ns =>
    rw [e0] at q1
    rw [of_asInts e0] at h2
    have e3 := h2.ints
    subst e3
    exact ⟨c, ns, i, rfl, rfl, SqL.of h1, (po.more s1).at g1 q1 (by simp only [Rep])⟩
/-- max(xs) -/
def rMaxL : RAD := fun ds O Q => match ds with
  | [x] => match deref O x with
    | .lst ds => match asInts ds with
      | some ns => ns ≠ [] ∧ Q (.int (lmx ns)) O
      | none => False
    | _ => False
  | _ => False
theorem cd_maxL (hc : X.calm = true) : CallD M X (.builtin "max") rMaxL := by
  refine callD_of fun F P H O xs ds R Q g r1 q po => ?_
  match ds, q with
  | [x], q =>
    obtain ⟨v, rfl, r1'⟩ := r1.one'
    have h1 := g.deref r1'
    unfold rMaxL at q
    dsimp only at q
    revert q h1
    generalize Kf.deref O x = ex
    intro q h1
    cases ex <;> first | exact q.elim | skip
    rename_i ds
    obtain ⟨c, xs, rfl, h1, h2⟩ := h1
    dsimp only at q
    cases e : asInts ds with
    | none => rw [e] at q; exact q.elim
    | some ns =>
      rw [e] at q
      rw [of_asInts e] at h2
      have e3 := h2.ints
      subst e3
      exact ⟨_, cr_max hc, c, ns, rfl, SqL.of h1, List.length_pos_iff.mpr q.1, fun m k1 k2 => by
        obtain rfl := lmx_eq k1 k2
        exact po.at g q.2 (by simp only [Rep])⟩
theorem ap_fMaxD (i : Int) (fa : FE) {ρ : DEnv} {O : Ow} {Q : VD} : fMaxD i fa ρ O Q = fa ρ O fun x O1 => rMaxD i x O1 Q := rfl
theorem rMaxD_l {i : Int} {ns : List Int} {O : Ow} {Q : VD} : rMaxD i (.lst (ns.map .int)) O Q = Q (.int (if ns = [] then i else lmx ns)) O := by
  simp only [rMaxD, deref, asInts_map]
theorem rMaxL_l {ns : List Int} {O : Ow} {Q : VD} : rMaxL [.lst (ns.map .int)] O Q = (ns ≠ [] ∧ Q (.int (lmx ns)) O) := by
  simp only [rMaxL, deref, asInts_map]
end
end Kf
/-! Dl17: defs with one default, None; walks along a list, owned or not. -/
namespace Kf
open PySem PySem.Spec L2
open PyProof.Rows hiding St
/-- a def of the text with one default, None -/
structure FnD (K : PySem.W.Frag) (mg : Str → Option Value) (x : Str) (st : Stmt) (ps : List Str) (f : Addr) (fd : FuncData) : Prop where
  F : FunD K x x (defArgs st) (defBody st) (defScope st) [V.non] [] f fd
  m : mg x = some (.ref f)
  b : Binds K fd ps []
  b1 : ∃ ds, Vals [V.non] ds ∧ Binds K fd ps ds
section
variable {X : Cx} {M : MX} {RX : XW} {W : WX} {e : Expr} {es : List Expr} {fr : FA} {k : Nat} {f : Addr} {fd : FuncData} {ps : List Str} {dsp : DSp} {x : Str} {st : Stmt} {p pos : Pos}
theorem de_callXd (N : FnD X.K X.mg x st ps f fd) (G : FnOk X.prog X.w X.K X.mg X.base (L2.CX X.prog X.w) k f fd ps (liftSp X.K dsp)) (hr : Room k X.A) (tk : Takes X W) (hg : Gl X x) (ha : DA (mxw X.K RX W) X (e :: es) fr)
    (hdb : (x == ("__debug__" : Str)) = false := by decide) (he : starEach (e :: es) X.env = (false, eval e X.env) :: starEach es X.env := by rfl) (hpl : (backTo pos (starEach es X.env)).any (·.1) = false := by rfl) :
    DE (mxw X.K RX W) X (.Call (.Name x p) (e :: es) [] pos) (fCallX dsp RX fr) := peMono (pe_callS G hr hg N.m N.F.kp N.b (fun σ => passAt tk σ) ha hdb he hpl) fun σ H Q h => by
  obtain ⟨F, O, P, ρ, R, g, en, q, po⟩ := h
  refine ⟨F, O, P, ρ, _, g, en, q, fun ds O1 F1 H1 vs q1 s1 g1 r1 => ?_⟩
  refine ⟨F1, O1, P, ds, R, _, g1.mt, r1, q1, po.mt g1 s1, fun cls fs O' F' H' dd q2 s2 g2 xd => ?_⟩
  exact (g2.re ((mxw X.K RX W).mono g1.rl s2 (Same.refl _))).wish q2 xd (en.mono (s1.trans s2))
theorem de_callX0d (N : FnD X.K X.mg x st ps f fd) (G : FnOk X.prog X.w X.K X.mg X.base (L2.CX X.prog X.w) k f fd ps (liftSp X.K dsp)) (hr : Room k X.A) (hg : Gl X x) (ha : DA M X (e :: es) fr)
    (hdb : (x == ("__debug__" : Str)) = false := by decide) (he : starEach (e :: es) X.env = (false, eval e X.env) :: starEach es X.env := by rfl) (hpl : (backTo pos (starEach es X.env)).any (·.1) = false := by rfl) :
    DE M X (.Call (.Name x p) (e :: es) [] pos) (fCallX dsp RX0 fr) := peMono (pe_callS (E := WE fun _ _ _ _ => False) G hr hg N.m N.F.kp N.b (fun σ => passAt takes0 σ) ha hdb he hpl) fun σ H Q h => by
  obtain ⟨F, O, P, ρ, R, g, en, q, po⟩ := h
  refine ⟨F, O, P, ρ, _, g, en, q, fun ds O1 F1 H1 vs q1 s1 g1 r1 => ?_⟩
  exact ⟨F1, O1, P, ds, R, _, g1.mt, r1, q1, po.mt g1 s1, fun cls fs O' F' H' dd q2 s2 g2 xd => q2⟩
/-- a call without the last argument -/
def fCallXD (dsp : DSp) (RX : XW) (fr : FA) : FE := fun ρ O Q => fr ρ O fun ds O1 => dsp (ds ++ [.non]) O1 Q fun cls fs O' => RX cls fs ρ O'
theorem rep_non {K : PySem.W.Frag} {F : Hp} : RepAll K F [.non] [V.non] := .one (by simp only [Rep])
theorem de_callXD (N : FnD X.K X.mg x st ps f fd) (G : FnOk X.prog X.w X.K X.mg X.base (L2.CX X.prog X.w) k f fd ps (liftSp X.K dsp)) (hr : Room k X.A) (tk : Takes X W) (hg : Gl X x) (ha : DA (mxw X.K RX W) X (e :: es) fr)
    (hdb : (x == ("__debug__" : Str)) = false := by decide) (he : starEach (e :: es) X.env = (false, eval e X.env) :: starEach es X.env := by rfl) (hpl : (backTo pos (starEach es X.env)).any (·.1) = false := by rfl) :
    DE (mxw X.K RX W) X (.Call (.Name x p) (e :: es) [] pos) (fCallXD dsp RX fr) := by
  obtain ⟨dv, hv, hb⟩ := N.b1
  refine peMono (pe_callSD G hr hg N.m N.F.kp hb hv (fun σ => passAt tk σ) ha hdb he hpl) fun σ H Q h => ?_
  obtain ⟨F, O, P, ρ, R, g, en, q, po⟩ := h
  refine ⟨F, O, P, ρ, _, g, en, q, fun ds O1 F1 H1 vs q1 s1 g1 r1 => ?_⟩
  refine ⟨F1, O1, P, ds ++ [.non], R, _, g1.mt, r1.append rep_non, q1, po.mt g1 s1, fun cls fs O' F' H' dd q2 s2 g2 xd => ?_⟩
  exact (g2.re ((mxw X.K RX W).mono g1.rl s2 (Same.refl _))).wish q2 xd (en.mono (s1.trans s2))
theorem de_callX0D (N : FnD X.K X.mg x st ps f fd) (G : FnOk X.prog X.w X.K X.mg X.base (L2.CX X.prog X.w) k f fd ps (liftSp X.K dsp)) (hr : Room k X.A) (hg : Gl X x) (ha : DA M X (e :: es) fr)
    (hdb : (x == ("__debug__" : Str)) = false := by decide) (he : starEach (e :: es) X.env = (false, eval e X.env) :: starEach es X.env := by rfl) (hpl : (backTo pos (starEach es X.env)).any (·.1) = false := by rfl) :
    DE M X (.Call (.Name x p) (e :: es) [] pos) (fCallXD dsp RX0 fr) := by
  obtain ⟨dv, hv, hb⟩ := N.b1
  refine peMono (pe_callSD (E := WE fun _ _ _ _ => False) G hr hg N.m N.F.kp hb hv (fun σ => passAt takes0 σ) ha hdb he hpl) fun σ H Q h => ?_
  obtain ⟨F, O, P, ρ, R, g, en, q, po⟩ := h
  refine ⟨F, O, P, ρ, _, g, en, q, fun ds O1 F1 H1 vs q1 s1 g1 r1 => ?_⟩
  exact ⟨F1, O1, P, ds ++ [.non], R, _, g1.mt, r1.append rep_non, q1, po.mt g1 s1, fun cls fs O' F' H' dd q2 s2 g2 xd => q2⟩
theorem ap_fCallXD (dsp : DSp) (RX : XW) (fr : FA) {ρ : DEnv} {O : Ow} {Q : VD} : fCallXD dsp RX fr ρ O Q = fr ρ O fun ds O1 => dsp (ds ++ [.non]) O1 Q fun cls fs O' => RX cls fs ρ O' := rfl
end
section
variable {P : Program} {w : World} {K : PySem.W.Frag} {mg : Str → Option Value} {base : Heap}
theorem fn_dXD {x qual : Str} {st : Stmt} {f : Addr} {fd : FuncData} {N ps : List Str} {k : Nat} {dsp : DSp} {g : XW → GS} (F : FunD K x qual (defArgs st) (defBody st) (defScope st) [V.non] [] f fd) (S : FnScope N ps (defScope st)) (len : ∀ ds O R RE, dsp ds O R RE → ds.length = ps.length)
    (hder : ∀ (RX : XW) (W : WX) (cdv : Value) (A : Around) (outer : List Env) (s : Shared) (H : Hp) (E : XK), Takes (cxOf (L2.CX P w) P w K mg base N qual (defScope st) f cdv A outer s H E) W →
      PassesOwn (model (cxOf (L2.CX P w) P w K mg base N qual (defScope st) f cdv A outer s H E).prog (cxOf (L2.CX P w) P w K mg base N qual (defScope st) f cdv A outer s H E).w) (cxOf (L2.CX P w) P w K mg base N qual (defScope st) f cdv A outer s H E).A (cxOf (L2.CX P w) P w K mg base N qual (defScope st) f cdv A outer s H E).env (cxOf (L2.CX P w) P w K mg base N qual (defScope st) f cdv A outer s H E).xe →
      Room k (A.deeper (envOfC qual (defScope st) s.heap.objs.size f cdv)) →
      DSs (mxw K RX W) (cxOf (L2.CX P w) P w K mg base N qual (defScope st) f cdv A outer s H E) (defBody st) (g RX))
    (hread : ∀ ds O R RE, dsp ds O R RE → g (XG RE) { nx := fun _ O' => VG R .non O', rt := VG R } (startD N ds) O) : FnOk P w K mg base (L2.CX P w) (k + 1) f fd ps (liftSp K dsp) := by
  refine F.ok S (fun vs H Q E h => ?_) fun cdv A outer s H vs Q E hr h => ?_
  · obtain ⟨F, O, P, ds, R, RE, g, r, q, _⟩ := h
    rw [← r.length]; exact len ds O R RE q
  · obtain ⟨F, O, P', ds, R, RE, gd, r, q, po, px⟩ := h
    have tk : Takes (cxOf (L2.CX P w) P w K mg base N qual (defScope st) f cdv A outer s H E) (fun cls d _ H => E cls d H) := takes_of rfl rfl rfl rfl
    refine ⟨_, hder (XG RE) _ cdv A outer s H E tk (passes_of rfl) hr, F, O, P', startD N ds, { nx := fun _ O' => VG R .non O', rt := VG R }, gd.re ⟨P', Same.refl _, fun cls fs ρ O' F' H' dd σ q1 s1 g1 xd _ => ?_⟩, ?_, hread ds O R RE q, ⟨fun ρ O' F' H' σ q1 s1 g1 _ => ?_, fun d O' F' H' v q1 s1 g1 r1 => ?_, fun _ _ _ _ _ z => z.elim, fun _ _ _ _ _ z => z.elim⟩⟩
    · obtain ⟨O2, s2, q2⟩ := q1
      exact px cls fs O2 F' H' dd q2 s1 (g1.sub s2) xd
    · unfold startD L2.start
      rw [r.length]
      exact envOk_start _ r
    · obtain ⟨O2, s2, q2⟩ := q1
      exact po .non O2 F' H' .non q2 s1 (g1.mt.sub s2) (by simp only [Rep])
    · obtain ⟨O2, s2, q2⟩ := q1
      exact po d O2 F' H' v q2 s1 (g1.mt.sub s2) r1
end
/-! ### for over a list, owned or not, that stays -/
section
variable {X : Cx} {M : MX} {l tg : Expr} {fl : FE} {pos : Pos}
def forE (x : D) (all : List D) (p : Pat) (gb : GS) (R : DEnds) : List D → DEnv → Ow → Prop
  | [], ρ, O => deref O x = .lst all ∧ R.nx ρ O
  | d :: ds, ρ, O => deref O x = .lst all ∧ patGet (patD p d ρ) fun ρ1 => gb { R with nx := forE x all p gb R ds, ct := forE x all p gb R ds, bk := R.nx } ρ1 O
def asLE (x : D) (O : Ow) (Q : List D → Prop) : Prop := match deref O x with
  | .lst ds => Q ds
  | _ => False
def gForE (fl : FE) (p : Pat) (gb : GS) : GS := fun R ρ O => fl ρ O fun x O1 => asLE x O1 fun ds => forE x ds p gb R ds ρ O1
theorem ap_gForE (fl : FE) (p : Pat) (gb : GS) {R : DEnds} {ρ : DEnv} {O : Ow} : gForE fl p gb R ρ O = fl ρ O fun x O1 => asLE x O1 fun ds => forE x ds p gb R ds ρ O1 := rfl
theorem asLE_l {ds : List D} {O : Ow} {Q : List D → Prop} : asLE (.lst ds) O Q = Q ds := rfl
theorem asLE_r {a : Addr} {ds : List D} {O : Ow} {Q : List D → Prop} (h : O a = some (.lst ds)) : asLE (.ref a) O Q = Q ds := by simp only [asLE, deref, h]
theorem ds_forE {body : List Stmt} {p : Pat} {gb : GS} (hp : PassesOwn (model X.prog X.w) X.A X.env X.xe) (hc : X.calm = true) (hl : DE M X l fl) (hg : DP X tg p) (hb : DSs M X body gb)
    (hs : ∀ x, foldedSetIterable l X.env x = pure x := by intro _; rfl) : DS M X (.For tg l body [] pos) (gForE fl p gb) := psMono (ps_for hp hc (pi_list hl) hg hb hs) fun D σ H h => by
  obtain ⟨F, O, P, ρ, R, g, en, q, po⟩ := h
  refine ⟨F, O, P, ρ, _, g, en, q, fun x O1 F1 H1 v q1 s1 g1 r1 => ?_⟩
  have at' : ∀ {F2 : Hp} {O2 : Ow} {P2 H2 : Hp} {ds : List Kf.D}, Same F1 F2 → Gd M X.K F2 O2 P2 H2 → deref O2 x = .lst ds → ∃ c ws, v = V.ref c ∧ SqL X.K H2 c ws ∧ RepAll X.K F2 ds ws := by
    intro F2 O2 P2 H2 ds s2 g2 e2
    have h1 := g2.deref (r1.mono s2)
    rw [e2] at h1
    obtain ⟨c, xs, e3, h2, h3⟩ := h1
    exact ⟨c, xs, e3, SqL.of h2, h3⟩
  unfold asLE at q1
  split at q1 <;> first | exact q1.elim | skip
  rename_i ds e
  obtain ⟨c, vs, rfl, h1, h2⟩ := at' (Same.refl _) g1 e
  refine ⟨c, rfl, ⟨vs, h1⟩, ?_⟩
  refine ⟨fun i m σ H => ∃ F2 O2 ρ2, i + m = ds.length ∧ Same F1 F2 ∧ Gd M X.K F2 O2 P H ∧ EnvOk X.K F2 ρ2 σ ∧ forE x ds p gb R (ds.drop i) ρ2 O2,
    ⟨ds.length, F1, O1, ρ, by omega, Same.refl _, g1, en.mono s1, by rw [List.drop_zero]; exact q1⟩, fun i m σ2 H2 hW => ?_⟩
  obtain ⟨F2, O2, ρ2, hm, s2, g2, en2, q2⟩ := hW
  by_cases hi : i < ds.length
  · rw [List.drop_eq_getElem_cons hi] at q2
    unfold forE at q2
    obtain ⟨e2, q2⟩ := q2
    obtain ⟨c2, ws, e4, sq, h4⟩ := at' s2 g2 e2
    cases e4
    obtain ⟨w, e3, r3⟩ := h4.get (List.getElem?_eq_getElem hi)
    refine .inr ⟨⟨ws, w, sq, e3⟩, fun σ' H' => ∃ F3 O3 ρ3, Same F1 F3 ∧ Gd M X.K F3 O3 P H' ∧ EnvOk X.K F3 ρ3 σ' ∧ forE x ds p gb R (ds.drop (i + 1)) ρ3 O3, fun σ' H' hN => ?_, fun y H' hyy => ?_⟩
    · obtain ⟨F3, O3, ρ3, s3, g3, en3, q3⟩ := hN
      exact ⟨m - 1, by omega, F3, O3, ρ3, by omega, s3, g3, en3, q3⟩
    · obtain ⟨rfl, hx⟩ := hyy
      have hxx := hx ws sq
      rw [e3] at hxx
      cases hxx
      cases e1 : patD p ds[i] ρ2 with
      | none => rw [e1] at q2; exact q2.elim
      | some ρ3 =>
        rw [e1] at q2
        refine pat_ok g2 p ds[i] _ ρ2 ρ3 σ2 _ e1 r3 en2 fun σ4 en4 _ => ?_
        refine ⟨F2, O2, P, ρ3, _, g2, en4, q2, ⟨fun ρ5 O5 F5 H5 σ5 q5 s5 g5 en5 => ?_, ?_, ?_, fun ρ5 O5 F5 H5 σ5 q5 s5 g5 en5 => ?_⟩⟩
        · exact ⟨F5, O5, ρ5, s2.trans s5, g5, en5, q5⟩
        · exact po.rt.more (s1.trans s2)
        · exact po.nx.more (s1.trans s2)
        · exact ⟨F5, O5, ρ5, s2.trans s5, g5, en5, q5⟩
  · rw [List.drop_eq_nil_of_le (by omega)] at q2
    unfold forE at q2
    obtain ⟨c2, ws, e4, sq, h4⟩ := at' s2 g2 q2.1
    cases e4
    refine .inl ⟨⟨ws, sq, by rw [← h4.length]; omega⟩, ?_⟩
    exact po.nx ρ2 O2 F2 H2 σ2 q2.2 (s1.trans s2) g2 en2
end
end Kf
/-! Dl18: walks along the keys of an owned dict. -/
namespace Kf
open PySem PySem.Spec L2
open PyProof.Rows hiding St
variable {M : MX}
/-! ### [.. for k in d] -/
def lcK (a : Addr) (c : Cell) (p : Pat) (ft : FT) (fe : FE) (ρ : DEnv) : List D → List D → Ow → (List D → Ow → Prop) → Prop
  | [], acc, O, Q => O a = some c ∧ Q acc O
  | d :: ds, acc, O, Q => O a = some c ∧ patGet (patD p d ρ) fun ρ1 => ft ρ1 O fun b O1 => if b = true then fe ρ1 O1 fun e O2 => acc.length < sizeLine ∧ lcK a c p ft fe ρ ds (acc ++ [e]) O2 Q else lcK a c p ft fe ρ ds acc O1 Q
def asDc (o : Option (Option D)) (O : Ow) (N : Addr → List (Key × D) → Prop) : Prop := match o with
  | some (some (.ref a)) => match O a with
    | some (.dic kvs) => N a kvs
    | _ => False
  | _ => False
def keysD (kvs : List (Key × D)) : List D := kvs.map fun kv => keyD kv.1
def fLcK (i : Nat) (p : Pat) (ft : FT) (fe : FE) (vs : List Nat) : FE := fun ρ O Q => asDc ρ[i]? O fun a kvs =>
  ∀ o, lcK a (.dicL kvs o) p ft fe (wipeD ρ vs) (keysD kvs) [] (updO O a (.dicL kvs o)) fun acc O2 => Q (.lst acc) (updO O2 a (.dic kvs))
theorem asDc_of {o : Option (Option D)} {O : Ow} {N : Addr → List (Key × D) → Prop} (q : asDc o O N) : ∃ a kvs, o = some (some (.ref a)) ∧ O a = some (.dic kvs) ∧ N a kvs := by
  unfold asDc at q
  split at q <;> first | exact q.elim | skip
  rename_i a
  split at q <;> first | exact q.elim | skip
  rename_i kvs e
  exact ⟨a, kvs, rfl, e, q⟩
theorem keys_rep {K : PySem.W.Frag} {F : Hp} {kvs : List (Key × D)} {vs : List (Key × V)} (h : KvOk K F kvs vs) {i : Nat} {k : Key} {v : V} (e : vs[i]? = some (k, v)) : (keysD kvs)[i]? = some (keyD k) := by
  have := h.keys
  have e2 : (vs.map (·.1))[i]? = some k := by rw [List.getElem?_map, e]; rfl
  rw [this, List.getElem?_map] at e2
  unfold keysD
  rw [List.getElem?_map]
  cases hk : kvs[i]? with
  | none => rw [hk] at e2; cases e2
  | some kv => rw [hk] at e2; cases e2; rfl
section
variable {X : Cx} {elt tg iter : Expr} {ifs : List Expr} {scope : Scope} {own : List (Str × Nat)} {pos : Pos} {p : Pat} {ft : FT} {fe : FE}
theorem fLcK_lift {vs : List Nat} {K : PySem.W.Frag} {i0 : Nat} (hv : ∀ i ∈ patI p, i ∈ vs) : ∀ σ H Q, liftE M K (fLcK i0 p ft fe vs) σ H Q → tLockE (tLc (iKeys (liftE M K (fVar i0))) (patT K p) (liftT M K ft) (liftE M K fe) vs) σ H Q := fun σ H Q h => by
  obtain ⟨F, O, P, ρ, R, g, en, q, po⟩ := h
  obtain ⟨a, kvs, e0, e, q⟩ := asDc_of q
  obtain ⟨hF, hP, ws, hH, hkv⟩ := g.ow a _ e
  refine ⟨a, .dK ws, hH, trivial, fun od => ?_⟩
  have q := q (.frz od (.dK ws))
  generalize hc : Cell.dicL kvs (.frz od (.dK ws)) = c at q
  have g0 : Gd M K F (updO O a c) P (upd H a (.frz od (.dK ws))) := g.setO e (by rw [← hc]; exact ⟨upd_same, od, ws, rfl, hkv⟩)
  refine ⟨F, updO O a c, P, ρ, fun d O' => d = .ref a ∧ O' = updO O a c, g0, en, by unfold fVar; rw [e0]; exact ⟨rfl, rfl⟩, fun x O1 F1 H1 v q1 s1 g1 r1 => ?_⟩
  obtain ⟨rfl, rfl⟩ := q1
  simp only [Rep] at r1
  subst r1
  have cellH : ∀ {F2 O2 P2 H2}, Gd M K F2 O2 P2 H2 → O2 a = some c → H2 a = some (.frz od (.dK ws)) := fun {F2 O2 P2 H2} g2 e2 => by
    have := (g2.ow a c e2).2.2
    rw [← hc] at this
    exact this.1
  refine ⟨a, od, rfl, .inl ⟨ws, cellH g1 updO_same, fun D hD => ?_⟩⟩
  have hPD := g1.freeP hD
  have hlen : ws.length = (keysD kvs).length := by unfold keysD; rw [List.length_map]; exact (Paired.length hkv).symm
  refine ⟨fun i m H => ∃ F2 O2 acc vacc, i + m = (keysD kvs).length ∧ Same F1 F2 ∧ Gd M K F2 O2 (upd P D (.lst vacc)) H ∧ RepAll K F2 acc vacc ∧ lcK a c p ft fe (wipeD ρ vs) ((keysD kvs).drop i) acc O2 fun acc O2 => R (.lst acc) (updO O2 a (.dic kvs)),
    ⟨(keysD kvs).length, F1, updO O a c, [], [], by omega, Same.refl _, g1.aside hD, .nil, by rw [List.drop_zero]; exact q⟩, fun i m H2 hW => ?_⟩
  obtain ⟨F2, O2, acc, vacc, hm, s2, g2, ra, q2⟩ := hW
  by_cases hi : i < (keysD kvs).length
  · rw [List.drop_eq_getElem_cons hi] at q2
    unfold lcK at q2
    obtain ⟨e2, q2⟩ := q2
    refine .inr ⟨⟨cellH g2 e2, by omega⟩, fun H' => ∃ F3 O3 acc vacc, Same F1 F3 ∧ Gd M K F3 O3 (upd P D (.lst vacc)) H' ∧ RepAll K F3 acc vacc ∧ lcK a c p ft fe (wipeD ρ vs) ((keysD kvs).drop (i + 1)) acc O3 fun acc O2 => R (.lst acc) (updO O2 a (.dic kvs)), fun H' hN => ?_, fun x H' hyy => ?_⟩
    · obtain ⟨F3, O3, acc3, vacc3, s3, g3, r3, q3⟩ := hN
      exact ⟨m - 1, by omega, F3, O3, acc3, vacc3, by omega, s3, g3, r3, q3⟩
    · obtain ⟨rfl, k, v, e3, rfl⟩ := hyy
      have e4 := keys_rep hkv e3
      rw [List.getElem?_eq_getElem hi] at e4
      cases e1 : patD p (keysD kvs)[i] (wipeD ρ vs) with
      | none => rw [e1] at q2; exact q2.elim
      | some ρ3 =>
        rw [e1] at q2
        refine pat_ok g2 p (keysD kvs)[i] _ (wipeD ρ vs) ρ3 (wipe σ vs) _ e1 (by rw [Option.some.inj e4]; exact keyD_rep k) ((en.mono (s1.trans s2)).wipes vs) fun σ4 en4 off => ?_
        refine ⟨wipe_off off hv, F2, O2, upd P D (.lst vacc), ρ3, _, g2, en4, q2, fun b O5 F5 H5 q5 s5 g5 => ?_⟩
        cases b with
        | true =>
          rw [if_pos rfl] at q5 ⊢
          refine ⟨F5, O5, upd P D (.lst vacc), ρ3, _, g5, en4.mono s5, q5, fun y O6 F6 H6 w q6 s6 g6 r6 => ?_⟩
          refine ⟨vacc, (g6.as D _ upd_same).2, by rw [← ra.length]; exact q6.1, F6, O6, acc ++ [y], vacc ++ [w], s2.trans (s5.trans s6), g6.asideSet (M.mono g1.rl (s2.trans (s5.trans s6)) (same_upd hPD)), (ra.mono (s5.trans s6)).append (.one r6), q6.2⟩
        | false =>
          rw [if_neg Bool.false_ne_true] at q5 ⊢
          exact ⟨F5, O5, acc, vacc, s2.trans s5, g5, ra.mono s5, q5⟩
  · rw [List.drop_eq_nil_of_le (by omega)] at q2
    unfold lcK at q2
    obtain ⟨e2, q2⟩ := q2
    refine .inl ⟨⟨cellH g2 e2, by omega⟩, cellH g2 e2, ?_⟩
    have g3 : Gd M K F2 (updO O2 a (.dic kvs)) (upd P D (.lst vacc)) (upd H2 a (.dK ws)) := g2.setO e2 ⟨ws, upd_same, hkv.mono (s1.trans s2)⟩
    obtain ⟨s4, g4⟩ := g3.asideFz hPD (M.mono g1.rl s2 (Same.refl _))
    refine po (.lst acc) _ _ _ _ q2 ((s1.trans s2).trans s4) g4 ?_
    simp only [Rep]
    exact ⟨D, vacc, rfl, upd_same, ra.mono s4⟩
theorem de_lcK {i0 : Nat} {vs : List Nat} (hc : X.calm = true) (hN : X.N.Nodup) (hi : DE M X iter (fVar i0)) (ok : BlkOk X.N X.env.scope scope own)
    (hg : ∀ (s : Shared) (H : Hp) (C : Addr) (cl : List (Str × Addr)) (fp : List Addr), DP (X.blk s H scope (compEnvC scope cl C X.env) fp) tg p) (ht : ∀ (s : Shared) (H : Hp) (C : Addr) (cl : List (Str × Addr)) (fp : List Addr), PTs (X.blk s H scope (compEnvC scope cl C X.env) fp) ifs (liftT M X.K ft))
    (he : ∀ (s : Shared) (H : Hp) (C : Addr) (cl : List (Str × Addr)) (fp : List Addr), DE M (X.blk s H scope (compEnvC scope cl C X.env) fp) elt fe) (hvs : own.map (·.2) = vs := by rfl) (hv : ((patI p).all fun i => vs.contains i) = true := by decide) (hs : ∀ x, foldedSetIterable iter X.env x = pure x := by intro _; rfl) :
    DE M X (.ListComp elt [⟨tg, iter, ifs, 0⟩] scope pos) (fLcK i0 p ft fe vs) := by
  subst hvs
  exact peMono (pe_lock (pe_lc (te := liftE M X.K fe) (g := patT X.K p) hc hN (pi_keys hi) ok hg ht he hs)) (fLcK_lift (pat_in hv))
end
theorem ap_fLcK (i : Nat) (p : Pat) (ft : FT) (fe : FE) (vs : List Nat) {ρ : DEnv} {O : Ow} {Q : VD} : fLcK i p ft fe vs ρ O Q = asDc ρ[i]? O fun a kvs =>
  ∀ o, lcK a (.dicL kvs o) p ft fe (wipeD ρ vs) (keysD kvs) [] (updO O a (.dicL kvs o)) fun acc O2 => Q (.lst acc) (updO O2 a (.dic kvs)) := rfl
theorem asDc_r {a : Addr} {kvs : List (Key × D)} {O : Ow} {N : Addr → List (Key × D) → Prop} (h : O a = some (.dic kvs)) : asDc (some (some (.ref a))) O N = N a kvs := by simp only [asDc, h]
/-- [.. for k in d], nothing owned changed -/
theorem lcK_map {α : Type} {a : Addr} {c : Cell} {p : Pat} {fe : FE} {ρ : DEnv} {O : Ow} (hO : O a = some c) (f g : α → D) : ∀ (xs : List α) (acc : List D) (Q : List D → Ow → Prop), acc.length + xs.length ≤ sizeLine →
    (∀ x ∈ xs, ∀ Q' : VD, Q' (g x) O → patGet (patD p (f x) ρ) fun ρ1 => fe ρ1 O Q') → Q (acc ++ xs.map g) O → lcK a c p fYes fe ρ (xs.map f) acc O Q
  | [], acc, Q, _, _, q => ⟨hO, by simpa using q⟩
  | x :: xs, acc, Q, hl, hs, q => by
    rw [List.length_cons] at hl
    have z := hs x List.mem_cons_self (fun e O2 => acc.length < sizeLine ∧ lcK a c p fYes fe ρ (xs.map f) (acc ++ [e]) O2 Q) ⟨by omega, lcK_map hO f g xs _ Q (by rw [List.length_append, List.length_singleton]; omega) (fun d' hd => hs d' (List.mem_cons_of_mem _ hd)) (by simpa using q)⟩
    rw [List.map_cons]
    unfold lcK
    refine ⟨hO, ?_⟩
    simpa [fYes] using z
theorem lcK_filter {α : Type} {a : Addr} {c : Cell} {p : Pat} {ft : FT} {fe : FE} {ρ : DEnv} {O : Ow} (hO : O a = some c) (b : α → Bool) (f g : α → D) : ∀ (xs : List α) (acc : List D) (Q : List D → Ow → Prop), acc.length + xs.length ≤ sizeLine →
    (∀ x ∈ xs, ∀ (Q1 : VD) (Q2 : Ow → Prop), (b x = true → Q1 (g x) O) → (b x = false → Q2 O) → patGet (patD p (f x) ρ) fun ρ1 => ft ρ1 O fun k O1 => if k = true then fe ρ1 O1 Q1 else Q2 O1) → Q (acc ++ (xs.filter b).map g) O → lcK a c p ft fe ρ (xs.map f) acc O Q
  | [], acc, Q, _, _, q => ⟨hO, by simpa using q⟩
  | x :: xs, acc, Q, hl, hs, q => by
    rw [List.length_cons] at hl
    have z := hs x List.mem_cons_self (fun e O2 => acc.length < sizeLine ∧ lcK a c p ft fe ρ (xs.map f) (acc ++ [e]) O2 Q) (fun O2 => lcK a c p ft fe ρ (xs.map f) acc O2 Q)
      (fun hb => ⟨by omega, lcK_filter hO b f g xs _ Q (by rw [List.length_append, List.length_singleton]; omega) (fun d' hd => hs d' (List.mem_cons_of_mem _ hd)) (by simpa [List.filter_cons, hb] using q)⟩)
      (fun hb => lcK_filter hO b f g xs _ Q (by omega) (fun d' hd => hs d' (List.mem_cons_of_mem _ hd)) (by simpa [List.filter_cons, hb] using q))
    rw [List.map_cons]
    unfold lcK
    exact ⟨hO, z⟩
/-! ### for k in d -/
def endsK (a : Addr) (c : Cell) (kvs : List (Key × D)) (R : DEnds) (N : DEnv → Ow → Prop) : DEnds :=
  { nx := N, ct := N, bk := fun ρ O => O a = some c ∧ R.nx ρ (updO O a (.dic kvs)), rt := fun d O => O a = some c ∧ R.rt d (updO O a (.dic kvs)) }
def forK (a : Addr) (c : Cell) (kvs : List (Key × D)) (p : Pat) (gb : GS) (R : DEnds) : List D → DEnv → Ow → Prop
  | [], ρ, O => O a = some c ∧ R.nx ρ (updO O a (.dic kvs))
  | d :: ds, ρ, O => O a = some c ∧ patGet (patD p d ρ) fun ρ1 => gb (endsK a c kvs R (forK a c kvs p gb R ds)) ρ1 O
def gForK (i : Nat) (p : Pat) (gb : GS) : GS := fun R ρ O => asDc ρ[i]? O fun a kvs => ∀ o, forK a (.dicL kvs o) kvs p gb R (keysD kvs) ρ (updO O a (.dicL kvs o))
theorem ap_gForK (i : Nat) (p : Pat) (gb : GS) {R : DEnds} {ρ : DEnv} {O : Ow} : gForK i p gb R ρ O = asDc ρ[i]? O fun a kvs => ∀ o, forK a (.dicL kvs o) kvs p gb R (keysD kvs) ρ (updO O a (.dicL kvs o)) := rfl
section
variable {X : Cx} {tg iter : Expr} {pos : Pos}
theorem ds_forK {i0 : Nat} {body : List Stmt} {p : Pat} {gb : GS} (hp : PassesOwn (model X.prog X.w) X.A X.env X.xe) (hc : X.calm = true) (hl : DE M X iter (fVar i0)) (hg : DP X tg p) (hb : DSs M X body gb)
    (hs : ∀ x, foldedSetIterable iter X.env x = pure x := by intro _; rfl) : DS M X (.For tg iter body [] pos) (gForK i0 p gb) := psMono (ps_lock (ps_for hp hc (pi_keys hl) hg hb hs)) fun D σ H h => by
  obtain ⟨F, O, P, ρ, R, g, en, q, po⟩ := h
  obtain ⟨a, kvs, e0, e, q⟩ := asDc_of q
  obtain ⟨hF, hP, ws, hH, hkv⟩ := g.ow a _ e
  refine ⟨a, .dK ws, hH, trivial, fun od => ?_⟩
  have q := q (.frz od (.dK ws))
  generalize hcc : Cell.dicL kvs (.frz od (.dK ws)) = c at q
  have g0 : Gd M X.K F (updO O a c) P (upd H a (.frz od (.dK ws))) := g.setO e (by rw [← hcc]; exact ⟨upd_same, od, ws, rfl, hkv⟩)
  refine ⟨F, updO O a c, P, ρ, fun d O' => d = .ref a ∧ O' = updO O a c, g0, en, by unfold fVar; rw [e0]; exact ⟨rfl, rfl⟩, fun x O1 F1 H1 v q1 s1 g1 r1 => ?_⟩
  obtain ⟨rfl, rfl⟩ := q1
  simp only [Rep] at r1
  subst r1
  have cellH : ∀ {F2 O2 P2 H2}, Gd M X.K F2 O2 P2 H2 → O2 a = some c → H2 a = some (.frz od (.dK ws)) := fun {F2 O2 P2 H2} g2 e2 => by
    have := (g2.ow a c e2).2.2
    rw [← hcc] at this
    exact this.1
  have back : ∀ {F2 O2 P2 H2}, Same F F2 → Gd M X.K F2 O2 P2 H2 → O2 a = some c → Gd M X.K F2 (updO O2 a (.dic kvs)) P2 (upd H2 a (.dK ws)) := fun {F2 O2 P2 H2} s g2 e2 => g2.setO e2 ⟨ws, upd_same, hkv.mono s⟩
  refine ⟨a, od, rfl, .inl ⟨ws, cellH g1 updO_same, ?_⟩⟩
  have hlen : ws.length = (keysD kvs).length := by unfold keysD; rw [List.length_map]; exact (Paired.length hkv).symm
  refine ⟨fun i m σ H => ∃ F2 O2 ρ2, i + m = (keysD kvs).length ∧ Same F1 F2 ∧ Gd M X.K F2 O2 P H ∧ EnvOk X.K F2 ρ2 σ ∧ forK a c kvs p gb R ((keysD kvs).drop i) ρ2 O2,
    ⟨(keysD kvs).length, F1, updO O a c, ρ, by omega, Same.refl _, g1, en.mono s1, by rw [List.drop_zero]; exact q⟩, fun i m σ2 H2 hW => ?_⟩
  obtain ⟨F2, O2, ρ2, hm, s2, g2, en2, q2⟩ := hW
  by_cases hi : i < (keysD kvs).length
  · rw [List.drop_eq_getElem_cons hi] at q2
    unfold forK at q2
    obtain ⟨e2, q2⟩ := q2
    refine .inr ⟨⟨cellH g2 e2, by omega⟩, fun σ' H' => ∃ F3 O3 ρ3, Same F1 F3 ∧ Gd M X.K F3 O3 P H' ∧ EnvOk X.K F3 ρ3 σ' ∧ forK a c kvs p gb R ((keysD kvs).drop (i + 1)) ρ3 O3, fun σ' H' hN => ?_, fun x H' hyy => ?_⟩
    · obtain ⟨F3, O3, ρ3, s3, g3, en3, q3⟩ := hN
      exact ⟨m - 1, by omega, F3, O3, ρ3, by omega, s3, g3, en3, q3⟩
    · obtain ⟨rfl, k, v, e3, rfl⟩ := hyy
      have e4 := keys_rep hkv e3
      rw [List.getElem?_eq_getElem hi] at e4
      cases e1 : patD p (keysD kvs)[i] ρ2 with
      | none => rw [e1] at q2; exact q2.elim
      | some ρ3 =>
        rw [e1] at q2
        refine pat_ok g2 p (keysD kvs)[i] _ ρ2 ρ3 σ2 _ e1 (by rw [Option.some.inj e4]; exact keyD_rep k) en2 fun σ4 en4 _ => ?_
        refine ⟨F2, O2, P, ρ3, _, g2, en4, q2, ⟨fun ρ5 O5 F5 H5 σ5 q5 s5 g5 en5 => ?_, fun d5 O5 F5 H5 v5 q5 s5 g5 r5 => ?_, fun ρ5 O5 F5 H5 σ5 q5 s5 g5 en5 => ?_, fun ρ5 O5 F5 H5 σ5 q5 s5 g5 en5 => ?_⟩⟩
        · exact ⟨F5, O5, ρ5, s2.trans s5, g5, en5, q5⟩
        · exact ⟨cellH g5 q5.1, po.rt d5 _ F5 _ v5 q5.2 (s1.trans (s2.trans s5)) (back (s1.trans (s2.trans s5)) g5 q5.1) r5⟩
        · exact ⟨cellH g5 q5.1, po.nx ρ5 _ F5 _ σ5 q5.2 (s1.trans (s2.trans s5)) (back (s1.trans (s2.trans s5)) g5 q5.1) en5⟩
        · exact ⟨F5, O5, ρ5, s2.trans s5, g5, en5, q5⟩
  · rw [List.drop_eq_nil_of_le (by omega)] at q2
    unfold forK at q2
    obtain ⟨e2, q2⟩ := q2
    exact .inl ⟨⟨cellH g2 e2, by omega⟩, cellH g2 e2, po.nx ρ2 _ F2 _ σ2 q2 (s1.trans s2) (back (s1.trans s2) g2 e2) en2⟩
end
end Kf
/-! Dl19: dict(pairs). -/
namespace Kf
open PySem PySem.Spec L2
open PyProof.Rows hiding St
variable {M : MX}
def asPair : D → Option (Key × D)
  | .tup [x, y] => (keyOf x).map fun k => (k, y)
  | _ => none
def asPairs : List D → Option (List (Key × D))
  | [] => some []
  | d :: ds => match asPair d, asPairs ds with
    | some kv, some r => some (kv :: r)
    | _, _ => none
def mergeD (kvs : List (Key × D)) (ls : List (Key × D)) : List (Key × D) := ls.foldl (fun r kv => putD r kv.1 kv.2) kvs
theorem pairs_rep {K : PySem.W.Frag} {F : Hp} : ∀ {ds : List D} {kvs : List (Key × D)} {vs : List V}, asPairs ds = some kvs → RepAll K F ds vs → ∃ (ps : List Addr) (ws : List (Key × V)), vs = ps.map V.ref ∧ Paired (fun p kv => SqT K F p [kV kv.1, kv.2]) ps ws ∧ KvOk K F kvs ws
  | [], kvs, vs, h, r => by
    simp only [asPairs, Option.some.injEq] at h
    simp only [RepAll] at r
    subst h r
    exact ⟨[], [], rfl, .nil, .nil⟩
  | d :: ds, kvs, vs, h, r => by
    simp only [RepAll] at r
    obtain ⟨v, r', rfl, r1, r2⟩ := r
    unfold asPairs at h
    split at h
    · rename_i kv rr e1 e2
      cases h
      obtain ⟨ps, ws, rfl, h1, h2⟩ := pairs_rep e2 r2
      unfold asPair at e1
      split at e1
      · rename_i x y
        cases hk : keyOf x with
        | none => rw [hk] at e1; cases e1
        | some k =>
          rw [hk] at e1
          cases e1
          simp only [Rep, RepAll] at r1
          obtain ⟨a, xs, rfl, hs, v1, _, rfl, rx, v2, _, rfl, ry, rfl⟩ := r1
          rw [keyOf_rep hk rx] at hs
          exact ⟨a :: ps, (k, v2) :: ws, rfl, .cons hs h1, .cons ⟨rfl, ry⟩ h2⟩
      · cases e1
    · cases h
theorem KvOk.merge {K : PySem.W.Frag} {F : Hp} {ls : List (Key × D)} {ws : List (Key × V)} (h : KvOk K F ls ws) : ∀ {kvs : List (Key × D)} {vs : List (Key × V)}, KvOk K F kvs vs → KvOk K F (mergeD kvs ls) (mergeK vs ws) := by
  induction h with
  | nil => intro kvs vs q; simpa [mergeD, mergeK] using q
  | @cons p1 q1 ps qs a _ ih =>
    intro kvs vs q
    have := ih (q.put (k := p1.1) a.2)
    obtain ⟨e, _⟩ := a
    simp only [mergeD, mergeK, List.foldl_cons] at this ⊢
    rw [e] at this ⊢
    exact this
section
variable {X : Cx}
def rDictP : RAD := fun ds O Q => match ds with
  | [x] => match deref O x with
    | .lst xs => match asPairs xs with
      | some kvs => ∀ p, O p = none → Q (.ref p) (updO O p (.dic (mergeD [] kvs)))
      | none => False
    | _ => False
  | _ => False
theorem cd_dictP (hc : X.calm = true) : CallD M X (.type "dict") rDictP := by
  refine callD_of fun F P H O xs ds R Q g r q po => ?_
  unfold rDictP at q
  split at q <;> first | exact q.elim | skip
  rename_i x
  obtain ⟨v, rfl, r1⟩ := r.one'
  have rd := g.deref r1
  split at q <;> first | exact q.elim | skip
  rename_i zs e
  rw [e] at rd
  split at q <;> first | exact q.elim | skip
  rename_i kvs e2
  obtain ⟨a, ws, rfl, hH, hr⟩ := (show ∃ a ws, v = .ref a ∧ H a = some (.lst ws) ∧ RepAll X.K F zs ws from rd)
  obtain ⟨ps, us, rfl, h1, h2⟩ := pairs_rep e2 hr
  refine ⟨_, call_dictP hc, a, ps, us, rfl, SqL.of hH, Paired.mapP h1 fun _ _ z => Same.seqT g.fz z, fun p hp => ?_⟩
  refine po (.ref p) _ F _ _ (q p (g.freeO hp)) (Same.refl _) (g.newO hp ⟨_, upd_same, h2.merge .nil⟩) (by simp only [Rep])
end
theorem rDictP_l {xs : List D} {kvs : List (Key × D)} {O : Ow} {Q : VD} (h : asPairs xs = some kvs) : rDictP [.lst xs] O Q = ∀ p, O p = none → Q (.ref p) (updO O p (.dic (mergeD [] kvs))) := by
  simp only [rDictP, deref, h]
/-! ### xs or ys, of lists -/
section
variable {X : Cx} {a b : Expr} {fa fb : FE} {rest : List Expr} {pos : Pos}
def rOrL (x : D) (O : Ow) (N : List D → Prop) : Prop := match deref O x with
  | .lst ds => N ds
  | _ => False
def fOrL (fa fb : FE) : FE := fun ρ O Q => fa ρ O fun x O1 => rOrL x O1 fun ds => if ds.isEmpty = true then fb ρ O1 Q else Q x O1
theorem de_orL (ha : DE M X a fa) (hb : DE M X (.BoolOp .Or (b :: rest) pos) fb) : DE M X (.BoolOp .Or (a :: b :: rest) pos) (fOrL fa fb) := by
  refine peMono (pe_orT ha hb) fun σ H Q h => ?_
  obtain ⟨F, O, P, ρ, R, g, en, q, po⟩ := h
  refine ⟨F, O, P, ρ, _, g, en, q, fun x O1 F1 H1 v q1 s1 g1 r1 => ?_⟩
  unfold rOrL at q1
  have rd := g1.deref r1
  split at q1 <;> first | exact q1.elim | skip
  rename_i ds e
  rw [e] at rd
  obtain ⟨c, ws, rfl, hH, hr⟩ := (show ∃ c ws, v = .ref c ∧ H1 c = some (.lst ws) ∧ RepAll X.K F1 ds ws from rd)
  have hl := hr.length
  refine ⟨!ws.isEmpty, ?_, ?_⟩
  · exact .inl ⟨ws, SqL.of hH, rfl⟩
  · have e2 : ds.isEmpty = ws.isEmpty := by cases ds <;> cases ws <;> simp at hl ⊢
    rw [e2] at q1
    cases hw : ws.isEmpty with
    | true =>
      rw [hw, if_pos rfl] at q1
      rw [if_neg (by simp)]
      exact ⟨F1, O1, P, ρ, R, g1, en.mono s1, q1, po.more s1⟩
    | false =>
      rw [hw, if_neg (by simp)] at q1
      rw [if_pos (by simp)]
      exact po x O1 F1 H1 _ q1 s1 g1 r1
end
theorem ap_fOrL (fa fb : FE) {ρ : DEnv} {O : Ow} {Q : VD} : fOrL fa fb ρ O Q = fa ρ O fun x O1 => rOrL x O1 fun ds => if ds.isEmpty = true then fb ρ O1 Q else Q x O1 := rfl
theorem rOrL_l {ds : List D} {O : Ow} {N : List D → Prop} : rOrL (.lst ds) O N = N ds := rfl
end Kf
namespace Kf
open PySem PySem.Spec L2
open PyProof.Rows hiding St
/-! ### comprehensions over a list of things -/
section
variable {p : Pat} {ft : FT} {fe : FE} {ρ : DEnv} {O : Ow} {α β : Type}
theorem lcA_map (f g : α → D) : ∀ (xs : List α) (acc : List D) (Q : List D → Ow → Prop), acc.length + xs.length ≤ sizeLine →
    (∀ x ∈ xs, ∀ Q' : VD, Q' (g x) O → patGet (patD p (f x) ρ) fun ρ1 => fe ρ1 O Q') → Q (acc ++ xs.map g) O → lcD p fYes fe ρ (xs.map f) acc O Q
  | [], acc, Q, _, _, q => by simpa [lcD] using q
  | x :: xs, acc, Q, hl, hs, q => by
    rw [List.length_cons] at hl
    have z := hs x List.mem_cons_self (fun e O2 => acc.length < sizeLine ∧ lcD p fYes fe ρ (xs.map f) (acc ++ [e]) O2 Q) ⟨by omega, lcA_map f g xs _ Q (by rw [List.length_append, List.length_singleton]; omega) (fun d' hd => hs d' (List.mem_cons_of_mem _ hd)) (by simpa using q)⟩
    rw [List.map_cons]
    unfold lcD
    simpa [fYes] using z
theorem lcA_filter (b : α → Bool) (f g : α → D) : ∀ (xs : List α) (acc : List D) (Q : List D → Ow → Prop), acc.length + xs.length ≤ sizeLine →
    (∀ x ∈ xs, ∀ (Q1 : VD) (Q2 : Ow → Prop), (b x = true → Q1 (g x) O) → (b x = false → Q2 O) → patGet (patD p (f x) ρ) fun ρ1 => ft ρ1 O fun k O1 => if k = true then fe ρ1 O1 Q1 else Q2 O1) → Q (acc ++ (xs.filter b).map g) O → lcD p ft fe ρ (xs.map f) acc O Q
  | [], acc, Q, _, _, q => by simpa [lcD] using q
  | x :: xs, acc, Q, hl, hs, q => by
    rw [List.length_cons] at hl
    have z := hs x List.mem_cons_self (fun e O2 => acc.length < sizeLine ∧ lcD p ft fe ρ (xs.map f) (acc ++ [e]) O2 Q) (fun O2 => lcD p ft fe ρ (xs.map f) acc O2 Q)
      (fun hb => ⟨by omega, lcA_filter b f g xs _ Q (by rw [List.length_append, List.length_singleton]; omega) (fun d' hd => hs d' (List.mem_cons_of_mem _ hd)) (by simpa [List.filter_cons, hb] using q)⟩)
      (fun hb => lcA_filter b f g xs _ Q (by omega) (fun d' hd => hs d' (List.mem_cons_of_mem _ hd)) (by simpa [List.filter_cons, hb] using q))
    rw [List.map_cons]
    unfold lcD
    exact z
/-- .. that keeps some of them, those that it must at least -/
theorem lcA_sub (must : α → Prop) (f g : α → D) : ∀ (xs : List α) (acc : List D) (Q : List D → Ow → Prop), acc.length + xs.length ≤ sizeLine →
    (∀ x ∈ xs, ∀ (Q1 : VD) (Q2 : Ow → Prop), Q1 (g x) O → (¬ must x → Q2 O) → patGet (patD p (f x) ρ) fun ρ1 => ft ρ1 O fun k O1 => if k = true then fe ρ1 O1 Q1 else Q2 O1) →
    (∀ ys : List α, ys.Sublist xs → (∀ x ∈ xs, must x → x ∈ ys) → Q (acc ++ ys.map g) O) → lcD p ft fe ρ (xs.map f) acc O Q
  | [], acc, Q, _, _, q => by have := q [] (List.Sublist.refl _) (fun x h => nomatch h); simpa [lcD] using this
  | x :: xs, acc, Q, hl, hs, q => by
    rw [List.length_cons] at hl
    have z := hs x List.mem_cons_self (fun e O2 => acc.length < sizeLine ∧ lcD p ft fe ρ (xs.map f) (acc ++ [e]) O2 Q) (fun O2 => lcD p ft fe ρ (xs.map f) acc O2 Q)
      ⟨by omega, lcA_sub must f g xs _ Q (by rw [List.length_append, List.length_singleton]; omega) (fun d' hd => hs d' (List.mem_cons_of_mem _ hd)) fun ys h1 h2 => by
        have := q (x :: ys) (h1.cons₂ x) fun u hu hm => by
          rcases List.mem_cons.mp hu with rfl | hu
          · exact List.mem_cons_self
          · exact List.mem_cons_of_mem _ (h2 u hu hm)
        simpa using this⟩
      (fun hb => lcA_sub must f g xs _ Q (by omega) (fun d' hd => hs d' (List.mem_cons_of_mem _ hd)) fun ys h1 h2 => q ys (h1.cons x) fun u hu hm => by
          rcases List.mem_cons.mp hu with rfl | hu
          · exact absurd hm hb
          · exact h2 u hu hm)
    rw [List.map_cons]
    unfold lcD
    exact z
/-- .. each item one of many, the things of some kind -/
theorem lcA_all (G : β → Prop) (f : α → D) (g : β → D) : ∀ (xs : List α) (acc : List D) (Q : List D → Ow → Prop), acc.length + xs.length ≤ sizeLine →
    (∀ x ∈ xs, ∀ Q' : VD, (∀ y, G y → Q' (g y) O) → patGet (patD p (f x) ρ) fun ρ1 => fe ρ1 O Q') → (∀ ys : List β, ys.length = xs.length → (∀ y ∈ ys, G y) → Q (acc ++ ys.map g) O) → lcD p fYes fe ρ (xs.map f) acc O Q
  | [], acc, Q, _, _, q => by have := q [] rfl (fun x h => nomatch h); simpa [lcD] using this
  | x :: xs, acc, Q, hl, hs, q => by
    rw [List.length_cons] at hl
    have z := hs x List.mem_cons_self (fun e O2 => acc.length < sizeLine ∧ lcD p fYes fe ρ (xs.map f) (acc ++ [e]) O2 Q) fun y hy => ⟨by omega, lcA_all G f g xs _ Q (by rw [List.length_append, List.length_singleton]; omega) (fun d' hd => hs d' (List.mem_cons_of_mem _ hd)) fun ys h1 h2 => by
      have := q (y :: ys) (by rw [List.length_cons, List.length_cons, h1]) fun u hu => by
        rcases List.mem_cons.mp hu with rfl | hu
        · exact hy
        · exact h2 u hu
      simpa using this⟩
    rw [List.map_cons]
    unfold lcD
    simpa [fYes] using z
end
/-- range as a map -/
theorem rangeD_map (lo : Int) (n : Nat) : rangeD lo n = (List.range n).map fun i => D.int (lo + (i : Nat)) := rfl
/-- a walk over a map, by places -/
theorem forA_ix {p : Pat} {gb : GS} {R : DEnds} {α : Type} (f : α → D) (I : List α → List α → DEnv → Ow → Prop) : ∀ (xs pre : List α) (ρ : DEnv) (O : Ow), I pre xs ρ O → (∀ ρ O, I (pre ++ xs) [] ρ O → R.nx ρ O) →
    (∀ pre' x rest, pre ++ xs = pre' ++ x :: rest → ∀ ρ O, I pre' (x :: rest) ρ O → ∀ N : DEnv → Ow → Prop, (∀ ρ O, I (pre' ++ [x]) rest ρ O → N ρ O) → patGet (patD p (f x) ρ) fun ρ1 => gb { R with nx := N, ct := N, bk := R.nx } ρ1 O) → forD p gb R (xs.map f) ρ O
  | [], pre, ρ, O, h, hd, _ => hd ρ O (by rw [List.append_nil]; exact h)
  | x :: xs, pre, ρ, O, h, hd, hs => by
    have q := hs pre x xs rfl ρ O h (forD p gb R (xs.map f)) fun ρ' O' h' => by
      refine forA_ix f I xs (pre ++ [x]) ρ' O' h' (fun ρ O z => hd ρ O ?_) fun pre' y rest e => hs pre' y rest ?_
      · simpa using z
      · rw [← e]; simp
    rw [List.map_cons]
    unfold forD
    exact q
end Kf
namespace Kf
open PySem PySem.Spec L2
open PyProof.Rows hiding St
section
variable {P : Program} {w : World} {K : PySem.W.Frag} {mg : Str → Option Value} {base : Heap} {CX : CXT} {f : Addr} {fd : FuncData} {ps : List Str} {k k' : Nat}
theorem fnUp {sp : Sp} (h : FnOk P w K mg base CX k f fd ps sp) (hk : k ≤ k') : FnOk P w K mg base CX k' f fd ps sp :=
  ⟨h.1, fun A outer s H args us vs Q E a b c d e => h.2 A outer s H args us vs Q E (a.mono hk) b c d e⟩
theorem fnLess {dsp dsp' : DSp} (h : FnOk P w K mg base CX k f fd ps (liftSp K dsp)) (hs : ∀ ds O R RE, dsp' ds O R RE → dsp ds O R RE) : FnOk P w K mg base CX k f fd ps (liftSp K dsp') := by
  have hs' : ∀ vs H Q E, liftSp K dsp' vs H Q E → liftSp K dsp vs H Q E := fun vs H Q E ⟨F, O, P, ds, R, RE, g, r, q, z⟩ => ⟨F, O, P, ds, R, RE, g, r, hs _ _ _ _ q, z⟩
  exact ⟨fun vs H Q E q => h.1 vs H Q E (hs' _ _ _ _ q), fun A outer s H args us vs Q E a b c d e => h.2 A outer s H args us vs Q E a b c d (hs' _ _ _ _ e)⟩
end
end Kf
namespace Kf
open PySem PySem.Spec L2
open PyProof.Rows hiding St
theorem gSeq_step {g u : GS} {R : DEnds} {ρ : DEnv} {O : Ow} (h : g { R with nx := u R } ρ O) : gSeq g u R ρ O := h
theorem sub_at {O O' : Ow} {p : Addr} {c : Cell} (h : Sub (updO O p c) O') : O' p = some c := h p c updO_same
theorem sub_set {O O' : Ow} {p : Addr} {c c' : Cell} (h : Sub (updO O p c) O') : Sub (updO O p c') (updO O' p c') := fun a d e => by
  by_cases q : a = p
  · subst q; rw [updO_same] at e ⊢; exact e
  · rw [updO_ne q] at e ⊢; exact h a d (by rw [updO_ne q]; exact e)
theorem sub_del {O O' : Ow} {p : Addr} {c : Cell} (hp : O p = none) (h : Sub (updO O p c) O') : Sub O (delO O' p) := fun a d e => by
  have q : a ≠ p := fun q => by rw [q, hp] at e; cases e
  unfold delO
  rw [if_neg q]
  exact h a d (by rw [updO_ne q]; exact e)
theorem sub_under {O O' : Ow} {p : Addr} {c : Cell} (hp : O p = none) (h : Sub (updO O p c) O') : Sub O O' := (sub_upd hp).trans h
theorem sub_free {O O' : Ow} {p : Addr} (h : Sub O O') (hp : O' p = none) : O p = none := by
  cases e : O p with
  | none => rfl
  | some c => rw [h p c e] at hp; cases hp
theorem rIx_any {xs : List D} {i : Int} {O : Ow} {Q : VD} (h0 : 0 ≤ i) (h1 : i < xs.length) (h : ∀ v ∈ xs, Q v O) : rIxD (.lst xs) (.int i) O Q := by
  obtain ⟨v, e1, e2⟩ := atI_some h0 h1
  rw [rIx_l e1]
  exact h v e2
end Kf
namespace Kf
open PySem PySem.Spec L2
open PyProof.Rows hiding St
local macro_rules | `(tactic| walk_at "kf") => `(tactic| simp (config := { failIfUnchanged := false }) only [startD, gSeq, gIf, gRet, gNext, gSet, gAsg, gDrop, gRetF, gRetN, gFor, gSetIx, gBreak, fTest, fOp, fVar, envGet_s, patGet_s, fC, fCB, fCons, fNil, fCall, fAnd, fOr, fNot, fAndV, fOrV, fNotV, fIf, fTup, fLst, fLstO, fChain, fUn, fBM, fBM0, fPool, rPool_i, fSl, fPart, fNoPart, asI_i, rSl_l, fiRng1, fiRng2, fiList, fiTup, fiStr, fiEnum, fiZip, fiRev, asL_l, asT_t, asSg_s, asR1_i, asR2_i, asL1_l, asL2_l, fLc, fLcO, fYes, wipeD, lcD, isi_i_int, isi_i_bool, isi_i_str, isi_i_tuple, isi_i_list, isi_i_dict, isi_b_int, isi_b_bool, isi_b_str, isi_b_tuple, isi_b_list, isi_b_dict, isi_s_int, isi_s_bool, isi_s_str, isi_s_tuple, isi_s_list, isi_s_dict, isi_t_int, isi_t_bool, isi_t_str, isi_t_tuple, isi_t_list, isi_t_dict, isi_l_int, isi_l_bool, isi_l_str, isi_l_tuple, isi_l_list, isi_l_dict, isi_n_int, isi_n_bool, isi_n_str, isi_n_tuple, isi_n_list, isi_n_dict, isi_d_int, isi_d_bool, isi_d_str, isi_d_tuple, isi_d_list, isi_d_dict,
  deref_tup, deref_lst, deref_int, deref_str, deref_bl, deref_non, deref_scr, rLt_i, rLt_s, rLe_i, rLe_s, rInts_i, rInts0_i, rAdd_i, rAdd_s, rAdd_l, rAdd_t, rCatO_l, rNeg_i, rLen_t, rLen_l, rLen_c, rLen_s, rMax_i, rMin_i, rInt_i, rInt_b, rDivmod_i, gAug, rStr_i, rList_l, rList_t, rListO_l, rListO_t, rTup_l, rTup_t,
  rIx_t0, rIx_t1, rIx_t2, rIx_t3, rIx_l0, rIx_l1, rIx_l2, rIsN_x, isNon_t, isNon_n, isNon_i, isNon_s, isNon_l, rEq_i, rEq_b, rEq_i2, rEq_b2, rJoin_m, rSplit_s, tyOk_l, tyOk_s, patD_nm, patD_tp, patDs_nil, patDs_cons, Option.bind_some, notX, notX',
  List.map_cons, List.map_nil, List.length_cons, List.length_nil, List.cons_append, List.nil_append, List.append_nil, List.replicate, List.getElem?_cons_zero, List.getElem?_cons_succ, List.set_cons_zero, List.set_cons_succ, updO_same, updO_updO,
  Nat.reduceSub, Nat.reduceAdd, Nat.reduceLeDiff, Nat.zero_add, Int.cast_ofNat_Int, Int.natCast_zero, Int.natCast_one, Int.reduceLT, Int.reduceLE, Int.reduceEq, Int.reduceAdd, Int.reduceSub, Int.reduceNeg, decide_true, decide_false, if_true, if_false, Bool.false_eq_true, eq_self, reduceIte, Bool.true_eq_false, decide_eq_true_eq, Bool.not_true, Bool.not_false, Bool.not_eq_true', decide_eq_false_iff_not, exists_eq_left', exists_eq_left, D.bl.injEq, true_and, and_true])
/-! ### how many kinds: the list of counts, grown by one -/
def nxt (xs : List Int) : Int := 2 * ((List.range (xs.length - 1)).map fun i => xs.getD (i + 1) 0 * xs.getD (xs.length - (i + 1)) 0).sum
def cl (m : Int) : Nat → List Int
  | 0 => [0, m + 1]
  | k + 1 => cl m k ++ [nxt (cl m k)]
theorem cl_length (m : Int) : ∀ k, (cl m k).length = k + 2
  | 0 => rfl
  | k + 1 => by rw [cl, List.length_append, cl_length m k]; rfl
theorem cl_get (m : Int) {i : Nat} : ∀ (k j : Nat), i < k + 2 → (cl m (k + j)).getD i 0 = (cl m k).getD i 0
  | k, 0, _ => rfl
  | k, j + 1, h => by
    rw [← cl_get m k j h, ← Nat.add_assoc, cl, List.getD_eq_getElem?_getD, List.getD_eq_getElem?_getD, List.getElem?_append_left (by rw [cl_length]; omega)]
/-- marks are one to four -/
def Small (m : Int) : Prop := m = 1 ∨ m = 2 ∨ m = 3 ∨ m = 4
theorem cl_bound : ∀ m : Int, Small m → ∀ i, i < 11 → 0 ≤ (cl m 9).getD i 0 ∧ (cl m 9).getD i 0 < 2 ^ 60 := by
  intro m hm
  have h : ∀ m ∈ [(1 : Int), 2, 3, 4], ∀ i ∈ List.range 11, 0 ≤ (cl m 9).getD i 0 ∧ (cl m 9).getD i 0 < 2 ^ 60 := by decide +kernel
  intro i hi
  refine h m ?_ i (List.mem_range.mpr hi)
  rcases hm with rfl | rfl | rfl | rfl <;> simp
theorem cl_b {m : Int} (hm : Small m) {k i : Nat} (hk : k ≤ 9) (hi : i < k + 2) : 0 ≤ (cl m k).getD i 0 ∧ (cl m k).getD i 0 < 2 ^ 60 := by
  have e := cl_get m (i := i) k (9 - k) hi
  rw [show k + (9 - k) = 9 by omega] at e
  rw [← e]
  exact cl_bound m hm i (by omega)
theorem atI_ints {xs : List Int} {i : Nat} (h : i < xs.length) : atI (xs.map D.int) (i : Int) = some (.int (xs.getD i 0)) := by
  refine atI_nat ?_
  rw [List.getElem?_map, List.getD_eq_getElem?_getD, List.getElem?_eq_getElem h]; rfl
def spCountsTo : DSp := fun ds O R _ => ∃ (ms : List D) (n : Nat), ds = [.lst ms, .int n] ∧ Small ms.length ∧ 1 ≤ n ∧ n ≤ 10 ∧ R (.lst ((cl ms.length (n - 1)).map .int)) O
def spMany : DSp := fun ds O R _ => ∃ (ms : List D) (n : Nat), ds = [.lst ms, .int n] ∧ Small ms.length ∧ 1 ≤ n ∧ n ≤ 10 ∧ R (.int ((cl ms.length 9).getD n 0)) O
def spCounts : DSp := fun ds O R _ => ∃ m : Int, ds = [.int m] ∧ Small m ∧ R (.lst ((cl m 9).map .int)) O
theorem sum_snoc (f : Nat → Int) (n : Nat) : ((List.range (n + 1)).map f).sum = ((List.range n).map f).sum + f n := by
  rw [List.range_succ, List.map_append, List.sum_append]; simp
/-- a text of small letters, by their places -/
def txt (ps : List Int) : Str := ⟨(ps.map fun n => 97 + n.toNat).toArray⟩
def sgn (n : Int) : Str := ⟨#[97 + n.toNat]⟩
def Lets (ps : List Int) : Prop := ∀ n ∈ ps, 0 ≤ n ∧ n < 26
def IsMk (t : Str) : Prop := ∃ ps, t = txt ps ∧ 1 ≤ ps.length ∧ ps.length ≤ 6 ∧ Lets ps
/-- marks that are drawn: one to four unlike ones -/
def MarkL (ts : List Str) : Prop := 1 ≤ ts.length ∧ ts.length ≤ 4 ∧ ts.Nodup ∧ ∀ t ∈ ts, IsMk t
theorem IsMk.ok {t : Str} (h : IsMk t) : PyData.strOk t = true := by
  obtain ⟨ps, rfl, _, _, h⟩ := h
  unfold PyData.strOk txt
  simp only [List.all_toArray, List.all_eq_true, List.mem_map, decide_eq_true_eq]
  rintro c ⟨n, hn, rfl⟩
  have := h n hn
  omega
theorem str_ext {a b : Str} (h : a.cps.toList = b.cps.toList) : a = b := by
  cases a; cases b
  simp only [Str.mk.injEq]
  exact Array.toList_inj.mp h
theorem join0 : ∀ ts : List Str, (Str.join "" ts).cps.toList = (ts.map (·.cps.toList)).flatten
  | [] => by decide +kernel
  | [t] => by simp [Str.join]
  | t :: u :: r => by
    have ih := join0 (u :: r)
    have e : (Str.join "" (t :: u :: r)) = t ++ "" ++ Str.join "" (u :: r) := rfl
    rw [e, List.map_cons, List.flatten_cons, ← ih]
    show (Array.append (Array.append t.cps (Str.ofString "").cps) (Str.join "" (u :: r)).cps).toList = _
    have e0 : (Str.ofString "").cps = #[] := by decide +kernel
    simp [e0]
theorem join_sgn (ps : List Int) : Str.join "" (ps.map sgn) = txt ps := by
  refine str_ext ?_
  rw [join0]
  induction ps with
  | nil => rfl
  | cons p r ih =>
    simp only [List.map_cons, List.flatten_cons] at ih ⊢
    rw [ih]; rfl
theorem txt_inj {ps qs : List Int} (hp : Lets ps) (hq : Lets qs) (h : txt ps = txt qs) : ps = qs := by
  have e : ps.map (fun n => 97 + n.toNat) = qs.map (fun n => 97 + n.toNat) := by
    have := congrArg (fun t : Str => t.cps.toList) h
    simpa [txt] using this
  clear h
  induction ps generalizing qs with
  | nil => cases qs with
    | nil => rfl
    | cons => simp at e
  | cons a r ih => cases qs with
    | nil => simp at e
    | cons b t =>
      simp only [List.map_cons, List.cons.injEq] at e
      have h1 := hp a List.mem_cons_self
      have h2 := hq b List.mem_cons_self
      rw [ih (fun n hn => hp n (List.mem_cons_of_mem _ hn)) (fun n hn => hq n (List.mem_cons_of_mem _ hn)) e.2, show a = b by omega]
abbrev abc : Str := "abcdefghijklmnopqrstuvwxyz"
theorem abc_l : abc.cps.toList = (List.range 26).map fun n => 97 + n := by decide +kernel
theorem abc_len : abc.length = 26 := by decide +kernel
theorem abc_at {n : Int} (h0 : 0 ≤ n) (h1 : n < 26) : atI abc.cps.toList n = some (97 + n.toNat) := by
  have e : n = ((n.toNat : Nat) : Int) := by omega
  have q : atI abc.cps.toList ((n.toNat : Nat) : Int) = some (97 + n.toNat) := by
    refine atI_nat ?_
    rw [abc_l, List.getElem?_map, List.getElem?_range (by omega)]; rfl
  rw [← e] at q
  exact q
def spMarks : DSp := fun ds O R _ => ∃ p : Addr, ds = [.ref p] ∧ O p = some .pool ∧ ∀ ts, MarkL ts → R (.lst (ts.map .str)) O
def spUnlike : DSp := fun ds O R _ => ∃ (p : Addr) (ts : List Str), ds = [.ref p, .lst (ts.map .str)] ∧ O p = some .pool ∧ MarkL ts ∧ ∀ us, us.Perm ts → MarkL us → R (.lst (us.map .str)) O
theorem isPys_strs {us : List Str} (h : ∀ t ∈ us, PyData.strOk t = true) : isPys (us.map D.str) = true := by
  rw [isPys_all, List.all_eq_true]
  intro d hd
  obtain ⟨t, ht, rfl⟩ := List.mem_map.mp hd
  simp only [isPy]; exact h t ht
theorem dp_strs (us : List Str) : dp (.lst (us.map D.str)) ≤ 1 := by
  rw [dpL]
  have : PyData.depthAll (toPys (us.map D.str)) ≤ 0 := dps_le fun d hd => by
    obtain ⟨t, _, rfl⟩ := List.mem_map.mp hd
    rw [dpS]; omega
  omega
theorem deqs_refl_strs : ∀ us : List Str, deqs (us.map D.str) (us.map D.str) = true
  | [] => deqs_nn
  | t :: us => by rw [List.map_cons, deqs_cc, deq_s, deqs_refl_strs us]; simp
theorem rEq_strs {us : List Str} (h : ∀ t ∈ us, PyData.strOk t = true) {neg : Bool} {O : Ow} {Q : VD} : rEqD neg (.lst (us.map .str)) (.lst (us.map .str)) O Q = Q (.bl (neg ^^ true)) O := by
  rw [rEq_d (by rw [deref_lst]; simpa only [isPy] using isPys_strs h) (by rw [deref_lst]; simpa only [isPy] using isPys_strs h) (by rw [deref_lst]; exact Nat.le_trans (dp_strs us) (by decide)), deref_lst, deq_l, deqs_refl_strs]
/-! ### the catalogue: all kinds of so many leaves, in order -/
def prs (xs ys : List Kd) : List Kd := (xs.flatMap fun a => ys.map (Kd.to a)) ++ (xs.flatMap fun a => ys.map (Kd.both a))
def nxK (ls : List (List Kd)) : List Kd := (List.range (ls.length - 1)).flatMap fun i => prs (ls.getD (i + 1) []) (ls.getD (ls.length - (i + 1)) [])
def al (ms : List Str) : Nat → List (List Kd)
  | 0 => [[], ms.map .mk ++ [.one]]
  | k + 1 => al ms k ++ [nxK (al ms k)]
theorem al_length (ms : List Str) : ∀ k, (al ms k).length = k + 2
  | 0 => rfl
  | k + 1 => by rw [al, List.length_append, al_length ms k]; rfl
theorem al_get (ms : List Str) {i : Nat} : ∀ (k j : Nat), i < k + 2 → (al ms (k + j)).getD i [] = (al ms k).getD i []
  | k, 0, _ => rfl
  | k, j + 1, h => by
    rw [← al_get ms k j h, ← Nat.add_assoc, al, List.getD_eq_getElem?_getD, List.getD_eq_getElem?_getD, List.getElem?_append_left (by rw [al_length]; omega)]
def A (ms : List Str) (n : Nat) : List Kd := (al ms 9).getD n []
theorem A_one (ms : List Str) : A ms 1 = ms.map .mk ++ [.one] := al_get ms (i := 1) 0 9 (by decide)
theorem A_at (ms : List Str) {n k : Nat} (h : n < k + 2) (hk : k ≤ 9) : (al ms k).getD n [] = A ms n := by
  have := al_get ms (i := n) k (9 - k) h
  rw [show k + (9 - k) = 9 by omega] at this
  exact this.symm
theorem A_eq (ms : List Str) {n : Nat} (h2 : 2 ≤ n) (h : n ≤ 10) : A ms n = (List.range (n - 1)).flatMap fun i => prs (A ms (i + 1)) (A ms (n - (i + 1))) := by
  obtain ⟨k, rfl⟩ : ∃ k, n = k + 2 := ⟨n - 2, by omega⟩
  have e : A ms (k + 2) = nxK (al ms k) := by
    rw [← A_at ms (n := k + 2) (k := k + 1) (by omega) (by omega), al, List.getD_eq_getElem?_getD, List.getElem?_append_right (by rw [al_length]; omega), al_length]
    simp
  rw [e, nxK, al_length]
  have q : ∀ i ∈ List.range (k + 2 - 1), (fun i => prs ((al ms k).getD (i + 1) []) ((al ms k).getD (k + 2 - (i + 1)) [])) i = prs (A ms (i + 1)) (A ms (k + 2 - (i + 1))) := by
    intro i hi
    have := List.mem_range.mp hi
    dsimp only
    rw [A_at ms (by omega) (by omega), A_at ms (by omega) (by omega)]
  rw [List.flatMap_def, List.flatMap_def, List.map_congr_left q]
def cnt (m : Int) (n : Nat) : Int := (cl m 9).getD n 0
theorem cnt_at (m : Int) {n k : Nat} (h : n < k + 2) (hk : k ≤ 9) : (cl m k).getD n 0 = cnt m n := by
  have := cl_get m (i := n) k (9 - k) h
  rw [show k + (9 - k) = 9 by omega] at this
  exact this.symm
theorem cnt_eq (m : Int) {n : Nat} (h2 : 2 ≤ n) (h : n ≤ 10) : cnt m n = 2 * ((List.range (n - 1)).map fun i => cnt m (i + 1) * cnt m (n - (i + 1))).sum := by
  obtain ⟨k, rfl⟩ : ∃ k, n = k + 2 := ⟨n - 2, by omega⟩
  have e : cnt m (k + 2) = nxt (cl m k) := by
    rw [← cnt_at m (n := k + 2) (k := k + 1) (by omega) (by omega), cl, List.getD_eq_getElem?_getD, List.getElem?_append_right (by rw [cl_length]; omega), cl_length]
    simp
  rw [e, nxt, cl_length]
  have q : ∀ i ∈ List.range (k + 2 - 1), (fun i => (cl m k).getD (i + 1) 0 * (cl m k).getD (k + 2 - (i + 1)) 0) i = cnt m (i + 1) * cnt m (k + 2 - (i + 1)) := by
    intro i hi
    have := List.mem_range.mp hi
    dsimp only
    rw [cnt_at m (by omega) (by omega), cnt_at m (by omega) (by omega)]
  rw [List.map_congr_left q]
theorem pair_len {g : Kd → Kd → Kd} (ys : List Kd) : ∀ xs : List Kd, (xs.flatMap fun a => ys.map (g a)).length = xs.length * ys.length
  | [] => by simp
  | x :: xs => by rw [List.flatMap_cons, List.length_append, pair_len ys xs, List.length_map, List.length_cons, Nat.succ_mul, Nat.add_comm]
theorem prs_len (xs ys : List Kd) : (prs xs ys).length = 2 * (xs.length * ys.length) := by rw [prs, List.length_append, pair_len, pair_len]; omega
def pre {α : Type} (f : Nat → List α) (i : Nat) : Nat := ((List.range i).map fun t => (f t).length).sum
theorem pre_s {α : Type} (f : Nat → List α) (i : Nat) : pre f (i + 1) = pre f i + (f i).length := by
  unfold pre; rw [List.range_succ, List.map_append, List.sum_append]; simp
theorem flat_len {α : Type} (f : Nat → List α) (n : Nat) : ((List.range n).flatMap f).length = pre f n := by rw [List.length_flatMap]; rfl
theorem flat_s {α : Type} (f : Nat → List α) (n : Nat) : (List.range (n + 1)).flatMap f = (List.range n).flatMap f ++ f n := by
  rw [List.range_succ, List.flatMap_append]; simp
theorem pre_mono {α : Type} (f : Nat → List α) {i : Nat} : ∀ {n : Nat}, i ≤ n → pre f i ≤ pre f n
  | 0, h => by rw [show i = 0 by omega]; exact Nat.le_refl _
  | n + 1, h => by
    rcases Nat.lt_or_ge i (n + 1) with h' | h'
    · have := pre_mono f (i := i) (n := n) (by omega); rw [pre_s]; omega
    · rw [show i = n + 1 by omega]; exact Nat.le_refl _
theorem flat_at {α : Type} (f : Nat → List α) {i r : Nat} (hr : r < (f i).length) : ∀ n, i < n → ((List.range n).flatMap f)[pre f i + r]? = (f i)[r]?
  | 0, h => by omega
  | n + 1, h => by
    rw [flat_s]
    rcases Nat.lt_or_ge i n with h' | h'
    · have := pre_mono f (i := i + 1) (n := n) (by omega)
      rw [pre_s] at this
      rw [List.getElem?_append_left (by rw [flat_len]; omega), flat_at f hr n h']
    · have : i = n := by omega
      subst this
      rw [List.getElem?_append_right (by rw [flat_len]; omega), flat_len, Nat.add_sub_cancel_left]
theorem flat_inv {α : Type} (f : Nat → List α) {j : Nat} {k : α} : ∀ n, ((List.range n).flatMap f)[j]? = some k → ∃ i r, i < n ∧ j = pre f i + r ∧ (f i)[r]? = some k
  | 0, h => by simp at h
  | n + 1, h => by
    rw [flat_s] at h
    rcases Nat.lt_or_ge j ((List.range n).flatMap f).length with h' | h'
    · rw [List.getElem?_append_left h'] at h
      obtain ⟨i, r, h1, h2, h3⟩ := flat_inv f n h
      exact ⟨i, r, by omega, h2, h3⟩
    · rw [List.getElem?_append_right h', flat_len] at h
      rw [flat_len] at h'
      exact ⟨n, j - pre f n, by omega, by omega, h⟩
theorem pair_at {g : Kd → Kd → Kd} {ys : List Kd} {b : Nat} {x y : Kd} (hy : ys[b]? = some y) : ∀ {xs : List Kd} {a : Nat}, xs[a]? = some x → (xs.flatMap fun u => ys.map (g u))[a * ys.length + b]? = some (g x y)
  | [], a, h => by simp at h
  | u :: xs, 0, h => by
    have e : u = x := by simpa using h
    subst e
    obtain ⟨hb, _⟩ := List.getElem?_eq_some_iff.mp hy
    rw [List.flatMap_cons, Nat.zero_mul, Nat.zero_add, List.getElem?_append_left (by rw [List.length_map]; exact hb), List.getElem?_map, hy]; rfl
  | u :: xs, a + 1, h => by
    rw [List.flatMap_cons, List.getElem?_append_right (by rw [List.length_map, Nat.succ_mul]; omega), List.length_map, show (a + 1) * ys.length + b - ys.length = a * ys.length + b by rw [Nat.succ_mul]; omega]
    exact pair_at hy (by simpa using h)
theorem pair_inv {g : Kd → Kd → Kd} {ys : List Kd} {k : Kd} : ∀ {xs : List Kd} {r : Nat}, (xs.flatMap fun u => ys.map (g u))[r]? = some k → ∃ a b x y, r = a * ys.length + b ∧ xs[a]? = some x ∧ ys[b]? = some y ∧ k = g x y
  | [], r, h => by simp at h
  | u :: xs, r, h => by
    rw [List.flatMap_cons] at h
    rcases Nat.lt_or_ge r (ys.map (g u)).length with h' | h'
    · rw [List.getElem?_append_left h', List.getElem?_map] at h
      obtain ⟨y, hy, rfl⟩ := Option.map_eq_some_iff.mp h
      exact ⟨0, r, u, y, by omega, rfl, hy, rfl⟩
    · rw [List.getElem?_append_right h'] at h
      obtain ⟨a, b, x, y, h1, h2, h3, h4⟩ := pair_inv h
      rw [List.length_map] at h1 h'
      exact ⟨a + 1, b, x, y, by rw [Nat.succ_mul]; omega, by simpa using h2, h3, h4⟩
theorem prs_at {xs ys : List Kd} {a b : Nat} {x y : Kd} (hx : xs[a]? = some x) (hy : ys[b]? = some y) : (prs xs ys)[a * ys.length + b]? = some (.to x y) ∧ (prs xs ys)[xs.length * ys.length + (a * ys.length + b)]? = some (.both x y) := by
  have h1 := pair_at (g := Kd.to) hy hx
  have h2 := pair_at (g := Kd.both) hy hx
  refine ⟨?_, ?_⟩
  · obtain ⟨hb, _⟩ := List.getElem?_eq_some_iff.mp h1
    rw [prs, List.getElem?_append_left hb, h1]
  · rw [prs, List.getElem?_append_right (by rw [pair_len]; omega), pair_len, Nat.add_sub_cancel_left, h2]
theorem prs_inv {xs ys : List Kd} {r : Nat} {k : Kd} (h : (prs xs ys)[r]? = some k) : ∃ a b x y, xs[a]? = some x ∧ ys[b]? = some y ∧ ((r = a * ys.length + b ∧ k = .to x y) ∨ (r = xs.length * ys.length + (a * ys.length + b) ∧ k = .both x y)) := by
  rw [prs] at h
  rcases Nat.lt_or_ge r (xs.flatMap fun a => ys.map (Kd.to a)).length with h' | h'
  · rw [List.getElem?_append_left h'] at h
    obtain ⟨a, b, x, y, h1, h2, h3, h4⟩ := pair_inv h
    exact ⟨a, b, x, y, h2, h3, .inl ⟨h1, h4⟩⟩
  · rw [List.getElem?_append_right h', pair_len] at h
    rw [pair_len] at h'
    obtain ⟨a, b, x, y, h1, h2, h3, h4⟩ := pair_inv h
    exact ⟨a, b, x, y, h2, h3, .inr ⟨by omega, h4⟩⟩
/-- how the number of a kind of two parts is taken apart -/
theorem prs_split {xs ys : List Kd} {r : Nat} {k : Kd} (h : (prs xs ys)[r]? = some k) : ∃ x y, xs[r % (xs.length * ys.length) / ys.length]? = some x ∧ ys[r % (xs.length * ys.length) % ys.length]? = some y ∧
    ((r / (xs.length * ys.length) = 0 ∧ k = .to x y) ∨ (r / (xs.length * ys.length) = 1 ∧ k = .both x y)) := by
  obtain ⟨a, b, x, y, hx, hy, h⟩ := prs_inv h
  obtain ⟨hb, _⟩ := List.getElem?_eq_some_iff.mp hy
  obtain ⟨ha, _⟩ := List.getElem?_eq_some_iff.mp hx
  have hlt : a * ys.length + b < xs.length * ys.length := by
    have : (a + 1) * ys.length ≤ xs.length * ys.length := Nat.mul_le_mul_right _ ha
    rw [Nat.succ_mul] at this
    omega
  have e1 : (a * ys.length + b) / ys.length = a := by rw [Nat.add_comm, Nat.mul_comm, Nat.add_mul_div_left _ _ (by omega), Nat.div_eq_of_lt hb, Nat.zero_add]
  have e2 : (a * ys.length + b) % ys.length = b := by rw [Nat.add_comm, Nat.mul_comm, Nat.add_mul_mod_self_left, Nat.mod_eq_of_lt hb]
  refine ⟨x, y, ?_⟩
  rcases h with ⟨rfl, rfl⟩ | ⟨rfl, rfl⟩
  · rw [Nat.mod_eq_of_lt hlt, e1, e2, Nat.div_eq_of_lt hlt]
    exact ⟨hx, hy, .inl ⟨rfl, rfl⟩⟩
  · rw [Nat.add_mod_left, Nat.mod_eq_of_lt hlt, e1, e2, Nat.add_div_left _ (by omega), Nat.div_eq_of_lt hlt]
    exact ⟨hx, hy, .inr ⟨rfl, rfl⟩⟩
abbrev blkF (ms : List Str) (n : Nat) : Nat → List Kd := fun i => prs (A ms (i + 1)) (A ms (n - (i + 1)))
theorem sum_cast (f : Nat → Nat) (g : Nat → Int) : ∀ n, (∀ i, i < n → g i = (f i : Int)) → ((List.range n).map g).sum = (((List.range n).map f).sum : Nat)
  | 0, _ => rfl
  | n + 1, h => by
    rw [List.range_succ, List.map_append, List.map_append, List.sum_append, List.sum_append, sum_cast f g n fun i hi => h i (by omega)]
    simp [h n (by omega)]
theorem A_len (ms : List Str) : ∀ n, n ≤ 10 → cnt ms.length n = ((A ms n).length : Int) := by
  intro n
  induction n using Nat.strongRecOn with
  | _ n ih =>
    intro h
    match n, ih, h with
    | 0, _, _ =>
      rw [← cnt_at ms.length (n := 0) (k := 0) (by decide) (by decide), ← A_at ms (n := 0) (k := 0) (by decide) (by decide)]; rfl
    | 1, _, _ =>
      rw [← cnt_at ms.length (n := 1) (k := 0) (by decide) (by decide), A_one]; simp [cl]
    | k + 2, ih, h =>
      rw [cnt_eq _ (by omega) h, A_eq ms (by omega) h, flat_len, pre, sum_cast (fun i => (A ms (i + 1)).length * (A ms (k + 2 - (i + 1))).length)]
      · have e : ∀ l : List Nat, 2 * (l.map fun i => (A ms (i + 1)).length * (A ms (k + 2 - (i + 1))).length).sum = (l.map fun t => (blkF ms (k + 2) t).length).sum := by
          intro l
          induction l with
          | nil => rfl
          | cons x l il => rw [List.map_cons, List.map_cons, List.sum_cons, List.sum_cons, Nat.mul_add, il, blkF, prs_len]
        have := e (List.range (k + 2 - 1))
        unfold blkF at this
        rw [← this]
        omega
      · intro i hi
        rw [ih (i + 1) (by omega) (by omega), ih (k + 2 - (i + 1)) (by omega) (by omega)]
        simp
/-! the number of a kind -/
def Kd.over (ms : List Str) : Kd → Prop
  | .mk m => m ∈ ms
  | .one => True
  | .to a b => a.over ms ∧ b.over ms
  | .both a b => a.over ms ∧ b.over ms
def place (ms : List Str) : Kd → Nat
  | .mk m => ms.idxOf m
  | .one => ms.length
  | .to a b => pre (blkF ms (a.leaves + b.leaves)) (a.leaves - 1) + place ms a * (A ms b.leaves).length + place ms b
  | .both a b => pre (blkF ms (a.leaves + b.leaves)) (a.leaves - 1) + (A ms a.leaves).length * (A ms b.leaves).length + place ms a * (A ms b.leaves).length + place ms b
theorem leaves_pos : ∀ k : Kd, 1 ≤ k.leaves
  | .mk _ => by simp [Kd.leaves]
  | .one => by simp [Kd.leaves]
  | .to a b => by have := leaves_pos a; simp only [Kd.leaves]; omega
  | .both a b => by have := leaves_pos a; simp only [Kd.leaves]; omega
theorem place_get {ms : List Str} : ∀ k : Kd, k.leaves ≤ 10 → k.over ms → (A ms k.leaves)[place ms k]? = some k
  | .mk m, _, h => by
    simp only [Kd.leaves, place, Kd.over] at *
    have hi := List.idxOf_lt_length_of_mem h
    rw [A_one, List.getElem?_append_left (by rw [List.length_map]; exact hi), List.getElem?_map, List.getElem?_eq_getElem hi]
    simp
  | .one, _, _ => by
    simp only [Kd.leaves, place]
    rw [A_one, List.getElem?_append_right (by simp)]
    simp
  | .to a b, h, ho => by
    simp only [Kd.leaves, place, Kd.over] at *
    have p1 := leaves_pos a
    have p2 := leaves_pos b
    have h1 := place_get a (by omega) ho.1
    have h2 := place_get b (by omega) ho.2
    have e : blkF ms (a.leaves + b.leaves) (a.leaves - 1) = prs (A ms a.leaves) (A ms b.leaves) := by
      unfold blkF; rw [show a.leaves - 1 + 1 = a.leaves by omega, show a.leaves + b.leaves - a.leaves = b.leaves by omega]
    have h3 := (prs_at h1 h2).1
    rw [← e] at h3
    obtain ⟨hr, _⟩ := List.getElem?_eq_some_iff.mp h3
    rw [A_eq ms (by omega) h, Nat.add_assoc]
    exact (flat_at (blkF ms (a.leaves + b.leaves)) hr _ (by omega)).trans h3
  | .both a b, h, ho => by
    simp only [Kd.leaves, place, Kd.over] at *
    have p1 := leaves_pos a
    have p2 := leaves_pos b
    have h1 := place_get a (by omega) ho.1
    have h2 := place_get b (by omega) ho.2
    have e : blkF ms (a.leaves + b.leaves) (a.leaves - 1) = prs (A ms a.leaves) (A ms b.leaves) := by
      unfold blkF; rw [show a.leaves - 1 + 1 = a.leaves by omega, show a.leaves + b.leaves - a.leaves = b.leaves by omega]
    have h3 := (prs_at h1 h2).2
    rw [← e] at h3
    obtain ⟨hr, _⟩ := List.getElem?_eq_some_iff.mp h3
    rw [A_eq ms (by omega) h, Nat.add_assoc, Nat.add_assoc]
    exact (flat_at (blkF ms (a.leaves + b.leaves)) hr _ (by omega)).trans h3
theorem get_place {ms : List Str} (hn : ms.Nodup) : ∀ n, 1 ≤ n → n ≤ 10 → ∀ j k, (A ms n)[j]? = some k → k.leaves = n ∧ k.over ms ∧ place ms k = j := by
  intro n
  induction n using Nat.strongRecOn with
  | _ n ih =>
    intro h1 h10 j k hk
    by_cases e1 : n = 1
    · subst e1
      rw [A_one] at hk
      rcases Nat.lt_or_ge j (ms.map Kd.mk).length with h' | h'
      · rw [List.getElem?_append_left h', List.getElem?_map] at hk
        obtain ⟨m, hm, rfl⟩ := Option.map_eq_some_iff.mp hk
        obtain ⟨hj, e⟩ := List.getElem?_eq_some_iff.mp hm
        refine ⟨rfl, ?_, ?_⟩
        · rw [← e]; exact List.getElem_mem hj
        · rw [place, ← e]; exact hn.idxOf_getElem j hj
      · rw [List.getElem?_append_right h'] at hk
        rw [List.length_map] at h' hk
        obtain ⟨hj, e⟩ := List.getElem?_eq_some_iff.mp hk
        simp at hj
        have : j = ms.length := by omega
        subst this
        simp at e
        subst e
        exact ⟨rfl, trivial, rfl⟩
    · rw [A_eq ms (by omega) h10] at hk
      obtain ⟨i, r, hi, rfl, hr⟩ := flat_inv (blkF ms n) _ hk
      obtain ⟨a, b, x, y, hx, hy, h⟩ := prs_inv hr
      obtain ⟨l1, o1, q1⟩ := ih (i + 1) (by omega) (by omega) (by omega) _ _ hx
      obtain ⟨l2, o2, q2⟩ := ih (n - (i + 1)) (by omega) (by omega) (by omega) _ _ hy
      have e : x.leaves + y.leaves = n := by omega
      rcases h with ⟨rfl, rfl⟩ | ⟨rfl, rfl⟩
      · refine ⟨by simp only [Kd.leaves]; exact e, ⟨o1, o2⟩, ?_⟩
        rw [place, e, l1, l2, q1, q2, Nat.add_sub_cancel]; omega
      · refine ⟨by simp only [Kd.leaves]; exact e, ⟨o1, o2⟩, ?_⟩
        rw [place, e, l1, l2, q1, q2, Nat.add_sub_cancel]; omega
/-! ### what the catalogue's defs are asked and answer -/
theorem cnt_prod : ∀ m ∈ [(1 : Int), 2, 3, 4], ∀ i ∈ List.range 10, ∀ j ∈ List.range 10, i + 1 + (j + 1) ≤ 10 → 0 < cnt m (i + 1) * cnt m (j + 1) ∧ 2 * (cnt m (i + 1) * cnt m (j + 1)) < 1152921504606846976 := by decide +kernel
theorem cnt_pos : ∀ m ∈ [(1 : Int), 2, 3, 4], ∀ i ∈ List.range 10, 0 < cnt m (i + 1) ∧ cnt m (i + 1) < 1152921504606846976 := by decide +kernel
theorem Small.mem {m : Int} (h : Small m) : m ∈ [(1 : Int), 2, 3, 4] := by rcases h with rfl | rfl | rfl | rfl <;> simp
theorem A_pos {ms : List Str} (h : Small ms.length) {i : Nat} (h1 : 1 ≤ i) (h2 : i ≤ 10) : 0 < (A ms i).length ∧ (A ms i).length < 1152921504606846976 := by
  have := cnt_pos _ h.mem (i - 1) (List.mem_range.mpr (by omega))
  rw [show i - 1 + 1 = i by omega, A_len ms i h2] at this
  omega
theorem A_prod {ms : List Str} (h : Small ms.length) {i j : Nat} (h1 : 1 ≤ i) (h2 : 1 ≤ j) (h3 : i + j ≤ 10) : 0 < (A ms i).length * (A ms j).length ∧ 2 * ((A ms i).length * (A ms j).length) < 1152921504606846976 := by
  have := cnt_prod _ h.mem (i - 1) (List.mem_range.mpr (by omega)) (j - 1) (List.mem_range.mpr (by omega)) (by omega)
  rw [show i - 1 + 1 = i by omega, show j - 1 + 1 = j by omega, A_len ms i (by omega), A_len ms j (by omega)] at this
  omega
def cnts (ms : List Str) (N : Nat) : List D := (cl ms.length (N - 1)).map .int
theorem cnts_at {ms : List Str} {N i : Nat} (h1 : 1 ≤ N) (h2 : N ≤ 10) (h : i ≤ N) : atI (cnts ms N) (i : Int) = some (.int (A ms i).length) := by
  have e := atI_ints (xs := cl ms.length (N - 1)) (i := i) (by rw [cl_length]; omega)
  rw [cnt_at _ (by omega) (by omega), A_len ms i (by omega)] at e
  exact e
theorem rIx_cnts {ms : List Str} {N i : Nat} {O : Ow} {Q : VD} (h1 : 1 ≤ N) (h2 : N ≤ 10) (h : i ≤ N) : rIxD (.lst (cnts ms N)) (.int i) O Q = Q (.int (A ms i).length) O := rIx_l (cnts_at h1 h2 h)
def dMs (ms : List Str) : D := .lst (ms.map .str)
def MsOk (ms : List Str) : Prop := Small ms.length ∧ ms.Nodup ∧ ∀ t ∈ ms, PyData.strOk t = true
theorem MarkL.msOk {ms : List Str} (h : MarkL ms) : MsOk ms := ⟨by have h1 := h.1; have h2 := h.2.1; unfold Small; omega, h.2.2.1, fun t ht => (h.2.2.2 t ht).ok⟩
def spKindBy (n : Nat) : DSp := fun ds O R _ => ∃ (ms : List Str) (l j N : Nat) (k : Kd), ds = [.lst (ms.map .str), .int l, .int j, .lst (cnts ms N)] ∧ MsOk ms ∧ 1 ≤ l ∧ l ≤ n ∧ l ≤ N ∧ N ≤ 10 ∧ (A ms l)[j]? = some k ∧ R (dK k) O
def spKindAt : DSp := fun ds O R _ => ∃ (ms : List Str) (l j : Nat) (k : Kd), ds = [.lst (ms.map .str), .int l, .int j] ∧ MsOk ms ∧ 1 ≤ l ∧ l ≤ 10 ∧ (A ms l)[j]? = some k ∧ R (dK k) O
def spPlace (n : Nat) : DSp := fun ds O R _ => ∃ (ms : List Str) (N : Nat) (k : Kd), ds = [.lst (ms.map .str), dK k, .lst (cnts ms N)] ∧ MsOk ms ∧ k.depth < n ∧ k.leaves ≤ N ∧ N ≤ 10 ∧ k.over ms ∧ R (.int (place ms k)) O
def spNumber : DSp := fun ds O R _ => ∃ (ms : List Str) (k : Kd), ds = [.lst (ms.map .str), dK k] ∧ MsOk ms ∧ k.leaves ≤ 10 ∧ k.over ms ∧ R (.tup [.int k.leaves, .int (place ms k)]) O
def spLeaves (n : Nat) : DSp := fun ds O R _ => ∃ k : Kd, ds = [dK k] ∧ k.depth < n ∧ R (.int k.leaves) O
theorem over_ok {ms : List Str} (h : ∀ t ∈ ms, PyData.strOk t = true) : ∀ k : Kd, k.over ms → k.ok = true
  | .mk m, ho => h m ho
  | .one, _ => rfl
  | .to a b, ho => by simp [Kd.ok, over_ok h a ho.1, over_ok h b ho.2]
  | .both a b, ho => by simp [Kd.ok, over_ok h a ho.1, over_ok h b ho.2]
/-- the leaves in order, as the code writes them -/
theorem lf_map {ms : List Str} : (ms.map fun m => D.tup [.str "mark", .str m]) ++ [D.tup [.str "one"]] = (A ms 1).map dK := by
  rw [A_one, List.map_append, List.map_map]; rfl
theorem atI_A {ms : List Str} {l j : Nat} {k : Kd} (h : (A ms l)[j]? = some k) : atI ((A ms l).map dK) (j : Int) = some (dK k) := by
  refine atI_nat ?_
  rw [List.getElem?_map, h]; rfl
theorem dK_any {ls : List Kd} {k : Kd} : (ls.map dK).any (fun z => PyData.eqv (toPy z) (toPy (dK k))) = decide (k ∈ ls) := by
  induction ls with
  | nil => simp
  | cons a ls ih =>
    rw [List.map_cons, List.any_cons, ih]
    have e : PyData.eqv (toPy (dK a)) (toPy (dK k)) = decide (a = k) := deq_K a k
    rw [e]
    by_cases h : a = k
    · subst h; simp
    · simp [h, Ne.symm h, eq_comm]
theorem isPys_K {ls : List Kd} (h : ∀ k ∈ ls, k.ok = true) : isPys (ls.map dK) = true := by
  rw [isPys_all, List.all_eq_true]
  intro d hd
  obtain ⟨k, hk, rfl⟩ := List.mem_map.mp hd
  rw [isPy_dK]; exact h k hk
theorem dp_K {ls : List Kd} {n : Nat} (h : ∀ k ∈ ls, k.depth ≤ n) : dp (.lst (ls.map dK)) ≤ n + 2 := by
  rw [dpL]
  have : PyData.depthAll (toPys (ls.map dK)) ≤ n + 1 := dps_le fun d hd => by
    obtain ⟨k, hk, rfl⟩ := List.mem_map.mp hd
    have := h k hk
    rw [dp_dK]; omega
  omega
theorem find_K {ls : List Kd} {k : Kd} (hk : k ∈ ls) : (ls.map dK).findIdx? (fun z => deq z (dK k)) = some (ls.idxOf k) := by
  have hi := List.idxOf_lt_length_of_mem hk
  refine List.findIdx?_eq_some_iff_getElem.mpr ⟨by rw [List.length_map]; exact hi, ?_, fun j hj => ?_⟩
  · rw [List.getElem_map, deq_K]; simp
  · rw [List.getElem_map, deq_K]
    have := List.not_of_lt_findIdx (p := (· == k)) (xs := ls) hj
    simpa using this
theorem mem_A1 {ms : List Str} {k : Kd} (h1 : k.leaves = 1) (ho : k.over ms) : k ∈ A ms 1 := by
  have := place_get k (by omega) ho
  rw [h1] at this
  exact List.mem_of_getElem? this
theorem idx_A1 {ms : List Str} (hn : ms.Nodup) {k : Kd} (h1 : k.leaves = 1) (ho : k.over ms) : (A ms 1).idxOf k = place ms k := by
  have hk := mem_A1 h1 ho
  have hi := List.idxOf_lt_length_of_mem hk
  have e : (A ms 1)[(A ms 1).idxOf k]? = some k := by rw [List.getElem?_eq_getElem hi]; simp
  exact ((get_place hn 1 (by decide) (by decide) _ _ e).2.2).symm
theorem A1_leaf {ms : List Str} (hn : ms.Nodup) {k : Kd} (h : k ∈ A ms 1) : k.leaves = 1 ∧ k.over ms ∧ k.depth = 0 := by
  obtain ⟨j, hj⟩ := List.getElem?_of_mem h
  obtain ⟨h1, h2, _⟩ := get_place hn 1 (by decide) (by decide) _ _ hj
  exact ⟨h1, h2, by have := k.depth_lt; omega⟩
theorem rIn_K {neg : Bool} {ls : List Kd} {k : Kd} {O : Ow} {Q : VD} (h : k.ok = true) (hl : ∀ u ∈ ls, u.ok = true) (hd : k.depth < 190) : rInD neg (dK k) (.lst (ls.map dK)) O Q = Q (.bl (neg ^^ decide (k ∈ ls))) O := by
  simp only [rInD, deref_lst, deref_dK, isPy_dK, h, isPys_K hl, dK_any, true_and, dp_dK]
  rw [eq_iff_iff]
  exact ⟨fun h => h.2, fun h => ⟨by omega, h⟩⟩
/-! ### the words of kinds -/
theorem sd_om : decide (Str.ofString "one" = Str.ofString "mark") = false := by decide +kernel
theorem sd_ot : decide (Str.ofString "one" = Str.ofString "to") = false := by decide +kernel
theorem sd_ob : decide (Str.ofString "one" = Str.ofString "both") = false := by decide +kernel
theorem sd_mo : decide (Str.ofString "mark" = Str.ofString "one") = false := by decide +kernel
theorem sd_mt : decide (Str.ofString "mark" = Str.ofString "to") = false := by decide +kernel
theorem sd_mb : decide (Str.ofString "mark" = Str.ofString "both") = false := by decide +kernel
theorem sd_to : decide (Str.ofString "to" = Str.ofString "one") = false := by decide +kernel
theorem sd_tm : decide (Str.ofString "to" = Str.ofString "mark") = false := by decide +kernel
theorem sd_bo : decide (Str.ofString "both" = Str.ofString "one") = false := by decide +kernel
theorem sd_bm : decide (Str.ofString "both" = Str.ofString "mark") = false := by decide +kernel
theorem rIn_tb {z : Str} {O : Ow} {Q : VD} {neg : Bool} (hz : PyData.strOk z = true) : rInD neg (.str z) (.tup [.str "to", .str "both"]) O Q = Q (.bl (neg ^^ (decide (Str.ofString "to" = z) || decide (Str.ofString "both" = z)))) O := by
  have h1 : isPys [D.str "to", .str "both"] = true := by simp [isPys, isPy, so_to, so_both]
  have e1 : PyData.eqv (toPy (.str "to")) (toPy (.str z)) = decide (Str.ofString "to" = z) := deq_s
  have e2 : PyData.eqv (toPy (.str "both")) (toPy (.str z)) = decide (Str.ofString "both" = z) := deq_s
  simp only [rInD, deref, isPy, hz, h1, dpS, true_and, Nat.zero_le, List.any_cons, List.any_nil, e1, e2, Bool.or_false]
theorem any_strs (z : Str) : ∀ ts : List Str, (ts.map D.str).any (fun d => deq d (.str z)) = decide (z ∈ ts)
  | [] => by simp
  | t :: ts => by
    rw [List.map_cons, List.any_cons, any_strs z ts, deq_s]
    by_cases h : t = z
    · subst h; simp
    · have h' : ¬ z = t := fun q => h q.symm
      simp [h, h']
theorem rIn_strs {z : Str} {ts : List Str} {O : Ow} {Q : VD} {neg : Bool} (hz : PyData.strOk z = true) (h : ∀ t ∈ ts, PyData.strOk t = true) : rInD neg (.str z) (.lst (ts.map .str)) O Q = Q (.bl (neg ^^ decide (z ∈ ts))) O := by
  have e := any_strs z ts
  simp only [deq] at e
  simp only [rInD, deref, isPy, hz, isPys_strs h, dpS, true_and, e, Nat.zero_le]
def Kd.marks : Kd → List Str
  | .mk m => [m]
  | .one => []
  | .to a b => a.marks ++ b.marks
  | .both a b => a.marks ++ b.marks
theorem marks_len : ∀ k : Kd, k.marks.length ≤ k.leaves
  | .mk _ => by simp [Kd.marks, Kd.leaves]
  | .one => by simp [Kd.marks, Kd.leaves]
  | .to a b => by have := marks_len a; have := marks_len b; simp only [Kd.marks, Kd.leaves, List.length_append]; omega
  | .both a b => by have := marks_len a; have := marks_len b; simp only [Kd.marks, Kd.leaves, List.length_append]; omega
theorem over_iff {ms : List Str} : ∀ k : Kd, k.over ms ↔ ∀ m ∈ k.marks, m ∈ ms
  | .mk m => by simp [Kd.over, Kd.marks]
  | .one => by simp [Kd.over, Kd.marks]
  | .to a b => by
    simp only [Kd.over, Kd.marks, over_iff a, over_iff b, List.mem_append]
    exact ⟨fun ⟨h1, h2⟩ m hm => hm.elim (h1 m) (h2 m), fun h => ⟨fun m hm => h m (.inl hm), fun m hm => h m (.inr hm)⟩⟩
  | .both a b => by
    simp only [Kd.over, Kd.marks, over_iff a, over_iff b, List.mem_append]
    exact ⟨fun ⟨h1, h2⟩ m hm => hm.elim (h1 m) (h2 m), fun h => ⟨fun m hm => h m (.inl hm), fun m hm => h m (.inr hm)⟩⟩
def spMarksIn (n : Nat) : DSp := fun ds O R _ => ∃ k : Kd, ds = [dK k] ∧ k.depth < n ∧ k.leaves ≤ 1000 ∧ R (.lst (k.marks.map .str)) O
def spIsKind (n : Nat) : DSp := fun ds O R _ => ∃ k : Kd, ds = [dK k] ∧ k.depth < n ∧ k.ok = true ∧ R (.bl true) O
theorem rEq_i2t {neg : Bool} {a b c d : Int} {O : Ow} {Q : VD} : rEqD neg (.tup [.int a, .int b]) (.tup [.int c, .int d]) O Q = Q (.bl (neg ^^ (decide (a = c) && decide (b = d)))) O := by
  rw [rEq_d (by simp [deref, isPy, isPys]) (by simp [deref, isPy, isPys]) (by simp [deref, dpT, dpC, dpN, dpI])]
  simp [deref, deq_t, deqs_cc, deqs_nn, deq_i, deq_b]
theorem mem_enumD {xs : List D} {d : D} (h : d ∈ enumD xs) : ∃ (j : Nat) (x : D), xs[j]? = some x ∧ d = .tup [.int j, x] := by
  obtain ⟨j, hj⟩ := List.getElem?_of_mem h
  rw [enumD_get] at hj
  obtain ⟨x, hx, rfl⟩ := Option.map_eq_some_iff.mp hj
  exact ⟨j, x, hx, rfl⟩
end Kf
/-! Kpg: programs as data. -/
namespace Kf
open PySem PySem.Spec L2
open PyProof.Rows hiding St
/-! ### words -/
section
variable {neg : Bool} {O : Ow} {Q : VD}
theorem rIn_ws {z : Str} {ts : List Str} (hz : PyData.strOk z = true) (h : ∀ t ∈ ts, PyData.strOk t = true) : rInD neg (.str z) (.tup (ts.map .str)) O Q = Q (.bl (neg ^^ decide (z ∈ ts))) O := by
  have h1 : isPys (ts.map D.str) = true := by
    rw [isPys_all, List.all_eq_true]
    intro d hd
    obtain ⟨t, ht, rfl⟩ := List.mem_map.mp hd
    simp only [isPy, h t ht]
  have h2 : (ts.map D.str).any (fun x => PyData.eqv (toPy x) (toPy (.str z))) = decide (z ∈ ts) := by
    clear h h1
    induction ts with
    | nil => simp
    | cons t ts ih =>
      have e : PyData.eqv (toPy (.str t)) (toPy (.str z)) = decide (t = z) := deq_s
      rw [List.map_cons, List.any_cons, ih, e]
      by_cases h : t = z
      · subst h; simp
      · have h' : ¬ z = t := fun q => h q.symm
        simp [h, h']
  simp only [rInD, deref_str, deref_tup, isPy, hz, h1, h2, true_and]
  first | rfl | simp [dp, toPy, PyData.depth]
theorem sw_name : PyData.strOk (Str.ofString "name") = true := by decide +kernel
theorem sw_thing : PyData.strOk (Str.ofString "thing") = true := by decide +kernel
theorem sw_take : PyData.strOk (Str.ofString "take") = true := by decide +kernel
theorem sw_give : PyData.strOk (Str.ofString "give") = true := by decide +kernel
theorem sw_pair : PyData.strOk (Str.ofString "pair") = true := by decide +kernel
theorem sw_first : PyData.strOk (Str.ofString "first") = true := by decide +kernel
theorem sw_second : PyData.strOk (Str.ofString "second") = true := by decide +kernel
theorem sw_mark : PyData.strOk (Str.ofString "mark") = true := by decide +kernel
theorem sw_one : PyData.strOk (Str.ofString "one") = true := by decide +kernel
theorem sw_to : PyData.strOk (Str.ofString "to") = true := by decide +kernel
theorem sw_both : PyData.strOk (Str.ofString "both") = true := by decide +kernel
theorem sw_at : PyData.strOk (Str.ofString "at") = true := by decide +kernel
theorem te_name_take : rEqD neg (.str (Str.ofString "name")) (.str (Str.ofString "take")) O Q = Q (.bl neg) O := by
  rw [rEq_s sw_name sw_take, show decide (Str.ofString "name" = Str.ofString "take") = false by decide +kernel]; cases neg <;> rfl
theorem te_name_give : rEqD neg (.str (Str.ofString "name")) (.str (Str.ofString "give")) O Q = Q (.bl neg) O := by
  rw [rEq_s sw_name sw_give, show decide (Str.ofString "name" = Str.ofString "give") = false by decide +kernel]; cases neg <;> rfl
theorem te_name_pair : rEqD neg (.str (Str.ofString "name")) (.str (Str.ofString "pair")) O Q = Q (.bl neg) O := by
  rw [rEq_s sw_name sw_pair, show decide (Str.ofString "name" = Str.ofString "pair") = false by decide +kernel]; cases neg <;> rfl
theorem te_name_first : rEqD neg (.str (Str.ofString "name")) (.str (Str.ofString "first")) O Q = Q (.bl neg) O := by
  rw [rEq_s sw_name sw_first, show decide (Str.ofString "name" = Str.ofString "first") = false by decide +kernel]; cases neg <;> rfl
theorem te_name_second : rEqD neg (.str (Str.ofString "name")) (.str (Str.ofString "second")) O Q = Q (.bl neg) O := by
  rw [rEq_s sw_name sw_second, show decide (Str.ofString "name" = Str.ofString "second") = false by decide +kernel]; cases neg <;> rfl
theorem te_name_to : rEqD neg (.str (Str.ofString "name")) (.str (Str.ofString "to")) O Q = Q (.bl neg) O := by
  rw [rEq_s sw_name sw_to, show decide (Str.ofString "name" = Str.ofString "to") = false by decide +kernel]; cases neg <;> rfl
theorem te_name_both : rEqD neg (.str (Str.ofString "name")) (.str (Str.ofString "both")) O Q = Q (.bl neg) O := by
  rw [rEq_s sw_name sw_both, show decide (Str.ofString "name" = Str.ofString "both") = false by decide +kernel]; cases neg <;> rfl
theorem te_name_one : rEqD neg (.str (Str.ofString "name")) (.str (Str.ofString "one")) O Q = Q (.bl neg) O := by
  rw [rEq_s sw_name sw_one, show decide (Str.ofString "name" = Str.ofString "one") = false by decide +kernel]; cases neg <;> rfl
theorem te_name_mark : rEqD neg (.str (Str.ofString "name")) (.str (Str.ofString "mark")) O Q = Q (.bl neg) O := by
  rw [rEq_s sw_name sw_mark, show decide (Str.ofString "name" = Str.ofString "mark") = false by decide +kernel]; cases neg <;> rfl
theorem te_name_name : rEqD neg (.str (Str.ofString "name")) (.str (Str.ofString "name")) O Q = Q (.bl !neg) O := by
  rw [rEq_s sw_name sw_name, show decide (Str.ofString "name" = Str.ofString "name") = true by decide +kernel]; cases neg <;> rfl
theorem te_name_thing : rEqD neg (.str (Str.ofString "name")) (.str (Str.ofString "thing")) O Q = Q (.bl neg) O := by
  rw [rEq_s sw_name sw_thing, show decide (Str.ofString "name" = Str.ofString "thing") = false by decide +kernel]; cases neg <;> rfl
theorem te_name_at : rEqD neg (.str (Str.ofString "name")) (.str (Str.ofString "at")) O Q = Q (.bl neg) O := by
  rw [rEq_s sw_name sw_at, show decide (Str.ofString "name" = Str.ofString "at") = false by decide +kernel]; cases neg <;> rfl
theorem te_thing_take : rEqD neg (.str (Str.ofString "thing")) (.str (Str.ofString "take")) O Q = Q (.bl neg) O := by
  rw [rEq_s sw_thing sw_take, show decide (Str.ofString "thing" = Str.ofString "take") = false by decide +kernel]; cases neg <;> rfl
theorem te_thing_give : rEqD neg (.str (Str.ofString "thing")) (.str (Str.ofString "give")) O Q = Q (.bl neg) O := by
  rw [rEq_s sw_thing sw_give, show decide (Str.ofString "thing" = Str.ofString "give") = false by decide +kernel]; cases neg <;> rfl
theorem te_thing_pair : rEqD neg (.str (Str.ofString "thing")) (.str (Str.ofString "pair")) O Q = Q (.bl neg) O := by
  rw [rEq_s sw_thing sw_pair, show decide (Str.ofString "thing" = Str.ofString "pair") = false by decide +kernel]; cases neg <;> rfl
theorem te_thing_first : rEqD neg (.str (Str.ofString "thing")) (.str (Str.ofString "first")) O Q = Q (.bl neg) O := by
  rw [rEq_s sw_thing sw_first, show decide (Str.ofString "thing" = Str.ofString "first") = false by decide +kernel]; cases neg <;> rfl
theorem te_thing_second : rEqD neg (.str (Str.ofString "thing")) (.str (Str.ofString "second")) O Q = Q (.bl neg) O := by
  rw [rEq_s sw_thing sw_second, show decide (Str.ofString "thing" = Str.ofString "second") = false by decide +kernel]; cases neg <;> rfl
theorem te_thing_to : rEqD neg (.str (Str.ofString "thing")) (.str (Str.ofString "to")) O Q = Q (.bl neg) O := by
  rw [rEq_s sw_thing sw_to, show decide (Str.ofString "thing" = Str.ofString "to") = false by decide +kernel]; cases neg <;> rfl
theorem te_thing_both : rEqD neg (.str (Str.ofString "thing")) (.str (Str.ofString "both")) O Q = Q (.bl neg) O := by
  rw [rEq_s sw_thing sw_both, show decide (Str.ofString "thing" = Str.ofString "both") = false by decide +kernel]; cases neg <;> rfl
theorem te_thing_one : rEqD neg (.str (Str.ofString "thing")) (.str (Str.ofString "one")) O Q = Q (.bl neg) O := by
  rw [rEq_s sw_thing sw_one, show decide (Str.ofString "thing" = Str.ofString "one") = false by decide +kernel]; cases neg <;> rfl
theorem te_thing_mark : rEqD neg (.str (Str.ofString "thing")) (.str (Str.ofString "mark")) O Q = Q (.bl neg) O := by
  rw [rEq_s sw_thing sw_mark, show decide (Str.ofString "thing" = Str.ofString "mark") = false by decide +kernel]; cases neg <;> rfl
theorem te_thing_name : rEqD neg (.str (Str.ofString "thing")) (.str (Str.ofString "name")) O Q = Q (.bl neg) O := by
  rw [rEq_s sw_thing sw_name, show decide (Str.ofString "thing" = Str.ofString "name") = false by decide +kernel]; cases neg <;> rfl
theorem te_thing_thing : rEqD neg (.str (Str.ofString "thing")) (.str (Str.ofString "thing")) O Q = Q (.bl !neg) O := by
  rw [rEq_s sw_thing sw_thing, show decide (Str.ofString "thing" = Str.ofString "thing") = true by decide +kernel]; cases neg <;> rfl
theorem te_thing_at : rEqD neg (.str (Str.ofString "thing")) (.str (Str.ofString "at")) O Q = Q (.bl neg) O := by
  rw [rEq_s sw_thing sw_at, show decide (Str.ofString "thing" = Str.ofString "at") = false by decide +kernel]; cases neg <;> rfl
theorem te_take_take : rEqD neg (.str (Str.ofString "take")) (.str (Str.ofString "take")) O Q = Q (.bl !neg) O := by
  rw [rEq_s sw_take sw_take, show decide (Str.ofString "take" = Str.ofString "take") = true by decide +kernel]; cases neg <;> rfl
theorem te_take_give : rEqD neg (.str (Str.ofString "take")) (.str (Str.ofString "give")) O Q = Q (.bl neg) O := by
  rw [rEq_s sw_take sw_give, show decide (Str.ofString "take" = Str.ofString "give") = false by decide +kernel]; cases neg <;> rfl
theorem te_take_pair : rEqD neg (.str (Str.ofString "take")) (.str (Str.ofString "pair")) O Q = Q (.bl neg) O := by
  rw [rEq_s sw_take sw_pair, show decide (Str.ofString "take" = Str.ofString "pair") = false by decide +kernel]; cases neg <;> rfl
theorem te_take_first : rEqD neg (.str (Str.ofString "take")) (.str (Str.ofString "first")) O Q = Q (.bl neg) O := by
  rw [rEq_s sw_take sw_first, show decide (Str.ofString "take" = Str.ofString "first") = false by decide +kernel]; cases neg <;> rfl
theorem te_take_second : rEqD neg (.str (Str.ofString "take")) (.str (Str.ofString "second")) O Q = Q (.bl neg) O := by
  rw [rEq_s sw_take sw_second, show decide (Str.ofString "take" = Str.ofString "second") = false by decide +kernel]; cases neg <;> rfl
theorem te_take_to : rEqD neg (.str (Str.ofString "take")) (.str (Str.ofString "to")) O Q = Q (.bl neg) O := by
  rw [rEq_s sw_take sw_to, show decide (Str.ofString "take" = Str.ofString "to") = false by decide +kernel]; cases neg <;> rfl
theorem te_take_both : rEqD neg (.str (Str.ofString "take")) (.str (Str.ofString "both")) O Q = Q (.bl neg) O := by
  rw [rEq_s sw_take sw_both, show decide (Str.ofString "take" = Str.ofString "both") = false by decide +kernel]; cases neg <;> rfl
theorem te_take_one : rEqD neg (.str (Str.ofString "take")) (.str (Str.ofString "one")) O Q = Q (.bl neg) O := by
  rw [rEq_s sw_take sw_one, show decide (Str.ofString "take" = Str.ofString "one") = false by decide +kernel]; cases neg <;> rfl
theorem te_take_mark : rEqD neg (.str (Str.ofString "take")) (.str (Str.ofString "mark")) O Q = Q (.bl neg) O := by
  rw [rEq_s sw_take sw_mark, show decide (Str.ofString "take" = Str.ofString "mark") = false by decide +kernel]; cases neg <;> rfl
theorem te_take_name : rEqD neg (.str (Str.ofString "take")) (.str (Str.ofString "name")) O Q = Q (.bl neg) O := by
  rw [rEq_s sw_take sw_name, show decide (Str.ofString "take" = Str.ofString "name") = false by decide +kernel]; cases neg <;> rfl
theorem te_take_thing : rEqD neg (.str (Str.ofString "take")) (.str (Str.ofString "thing")) O Q = Q (.bl neg) O := by
  rw [rEq_s sw_take sw_thing, show decide (Str.ofString "take" = Str.ofString "thing") = false by decide +kernel]; cases neg <;> rfl
theorem te_take_at : rEqD neg (.str (Str.ofString "take")) (.str (Str.ofString "at")) O Q = Q (.bl neg) O := by
  rw [rEq_s sw_take sw_at, show decide (Str.ofString "take" = Str.ofString "at") = false by decide +kernel]; cases neg <;> rfl
theorem te_give_take : rEqD neg (.str (Str.ofString "give")) (.str (Str.ofString "take")) O Q = Q (.bl neg) O := by
  rw [rEq_s sw_give sw_take, show decide (Str.ofString "give" = Str.ofString "take") = false by decide +kernel]; cases neg <;> rfl
theorem te_give_give : rEqD neg (.str (Str.ofString "give")) (.str (Str.ofString "give")) O Q = Q (.bl !neg) O := by
  rw [rEq_s sw_give sw_give, show decide (Str.ofString "give" = Str.ofString "give") = true by decide +kernel]; cases neg <;> rfl
theorem te_give_pair : rEqD neg (.str (Str.ofString "give")) (.str (Str.ofString "pair")) O Q = Q (.bl neg) O := by
  rw [rEq_s sw_give sw_pair, show decide (Str.ofString "give" = Str.ofString "pair") = false by decide +kernel]; cases neg <;> rfl
theorem te_give_first : rEqD neg (.str (Str.ofString "give")) (.str (Str.ofString "first")) O Q = Q (.bl neg) O := by
  rw [rEq_s sw_give sw_first, show decide (Str.ofString "give" = Str.ofString "first") = false by decide +kernel]; cases neg <;> rfl
theorem te_give_second : rEqD neg (.str (Str.ofString "give")) (.str (Str.ofString "second")) O Q = Q (.bl neg) O := by
  rw [rEq_s sw_give sw_second, show decide (Str.ofString "give" = Str.ofString "second") = false by decide +kernel]; cases neg <;> rfl
theorem te_give_to : rEqD neg (.str (Str.ofString "give")) (.str (Str.ofString "to")) O Q = Q (.bl neg) O := by
  rw [rEq_s sw_give sw_to, show decide (Str.ofString "give" = Str.ofString "to") = false by decide +kernel]; cases neg <;> rfl
theorem te_give_both : rEqD neg (.str (Str.ofString "give")) (.str (Str.ofString "both")) O Q = Q (.bl neg) O := by
  rw [rEq_s sw_give sw_both, show decide (Str.ofString "give" = Str.ofString "both") = false by decide +kernel]; cases neg <;> rfl
theorem te_give_one : rEqD neg (.str (Str.ofString "give")) (.str (Str.ofString "one")) O Q = Q (.bl neg) O := by
  rw [rEq_s sw_give sw_one, show decide (Str.ofString "give" = Str.ofString "one") = false by decide +kernel]; cases neg <;> rfl
theorem te_give_mark : rEqD neg (.str (Str.ofString "give")) (.str (Str.ofString "mark")) O Q = Q (.bl neg) O := by
  rw [rEq_s sw_give sw_mark, show decide (Str.ofString "give" = Str.ofString "mark") = false by decide +kernel]; cases neg <;> rfl
theorem te_give_name : rEqD neg (.str (Str.ofString "give")) (.str (Str.ofString "name")) O Q = Q (.bl neg) O := by
  rw [rEq_s sw_give sw_name, show decide (Str.ofString "give" = Str.ofString "name") = false by decide +kernel]; cases neg <;> rfl
theorem te_give_thing : rEqD neg (.str (Str.ofString "give")) (.str (Str.ofString "thing")) O Q = Q (.bl neg) O := by
  rw [rEq_s sw_give sw_thing, show decide (Str.ofString "give" = Str.ofString "thing") = false by decide +kernel]; cases neg <;> rfl
theorem te_give_at : rEqD neg (.str (Str.ofString "give")) (.str (Str.ofString "at")) O Q = Q (.bl neg) O := by
  rw [rEq_s sw_give sw_at, show decide (Str.ofString "give" = Str.ofString "at") = false by decide +kernel]; cases neg <;> rfl
theorem te_pair_take : rEqD neg (.str (Str.ofString "pair")) (.str (Str.ofString "take")) O Q = Q (.bl neg) O := by
  rw [rEq_s sw_pair sw_take, show decide (Str.ofString "pair" = Str.ofString "take") = false by decide +kernel]; cases neg <;> rfl
theorem te_pair_give : rEqD neg (.str (Str.ofString "pair")) (.str (Str.ofString "give")) O Q = Q (.bl neg) O := by
  rw [rEq_s sw_pair sw_give, show decide (Str.ofString "pair" = Str.ofString "give") = false by decide +kernel]; cases neg <;> rfl
theorem te_pair_pair : rEqD neg (.str (Str.ofString "pair")) (.str (Str.ofString "pair")) O Q = Q (.bl !neg) O := by
  rw [rEq_s sw_pair sw_pair, show decide (Str.ofString "pair" = Str.ofString "pair") = true by decide +kernel]; cases neg <;> rfl
theorem te_pair_first : rEqD neg (.str (Str.ofString "pair")) (.str (Str.ofString "first")) O Q = Q (.bl neg) O := by
  rw [rEq_s sw_pair sw_first, show decide (Str.ofString "pair" = Str.ofString "first") = false by decide +kernel]; cases neg <;> rfl
theorem te_pair_second : rEqD neg (.str (Str.ofString "pair")) (.str (Str.ofString "second")) O Q = Q (.bl neg) O := by
  rw [rEq_s sw_pair sw_second, show decide (Str.ofString "pair" = Str.ofString "second") = false by decide +kernel]; cases neg <;> rfl
theorem te_pair_to : rEqD neg (.str (Str.ofString "pair")) (.str (Str.ofString "to")) O Q = Q (.bl neg) O := by
  rw [rEq_s sw_pair sw_to, show decide (Str.ofString "pair" = Str.ofString "to") = false by decide +kernel]; cases neg <;> rfl
theorem te_pair_both : rEqD neg (.str (Str.ofString "pair")) (.str (Str.ofString "both")) O Q = Q (.bl neg) O := by
  rw [rEq_s sw_pair sw_both, show decide (Str.ofString "pair" = Str.ofString "both") = false by decide +kernel]; cases neg <;> rfl
theorem te_pair_one : rEqD neg (.str (Str.ofString "pair")) (.str (Str.ofString "one")) O Q = Q (.bl neg) O := by
  rw [rEq_s sw_pair sw_one, show decide (Str.ofString "pair" = Str.ofString "one") = false by decide +kernel]; cases neg <;> rfl
theorem te_pair_mark : rEqD neg (.str (Str.ofString "pair")) (.str (Str.ofString "mark")) O Q = Q (.bl neg) O := by
  rw [rEq_s sw_pair sw_mark, show decide (Str.ofString "pair" = Str.ofString "mark") = false by decide +kernel]; cases neg <;> rfl
theorem te_pair_name : rEqD neg (.str (Str.ofString "pair")) (.str (Str.ofString "name")) O Q = Q (.bl neg) O := by
  rw [rEq_s sw_pair sw_name, show decide (Str.ofString "pair" = Str.ofString "name") = false by decide +kernel]; cases neg <;> rfl
theorem te_pair_thing : rEqD neg (.str (Str.ofString "pair")) (.str (Str.ofString "thing")) O Q = Q (.bl neg) O := by
  rw [rEq_s sw_pair sw_thing, show decide (Str.ofString "pair" = Str.ofString "thing") = false by decide +kernel]; cases neg <;> rfl
theorem te_pair_at : rEqD neg (.str (Str.ofString "pair")) (.str (Str.ofString "at")) O Q = Q (.bl neg) O := by
  rw [rEq_s sw_pair sw_at, show decide (Str.ofString "pair" = Str.ofString "at") = false by decide +kernel]; cases neg <;> rfl
theorem te_first_take : rEqD neg (.str (Str.ofString "first")) (.str (Str.ofString "take")) O Q = Q (.bl neg) O := by
  rw [rEq_s sw_first sw_take, show decide (Str.ofString "first" = Str.ofString "take") = false by decide +kernel]; cases neg <;> rfl
theorem te_first_give : rEqD neg (.str (Str.ofString "first")) (.str (Str.ofString "give")) O Q = Q (.bl neg) O := by
  rw [rEq_s sw_first sw_give, show decide (Str.ofString "first" = Str.ofString "give") = false by decide +kernel]; cases neg <;> rfl
theorem te_first_pair : rEqD neg (.str (Str.ofString "first")) (.str (Str.ofString "pair")) O Q = Q (.bl neg) O := by
  rw [rEq_s sw_first sw_pair, show decide (Str.ofString "first" = Str.ofString "pair") = false by decide +kernel]; cases neg <;> rfl
theorem te_first_first : rEqD neg (.str (Str.ofString "first")) (.str (Str.ofString "first")) O Q = Q (.bl !neg) O := by
  rw [rEq_s sw_first sw_first, show decide (Str.ofString "first" = Str.ofString "first") = true by decide +kernel]; cases neg <;> rfl
theorem te_first_second : rEqD neg (.str (Str.ofString "first")) (.str (Str.ofString "second")) O Q = Q (.bl neg) O := by
  rw [rEq_s sw_first sw_second, show decide (Str.ofString "first" = Str.ofString "second") = false by decide +kernel]; cases neg <;> rfl
theorem te_first_to : rEqD neg (.str (Str.ofString "first")) (.str (Str.ofString "to")) O Q = Q (.bl neg) O := by
  rw [rEq_s sw_first sw_to, show decide (Str.ofString "first" = Str.ofString "to") = false by decide +kernel]; cases neg <;> rfl
theorem te_first_both : rEqD neg (.str (Str.ofString "first")) (.str (Str.ofString "both")) O Q = Q (.bl neg) O := by
  rw [rEq_s sw_first sw_both, show decide (Str.ofString "first" = Str.ofString "both") = false by decide +kernel]; cases neg <;> rfl
theorem te_first_one : rEqD neg (.str (Str.ofString "first")) (.str (Str.ofString "one")) O Q = Q (.bl neg) O := by
  rw [rEq_s sw_first sw_one, show decide (Str.ofString "first" = Str.ofString "one") = false by decide +kernel]; cases neg <;> rfl
theorem te_first_mark : rEqD neg (.str (Str.ofString "first")) (.str (Str.ofString "mark")) O Q = Q (.bl neg) O := by
  rw [rEq_s sw_first sw_mark, show decide (Str.ofString "first" = Str.ofString "mark") = false by decide +kernel]; cases neg <;> rfl
theorem te_first_name : rEqD neg (.str (Str.ofString "first")) (.str (Str.ofString "name")) O Q = Q (.bl neg) O := by
  rw [rEq_s sw_first sw_name, show decide (Str.ofString "first" = Str.ofString "name") = false by decide +kernel]; cases neg <;> rfl
theorem te_first_thing : rEqD neg (.str (Str.ofString "first")) (.str (Str.ofString "thing")) O Q = Q (.bl neg) O := by
  rw [rEq_s sw_first sw_thing, show decide (Str.ofString "first" = Str.ofString "thing") = false by decide +kernel]; cases neg <;> rfl
theorem te_first_at : rEqD neg (.str (Str.ofString "first")) (.str (Str.ofString "at")) O Q = Q (.bl neg) O := by
  rw [rEq_s sw_first sw_at, show decide (Str.ofString "first" = Str.ofString "at") = false by decide +kernel]; cases neg <;> rfl
theorem te_second_take : rEqD neg (.str (Str.ofString "second")) (.str (Str.ofString "take")) O Q = Q (.bl neg) O := by
  rw [rEq_s sw_second sw_take, show decide (Str.ofString "second" = Str.ofString "take") = false by decide +kernel]; cases neg <;> rfl
theorem te_second_give : rEqD neg (.str (Str.ofString "second")) (.str (Str.ofString "give")) O Q = Q (.bl neg) O := by
  rw [rEq_s sw_second sw_give, show decide (Str.ofString "second" = Str.ofString "give") = false by decide +kernel]; cases neg <;> rfl
theorem te_second_pair : rEqD neg (.str (Str.ofString "second")) (.str (Str.ofString "pair")) O Q = Q (.bl neg) O := by
  rw [rEq_s sw_second sw_pair, show decide (Str.ofString "second" = Str.ofString "pair") = false by decide +kernel]; cases neg <;> rfl
theorem te_second_first : rEqD neg (.str (Str.ofString "second")) (.str (Str.ofString "first")) O Q = Q (.bl neg) O := by
  rw [rEq_s sw_second sw_first, show decide (Str.ofString "second" = Str.ofString "first") = false by decide +kernel]; cases neg <;> rfl
theorem te_second_second : rEqD neg (.str (Str.ofString "second")) (.str (Str.ofString "second")) O Q = Q (.bl !neg) O := by
  rw [rEq_s sw_second sw_second, show decide (Str.ofString "second" = Str.ofString "second") = true by decide +kernel]; cases neg <;> rfl
theorem te_second_to : rEqD neg (.str (Str.ofString "second")) (.str (Str.ofString "to")) O Q = Q (.bl neg) O := by
  rw [rEq_s sw_second sw_to, show decide (Str.ofString "second" = Str.ofString "to") = false by decide +kernel]; cases neg <;> rfl
theorem te_second_both : rEqD neg (.str (Str.ofString "second")) (.str (Str.ofString "both")) O Q = Q (.bl neg) O := by
  rw [rEq_s sw_second sw_both, show decide (Str.ofString "second" = Str.ofString "both") = false by decide +kernel]; cases neg <;> rfl
theorem te_second_one : rEqD neg (.str (Str.ofString "second")) (.str (Str.ofString "one")) O Q = Q (.bl neg) O := by
  rw [rEq_s sw_second sw_one, show decide (Str.ofString "second" = Str.ofString "one") = false by decide +kernel]; cases neg <;> rfl
theorem te_second_mark : rEqD neg (.str (Str.ofString "second")) (.str (Str.ofString "mark")) O Q = Q (.bl neg) O := by
  rw [rEq_s sw_second sw_mark, show decide (Str.ofString "second" = Str.ofString "mark") = false by decide +kernel]; cases neg <;> rfl
theorem te_second_name : rEqD neg (.str (Str.ofString "second")) (.str (Str.ofString "name")) O Q = Q (.bl neg) O := by
  rw [rEq_s sw_second sw_name, show decide (Str.ofString "second" = Str.ofString "name") = false by decide +kernel]; cases neg <;> rfl
theorem te_second_thing : rEqD neg (.str (Str.ofString "second")) (.str (Str.ofString "thing")) O Q = Q (.bl neg) O := by
  rw [rEq_s sw_second sw_thing, show decide (Str.ofString "second" = Str.ofString "thing") = false by decide +kernel]; cases neg <;> rfl
theorem te_second_at : rEqD neg (.str (Str.ofString "second")) (.str (Str.ofString "at")) O Q = Q (.bl neg) O := by
  rw [rEq_s sw_second sw_at, show decide (Str.ofString "second" = Str.ofString "at") = false by decide +kernel]; cases neg <;> rfl
theorem te_mark_take : rEqD neg (.str (Str.ofString "mark")) (.str (Str.ofString "take")) O Q = Q (.bl neg) O := by
  rw [rEq_s sw_mark sw_take, show decide (Str.ofString "mark" = Str.ofString "take") = false by decide +kernel]; cases neg <;> rfl
theorem te_mark_give : rEqD neg (.str (Str.ofString "mark")) (.str (Str.ofString "give")) O Q = Q (.bl neg) O := by
  rw [rEq_s sw_mark sw_give, show decide (Str.ofString "mark" = Str.ofString "give") = false by decide +kernel]; cases neg <;> rfl
theorem te_mark_pair : rEqD neg (.str (Str.ofString "mark")) (.str (Str.ofString "pair")) O Q = Q (.bl neg) O := by
  rw [rEq_s sw_mark sw_pair, show decide (Str.ofString "mark" = Str.ofString "pair") = false by decide +kernel]; cases neg <;> rfl
theorem te_mark_first : rEqD neg (.str (Str.ofString "mark")) (.str (Str.ofString "first")) O Q = Q (.bl neg) O := by
  rw [rEq_s sw_mark sw_first, show decide (Str.ofString "mark" = Str.ofString "first") = false by decide +kernel]; cases neg <;> rfl
theorem te_mark_second : rEqD neg (.str (Str.ofString "mark")) (.str (Str.ofString "second")) O Q = Q (.bl neg) O := by
  rw [rEq_s sw_mark sw_second, show decide (Str.ofString "mark" = Str.ofString "second") = false by decide +kernel]; cases neg <;> rfl
theorem te_mark_to : rEqD neg (.str (Str.ofString "mark")) (.str (Str.ofString "to")) O Q = Q (.bl neg) O := by
  rw [rEq_s sw_mark sw_to, show decide (Str.ofString "mark" = Str.ofString "to") = false by decide +kernel]; cases neg <;> rfl
theorem te_mark_both : rEqD neg (.str (Str.ofString "mark")) (.str (Str.ofString "both")) O Q = Q (.bl neg) O := by
  rw [rEq_s sw_mark sw_both, show decide (Str.ofString "mark" = Str.ofString "both") = false by decide +kernel]; cases neg <;> rfl
theorem te_mark_one : rEqD neg (.str (Str.ofString "mark")) (.str (Str.ofString "one")) O Q = Q (.bl neg) O := by
  rw [rEq_s sw_mark sw_one, show decide (Str.ofString "mark" = Str.ofString "one") = false by decide +kernel]; cases neg <;> rfl
theorem te_mark_mark : rEqD neg (.str (Str.ofString "mark")) (.str (Str.ofString "mark")) O Q = Q (.bl !neg) O := by
  rw [rEq_s sw_mark sw_mark, show decide (Str.ofString "mark" = Str.ofString "mark") = true by decide +kernel]; cases neg <;> rfl
theorem te_mark_name : rEqD neg (.str (Str.ofString "mark")) (.str (Str.ofString "name")) O Q = Q (.bl neg) O := by
  rw [rEq_s sw_mark sw_name, show decide (Str.ofString "mark" = Str.ofString "name") = false by decide +kernel]; cases neg <;> rfl
theorem te_mark_thing : rEqD neg (.str (Str.ofString "mark")) (.str (Str.ofString "thing")) O Q = Q (.bl neg) O := by
  rw [rEq_s sw_mark sw_thing, show decide (Str.ofString "mark" = Str.ofString "thing") = false by decide +kernel]; cases neg <;> rfl
theorem te_mark_at : rEqD neg (.str (Str.ofString "mark")) (.str (Str.ofString "at")) O Q = Q (.bl neg) O := by
  rw [rEq_s sw_mark sw_at, show decide (Str.ofString "mark" = Str.ofString "at") = false by decide +kernel]; cases neg <;> rfl
theorem te_one_take : rEqD neg (.str (Str.ofString "one")) (.str (Str.ofString "take")) O Q = Q (.bl neg) O := by
  rw [rEq_s sw_one sw_take, show decide (Str.ofString "one" = Str.ofString "take") = false by decide +kernel]; cases neg <;> rfl
theorem te_one_give : rEqD neg (.str (Str.ofString "one")) (.str (Str.ofString "give")) O Q = Q (.bl neg) O := by
  rw [rEq_s sw_one sw_give, show decide (Str.ofString "one" = Str.ofString "give") = false by decide +kernel]; cases neg <;> rfl
theorem te_one_pair : rEqD neg (.str (Str.ofString "one")) (.str (Str.ofString "pair")) O Q = Q (.bl neg) O := by
  rw [rEq_s sw_one sw_pair, show decide (Str.ofString "one" = Str.ofString "pair") = false by decide +kernel]; cases neg <;> rfl
theorem te_one_first : rEqD neg (.str (Str.ofString "one")) (.str (Str.ofString "first")) O Q = Q (.bl neg) O := by
  rw [rEq_s sw_one sw_first, show decide (Str.ofString "one" = Str.ofString "first") = false by decide +kernel]; cases neg <;> rfl
theorem te_one_second : rEqD neg (.str (Str.ofString "one")) (.str (Str.ofString "second")) O Q = Q (.bl neg) O := by
  rw [rEq_s sw_one sw_second, show decide (Str.ofString "one" = Str.ofString "second") = false by decide +kernel]; cases neg <;> rfl
theorem te_one_to : rEqD neg (.str (Str.ofString "one")) (.str (Str.ofString "to")) O Q = Q (.bl neg) O := by
  rw [rEq_s sw_one sw_to, show decide (Str.ofString "one" = Str.ofString "to") = false by decide +kernel]; cases neg <;> rfl
theorem te_one_both : rEqD neg (.str (Str.ofString "one")) (.str (Str.ofString "both")) O Q = Q (.bl neg) O := by
  rw [rEq_s sw_one sw_both, show decide (Str.ofString "one" = Str.ofString "both") = false by decide +kernel]; cases neg <;> rfl
theorem te_one_one : rEqD neg (.str (Str.ofString "one")) (.str (Str.ofString "one")) O Q = Q (.bl !neg) O := by
  rw [rEq_s sw_one sw_one, show decide (Str.ofString "one" = Str.ofString "one") = true by decide +kernel]; cases neg <;> rfl
theorem te_one_mark : rEqD neg (.str (Str.ofString "one")) (.str (Str.ofString "mark")) O Q = Q (.bl neg) O := by
  rw [rEq_s sw_one sw_mark, show decide (Str.ofString "one" = Str.ofString "mark") = false by decide +kernel]; cases neg <;> rfl
theorem te_one_name : rEqD neg (.str (Str.ofString "one")) (.str (Str.ofString "name")) O Q = Q (.bl neg) O := by
  rw [rEq_s sw_one sw_name, show decide (Str.ofString "one" = Str.ofString "name") = false by decide +kernel]; cases neg <;> rfl
theorem te_one_thing : rEqD neg (.str (Str.ofString "one")) (.str (Str.ofString "thing")) O Q = Q (.bl neg) O := by
  rw [rEq_s sw_one sw_thing, show decide (Str.ofString "one" = Str.ofString "thing") = false by decide +kernel]; cases neg <;> rfl
theorem te_one_at : rEqD neg (.str (Str.ofString "one")) (.str (Str.ofString "at")) O Q = Q (.bl neg) O := by
  rw [rEq_s sw_one sw_at, show decide (Str.ofString "one" = Str.ofString "at") = false by decide +kernel]; cases neg <;> rfl
theorem te_to_take : rEqD neg (.str (Str.ofString "to")) (.str (Str.ofString "take")) O Q = Q (.bl neg) O := by
  rw [rEq_s sw_to sw_take, show decide (Str.ofString "to" = Str.ofString "take") = false by decide +kernel]; cases neg <;> rfl
theorem te_to_give : rEqD neg (.str (Str.ofString "to")) (.str (Str.ofString "give")) O Q = Q (.bl neg) O := by
  rw [rEq_s sw_to sw_give, show decide (Str.ofString "to" = Str.ofString "give") = false by decide +kernel]; cases neg <;> rfl
theorem te_to_pair : rEqD neg (.str (Str.ofString "to")) (.str (Str.ofString "pair")) O Q = Q (.bl neg) O := by
  rw [rEq_s sw_to sw_pair, show decide (Str.ofString "to" = Str.ofString "pair") = false by decide +kernel]; cases neg <;> rfl
theorem te_to_first : rEqD neg (.str (Str.ofString "to")) (.str (Str.ofString "first")) O Q = Q (.bl neg) O := by
  rw [rEq_s sw_to sw_first, show decide (Str.ofString "to" = Str.ofString "first") = false by decide +kernel]; cases neg <;> rfl
theorem te_to_second : rEqD neg (.str (Str.ofString "to")) (.str (Str.ofString "second")) O Q = Q (.bl neg) O := by
  rw [rEq_s sw_to sw_second, show decide (Str.ofString "to" = Str.ofString "second") = false by decide +kernel]; cases neg <;> rfl
theorem te_to_to : rEqD neg (.str (Str.ofString "to")) (.str (Str.ofString "to")) O Q = Q (.bl !neg) O := by
  rw [rEq_s sw_to sw_to, show decide (Str.ofString "to" = Str.ofString "to") = true by decide +kernel]; cases neg <;> rfl
theorem te_to_both : rEqD neg (.str (Str.ofString "to")) (.str (Str.ofString "both")) O Q = Q (.bl neg) O := by
  rw [rEq_s sw_to sw_both, show decide (Str.ofString "to" = Str.ofString "both") = false by decide +kernel]; cases neg <;> rfl
theorem te_to_one : rEqD neg (.str (Str.ofString "to")) (.str (Str.ofString "one")) O Q = Q (.bl neg) O := by
  rw [rEq_s sw_to sw_one, show decide (Str.ofString "to" = Str.ofString "one") = false by decide +kernel]; cases neg <;> rfl
theorem te_to_mark : rEqD neg (.str (Str.ofString "to")) (.str (Str.ofString "mark")) O Q = Q (.bl neg) O := by
  rw [rEq_s sw_to sw_mark, show decide (Str.ofString "to" = Str.ofString "mark") = false by decide +kernel]; cases neg <;> rfl
theorem te_to_name : rEqD neg (.str (Str.ofString "to")) (.str (Str.ofString "name")) O Q = Q (.bl neg) O := by
  rw [rEq_s sw_to sw_name, show decide (Str.ofString "to" = Str.ofString "name") = false by decide +kernel]; cases neg <;> rfl
theorem te_to_thing : rEqD neg (.str (Str.ofString "to")) (.str (Str.ofString "thing")) O Q = Q (.bl neg) O := by
  rw [rEq_s sw_to sw_thing, show decide (Str.ofString "to" = Str.ofString "thing") = false by decide +kernel]; cases neg <;> rfl
theorem te_to_at : rEqD neg (.str (Str.ofString "to")) (.str (Str.ofString "at")) O Q = Q (.bl neg) O := by
  rw [rEq_s sw_to sw_at, show decide (Str.ofString "to" = Str.ofString "at") = false by decide +kernel]; cases neg <;> rfl
theorem te_both_take : rEqD neg (.str (Str.ofString "both")) (.str (Str.ofString "take")) O Q = Q (.bl neg) O := by
  rw [rEq_s sw_both sw_take, show decide (Str.ofString "both" = Str.ofString "take") = false by decide +kernel]; cases neg <;> rfl
theorem te_both_give : rEqD neg (.str (Str.ofString "both")) (.str (Str.ofString "give")) O Q = Q (.bl neg) O := by
  rw [rEq_s sw_both sw_give, show decide (Str.ofString "both" = Str.ofString "give") = false by decide +kernel]; cases neg <;> rfl
theorem te_both_pair : rEqD neg (.str (Str.ofString "both")) (.str (Str.ofString "pair")) O Q = Q (.bl neg) O := by
  rw [rEq_s sw_both sw_pair, show decide (Str.ofString "both" = Str.ofString "pair") = false by decide +kernel]; cases neg <;> rfl
theorem te_both_first : rEqD neg (.str (Str.ofString "both")) (.str (Str.ofString "first")) O Q = Q (.bl neg) O := by
  rw [rEq_s sw_both sw_first, show decide (Str.ofString "both" = Str.ofString "first") = false by decide +kernel]; cases neg <;> rfl
theorem te_both_second : rEqD neg (.str (Str.ofString "both")) (.str (Str.ofString "second")) O Q = Q (.bl neg) O := by
  rw [rEq_s sw_both sw_second, show decide (Str.ofString "both" = Str.ofString "second") = false by decide +kernel]; cases neg <;> rfl
theorem te_both_to : rEqD neg (.str (Str.ofString "both")) (.str (Str.ofString "to")) O Q = Q (.bl neg) O := by
  rw [rEq_s sw_both sw_to, show decide (Str.ofString "both" = Str.ofString "to") = false by decide +kernel]; cases neg <;> rfl
theorem te_both_both : rEqD neg (.str (Str.ofString "both")) (.str (Str.ofString "both")) O Q = Q (.bl !neg) O := by
  rw [rEq_s sw_both sw_both, show decide (Str.ofString "both" = Str.ofString "both") = true by decide +kernel]; cases neg <;> rfl
theorem te_both_one : rEqD neg (.str (Str.ofString "both")) (.str (Str.ofString "one")) O Q = Q (.bl neg) O := by
  rw [rEq_s sw_both sw_one, show decide (Str.ofString "both" = Str.ofString "one") = false by decide +kernel]; cases neg <;> rfl
theorem te_both_mark : rEqD neg (.str (Str.ofString "both")) (.str (Str.ofString "mark")) O Q = Q (.bl neg) O := by
  rw [rEq_s sw_both sw_mark, show decide (Str.ofString "both" = Str.ofString "mark") = false by decide +kernel]; cases neg <;> rfl
theorem te_both_name : rEqD neg (.str (Str.ofString "both")) (.str (Str.ofString "name")) O Q = Q (.bl neg) O := by
  rw [rEq_s sw_both sw_name, show decide (Str.ofString "both" = Str.ofString "name") = false by decide +kernel]; cases neg <;> rfl
theorem te_both_thing : rEqD neg (.str (Str.ofString "both")) (.str (Str.ofString "thing")) O Q = Q (.bl neg) O := by
  rw [rEq_s sw_both sw_thing, show decide (Str.ofString "both" = Str.ofString "thing") = false by decide +kernel]; cases neg <;> rfl
theorem te_both_at : rEqD neg (.str (Str.ofString "both")) (.str (Str.ofString "at")) O Q = Q (.bl neg) O := by
  rw [rEq_s sw_both sw_at, show decide (Str.ofString "both" = Str.ofString "at") = false by decide +kernel]; cases neg <;> rfl
theorem te_at_take : rEqD neg (.str (Str.ofString "at")) (.str (Str.ofString "take")) O Q = Q (.bl neg) O := by
  rw [rEq_s sw_at sw_take, show decide (Str.ofString "at" = Str.ofString "take") = false by decide +kernel]; cases neg <;> rfl
theorem te_at_give : rEqD neg (.str (Str.ofString "at")) (.str (Str.ofString "give")) O Q = Q (.bl neg) O := by
  rw [rEq_s sw_at sw_give, show decide (Str.ofString "at" = Str.ofString "give") = false by decide +kernel]; cases neg <;> rfl
theorem te_at_pair : rEqD neg (.str (Str.ofString "at")) (.str (Str.ofString "pair")) O Q = Q (.bl neg) O := by
  rw [rEq_s sw_at sw_pair, show decide (Str.ofString "at" = Str.ofString "pair") = false by decide +kernel]; cases neg <;> rfl
theorem te_at_first : rEqD neg (.str (Str.ofString "at")) (.str (Str.ofString "first")) O Q = Q (.bl neg) O := by
  rw [rEq_s sw_at sw_first, show decide (Str.ofString "at" = Str.ofString "first") = false by decide +kernel]; cases neg <;> rfl
theorem te_at_second : rEqD neg (.str (Str.ofString "at")) (.str (Str.ofString "second")) O Q = Q (.bl neg) O := by
  rw [rEq_s sw_at sw_second, show decide (Str.ofString "at" = Str.ofString "second") = false by decide +kernel]; cases neg <;> rfl
theorem te_at_to : rEqD neg (.str (Str.ofString "at")) (.str (Str.ofString "to")) O Q = Q (.bl neg) O := by
  rw [rEq_s sw_at sw_to, show decide (Str.ofString "at" = Str.ofString "to") = false by decide +kernel]; cases neg <;> rfl
theorem te_at_both : rEqD neg (.str (Str.ofString "at")) (.str (Str.ofString "both")) O Q = Q (.bl neg) O := by
  rw [rEq_s sw_at sw_both, show decide (Str.ofString "at" = Str.ofString "both") = false by decide +kernel]; cases neg <;> rfl
theorem te_at_one : rEqD neg (.str (Str.ofString "at")) (.str (Str.ofString "one")) O Q = Q (.bl neg) O := by
  rw [rEq_s sw_at sw_one, show decide (Str.ofString "at" = Str.ofString "one") = false by decide +kernel]; cases neg <;> rfl
theorem te_at_mark : rEqD neg (.str (Str.ofString "at")) (.str (Str.ofString "mark")) O Q = Q (.bl neg) O := by
  rw [rEq_s sw_at sw_mark, show decide (Str.ofString "at" = Str.ofString "mark") = false by decide +kernel]; cases neg <;> rfl
theorem te_at_name : rEqD neg (.str (Str.ofString "at")) (.str (Str.ofString "name")) O Q = Q (.bl neg) O := by
  rw [rEq_s sw_at sw_name, show decide (Str.ofString "at" = Str.ofString "name") = false by decide +kernel]; cases neg <;> rfl
theorem te_at_thing : rEqD neg (.str (Str.ofString "at")) (.str (Str.ofString "thing")) O Q = Q (.bl neg) O := by
  rw [rEq_s sw_at sw_thing, show decide (Str.ofString "at" = Str.ofString "thing") = false by decide +kernel]; cases neg <;> rfl
theorem te_at_at : rEqD neg (.str (Str.ofString "at")) (.str (Str.ofString "at")) O Q = Q (.bl !neg) O := by
  rw [rEq_s sw_at sw_at, show decide (Str.ofString "at" = Str.ofString "at") = true by decide +kernel]; cases neg <;> rfl
theorem ti4_name : rInD neg (.str (Str.ofString "name")) (.tup [.str (Str.ofString "give"), .str (Str.ofString "pair"), .str (Str.ofString "first"), .str (Str.ofString "second")]) O Q = Q (.bl neg) O := by
  have e := rIn_ws (neg := neg) (O := O) (Q := Q) (z := Str.ofString "name") (ts := [Str.ofString "give", Str.ofString "pair", Str.ofString "first", Str.ofString "second"]) (by decide +kernel) (by decide +kernel)
  rw [show decide (Str.ofString "name" ∈ ([Str.ofString "give", Str.ofString "pair", Str.ofString "first", Str.ofString "second"] : List Str)) = false by decide +kernel] at e
  exact e.trans (by cases neg <;> rfl)
theorem ti4_thing : rInD neg (.str (Str.ofString "thing")) (.tup [.str (Str.ofString "give"), .str (Str.ofString "pair"), .str (Str.ofString "first"), .str (Str.ofString "second")]) O Q = Q (.bl neg) O := by
  have e := rIn_ws (neg := neg) (O := O) (Q := Q) (z := Str.ofString "thing") (ts := [Str.ofString "give", Str.ofString "pair", Str.ofString "first", Str.ofString "second"]) (by decide +kernel) (by decide +kernel)
  rw [show decide (Str.ofString "thing" ∈ ([Str.ofString "give", Str.ofString "pair", Str.ofString "first", Str.ofString "second"] : List Str)) = false by decide +kernel] at e
  exact e.trans (by cases neg <;> rfl)
theorem ti4_take : rInD neg (.str (Str.ofString "take")) (.tup [.str (Str.ofString "give"), .str (Str.ofString "pair"), .str (Str.ofString "first"), .str (Str.ofString "second")]) O Q = Q (.bl neg) O := by
  have e := rIn_ws (neg := neg) (O := O) (Q := Q) (z := Str.ofString "take") (ts := [Str.ofString "give", Str.ofString "pair", Str.ofString "first", Str.ofString "second"]) (by decide +kernel) (by decide +kernel)
  rw [show decide (Str.ofString "take" ∈ ([Str.ofString "give", Str.ofString "pair", Str.ofString "first", Str.ofString "second"] : List Str)) = false by decide +kernel] at e
  exact e.trans (by cases neg <;> rfl)
theorem ti4_give : rInD neg (.str (Str.ofString "give")) (.tup [.str (Str.ofString "give"), .str (Str.ofString "pair"), .str (Str.ofString "first"), .str (Str.ofString "second")]) O Q = Q (.bl !neg) O := by
  have e := rIn_ws (neg := neg) (O := O) (Q := Q) (z := Str.ofString "give") (ts := [Str.ofString "give", Str.ofString "pair", Str.ofString "first", Str.ofString "second"]) (by decide +kernel) (by decide +kernel)
  rw [show decide (Str.ofString "give" ∈ ([Str.ofString "give", Str.ofString "pair", Str.ofString "first", Str.ofString "second"] : List Str)) = true by decide +kernel] at e
  exact e.trans (by cases neg <;> rfl)
theorem ti4_pair : rInD neg (.str (Str.ofString "pair")) (.tup [.str (Str.ofString "give"), .str (Str.ofString "pair"), .str (Str.ofString "first"), .str (Str.ofString "second")]) O Q = Q (.bl !neg) O := by
  have e := rIn_ws (neg := neg) (O := O) (Q := Q) (z := Str.ofString "pair") (ts := [Str.ofString "give", Str.ofString "pair", Str.ofString "first", Str.ofString "second"]) (by decide +kernel) (by decide +kernel)
  rw [show decide (Str.ofString "pair" ∈ ([Str.ofString "give", Str.ofString "pair", Str.ofString "first", Str.ofString "second"] : List Str)) = true by decide +kernel] at e
  exact e.trans (by cases neg <;> rfl)
theorem ti4_first : rInD neg (.str (Str.ofString "first")) (.tup [.str (Str.ofString "give"), .str (Str.ofString "pair"), .str (Str.ofString "first"), .str (Str.ofString "second")]) O Q = Q (.bl !neg) O := by
  have e := rIn_ws (neg := neg) (O := O) (Q := Q) (z := Str.ofString "first") (ts := [Str.ofString "give", Str.ofString "pair", Str.ofString "first", Str.ofString "second"]) (by decide +kernel) (by decide +kernel)
  rw [show decide (Str.ofString "first" ∈ ([Str.ofString "give", Str.ofString "pair", Str.ofString "first", Str.ofString "second"] : List Str)) = true by decide +kernel] at e
  exact e.trans (by cases neg <;> rfl)
theorem ti4_second : rInD neg (.str (Str.ofString "second")) (.tup [.str (Str.ofString "give"), .str (Str.ofString "pair"), .str (Str.ofString "first"), .str (Str.ofString "second")]) O Q = Q (.bl !neg) O := by
  have e := rIn_ws (neg := neg) (O := O) (Q := Q) (z := Str.ofString "second") (ts := [Str.ofString "give", Str.ofString "pair", Str.ofString "first", Str.ofString "second"]) (by decide +kernel) (by decide +kernel)
  rw [show decide (Str.ofString "second" ∈ ([Str.ofString "give", Str.ofString "pair", Str.ofString "first", Str.ofString "second"] : List Str)) = true by decide +kernel] at e
  exact e.trans (by cases neg <;> rfl)
theorem ti2_name : rInD neg (.str (Str.ofString "name")) (.tup [.str (Str.ofString "first"), .str (Str.ofString "second")]) O Q = Q (.bl neg) O := by
  have e := rIn_ws (neg := neg) (O := O) (Q := Q) (z := Str.ofString "name") (ts := [Str.ofString "first", Str.ofString "second"]) (by decide +kernel) (by decide +kernel)
  rw [show decide (Str.ofString "name" ∈ ([Str.ofString "first", Str.ofString "second"] : List Str)) = false by decide +kernel] at e
  exact e.trans (by cases neg <;> rfl)
theorem ti2_thing : rInD neg (.str (Str.ofString "thing")) (.tup [.str (Str.ofString "first"), .str (Str.ofString "second")]) O Q = Q (.bl neg) O := by
  have e := rIn_ws (neg := neg) (O := O) (Q := Q) (z := Str.ofString "thing") (ts := [Str.ofString "first", Str.ofString "second"]) (by decide +kernel) (by decide +kernel)
  rw [show decide (Str.ofString "thing" ∈ ([Str.ofString "first", Str.ofString "second"] : List Str)) = false by decide +kernel] at e
  exact e.trans (by cases neg <;> rfl)
theorem ti2_take : rInD neg (.str (Str.ofString "take")) (.tup [.str (Str.ofString "first"), .str (Str.ofString "second")]) O Q = Q (.bl neg) O := by
  have e := rIn_ws (neg := neg) (O := O) (Q := Q) (z := Str.ofString "take") (ts := [Str.ofString "first", Str.ofString "second"]) (by decide +kernel) (by decide +kernel)
  rw [show decide (Str.ofString "take" ∈ ([Str.ofString "first", Str.ofString "second"] : List Str)) = false by decide +kernel] at e
  exact e.trans (by cases neg <;> rfl)
theorem ti2_give : rInD neg (.str (Str.ofString "give")) (.tup [.str (Str.ofString "first"), .str (Str.ofString "second")]) O Q = Q (.bl neg) O := by
  have e := rIn_ws (neg := neg) (O := O) (Q := Q) (z := Str.ofString "give") (ts := [Str.ofString "first", Str.ofString "second"]) (by decide +kernel) (by decide +kernel)
  rw [show decide (Str.ofString "give" ∈ ([Str.ofString "first", Str.ofString "second"] : List Str)) = false by decide +kernel] at e
  exact e.trans (by cases neg <;> rfl)
theorem ti2_pair : rInD neg (.str (Str.ofString "pair")) (.tup [.str (Str.ofString "first"), .str (Str.ofString "second")]) O Q = Q (.bl neg) O := by
  have e := rIn_ws (neg := neg) (O := O) (Q := Q) (z := Str.ofString "pair") (ts := [Str.ofString "first", Str.ofString "second"]) (by decide +kernel) (by decide +kernel)
  rw [show decide (Str.ofString "pair" ∈ ([Str.ofString "first", Str.ofString "second"] : List Str)) = false by decide +kernel] at e
  exact e.trans (by cases neg <;> rfl)
theorem ti2_first : rInD neg (.str (Str.ofString "first")) (.tup [.str (Str.ofString "first"), .str (Str.ofString "second")]) O Q = Q (.bl !neg) O := by
  have e := rIn_ws (neg := neg) (O := O) (Q := Q) (z := Str.ofString "first") (ts := [Str.ofString "first", Str.ofString "second"]) (by decide +kernel) (by decide +kernel)
  rw [show decide (Str.ofString "first" ∈ ([Str.ofString "first", Str.ofString "second"] : List Str)) = true by decide +kernel] at e
  exact e.trans (by cases neg <;> rfl)
theorem ti2_second : rInD neg (.str (Str.ofString "second")) (.tup [.str (Str.ofString "first"), .str (Str.ofString "second")]) O Q = Q (.bl !neg) O := by
  have e := rIn_ws (neg := neg) (O := O) (Q := Q) (z := Str.ofString "second") (ts := [Str.ofString "first", Str.ofString "second"]) (by decide +kernel) (by decide +kernel)
  rw [show decide (Str.ofString "second" ∈ ([Str.ofString "first", Str.ofString "second"] : List Str)) = true by decide +kernel] at e
  exact e.trans (by cases neg <;> rfl)
end
/-! ### small sizes -/
theorem szT_0 : ((0 : Nat) ≤ sizeLine) = True := eq_true (sz_small (by decide))
theorem szT_1 : ((1 : Nat) ≤ sizeLine) = True := eq_true (sz_small (by decide))
theorem szT_2 : ((2 : Nat) ≤ sizeLine) = True := eq_true (sz_small (by decide))
theorem szT_3 : ((3 : Nat) ≤ sizeLine) = True := eq_true (sz_small (by decide))
theorem szT_4 : ((4 : Nat) ≤ sizeLine) = True := eq_true (sz_small (by decide))
theorem szT_5 : ((5 : Nat) ≤ sizeLine) = True := eq_true (sz_small (by decide))
theorem szT_6 : ((6 : Nat) ≤ sizeLine) = True := eq_true (sz_small (by decide))
theorem szT_7 : ((7 : Nat) ≤ sizeLine) = True := eq_true (sz_small (by decide))
theorem szT_8 : ((8 : Nat) ≤ sizeLine) = True := eq_true (sz_small (by decide))
theorem szT_9 : ((9 : Nat) ≤ sizeLine) = True := eq_true (sz_small (by decide))
theorem szT_10 : ((10 : Nat) ≤ sizeLine) = True := eq_true (sz_small (by decide))
theorem szT_11 : ((11 : Nat) ≤ sizeLine) = True := eq_true (sz_small (by decide))
theorem szT_12 : ((12 : Nat) ≤ sizeLine) = True := eq_true (sz_small (by decide))
/-! ### programs -/
inductive Pg where
  | nm (x : Str) | thing | take (x : Str) (k : Kd) (b : Pg) | give (f a : Pg) | pair (a b : Pg) | first (p : Pg) | second (p : Pg)
  deriving DecidableEq, Inhabited
def dP : Pg → D
  | .nm x => .tup [.str "name", .str x]
  | .thing => .tup [.str "thing"]
  | .take x k b => .tup [.str "take", .str x, dK k, dP b]
  | .give f a => .tup [.str "give", dP f, dP a]
  | .pair a b => .tup [.str "pair", dP a, dP b]
  | .first p => .tup [.str "first", dP p]
  | .second p => .tup [.str "second", dP p]
def Pg.ins : Pg → List Pg
  | .nm _ => []
  | .thing => []
  | .take _ _ b => [b]
  | .give f a => [f, a]
  | .pair a b => [a, b]
  | .first p => [p]
  | .second p => [p]
def Pg.hgt : Pg → Nat
  | .nm _ => 0
  | .thing => 0
  | .take _ _ b => b.hgt + 1
  | .give f a => max f.hgt a.hgt + 1
  | .pair a b => max a.hgt b.hgt + 1
  | .first p => p.hgt + 1
  | .second p => p.hgt + 1
def Pg.isTake : Pg → Bool
  | .take .. => true
  | _ => false
def Pg.isPair : Pg → Bool
  | .pair .. => true
  | _ => false
def Pg.can : Pg → Bool
  | .give f _ => f.isTake
  | .first p => p.isPair
  | .second p => p.isPair
  | _ => false
/-- the places at which a step can be done -/
def plc : Pg → List Int → List (List Int)
  | .nm _, _ => []
  | .thing, _ => []
  | .take _ _ b, pl => plc b (pl ++ [0])
  | .give f a, pl => (if f.isTake then [pl] else []) ++ plc f (pl ++ [0]) ++ plc a (pl ++ [1])
  | .pair a b, pl => plc a (pl ++ [0]) ++ plc b (pl ++ [1])
  | .first p, pl => (if p.isPair then [pl] else []) ++ plc p (pl ++ [0])
  | .second p, pl => (if p.isPair then [pl] else []) ++ plc p (pl ++ [0])
theorem plc_len : ∀ (p : Pg) (pl : List Int), (plc p pl).length + 1 ≤ 2 ^ (p.hgt + 1)
  | .nm _, pl => by simp [plc, Pg.hgt]
  | .thing, pl => by simp [plc, Pg.hgt]
  | .take _ _ b, pl => by
    have := plc_len b (pl ++ [0])
    simp only [plc, Pg.hgt]
    rw [Nat.pow_succ]; omega
  | .give f a, pl => by
    have h1 := plc_len f (pl ++ [0])
    have h2 := plc_len a (pl ++ [1])
    have h3 : 2 ^ (f.hgt + 1) ≤ 2 ^ (max f.hgt a.hgt + 1) := Nat.pow_le_pow_right (by decide) (by omega)
    have h4 : 2 ^ (a.hgt + 1) ≤ 2 ^ (max f.hgt a.hgt + 1) := Nat.pow_le_pow_right (by decide) (by omega)
    simp only [plc, Pg.hgt, List.length_append]
    have h5 : (if f.isTake then [pl] else []).length ≤ 1 := by split <;> simp
    rw [Nat.pow_succ 2 (max f.hgt a.hgt + 1)]
    omega
  | .pair a b, pl => by
    have h1 := plc_len a (pl ++ [0])
    have h2 := plc_len b (pl ++ [1])
    have h3 : 2 ^ (a.hgt + 1) ≤ 2 ^ (max a.hgt b.hgt + 1) := Nat.pow_le_pow_right (by decide) (by omega)
    have h4 : 2 ^ (b.hgt + 1) ≤ 2 ^ (max a.hgt b.hgt + 1) := Nat.pow_le_pow_right (by decide) (by omega)
    simp only [plc, Pg.hgt, List.length_append]
    rw [Nat.pow_succ 2 (max a.hgt b.hgt + 1)]
    omega
  | .first p, pl => by
    have h1 := plc_len p (pl ++ [0])
    simp only [plc, Pg.hgt, List.length_append]
    have h5 : (if p.isPair then [pl] else []).length ≤ 1 := by split <;> simp
    rw [Nat.pow_succ 2 (p.hgt + 1)]
    have : 2 ≤ 2 ^ (p.hgt + 1) := by rw [Nat.pow_succ]; have := Nat.one_le_two_pow (n := p.hgt); omega
    omega
  | .second p, pl => by
    have h1 := plc_len p (pl ++ [0])
    simp only [plc, Pg.hgt, List.length_append]
    have h5 : (if p.isPair then [pl] else []).length ≤ 1 := by split <;> simp
    rw [Nat.pow_succ 2 (p.hgt + 1)]
    have : 2 ≤ 2 ^ (p.hgt + 1) := by rw [Nat.pow_succ]; have := Nat.one_le_two_pow (n := p.hgt); omega
    omega
def plcs : List Pg → Nat → List Int → List (List Int)
  | [], _, _ => []
  | q :: qs, i, pl => plc q (pl ++ [(i : Int)]) ++ plcs qs (i + 1) pl
theorem plc_eq (p : Pg) (pl : List Int) : plc p pl = (if p.can then [pl] else []) ++ plcs p.ins 0 pl := by
  cases p <;> simp [plc, Pg.can, Pg.ins, plcs] <;> rfl
theorem ins_cases (p : Pg) : p.ins = [] ∨ (∃ x, p.ins = [x]) ∨ ∃ x y, p.ins = [x, y] := by
  cases p <;> simp [Pg.ins]
theorem ins_hgt {p q : Pg} (h : q ∈ p.ins) : q.hgt < p.hgt := by
  cases p <;> simp only [Pg.ins, List.mem_cons, List.not_mem_nil, or_false] at h
  · subst h; simp [Pg.hgt]
  · rcases h with rfl | rfl <;> simp only [Pg.hgt] <;> omega
  · rcases h with rfl | rfl <;> simp only [Pg.hgt] <;> omega
  · subst h; simp [Pg.hgt]
  · subst h; simp [Pg.hgt]
theorem plc_le {p : Pg} {pl : List Int} (h : p.hgt ≤ 20) : (plc p pl).length ≤ 2097152 := by
  have h1 := plc_len p pl
  have h2 : 2 ^ (p.hgt + 1) ≤ 2 ^ 21 := Nat.pow_le_pow_right (by decide) (by omega)
  have h3 : (2 : Nat) ^ 21 = 2097152 := by decide
  omega
theorem sz_21 {n : Nat} (h : n ≤ 4194304) : n ≤ sizeLine := Nat.le_trans h (by decide)
abbrev dI (q : List Int) : D := .lst (q.map .int)
theorem enum0 : enumD [] = [] := rfl
theorem enum1 (x : D) : enumD [x] = [.tup [.int 0, x]] := rfl
theorem enum2 (x y : D) : enumD [x, y] = [.tup [.int 0, x], .tup [.int 1, y]] := rfl
/-! ### rows of names -/
/-- what a name is by a row: the last one counts -/
def envOf (kn : List (Str × Kd)) (x : Str) : Option Kd := (kn.reverse.find? fun q => decide (q.1 = x)).map (·.2)
theorem envOf_nil (x : Str) : envOf [] x = none := rfl
theorem envOf_snoc (kn : List (Str × Kd)) (y : Str) (k : Kd) (x : Str) : envOf (kn ++ [(y, k)]) x = if y = x then some k else envOf kn x := by
  unfold envOf
  rw [List.reverse_append, List.reverse_singleton, List.singleton_append, List.find?_cons]
  by_cases h : y = x
  · simp [h]
  · simp [h]
/-- the kind of a program by what its names are -/
def hasK : (Str → Option Kd) → Pg → Kd → Prop
  | e, .nm x, k => e x = some k
  | _, .thing, k => k = .one
  | e, .take x a b, k => ∃ r, k = .to a r ∧ hasK (fun y => if x = y then some a else e y) b r
  | e, .give f a, k => ∃ c, hasK e f (.to c k) ∧ hasK e a c
  | e, .pair a b, k => ∃ c d, k = .both c d ∧ hasK e a c ∧ hasK e b d
  | e, .first p, k => ∃ d, hasK e p (.both k d)
  | e, .second p, k => ∃ c, hasK e p (.both c k)
end Kf
/-! Kls: lists of lists of numbers, owned ones too. -/
namespace Kf
open PySem PySem.Spec L2
open PyProof.Rows hiding St
theorem isPys_ints (q : List Int) : isPys (q.map D.int) = true := by
  rw [isPys_all, List.all_eq_true]
  intro d hd
  obtain ⟨t, _, rfl⟩ := List.mem_map.mp hd
  simp only [isPy]
theorem isPy_dI (q : List Int) : isPy (dI q) = true := by simp only [dI, isPy, isPys_ints]
theorem isPys_dI (qs : List (List Int)) : isPys (qs.map dI) = true := by
  rw [isPys_all, List.all_eq_true]
  intro d hd
  obtain ⟨t, _, rfl⟩ := List.mem_map.mp hd
  exact isPy_dI t
theorem deqs_ints : ∀ q : List Int, deqs (q.map D.int) (q.map D.int) = true
  | [] => deqs_nn
  | a :: q => by rw [List.map_cons, deqs_cc, deqs_ints q, deq_i]; simp
theorem deqs_dI : ∀ qs : List (List Int), deqs (qs.map dI) (qs.map dI) = true
  | [] => deqs_nn
  | a :: q => by rw [List.map_cons, deqs_cc, deqs_dI q]; simp only [dI, deq_l, deqs_ints]; rfl
theorem dp_int (i : Int) : dp (.int i) = 0 := by simp [dp, toPy, PyData.depth]
theorem dp_ints (q : List Int) : dp (.lst (q.map D.int)) ≤ 1 := by
  simp only [dp, toPy, PyData.depth]
  have : ∀ q : List Int, PyData.depthAll (toPys (q.map D.int)) = 0 := by
    intro q
    induction q with
    | nil => simp [toPys, PyData.depthAll]
    | cons a q ih => simp [toPys, PyData.depthAll, toPy, PyData.depth, ih]
  rw [this]; decide
theorem dp_dI (qs : List (List Int)) : dp (.lst (qs.map dI)) ≤ 2 := by
  simp only [dp, toPy, PyData.depth]
  have : ∀ qs : List (List Int), PyData.depthAll (toPys (qs.map dI)) ≤ 1 := by
    intro qs
    induction qs with
    | nil => simp [toPys, PyData.depthAll]
    | cons a q ih =>
      have h := dp_ints a
      simp only [dp] at h
      simp only [List.map_cons, toPys, PyData.depthAll, dI]
      omega
  have := this qs
  omega
section
variable {O : Ow} {neg : Bool} {Q : VD}
theorem rEq_ints (q : List Int) : rEqD neg (dI q) (dI q) O Q = Q (.bl (!neg)) O := by
  rw [rEq_d (by rw [show deref O (dI q) = dI q from rfl]; exact isPy_dI q) (by rw [show deref O (dI q) = dI q from rfl]; exact isPy_dI q) (by rw [show deref O (dI q) = dI q from rfl]; have := dp_ints q; simp only [dI]; omega), show deref O (dI q) = dI q from rfl]
  simp only [dI, deq_l, deqs_ints]
  cases neg <;> rfl
/-- an owned list of owned lists of numbers against one that never changes -/
theorem ddf_own {f : Addr} {rs : List Addr} {qs : List (List Int)} (hf : O f = some (.lst (rs.map .ref))) (h : Paired (fun r q => O r = some (.lst (q.map .int))) rs qs) : ddf O 192 (.ref f) = .lst (qs.map dI) := by
  have e : ∀ n, (rs.map D.ref).map (ddf O (n + 1)) = qs.map dI := by
    intro n
    clear hf
    induction h with
    | nil => rfl
    | @cons r q _ _ hr _ ih =>
      rw [List.map_cons, List.map_cons, List.map_cons, ih]
      congr 1
      have z : (q.map D.int).map (ddf O n) = q.map D.int := by
        rw [List.map_map]
        congr 1
        funext i
        exact ddf_py n (.int i) (by simp only [isPy])
      simp only [ddf, hr, z, dI]
  have e2 := e 190
  show ddf O (191 + 1) (.ref f) = _
  simp only [ddf, hf]
  rw [e2]
theorem rEq_own {f : Addr} {rs : List Addr} {qs : List (List Int)} (hf : O f = some (.lst (rs.map .ref))) (h : Paired (fun r q => O r = some (.lst (q.map .int))) rs qs) : rEqD neg (.ref f) (.lst (qs.map dI)) O Q = Q (.bl (!neg)) O := by
  have e1 := ddf_own hf h
  have hp : isPy (.lst (qs.map dI)) = true := by simp only [isPy, isPys_dI]
  have e2 : ddf O 192 (.lst (qs.map dI)) = .lst (qs.map dI) := ddf_py 192 _ hp
  rw [rEq_dd (by rw [e1]; exact hp) (by rw [e2]; exact hp) (by rw [e1]; have := dp_dI qs; omega), e1, e2, deq_l, deqs_dI]
  cases neg <;> rfl
end
/-! ### the lists within a thing -/
def Ls (O : Ow) : Nat → D → List Addr → Prop
  | _, .int _, rs => rs = []
  | n + 1, .ref a, rs => ∃ ds rss, O a = some (.lst ds) ∧ Paired (fun d r => Ls O n d r) ds rss ∧ rs = a :: rss.flatten
  | _, _, _ => False
theorem Ls.mono {O O' : Ow} (s : Sub O O') : ∀ {n : Nat} {x : D} {rs : List Addr}, Ls O n x rs → Ls O' n x rs
  | n, .int _, rs, h => by cases n <;> simpa only [Ls] using h
  | n + 1, .ref a, rs, h => by
    simp only [Ls] at h ⊢
    obtain ⟨ds, rss, h1, h2, h3⟩ := h
    exact ⟨ds, rss, s _ _ h1, Paired.mapP h2 fun _ _ z => Ls.mono s z, h3⟩
  | 0, .ref a, rs, h => by simp [Ls] at h
  | n, .non, rs, h => by cases n <;> simp [Ls] at h
  | n, .bl _, rs, h => by cases n <;> simp [Ls] at h
  | n, .str _, rs, h => by cases n <;> simp [Ls] at h
  | n, .tup _, rs, h => by cases n <;> simp [Ls] at h
  | n, .lst _, rs, h => by cases n <;> simp [Ls] at h
  | n, .ty _, rs, h => by cases n <;> simp [Ls] at h
  | n, .scr _, rs, h => by cases n <;> simp [Ls] at h
  | n, .edic, rs, h => by cases n <;> simp [Ls] at h
theorem ls_ints {O : Ow} {n : Nat} : ∀ q : List Int, Paired (fun d r => Ls O n d r) (q.map D.int) (q.map fun _ => [])
  | [] => .nil
  | a :: q => .cons (by cases n <;> simp only [Ls]) (ls_ints q)
theorem flat_nil {α : Type} : ∀ q : List Int, (q.map fun _ => ([] : List α)).flatten = []
  | [] => rfl
  | _ :: q => by rw [List.map_cons, List.flatten_cons, flat_nil q]; rfl
theorem ls_row {O : Ow} {a : Addr} {q : List Int} (h : O a = some (.lst (q.map .int))) : Ls O 1 (.ref a) [a] := by
  simp only [Ls]
  exact ⟨_, _, h, ls_ints q, by rw [flat_nil]⟩
theorem ls_rows {O : Ow} {f : Addr} {rs : List Addr} {qs : List (List Int)} (hf : O f = some (.lst (rs.map .ref))) (h : Paired (fun r q => O r = some (.lst (q.map .int))) rs qs) : Ls O 2 (.ref f) (f :: rs) := by
  simp only [Ls]
  refine ⟨_, rs.map fun r => [r], hf, ?_, ?_⟩
  · clear hf
    induction h with
    | nil => exact .nil
    | cons hr _ ih => exact .cons (ls_row hr) ih
  · congr 1
    clear hf h
    induction rs with
    | nil => rfl
    | cons r rs ih => rw [List.map_cons, List.flatten_cons, ← ih]; rfl
end Kf
/-! Kdc: tables, rows of names. -/
namespace Kf
open PySem PySem.Spec L2
open PyProof.Rows hiding St
theorem valD_pos {p : Key × D} {r : List (Key × D)} {k : Key} (e : p.1 = k) : valD (p :: r) k = some p.2 := by simp [valD, List.find?_cons, e]
theorem valD_neg {p : Key × D} {r : List (Key × D)} {k : Key} (e : ¬ p.1 = k) : valD (p :: r) k = valD r k := by simp [valD, List.find?_cons, e]
theorem valD_any (k : Key) : ∀ kvs : List (Key × D), (kvs.any fun kv => decide (kv.1 = k)) = (valD kvs k).isSome
  | [] => rfl
  | p :: r => by
    rw [List.any_cons]
    by_cases e : p.1 = k
    · simp only [valD_pos e, decide_eq_true e, Bool.true_or, Option.isSome_some]
    · rw [valD_neg e, decide_eq_false e, Bool.false_or]; exact valD_any k r
theorem valD_map (k j : Key) (y : D) : ∀ kvs : List (Key × D), valD (kvs.map fun kv => if kv.1 = k then (kv.1, y) else kv) j = (valD kvs j).map fun x => if j = k then y else x
  | [] => rfl
  | p :: r => by
    have ih := valD_map k j y r
    rw [List.map_cons]
    by_cases h : p.1 = k
    · rw [if_pos h]
      by_cases e : p.1 = j
      · rw [valD_pos (p := (p.1, y)) e, valD_pos e, Option.map_some, if_pos (e.symm.trans h)]
      · rw [valD_neg (p := (p.1, y)) e, valD_neg e, ih]
    · rw [if_neg h]
      by_cases e : p.1 = j
      · rw [valD_pos (p := p) e, valD_pos e, Option.map_some, if_neg (fun z => h (e.trans z))]
      · rw [valD_neg (p := p) e, valD_neg e, ih]
theorem valD_snoc (k j : Key) (y : D) : ∀ kvs : List (Key × D), valD kvs k = none → valD (kvs ++ [(k, y)]) j = if j = k then some y else valD kvs j
  | [], _ => by
    by_cases e : k = j
    · rw [if_pos e.symm]; exact valD_pos (p := (k, y)) e
    · rw [if_neg (fun z => e z.symm)]; exact valD_neg (p := (k, y)) e
  | p :: r, hn => by
    rw [List.cons_append]
    have hk : ¬ p.1 = k := fun z => by rw [valD_pos z] at hn; cases hn
    rw [valD_neg hk] at hn
    have ih := valD_snoc k j y r hn
    by_cases e : p.1 = j
    · rw [valD_pos e, valD_pos e, if_neg (fun z => hk (e.trans z))]
    · rw [valD_neg e, valD_neg e, ih]
theorem valD_put (kvs : List (Key × D)) (k j : Key) (d : D) : valD (putD kvs k d) j = if j = k then some d else valD kvs j := by
  unfold putD
  rw [valD_any]
  cases h : valD kvs k with
  | none => rw [if_neg (by simp)]; exact valD_snoc k j d kvs h
  | some x =>
    rw [if_pos (by rfl), valD_map]
    by_cases e : j = k
    · subst e; rw [if_pos rfl, h]; simp
    · rw [if_neg e]; simp [e]
theorem keys_put (kvs : List (Key × D)) (k : Key) (d : D) : (putD kvs k d).map (·.1) = if (valD kvs k).isSome then kvs.map (·.1) else kvs.map (·.1) ++ [k] := by
  unfold putD
  rw [valD_any]
  split
  · rw [List.map_map]
    refine List.map_congr_left fun p _ => ?_
    show (if p.1 = k then (p.1, d) else p).1 = p.1
    split <;> rfl
  · rw [List.map_append]; rfl
theorem valD_mem {kvs : List (Key × D)} {k : Key} : k ∈ kvs.map (·.1) ↔ (valD kvs k).isSome = true := by
  rw [← valD_any, List.any_eq_true, List.mem_map]
  constructor
  · rintro ⟨p, h1, h2⟩; exact ⟨p, h1, decide_eq_true h2⟩
  · rintro ⟨p, h1, h2⟩; exact ⟨p, h1, of_decide_eq_true h2⟩
theorem nodup_le {α : Type} [DecidableEq α] : ∀ {ts us : List α}, ts.Nodup → (∀ t ∈ ts, t ∈ us) → ts.length ≤ us.length
  | [], _, _, _ => Nat.zero_le _
  | t :: ts, us, hn, h => by
    have h1 := List.nodup_cons.mp hn
    have ht := h t List.mem_cons_self
    have ih := nodup_le (us := us.erase t) h1.2 fun u hu => by
      have hne : u ≠ t := fun q => h1.1 (q ▸ hu)
      exact (List.mem_erase_of_ne hne).mpr (h u (List.mem_cons_of_mem _ hu))
    rw [List.length_erase_of_mem ht] at ih
    have := List.length_pos_of_mem ht
    rw [List.length_cons]; omega
/-! ### rows -/
abbrev kv (q : Str × Kd) : D := .tup [.str q.1, dK q.2]
def ANames : List Str := ["pa", "fa", "pb", "fb", "x0", "x1", "x2", "y", "z", "x7"]
def XNames : List Str := ["x0", "x1", "x2", "y", "z", "x7"]
abbrev AB : List Str := ["a", "b"]
theorem anames_ok : ∀ t ∈ ANames, PyData.strOk t = true := by decide +kernel
theorem ab_ok : ∀ t ∈ AB, PyData.strOk t = true := by decide +kernel
theorem xnames : ∀ x ∈ XNames, x ∈ ANames ∧ x ≠ "pa" ∧ x ≠ "pb" ∧ x ≠ "fa" ∧ x ≠ "fb" := by decide +kernel
structure RowOk (kn : List (Str × Kd)) : Prop where
  nm : ∀ q ∈ kn, q.1 ∈ ANames ∧ q.2.over AB ∧ q.2.leaves ≤ 3
  pa : envOf kn "pa" = some (.mk "a")
  pb : envOf kn "pb" = some (.mk "b")
  fa : envOf kn "fa" = some (.to (.mk "a") (.mk "a"))
  fb : envOf kn "fb" = some (.to (.mk "b") (.mk "b"))
theorem RowOk.snoc {kn : List (Str × Kd)} (h : RowOk kn) {x : Str} {k : Kd} (hx : x ∈ XNames) (ho : k.over AB) (hl : k.leaves ≤ 3) : RowOk (kn ++ [(x, k)]) := by
  obtain ⟨h0, h1, h2, h3, h4⟩ := xnames x hx
  refine ⟨fun q hq => ?_, ?_, ?_, ?_, ?_⟩
  · rcases List.mem_append.mp hq with hq | hq
    · exact h.nm q hq
    · rw [List.mem_singleton.mp hq]; exact ⟨h0, ho, hl⟩
  · rw [envOf_snoc, if_neg h1]; exact h.pa
  · rw [envOf_snoc, if_neg h2]; exact h.pb
  · rw [envOf_snoc, if_neg h3]; exact h.fa
  · rw [envOf_snoc, if_neg h4]; exact h.fb
theorem envOf_mem {kn : List (Str × Kd)} {x : Str} {k : Kd} (h : envOf kn x = some k) : (x, k) ∈ kn := by
  unfold envOf at h
  obtain ⟨q, h1, h2⟩ := Option.map_eq_some_iff.mp h
  have h3 := List.find?_some h1
  have h4 := List.mem_of_find?_eq_some h1
  have e : q.1 = x := of_decide_eq_true h3
  rw [← e, ← h2]
  exact List.mem_reverse.mp h4
theorem envOf_ext {kn : List (Str × Kd)} (x : Str) (k : Kd) : envOf (kn ++ [(x, k)]) = fun y => if x = y then some k else envOf kn y := by
  funext y; exact envOf_snoc kn x k y
/-- the law's own row -/
def row0 : List (Str × Kd) := [("pa", .mk "a"), ("fa", .to (.mk "a") (.mk "a")), ("pb", .mk "b"), ("fb", .to (.mk "b") (.mk "b"))]
theorem row0_ok : RowOk row0 := by
  refine ⟨?_, by decide +kernel, by decide +kernel, by decide +kernel, by decide +kernel⟩
  intro q hq
  simp only [row0, List.mem_cons, List.not_mem_nil, or_false] at hq
  rcases hq with rfl | rfl | rfl | rfl <;> simp [Kd.over, Kd.leaves, ANames, AB]
/-- what the names' table holds behind a row's first ones -/
structure DInv (pre : List (Str × Kd)) (kvs : List (Key × D)) (ts : List Str) : Prop where
  ks : kvs.map (·.1) = ts.map Sum.inr
  nd : ts.Nodup
  an : ∀ t ∈ ts, t ∈ ANames
  vl : ∀ x : Str, valD kvs (.inr x) = (envOf pre x).map dK
theorem DInv.nil : DInv [] [] [] := ⟨rfl, List.nodup_nil, fun _ h => (nomatch h), fun _ => rfl⟩
theorem DInv.len {pre : List (Str × Kd)} {kvs : List (Key × D)} {ts : List Str} (h : DInv pre kvs ts) : ts.length ≤ 10 ∧ kvs.length ≤ 10 := by
  have h1 : ts.length ≤ 10 := nodup_le (us := ANames) h.nd h.an
  have h2 : kvs.length = ts.length := by have := congrArg List.length h.ks; simpa using this
  omega
theorem DInv.put {pre : List (Str × Kd)} {kvs : List (Key × D)} {ts : List Str} (h : DInv pre kvs ts) {x : Str} {k : Kd} (hx : x ∈ ANames) : ∃ ts', DInv (pre ++ [(x, k)]) (putD kvs (.inr x) (dK k)) ts' := by
  have hv : ∀ y : Str, valD (putD kvs (.inr x) (dK k)) (.inr y) = (envOf (pre ++ [(x, k)]) y).map dK := fun y => by
    rw [valD_put, envOf_snoc]
    by_cases e : x = y
    · subst e; simp
    · rw [if_neg (fun q => e (Sum.inr.inj q).symm), if_neg e, h.vl]
  have hk := keys_put kvs (.inr x) (dK k)
  by_cases c : (valD kvs (.inr x)).isSome = true
  · rw [if_pos c] at hk
    exact ⟨ts, hk.trans h.ks, h.nd, h.an, hv⟩
  · rw [if_neg c] at hk
    refine ⟨ts ++ [x], by rw [hk, h.ks, List.map_append]; rfl, ?_, ?_, hv⟩
    · refine List.nodup_append.mpr ⟨h.nd, by simp, fun a ha b hb e => c ?_⟩
      rw [List.mem_singleton.mp hb] at e
      subst e
      exact valD_mem.mp (by rw [h.ks]; exact List.mem_map.mpr ⟨a, ha, rfl⟩)
    · intro t ht
      rcases List.mem_append.mp ht with ht | ht
      · exact h.an t ht
      · rw [List.mem_singleton.mp ht]; exact hx
theorem DInv.has {pre : List (Str × Kd)} {kvs : List (Key × D)} {ts : List Str} (h : DInv pre kvs ts) {x : Str} (hx : x ∈ ts) : ∃ k, envOf pre x = some k := by
  have h1 := valD_mem.mp (show Sum.inr x ∈ kvs.map (·.1) by rw [h.ks]; exact List.mem_map.mpr ⟨x, hx, rfl⟩)
  rw [h.vl] at h1
  cases e : envOf pre x with
  | none => rw [e] at h1; simp at h1
  | some k => exact ⟨k, rfl⟩
end Kf
/-! Kdw: as Kdb, to 512: programs with names told by how many takes stand between; steps. -/
namespace Kf
open PySem PySem.Spec L2
open PyProof.Rows hiding St
inductive Db where
  | at (i : Nat) | nm (x : Str) | thing | take (k : Kd) (b : Db) | give (f a : Db) | pair (a b : Db) | first (p : Db) | second (p : Db)
  deriving DecidableEq, Inhabited
/-- x and a number -/
def xn (k : Nat) : Str := Str.ofString "x" ++ Str.ofString (toString (k : Int))
/-- the number of a name -/
def numX (x : Str) : Nat := (x.cps.toList.drop 1).foldl (fun a c => 10 * a + (c - 48)) 0
theorem numX_xn : ∀ k, k < 512 → numX (xn k) = k := by
  have h : ∀ k ∈ List.range 512, numX (xn k) = k := by decide +kernel
  exact fun k hk => h k (List.mem_range.mpr hk)
theorem xn_inj64 (i : Nat) (hi : i < 512) (j : Nat) (hj : j < 512) (e : xn i = xn j) : i = j := by
  rw [← numX_xn i hi, ← numX_xn j hj, e]
/-- a name that is none of these -/
def Fr (x : Str) : Prop := ∀ k, k < 512 → xn k ≠ x
/-- the nearest one called x, the nearest first -/
def ri : List Str → Str → Option Nat
  | [], _ => none
  | y :: r, x => if y = x then some 0 else (ri r x).map (· + 1)
def bare : Pg → List Str → Db
  | .nm x, c => match ri c x with
    | some i => .at i
    | none => .nm x
  | .thing, _ => .thing
  | .take x k b, c => .take k (bare b (x :: c))
  | .give f a, c => .give (bare f c) (bare a c)
  | .pair a b, c => .pair (bare a c) (bare b c)
  | .first p, c => .first (bare p c)
  | .second p, c => .second (bare p c)
def tidy : Pg → List Str → Pg
  | .nm x, c => match ri c x with
    | some i => .nm (xn (c.length - 1 - i))
    | none => .nm x
  | .thing, _ => .thing
  | .take x k b, c => .take (xn c.length) k (tidy b (x :: c))
  | .give f a, c => .give (tidy f c) (tidy a c)
  | .pair a b, c => .pair (tidy a c) (tidy b c)
  | .first p, c => .first (tidy p c)
  | .second p, c => .second (tidy p c)
def dress : Db → Nat → Pg
  | .at i, m => .nm (xn (m - 1 - i))
  | .nm x, _ => .nm x
  | .thing, _ => .thing
  | .take k b, m => .take (xn m) k (dress b (m + 1))
  | .give f a, m => .give (dress f m) (dress a m)
  | .pair a b, m => .pair (dress a m) (dress b m)
  | .first p, m => .first (dress p m)
  | .second p, m => .second (dress p m)
theorem tidy_eq : ∀ (p : Pg) (c : List Str), tidy p c = dress (bare p c) c.length
  | .nm x, c => by
    simp only [tidy, bare]
    cases ri c x <;> rfl
  | .thing, _ => rfl
  | .take x k b, c => by simp only [tidy, bare, dress]; rw [tidy_eq b (x :: c)]; rfl
  | .give f a, c => by simp only [tidy, bare, dress, tidy_eq f c, tidy_eq a c]
  | .pair f a, c => by simp only [tidy, bare, dress, tidy_eq f c, tidy_eq a c]
  | .first f, c => by simp only [tidy, bare, dress, tidy_eq f c]
  | .second f, c => by simp only [tidy, bare, dress, tidy_eq f c]
def moved : Db → Nat → Nat → Db
  | .at i, f, n => .at (i + if f ≤ i then n else 0)
  | .nm x, _, _ => .nm x
  | .thing, _, _ => .thing
  | .take k b, f, n => .take k (moved b (f + 1) n)
  | .give g a, f, n => .give (moved g f n) (moved a f n)
  | .pair a b, f, n => .pair (moved a f n) (moved b f n)
  | .first p, f, n => .first (moved p f n)
  | .second p, f, n => .second (moved p f n)
theorem moved_zero : ∀ (b : Db) (f : Nat), moved b f 0 = b
  | .at i, f => by simp [moved]
  | .nm x, _ => rfl
  | .thing, _ => rfl
  | .take k b, f => by simp only [moved, moved_zero b]
  | .give g a, f => by simp only [moved, moved_zero g, moved_zero a]
  | .pair g a, f => by simp only [moved, moved_zero g, moved_zero a]
  | .first p, f => by simp only [moved, moved_zero p]
  | .second p, f => by simp only [moved, moved_zero p]
def put : Db → Nat → Db → Db
  | .at i, t, g => if i = t then moved g 0 t else .at (i - if t < i then 1 else 0)
  | .nm x, _, _ => .nm x
  | .thing, _, _ => .thing
  | .take k b, t, g => .take k (put b (t + 1) g)
  | .give f a, t, g => .give (put f t g) (put a t g)
  | .pair a b, t, g => .pair (put a t g) (put b t g)
  | .first p, t, g => .first (put p t g)
  | .second p, t, g => .second (put p t g)
def wgiven : Pg → Str → Pg → Pg
  | .nm x, y, g => if x = y then g else .nm x
  | .thing, _, _ => .thing
  | .take x k b, y, g => .take x k (wgiven b y g)
  | .give f a, y, g => .give (wgiven f y g) (wgiven a y g)
  | .pair a b, y, g => .pair (wgiven a y g) (wgiven b y g)
  | .first p, y, g => .first (wgiven p y g)
  | .second p, y, g => .second (wgiven p y g)
/-- how many takes stand within one another -/
def Db.bd : Db → Nat
  | .at _ => 0
  | .nm _ => 0
  | .thing => 0
  | .take _ b => b.bd + 1
  | .give f a => max f.bd a.bd
  | .pair a b => max a.bd b.bd
  | .first p => p.bd
  | .second p => p.bd
def Wf : Db → Nat → Prop
  | .at i, m => i < m
  | .nm x, _ => Fr x
  | .thing, _ => True
  | .take _ b, m => Wf b (m + 1)
  | .give f a, m => Wf f m ∧ Wf a m
  | .pair a b, m => Wf a m ∧ Wf b m
  | .first p, m => Wf p m
  | .second p, m => Wf p m
/-! ### where names stand -/
def xr : Nat → List Str
  | 0 => []
  | m + 1 => xn m :: xr m
def mid (m : Nat) : Nat → List Str
  | 0 => xr m
  | j + 1 => xn (m + j + 1) :: mid m j
def own (m j : Nat) : Nat → List Str
  | 0 => mid m j
  | e + 1 => xn (m + e) :: own m j e
theorem ri_xr {k : Nat} : ∀ {m : Nat}, m ≤ 512 → k < m → ri (xr m) (xn k) = some (m - 1 - k)
  | m + 1, hm, hk => by
    unfold xr ri
    by_cases e : m = k
    · subst e; rw [if_pos rfl]; congr 1; omega
    · rw [if_neg (fun q => e (xn_inj64 m (by omega) k (by omega) q)), ri_xr (by omega) (by omega)]
      simp only [Option.map_some]
      congr 1; omega
theorem ri_mid_lo {m k : Nat} (hk : k < m) : ∀ {j : Nat}, m + j < 512 → ri (mid m j) (xn k) = some (j + (m - 1 - k))
  | 0, hm => by
    unfold mid
    rw [ri_xr (by omega) hk]
    congr 1; omega
  | j + 1, hm => by
    unfold mid ri
    rw [if_neg (fun q => by have := xn_inj64 _ (by omega) _ (by omega) q; omega), ri_mid_lo hk (by omega)]
    simp only [Option.map_some]
    congr 1; omega
theorem ri_mid_hi {m k : Nat} (hk : m < k) : ∀ {j : Nat}, m + j < 512 → k ≤ m + j → ri (mid m j) (xn k) = some (m + j - k)
  | 0, hm, h => by omega
  | j + 1, hm, h => by
    unfold mid ri
    by_cases e : m + j + 1 = k
    · subst e; rw [if_pos rfl]; congr 1; omega
    · rw [if_neg (fun q => e (xn_inj64 _ (by omega) _ (by omega) q)), ri_mid_hi hk (by omega) (by omega)]
      simp only [Option.map_some]
      congr 1; omega
theorem ri_own_lo {m j k : Nat} (hk : k < m) (hj : m + j < 512) : ∀ {e : Nat}, m + e < 512 → ri (own m j e) (xn k) = some (e + j + (m - 1 - k))
  | 0, hm => by
    unfold own
    rw [ri_mid_lo hk hj]
    congr 1; omega
  | e + 1, hm => by
    unfold own ri
    rw [if_neg (fun q => by have := xn_inj64 _ (by omega) _ (by omega) q; omega), ri_own_lo hk hj (by omega)]
    simp only [Option.map_some]
    congr 1; omega
theorem ri_own_hi {m j k : Nat} (hk : m ≤ k) : ∀ {e : Nat}, m + e < 512 → k < m + e → ri (own m j e) (xn k) = some (m + e - 1 - k)
  | 0, hm, h => by omega
  | e + 1, hm, h => by
    unfold own ri
    by_cases z : m + e = k
    · subst z; rw [if_pos rfl]; congr 1; omega
    · rw [if_neg (fun q => z (xn_inj64 _ (by omega) _ (by omega) q)), ri_own_hi hk (by omega) (by omega)]
      simp only [Option.map_some]
      congr 1; omega
theorem ri_none {x : Str} : ∀ {c : List Str}, (∀ y ∈ c, y ≠ x) → ri c x = none
  | [], _ => rfl
  | y :: c, h => by
    unfold ri
    rw [if_neg (h y List.mem_cons_self), ri_none fun z hz => h z (List.mem_cons_of_mem _ hz)]
    rfl
theorem mem_xr {y : Str} : ∀ {m : Nat}, y ∈ xr m → ∃ k, k < m ∧ y = xn k
  | m + 1, h => by
    unfold xr at h
    rcases List.mem_cons.mp h with rfl | h
    · exact ⟨m, by omega, rfl⟩
    · obtain ⟨k, h1, h2⟩ := mem_xr h; exact ⟨k, by omega, h2⟩
theorem mem_mid {m : Nat} {y : Str} : ∀ {j : Nat}, y ∈ mid m j → ∃ k, k < m + j + 1 ∧ y = xn k
  | 0, h => by obtain ⟨k, h1, h2⟩ := mem_xr h; exact ⟨k, by omega, h2⟩
  | j + 1, h => by
    unfold mid at h
    rcases List.mem_cons.mp h with rfl | h
    · exact ⟨_, by omega, rfl⟩
    · obtain ⟨k, h1, h2⟩ := mem_mid h; exact ⟨k, by omega, h2⟩
theorem mem_own {m j : Nat} {y : Str} : ∀ {e : Nat}, y ∈ own m j e → ∃ k, k < m + j + e + 1 ∧ y = xn k
  | 0, h => by obtain ⟨k, h1, h2⟩ := mem_mid h; exact ⟨k, by omega, h2⟩
  | e + 1, h => by
    unfold own at h
    rcases List.mem_cons.mp h with rfl | h
    · exact ⟨_, by omega, rfl⟩
    · obtain ⟨k, h1, h2⟩ := mem_own h; exact ⟨k, by omega, h2⟩
/-! ### dressed and bare again -/
theorem bare_own {m j : Nat} : ∀ (a : Db) (e : Nat), Wf a (m + e) → m + j + e + a.bd < 500 → bare (dress a (m + e)) (own m j e) = moved a e j
  | .at i, e, h, hb => by
    simp only [Wf, Db.bd] at h hb
    simp only [dress, bare, moved]
    by_cases c : e ≤ i
    · rw [ri_own_lo (by omega) (by omega) (by omega), if_pos c]
      simp only
      congr 1; omega
    · rw [ri_own_hi (by omega) (by omega) (by omega), if_neg c]
      simp only
      congr 1; omega
  | .nm x, e, h, hb => by
    simp only [dress, bare, moved]
    rw [ri_none fun y hy => by obtain ⟨k, h1, rfl⟩ := mem_own hy; exact h k (by omega)]
  | .thing, _, _, _ => rfl
  | .take k b, e, h, hb => by
    simp only [dress, bare, moved]
    simp only [Db.bd] at hb
    have := bare_own (m := m) (j := j) b (e + 1) h (by omega)
    exact congrArg (Db.take k) this
  | .give f a, e, h, hb => by
    simp only [Db.bd] at hb
    simp only [dress, bare, moved, bare_own (m := m) (j := j) f e h.1 (by omega), bare_own (m := m) (j := j) a e h.2 (by omega)]
  | .pair f a, e, h, hb => by
    simp only [Db.bd] at hb
    simp only [dress, bare, moved, bare_own (m := m) (j := j) f e h.1 (by omega), bare_own (m := m) (j := j) a e h.2 (by omega)]
  | .first p, e, h, hb => by
    simp only [Db.bd] at hb
    simp only [dress, bare, moved, bare_own (m := m) (j := j) p e h (by omega)]
  | .second p, e, h, hb => by
    simp only [Db.bd] at hb
    simp only [dress, bare, moved, bare_own (m := m) (j := j) p e h (by omega)]
theorem bare_dress {m : Nat} {b : Db} (h : Wf b m) (hb : m + b.bd < 500) : bare (dress b m) (xr m) = b := by
  have := bare_own (m := m) (j := 0) b 0 h (by omega)
  rw [moved_zero] at this
  exact this
/-- a given thing put into a body -/
theorem bare_put {m : Nat} {a : Db} (ha : Wf a m) : ∀ (b : Db) (j : Nat), Wf b (m + 1 + j) → m + j + a.bd + b.bd < 498 → bare (wgiven (dress b (m + 1 + j)) (xn m) (dress a m)) (mid m j) = put b j a
  | .at i, j, h, hb => by
    simp only [Wf, Db.bd] at h hb
    simp only [dress, wgiven, put]
    by_cases c : i = j
    · have e : m + 1 + j - 1 - i = m := by omega
      rw [e, if_pos rfl, if_pos c]
      exact bare_own (m := m) (j := j) a 0 ha (by omega)
    · rw [if_neg (fun q => by have := xn_inj64 _ (by omega) _ (by omega) q; omega), if_neg c]
      simp only [bare]
      by_cases d : j < i
      · rw [ri_mid_lo (by omega) (by omega), if_pos d]
        simp only
        congr 1; omega
      · rw [ri_mid_hi (by omega) (by omega) (by omega), if_neg d]
        simp only
        congr 1; omega
  | .nm x, j, h, hb => by
    simp only [Db.bd] at hb
    simp only [dress, wgiven, put]
    rw [if_neg (fun q => h m (by omega) q.symm)]
    simp only [bare]
    rw [ri_none fun y hy => by obtain ⟨k, h1, rfl⟩ := mem_mid hy; exact h k (by omega)]
  | .thing, _, _, _ => rfl
  | .take k b, j, h, hb => by
    simp only [Db.bd] at hb
    simp only [dress, wgiven, put, bare]
    have := bare_put ha b (j + 1) h (by omega)
    have e : m + 1 + j = m + j + 1 := by omega
    refine congrArg (Db.take k) ?_
    rw [← this]
    show bare _ (xn (m + 1 + j) :: mid m j) = bare _ (xn (m + j + 1) :: mid m j)
    rw [e, show m + 1 + (j + 1) = m + j + 1 + 1 by omega]
  | .give f g, j, h, hb => by
    simp only [Db.bd] at hb
    simp only [dress, wgiven, put, bare, bare_put ha f j h.1 (by omega), bare_put ha g j h.2 (by omega)]
  | .pair f g, j, h, hb => by
    simp only [Db.bd] at hb
    simp only [dress, wgiven, put, bare, bare_put ha f j h.1 (by omega), bare_put ha g j h.2 (by omega)]
  | .first p, j, h, hb => by
    simp only [Db.bd] at hb
    simp only [dress, wgiven, put, bare, bare_put ha p j h (by omega)]
  | .second p, j, h, hb => by
    simp only [Db.bd] at hb
    simp only [dress, wgiven, put, bare, bare_put ha p j h (by omega)]
/-! ### steps -/
/-- the step at a place, names told by numbers -/
def stepB : Db → List Int → Db
  | .give f a, [] => match f with
    | .take _ b => put b 0 a
    | _ => .give f a
  | .first p, [] => match p with
    | .pair a _ => a
    | _ => .first p
  | .second p, [] => match p with
    | .pair _ b => b
    | _ => .second p
  | .take k b, _ :: pl => .take k (stepB b pl)
  | .give f a, i :: pl => if i = 0 then .give (stepB f pl) a else .give f (stepB a pl)
  | .pair a b, i :: pl => if i = 0 then .pair (stepB a pl) b else .pair a (stepB b pl)
  | .first p, _ :: pl => .first (stepB p pl)
  | .second p, _ :: pl => .second (stepB p pl)
  | b, _ => b
/-- what comes of a part at which a step is done -/
def wc : Pg → Pg
  | .give (.take x _ b) a => wgiven b x a
  | .first (.pair a _) => a
  | .second (.pair _ b) => b
  | p => p
def partAt : Pg → List Int → Option Pg
  | p, [] => some p
  | .take _ _ b, i :: pl => if i = 0 then partAt b pl else none
  | .give f a, i :: pl => if i = 0 then partAt f pl else if i = 1 then partAt a pl else none
  | .pair f a, i :: pl => if i = 0 then partAt f pl else if i = 1 then partAt a pl else none
  | .first p, i :: pl => if i = 0 then partAt p pl else none
  | .second p, i :: pl => if i = 0 then partAt p pl else none
  | _, _ :: _ => none
def withPart : Pg → List Int → Pg → Pg
  | _, [], q => q
  | .take x k b, _ :: pl, q => .take x k (withPart b pl q)
  | .give f a, i :: pl, q => if i = 0 then .give (withPart f pl q) a else .give f (withPart a pl q)
  | .pair f a, i :: pl, q => if i = 0 then .pair (withPart f pl q) a else .pair f (withPart a pl q)
  | .first p, _ :: pl, q => .first (withPart p pl q)
  | .second p, _ :: pl, q => .second (withPart p pl q)
  | p, _ :: _, _ => p
/-- a place at which a step can be done -/
def Vd (p : Pg) (pl : List Int) : Prop := ∃ q, partAt p pl = some q ∧ q.can = true
def stepP (p : Pg) (pl : List Int) : Pg := match partAt p pl with
  | some q => withPart p pl (wc q)
  | none => p
theorem can_dress {b : Db} {m : Nat} (h : (dress b m).can = true) : (∃ k c a, b = .give (.take k c) a) ∨ (∃ a c, b = .first (.pair a c)) ∨ ∃ a c, b = .second (.pair a c) := by
  cases b with
  | give f a => cases f <;> simp [dress, Pg.can, Pg.isTake] at h ⊢
  | first p => cases p <;> simp [dress, Pg.can, Pg.isPair] at h ⊢
  | second p => cases p <;> simp [dress, Pg.can, Pg.isPair] at h ⊢
  | _ => simp [dress, Pg.can] at h
theorem bare_step : ∀ (b : Db) (pl : List Int) (m : Nat), Wf b m → m + 2 * b.bd < 498 → Vd (dress b m) pl → bare (stepP (dress b m) pl) (xr m) = stepB b pl
  | b, [], m, h, hb, ⟨q, hq, hc⟩ => by
    simp only [partAt, Option.some.injEq] at hq
    subst hq
    simp only [stepP, partAt, withPart]
    rcases can_dress hc with ⟨k, c, a, rfl⟩ | ⟨a, c, rfl⟩ | ⟨a, c, rfl⟩
    · simp only [dress, wc, stepB]
      simp only [Db.bd] at hb
      exact bare_put h.2 c 0 h.1 (by omega)
    · simp only [dress, wc, stepB]
      simp only [Db.bd] at hb
      exact bare_dress h.1 (by omega)
    · simp only [dress, wc, stepB]
      simp only [Db.bd] at hb
      exact bare_dress h.2 (by omega)
  | .take k b, i :: pl, m, h, hb, ⟨q, hq, hc⟩ => by
    simp only [dress, partAt] at hq
    split at hq <;> first | cases hq; done | skip
    rename_i hi
    simp only [Db.bd] at hb
    have ih := bare_step b pl (m + 1) h (by omega) ⟨q, hq, hc⟩
    simp only [stepP, hq] at ih
    simp only [stepP, dress, partAt, if_pos hi, hq, withPart, bare, stepB]
    exact congrArg (Db.take k) ih
  | .give f a, i :: pl, m, h, hb, ⟨q, hq, hc⟩ => by
    simp only [dress, partAt] at hq
    simp only [Db.bd] at hb
    by_cases hi : i = 0
    · rw [if_pos hi] at hq
      have ih := bare_step f pl m h.1 (by omega) ⟨q, hq, hc⟩
      simp only [stepP, hq] at ih
      simp only [stepP, dress, partAt, if_pos hi, hq, withPart, bare, stepB, ih, bare_dress h.2 (show m + a.bd < 500 by omega)]
    · rw [if_neg hi] at hq
      split at hq <;> first | cases hq; done | skip
      rename_i h1
      have ih := bare_step a pl m h.2 (by omega) ⟨q, hq, hc⟩
      simp only [stepP, hq] at ih
      simp only [stepP, dress, partAt, if_neg hi, if_pos h1, hq, withPart, bare, stepB, ih, bare_dress h.1 (show m + f.bd < 500 by omega)]
  | .pair f a, i :: pl, m, h, hb, ⟨q, hq, hc⟩ => by
    simp only [dress, partAt] at hq
    simp only [Db.bd] at hb
    by_cases hi : i = 0
    · rw [if_pos hi] at hq
      have ih := bare_step f pl m h.1 (by omega) ⟨q, hq, hc⟩
      simp only [stepP, hq] at ih
      simp only [stepP, dress, partAt, if_pos hi, hq, withPart, bare, stepB, ih, bare_dress h.2 (show m + a.bd < 500 by omega)]
    · rw [if_neg hi] at hq
      split at hq <;> first | cases hq; done | skip
      rename_i h1
      have ih := bare_step a pl m h.2 (by omega) ⟨q, hq, hc⟩
      simp only [stepP, hq] at ih
      simp only [stepP, dress, partAt, if_neg hi, if_pos h1, hq, withPart, bare, stepB, ih, bare_dress h.1 (show m + f.bd < 500 by omega)]
  | .first p, i :: pl, m, h, hb, ⟨q, hq, hc⟩ => by
    simp only [dress, partAt] at hq
    split at hq <;> first | cases hq; done | skip
    rename_i hi
    simp only [Db.bd] at hb
    have ih := bare_step p pl m h (by omega) ⟨q, hq, hc⟩
    simp only [stepP, hq] at ih
    simp only [stepP, dress, partAt, if_pos hi, hq, withPart, bare, stepB, ih]
  | .second p, i :: pl, m, h, hb, ⟨q, hq, hc⟩ => by
    simp only [dress, partAt] at hq
    split at hq <;> first | cases hq; done | skip
    rename_i hi
    simp only [Db.bd] at hb
    have ih := bare_step p pl m h (by omega) ⟨q, hq, hc⟩
    simp only [stepP, hq] at ih
    simp only [stepP, dress, partAt, if_pos hi, hq, withPart, bare, stepB, ih]
  | .at i, j :: pl, m, h, hb, ⟨q, hq, hc⟩ => by simp [dress, partAt] at hq
  | .nm i, j :: pl, m, h, hb, ⟨q, hq, hc⟩ => by simp [dress, partAt] at hq
  | .thing, j :: pl, m, h, hb, ⟨q, hq, hc⟩ => by simp [dress, partAt] at hq
/-- one step of a tidied program -/
theorem step_law {p : Pg} {pl : List Int} (h : Wf (bare p []) 0) (hb : 2 * (bare p []).bd < 498) (hv : Vd (tidy p []) pl) : tidy (stepP (tidy p []) pl) [] = dress (stepB (bare p []) pl) 0 := by
  have e : tidy p [] = dress (bare p []) 0 := tidy_eq p []
  rw [tidy_eq, e]
  rw [e] at hv
  have := bare_step (bare p []) pl 0 h (by omega) hv
  rw [show xr 0 = [] from rfl] at this
  rw [this]
  rfl
/-! ### places -/
theorem tidy_can (p : Pg) (c : List Str) : (tidy p c).can = p.can := by
  cases p with
  | give f a => cases f <;> simp only [tidy, Pg.can] <;> first | rfl | (rename_i x; cases ri c x <;> rfl)
  | first f => cases f <;> simp only [tidy, Pg.can] <;> first | rfl | (rename_i x; cases ri c x <;> rfl)
  | second f => cases f <;> simp only [tidy, Pg.can] <;> first | rfl | (rename_i x; cases ri c x <;> rfl)
  | nm x => simp only [tidy]; cases ri c x <;> rfl
  | _ => rfl
theorem tidy_vd : ∀ (p : Pg) (pl : List Int) (c : List Str), Vd p pl → Vd (tidy p c) pl
  | p, [], c, ⟨q, hq, hc⟩ => by
    simp only [partAt, Option.some.injEq] at hq
    subst hq
    exact ⟨tidy p c, by simp only [partAt], by rw [tidy_can]; exact hc⟩
  | .take x k b, i :: pl, c, ⟨q, hq, hc⟩ => by
    simp only [partAt] at hq
    split at hq <;> first | cases hq; done | skip
    rename_i hi
    obtain ⟨r, h1, h2⟩ := tidy_vd b pl (x :: c) ⟨q, hq, hc⟩
    exact ⟨r, by simp only [tidy, partAt, if_pos hi, h1], h2⟩
  | .give f a, i :: pl, c, ⟨q, hq, hc⟩ => by
    simp only [partAt] at hq
    by_cases hi : i = 0
    · rw [if_pos hi] at hq
      obtain ⟨r, h1, h2⟩ := tidy_vd f pl c ⟨q, hq, hc⟩
      exact ⟨r, by simp only [tidy, partAt, if_pos hi, h1], h2⟩
    · rw [if_neg hi] at hq
      split at hq <;> first | cases hq; done | skip
      rename_i h3
      obtain ⟨r, h1, h2⟩ := tidy_vd a pl c ⟨q, hq, hc⟩
      exact ⟨r, by simp only [tidy, partAt, if_neg hi, if_pos h3, h1], h2⟩
  | .pair f a, i :: pl, c, ⟨q, hq, hc⟩ => by
    simp only [partAt] at hq
    by_cases hi : i = 0
    · rw [if_pos hi] at hq
      obtain ⟨r, h1, h2⟩ := tidy_vd f pl c ⟨q, hq, hc⟩
      exact ⟨r, by simp only [tidy, partAt, if_pos hi, h1], h2⟩
    · rw [if_neg hi] at hq
      split at hq <;> first | cases hq; done | skip
      rename_i h3
      obtain ⟨r, h1, h2⟩ := tidy_vd a pl c ⟨q, hq, hc⟩
      exact ⟨r, by simp only [tidy, partAt, if_neg hi, if_pos h3, h1], h2⟩
  | .first p, i :: pl, c, ⟨q, hq, hc⟩ => by
    simp only [partAt] at hq
    split at hq <;> first | cases hq; done | skip
    rename_i hi
    obtain ⟨r, h1, h2⟩ := tidy_vd p pl c ⟨q, hq, hc⟩
    exact ⟨r, by simp only [tidy, partAt, if_pos hi, h1], h2⟩
  | .second p, i :: pl, c, ⟨q, hq, hc⟩ => by
    simp only [partAt] at hq
    split at hq <;> first | cases hq; done | skip
    rename_i hi
    obtain ⟨r, h1, h2⟩ := tidy_vd p pl c ⟨q, hq, hc⟩
    exact ⟨r, by simp only [tidy, partAt, if_pos hi, h1], h2⟩
  | .nm x, i :: pl, c, ⟨q, hq, hc⟩ => by simp [partAt] at hq
  | .thing, i :: pl, c, ⟨q, hq, hc⟩ => by simp [partAt] at hq
theorem plc_vd : ∀ (p : Pg) (p0 q : List Int), q ∈ plc p p0 → ∃ r, q = p0 ++ r ∧ Vd p r
  | .nm _, p0, q, h => by simp [plc] at h
  | .thing, p0, q, h => by simp [plc] at h
  | .take x k b, p0, q, h => by
    obtain ⟨r, h1, s, h2, h3⟩ := plc_vd b (p0 ++ [0]) q (by simpa only [plc] using h)
    exact ⟨0 :: r, by rw [h1]; simp, s, by simp only [partAt, if_pos, h2], h3⟩
  | .give f a, p0, q, h => by
    simp only [plc, List.mem_append] at h
    rcases h with (h | h) | h
    · split at h
      · rename_i hc
        exact ⟨[], by rw [List.mem_singleton.mp h]; simp, .give f a, by simp only [partAt], hc⟩
      · cases h
    · obtain ⟨r, h1, s, h2, h3⟩ := plc_vd f (p0 ++ [0]) q h
      exact ⟨0 :: r, by rw [h1]; simp, s, by simp only [partAt, if_pos, h2], h3⟩
    · obtain ⟨r, h1, s, h2, h3⟩ := plc_vd a (p0 ++ [1]) q h
      exact ⟨1 :: r, by rw [h1]; simp, s, by simp [partAt, h2], h3⟩
  | .pair f a, p0, q, h => by
    simp only [plc, List.mem_append] at h
    rcases h with h | h
    · obtain ⟨r, h1, s, h2, h3⟩ := plc_vd f (p0 ++ [0]) q h
      exact ⟨0 :: r, by rw [h1]; simp, s, by simp only [partAt, if_pos, h2], h3⟩
    · obtain ⟨r, h1, s, h2, h3⟩ := plc_vd a (p0 ++ [1]) q h
      exact ⟨1 :: r, by rw [h1]; simp, s, by simp [partAt, h2], h3⟩
  | .first p, p0, q, h => by
    simp only [plc, List.mem_append] at h
    rcases h with h | h
    · split at h
      · rename_i hc
        exact ⟨[], by rw [List.mem_singleton.mp h]; simp, .first p, by simp only [partAt], hc⟩
      · cases h
    · obtain ⟨r, h1, s, h2, h3⟩ := plc_vd p (p0 ++ [0]) q h
      exact ⟨0 :: r, by rw [h1]; simp, s, by simp only [partAt, if_pos, h2], h3⟩
  | .second p, p0, q, h => by
    simp only [plc, List.mem_append] at h
    rcases h with h | h
    · split at h
      · rename_i hc
        exact ⟨[], by rw [List.mem_singleton.mp h]; simp, .second p, by simp only [partAt], hc⟩
      · cases h
    · obtain ⟨r, h1, s, h2, h3⟩ := plc_vd p (p0 ++ [0]) q h
      exact ⟨0 :: r, by rw [h1]; simp, s, by simp only [partAt, if_pos, h2], h3⟩
/-! ### well formed -/
theorem bd_hgt : ∀ (p : Pg) (c : List Str), (bare p c).bd ≤ p.hgt
  | .nm x, c => by simp only [bare]; cases ri c x <;> simp [Db.bd]
  | .thing, c => by simp [bare, Db.bd]
  | .take x k b, c => by have := bd_hgt b (x :: c); simp only [bare, Db.bd, Pg.hgt]; omega
  | .give f a, c => by have := bd_hgt f c; have := bd_hgt a c; simp only [bare, Db.bd, Pg.hgt]; omega
  | .pair f a, c => by have := bd_hgt f c; have := bd_hgt a c; simp only [bare, Db.bd, Pg.hgt]; omega
  | .first f, c => by have := bd_hgt f c; simp only [bare, Db.bd, Pg.hgt]; omega
  | .second f, c => by have := bd_hgt f c; simp only [bare, Db.bd, Pg.hgt]; omega
theorem ri_lt {x : Str} : ∀ {c : List Str} {i : Nat}, ri c x = some i → i < c.length
  | [], _, h => by simp [ri] at h
  | y :: c, i, h => by
    unfold ri at h
    split at h
    · cases h; simp
    · obtain ⟨j, h1, rfl⟩ := Option.map_eq_some_iff.mp h
      have := ri_lt h1
      rw [List.length_cons]; omega
theorem ri_mem {x : Str} : ∀ {c : List Str}, ri c x = none → x ∉ c
  | [], _ => by simp
  | y :: c, h => by
    unfold ri at h
    split at h
    · cases h
    · rename_i hne
      have h1 : ri c x = none := by simpa using h
      intro q
      rcases List.mem_cons.mp q with rfl | q
      · exact hne rfl
      · exact ri_mem h1 q
theorem wf_of : ∀ (p : Pg) (e : Str → Option Kd) (k : Kd) (c : List Str), hasK e p k → (∀ x, e x ≠ none → x ∈ c ∨ Fr x) → Wf (bare p c) c.length
  | .nm x, e, k, c, h, hc => by
    simp only [bare]
    cases q : ri c x with
    | some i => exact ri_lt q
    | none =>
      rcases hc x (by rw [show e x = some k from h]; simp) with z | z
      · exact absurd z (ri_mem q)
      · exact z
  | .thing, _, _, _, _, _ => trivial
  | .take x a b, e, k, c, ⟨r, _, h⟩, hc => by
    refine wf_of b _ r (x :: c) h fun y hy => ?_
    by_cases z : x = y
    · exact .inl (by rw [z]; exact List.mem_cons_self)
    · rw [if_neg z] at hy
      exact (hc y hy).imp (List.mem_cons_of_mem _) id
  | .give f a, e, k, c, ⟨d, h1, h2⟩, hc => ⟨wf_of f e _ c h1 hc, wf_of a e _ c h2 hc⟩
  | .pair f a, e, k, c, ⟨d, d', _, h1, h2⟩, hc => ⟨wf_of f e _ c h1 hc, wf_of a e _ c h2 hc⟩
  | .first p, e, k, c, ⟨d, h⟩, hc => wf_of p e _ c h hc
  | .second p, e, k, c, ⟨d, h⟩, hc => wf_of p e _ c h hc
theorem fr_row : ∀ x ∈ ([Str.ofString "pa", "fa", "pb", "fb"] : List Str), Fr x := by
  have h : ∀ x ∈ ([Str.ofString "pa", "fa", "pb", "fb"] : List Str), ∀ k ∈ List.range 512, xn k ≠ x := by decide +kernel
  exact fun x hx k hk => h x hx k (List.mem_range.mpr hk)
theorem row0_fr {x : Str} (h : envOf row0 x ≠ none) : Fr x := by
  cases e : envOf row0 x with
  | none => exact absurd e h
  | some k =>
    have := envOf_mem e
    refine fr_row x ?_
    simp only [row0, List.mem_cons, List.not_mem_nil, or_false, Prod.mk.injEq] at this
    rcases this with ⟨rfl, _⟩ | ⟨rfl, _⟩ | ⟨rfl, _⟩ | ⟨rfl, _⟩ <;> decide +kernel
theorem wf_row {p : Pg} {k : Kd} (h : hasK (envOf row0) p k) : Wf (bare p []) 0 := wf_of p _ k [] h fun x hx => .inr (row0_fr hx)
end Kf
/-! Kpw: the parts of a program, put back. -/
namespace Kf
open PySem PySem.Spec L2
open PyProof.Rows hiding St
def setIns : Pg → List Pg → Pg
  | .take x k _, [b] => .take x k b
  | .give _ _, [f, a] => .give f a
  | .pair _ _, [f, a] => .pair f a
  | .first _, [p] => .first p
  | .second _, [p] => .second p
  | p, _ => p
theorem partAt_cons {p q : Pg} {i : Int} {r : List Int} (h : partAt p (i :: r) = some q) : ∃ c, 0 ≤ i ∧ i < p.ins.length ∧ atI p.ins i = some c ∧ ixN p.ins.length i = some i.toNat ∧ c ∈ p.ins ∧ partAt c r = some q ∧ ∀ w, withPart p (i :: r) w = setIns p (p.ins.set i.toNat (withPart c r w)) := by
  cases p with
  | nm x => simp [partAt] at h
  | thing => simp [partAt] at h
  | take x k b =>
    simp only [partAt] at h
    split at h <;> first | cases h; done | skip
    rename_i hi
    subst hi
    exact ⟨b, by decide, by simp [Pg.ins], ixC0 _ _, rfl, by simp [Pg.ins], h, fun w => rfl⟩
  | first b =>
    simp only [partAt] at h
    split at h <;> first | cases h; done | skip
    rename_i hi
    subst hi
    exact ⟨b, by decide, by simp [Pg.ins], ixC0 _ _, rfl, by simp [Pg.ins], h, fun w => rfl⟩
  | second b =>
    simp only [partAt] at h
    split at h <;> first | cases h; done | skip
    rename_i hi
    subst hi
    exact ⟨b, by decide, by simp [Pg.ins], ixC0 _ _, rfl, by simp [Pg.ins], h, fun w => rfl⟩
  | give f a =>
    simp only [partAt] at h
    by_cases hi : i = 0
    · subst hi
      rw [if_pos rfl] at h
      exact ⟨f, by decide, by simp [Pg.ins], ixC0 _ _, rfl, by simp [Pg.ins], h, fun w => rfl⟩
    · rw [if_neg hi] at h
      split at h <;> first | cases h; done | skip
      rename_i h1
      subst h1
      exact ⟨a, by decide, by simp [Pg.ins], ixC1 _ _ _, rfl, by simp [Pg.ins], h, fun w => rfl⟩
  | pair f a =>
    simp only [partAt] at h
    by_cases hi : i = 0
    · subst hi
      rw [if_pos rfl] at h
      exact ⟨f, by decide, by simp [Pg.ins], ixC0 _ _, rfl, by simp [Pg.ins], h, fun w => rfl⟩
    · rw [if_neg hi] at h
      split at h <;> first | cases h; done | skip
      rename_i h1
      subst h1
      exact ⟨a, by decide, by simp [Pg.ins], ixC1 _ _ _, rfl, by simp [Pg.ins], h, fun w => rfl⟩
/-- names and kinds are right texts -/
def Pg.sok : Pg → Bool
  | .nm x => PyData.strOk x
  | .thing => true
  | .take x k b => PyData.strOk x && k.ok && b.sok
  | .give f a => f.sok && a.sok
  | .pair a b => a.sok && b.sok
  | .first p => p.sok
  | .second p => p.sok
theorem isPy_dP : ∀ p : Pg, isPy (dP p) = p.sok
  | .nm x => by simp [dP, isPy, isPys, Pg.sok, sw_name]
  | .thing => by simp [dP, isPy, isPys, Pg.sok, sw_thing]
  | .take x k b => by simp [dP, isPy, isPys, Pg.sok, sw_take, isPy_dK, isPy_dP b, Bool.and_assoc]
  | .give f a => by simp [dP, isPy, isPys, Pg.sok, sw_give, isPy_dP f, isPy_dP a]
  | .pair f a => by simp [dP, isPy, isPys, Pg.sok, sw_pair, isPy_dP f, isPy_dP a]
  | .first f => by simp [dP, isPy, isPys, Pg.sok, sw_first, isPy_dP f]
  | .second f => by simp [dP, isPy, isPys, Pg.sok, sw_second, isPy_dP f]
theorem len2 {α : Type} {l : List α} (h : l.length = 2) : ∃ c d, l = [c, d] := by
  match l, h with
  | [c, d], _ => exact ⟨c, d, rfl⟩
/-- how deep a program is as data -/
def Pg.dpt : Pg → Nat
  | .nm _ => 1
  | .thing => 1
  | .take _ k b => max (k.depth + 1) b.dpt + 1
  | .give f a => max f.dpt a.dpt + 1
  | .pair f a => max f.dpt a.dpt + 1
  | .first p => p.dpt + 1
  | .second p => p.dpt + 1
theorem dp_dP : ∀ p : Pg, dp (dP p) = p.dpt
  | .nm x => by simp [dP, dp, toPy, toPys, PyData.depth, PyData.depthAll, Pg.dpt]
  | .thing => by simp [dP, dp, toPy, toPys, PyData.depth, PyData.depthAll, Pg.dpt]
  | .take x k b => by
    have h1 := dp_dK k
    have h2 := dp_dP b
    simp only [dp] at h1 h2
    simp [dP, dp, toPy, toPys, PyData.depth, PyData.depthAll, Pg.dpt, h1, h2]
  | .give f a => by
    have h1 := dp_dP f
    have h2 := dp_dP a
    simp only [dp] at h1 h2
    simp [dP, dp, toPy, toPys, PyData.depth, PyData.depthAll, Pg.dpt, h1, h2]
  | .pair f a => by
    have h1 := dp_dP f
    have h2 := dp_dP a
    simp only [dp] at h1 h2
    simp [dP, dp, toPy, toPys, PyData.depth, PyData.depthAll, Pg.dpt, h1, h2]
  | .first f => by
    have h1 := dp_dP f
    simp only [dp] at h1
    simp [dP, dp, toPy, toPys, PyData.depth, PyData.depthAll, Pg.dpt, h1]
  | .second f => by
    have h1 := dp_dP f
    simp only [dp] at h1
    simp [dP, dp, toPy, toPys, PyData.depth, PyData.depthAll, Pg.dpt, h1]
theorem dp_lP {qs : List Pg} {n : Nat} (h : ∀ q ∈ qs, q.dpt ≤ n) : dp (.lst (qs.map dP)) ≤ n + 1 := by
  have : ∀ qs : List Pg, (∀ q ∈ qs, q.dpt ≤ n) → PyData.depthAll (toPys (qs.map dP)) ≤ n := by
    intro qs
    induction qs with
    | nil => intro _; simp [toPys, PyData.depthAll]
    | cons a qs ih =>
      intro h
      have h1 := dp_dP a
      simp only [dp] at h1
      have h2 := h a List.mem_cons_self
      have h3 := ih fun q hq => h q (List.mem_cons_of_mem _ hq)
      simp only [List.map_cons, toPys, PyData.depthAll]
      omega
  simp only [dp, toPy, PyData.depth]
  have := this qs h
  omega
theorem ins_ok {p q : Pg} (h : q ∈ p.ins) (hs : p.sok = true) : q.sok = true ∧ q.dpt < p.dpt := by
  cases p <;> simp only [Pg.ins, List.mem_cons, List.not_mem_nil, or_false] at h
  · subst h; simp only [Pg.sok, Bool.and_eq_true] at hs; exact ⟨hs.2, by simp only [Pg.dpt]; omega⟩
  · simp only [Pg.sok, Bool.and_eq_true] at hs
    rcases h with rfl | rfl
    · exact ⟨hs.1, by simp only [Pg.dpt]; omega⟩
    · exact ⟨hs.2, by simp only [Pg.dpt]; omega⟩
  · simp only [Pg.sok, Bool.and_eq_true] at hs
    rcases h with rfl | rfl
    · exact ⟨hs.1, by simp only [Pg.dpt]; omega⟩
    · exact ⟨hs.2, by simp only [Pg.dpt]; omega⟩
  · subst h; exact ⟨hs, by simp only [Pg.dpt]; omega⟩
  · subst h; exact ⟨hs, by simp only [Pg.dpt]; omega⟩
theorem withPart_ok {w : Pg} (hw : w.sok = true) : ∀ (p : Pg) (pl : List Int), p.sok = true → (withPart p pl w).sok = true ∧ (withPart p pl w).dpt ≤ p.dpt + w.dpt
  | p, [], hp => by simp only [withPart]; exact ⟨hw, by omega⟩
  | .nm x, i :: pl, hp => by simp only [withPart]; exact ⟨hp, by omega⟩
  | .thing, i :: pl, hp => by simp only [withPart]; exact ⟨hp, by omega⟩
  | .take x k b, i :: pl, hp => by
    simp only [Pg.sok, Bool.and_eq_true] at hp
    have := withPart_ok hw b pl hp.2
    simp only [withPart, Pg.sok, Pg.dpt, hp.1.1, hp.1.2, this.1, Bool.and_self, true_and]
    omega
  | .give f a, i :: pl, hp => by
    simp only [Pg.sok, Bool.and_eq_true] at hp
    have h1 := withPart_ok hw f pl hp.1
    have h2 := withPart_ok hw a pl hp.2
    simp only [withPart]
    split
    · simp only [Pg.sok, Pg.dpt, h1.1, hp.2, Bool.and_self, true_and]; omega
    · simp only [Pg.sok, Pg.dpt, h2.1, hp.1, Bool.and_self, true_and]; omega
  | .pair f a, i :: pl, hp => by
    simp only [Pg.sok, Bool.and_eq_true] at hp
    have h1 := withPart_ok hw f pl hp.1
    have h2 := withPart_ok hw a pl hp.2
    simp only [withPart]
    split
    · simp only [Pg.sok, Pg.dpt, h1.1, hp.2, Bool.and_self, true_and]; omega
    · simp only [Pg.sok, Pg.dpt, h2.1, hp.1, Bool.and_self, true_and]; omega
  | .first p, i :: pl, hp => by
    have := withPart_ok hw p pl hp
    simp only [withPart, Pg.sok, Pg.dpt, this.1, true_and]; omega
  | .second p, i :: pl, hp => by
    have := withPart_ok hw p pl hp
    simp only [withPart, Pg.sok, Pg.dpt, this.1, true_and]; omega
end Kf
/-! Krn: steps one behind another, names told by numbers; how many parts. -/
namespace Kf
open PySem PySem.Spec L2
open PyProof.Rows hiding St
def dB : Db → D
  | .at i => .tup [.str "at", .int i]
  | .nm x => .tup [.str "name", .str x]
  | .thing => .tup [.str "thing"]
  | .take k b => .tup [.str "take", .str "", dK k, dB b]
  | .give f a => .tup [.str "give", dB f, dB a]
  | .pair a b => .tup [.str "pair", dB a, dB b]
  | .first p => .tup [.str "first", dB p]
  | .second p => .tup [.str "second", dB p]
def Db.hgt : Db → Nat
  | .at _ => 0
  | .nm _ => 0
  | .thing => 0
  | .take _ b => b.hgt + 1
  | .give f a => max f.hgt a.hgt + 1
  | .pair a b => max a.hgt b.hgt + 1
  | .first p => p.hgt + 1
  | .second p => p.hgt + 1
def Db.ab : Db → Nat → Prop
  | .at i, n => i < n
  | .nm _, _ => True
  | .thing, _ => True
  | .take _ b, n => b.ab n
  | .give f a, n => f.ab n ∧ a.ab n
  | .pair a b, n => a.ab n ∧ b.ab n
  | .first p, n => p.ab n
  | .second p, n => p.ab n
/-! ### steps with names told by numbers -/
def VdB : Db → List Int → Prop
  | .give f _, [] => ∃ k c, f = .take k c
  | .first p, [] => ∃ a c, p = .pair a c
  | .second p, [] => ∃ a c, p = .pair a c
  | .take _ b, i :: pl => i = 0 ∧ VdB b pl
  | .give f a, i :: pl => (i = 0 ∧ VdB f pl) ∨ (i = 1 ∧ VdB a pl)
  | .pair f a, i :: pl => (i = 0 ∧ VdB f pl) ∨ (i = 1 ∧ VdB a pl)
  | .first p, i :: pl => i = 0 ∧ VdB p pl
  | .second p, i :: pl => i = 0 ∧ VdB p pl
  | _, _ => False
theorem vdB_of : ∀ (p : Pg) (pl : List Int) (c : List Str), Vd p pl → VdB (bare p c) pl
  | .give f a, [], c, ⟨q, hq, hc⟩ => by
    simp only [partAt, Option.some.injEq] at hq
    subst hq
    cases f <;> first | (simp [Pg.can, Pg.isTake] at hc; done) | exact ⟨_, _, rfl⟩
  | .first f, [], c, ⟨q, hq, hc⟩ => by
    simp only [partAt, Option.some.injEq] at hq
    subst hq
    cases f <;> first | (simp [Pg.can, Pg.isPair] at hc; done) | exact ⟨_, _, rfl⟩
  | .second f, [], c, ⟨q, hq, hc⟩ => by
    simp only [partAt, Option.some.injEq] at hq
    subst hq
    cases f <;> first | (simp [Pg.can, Pg.isPair] at hc; done) | exact ⟨_, _, rfl⟩
  | .nm x, [], c, ⟨q, hq, hc⟩ => by
    simp only [partAt, Option.some.injEq] at hq
    subst hq
    simp [Pg.can] at hc
  | .thing, [], c, ⟨q, hq, hc⟩ => by
    simp only [partAt, Option.some.injEq] at hq
    subst hq
    simp [Pg.can] at hc
  | .take x k b, [], c, ⟨q, hq, hc⟩ => by
    simp only [partAt, Option.some.injEq] at hq
    subst hq
    simp [Pg.can] at hc
  | .pair x b, [], c, ⟨q, hq, hc⟩ => by
    simp only [partAt, Option.some.injEq] at hq
    subst hq
    simp [Pg.can] at hc
  | .take x k b, i :: pl, c, ⟨q, hq, hc⟩ => by
    simp only [partAt] at hq
    split at hq <;> first | cases hq; done | skip
    rename_i hi
    exact ⟨hi, vdB_of b pl (x :: c) ⟨q, hq, hc⟩⟩
  | .give f a, i :: pl, c, ⟨q, hq, hc⟩ => by
    simp only [partAt] at hq
    split at hq
    · rename_i hi; exact .inl ⟨hi, vdB_of f pl c ⟨q, hq, hc⟩⟩
    · split at hq <;> first | cases hq; done | skip
      rename_i hi; exact .inr ⟨hi, vdB_of a pl c ⟨q, hq, hc⟩⟩
  | .pair f a, i :: pl, c, ⟨q, hq, hc⟩ => by
    simp only [partAt] at hq
    split at hq
    · rename_i hi; exact .inl ⟨hi, vdB_of f pl c ⟨q, hq, hc⟩⟩
    · split at hq <;> first | cases hq; done | skip
      rename_i hi; exact .inr ⟨hi, vdB_of a pl c ⟨q, hq, hc⟩⟩
  | .first p, i :: pl, c, ⟨q, hq, hc⟩ => by
    simp only [partAt] at hq
    split at hq <;> first | cases hq; done | skip
    rename_i hi
    exact ⟨hi, vdB_of p pl c ⟨q, hq, hc⟩⟩
  | .second p, i :: pl, c, ⟨q, hq, hc⟩ => by
    simp only [partAt] at hq
    split at hq <;> first | cases hq; done | skip
    rename_i hi
    exact ⟨hi, vdB_of p pl c ⟨q, hq, hc⟩⟩
  | .nm x, i :: pl, c, ⟨q, hq, hc⟩ => by simp [partAt] at hq
  | .thing, i :: pl, c, ⟨q, hq, hc⟩ => by simp [partAt] at hq
theorem bare_hgt : ∀ (p : Pg) (c : List Str), (bare p c).hgt = p.hgt
  | .nm x, c => by simp only [bare]; cases ri c x <;> rfl
  | .thing, _ => rfl
  | .take x k b, c => by simp only [bare, Db.hgt, Pg.hgt, bare_hgt b]
  | .give f a, c => by simp only [bare, Db.hgt, Pg.hgt, bare_hgt f, bare_hgt a]
  | .pair f a, c => by simp only [bare, Db.hgt, Pg.hgt, bare_hgt f, bare_hgt a]
  | .first f, c => by simp only [bare, Db.hgt, Pg.hgt, bare_hgt f]
  | .second f, c => by simp only [bare, Db.hgt, Pg.hgt, bare_hgt f]
theorem dress_hgt : ∀ (b : Db) (m : Nat), (dress b m).hgt = b.hgt
  | .at i, m => rfl
  | .nm x, m => rfl
  | .thing, _ => rfl
  | .take k b, c => by simp only [dress, Db.hgt, Pg.hgt, dress_hgt b]
  | .give f a, c => by simp only [dress, Db.hgt, Pg.hgt, dress_hgt f, dress_hgt a]
  | .pair f a, c => by simp only [dress, Db.hgt, Pg.hgt, dress_hgt f, dress_hgt a]
  | .first f, c => by simp only [dress, Db.hgt, Pg.hgt, dress_hgt f]
  | .second f, c => by simp only [dress, Db.hgt, Pg.hgt, dress_hgt f]
theorem moved_hgt : ∀ (b : Db) (f n : Nat), (moved b f n).hgt = b.hgt
  | .at i, f, n => rfl
  | .nm x, _, _ => rfl
  | .thing, _, _ => rfl
  | .take k b, f, n => by simp only [moved, Db.hgt, moved_hgt b]
  | .give g a, f, n => by simp only [moved, Db.hgt, moved_hgt g, moved_hgt a]
  | .pair g a, f, n => by simp only [moved, Db.hgt, moved_hgt g, moved_hgt a]
  | .first p, f, n => by simp only [moved, Db.hgt, moved_hgt p]
  | .second p, f, n => by simp only [moved, Db.hgt, moved_hgt p]
theorem put_hgt {a : Db} : ∀ (b : Db) (t : Nat), (put b t a).hgt ≤ b.hgt + a.hgt
  | .at i, t => by
    simp only [put]; split
    · rw [moved_hgt]; omega
    · simp [Db.hgt]
  | .nm x, _ => by simp [put, Db.hgt]
  | .thing, _ => by simp [put, Db.hgt]
  | .take k b, t => by have := put_hgt (a := a) b (t + 1); simp only [put, Db.hgt]; omega
  | .give f b, t => by have := put_hgt (a := a) f t; have := put_hgt (a := a) b t; simp only [put, Db.hgt]; omega
  | .pair f b, t => by have := put_hgt (a := a) f t; have := put_hgt (a := a) b t; simp only [put, Db.hgt]; omega
  | .first b, t => by have := put_hgt (a := a) b t; simp only [put, Db.hgt]; omega
  | .second b, t => by have := put_hgt (a := a) b t; simp only [put, Db.hgt]; omega
theorem stepB_hgt : ∀ (b : Db) (pl : List Int), VdB b pl → (stepB b pl).hgt ≤ 2 * b.hgt
  | .give f a, [], ⟨k, c, e⟩ => by
    subst e
    have := put_hgt (a := a) c 0
    simp only [stepB, Db.hgt]; omega
  | .first p, [], ⟨a, c, e⟩ => by subst e; simp only [stepB, Db.hgt]; omega
  | .second p, [], ⟨a, c, e⟩ => by subst e; simp only [stepB, Db.hgt]; omega
  | .take k b, i :: pl, h => by have := stepB_hgt b pl h.2; simp only [stepB, Db.hgt]; omega
  | .give f a, i :: pl, h => by
    rcases h with ⟨rfl, h⟩ | ⟨rfl, h⟩
    · have := stepB_hgt f pl h; simp only [stepB, if_true, Db.hgt]; omega
    · have := stepB_hgt a pl h; simp only [stepB, Int.reduceEq, if_false, Db.hgt]; omega
  | .pair f a, i :: pl, h => by
    rcases h with ⟨rfl, h⟩ | ⟨rfl, h⟩
    · have := stepB_hgt f pl h; simp only [stepB, if_true, Db.hgt]; omega
    · have := stepB_hgt a pl h; simp only [stepB, Int.reduceEq, if_false, Db.hgt]; omega
  | .first p, i :: pl, h => by have := stepB_hgt p pl h.2; simp only [stepB, Db.hgt]; omega
  | .second p, i :: pl, h => by have := stepB_hgt p pl h.2; simp only [stepB, Db.hgt]; omega
theorem wf_moved {m j : Nat} : ∀ (a : Db) (e : Nat), Wf a (m + e) → Wf (moved a e j) (m + e + j)
  | .at i, e, h => by simp only [Wf, moved] at h ⊢; split <;> omega
  | .nm x, e, h => h
  | .thing, _, _ => trivial
  | .take k b, e, h => by
    have := wf_moved (j := j) b (e + 1) (by simpa only [Wf, Nat.add_assoc] using h)
    simp only [moved, Wf]
    rw [show m + e + j + 1 = m + (e + 1) + j by omega]; exact this
  | .give f a, e, h => ⟨wf_moved f e h.1, wf_moved a e h.2⟩
  | .pair f a, e, h => ⟨wf_moved f e h.1, wf_moved a e h.2⟩
  | .first p, e, h => wf_moved (m := m) (j := j) p e h
  | .second p, e, h => wf_moved (m := m) (j := j) p e h
theorem wf_put {m : Nat} {a : Db} (ha : Wf a m) : ∀ (b : Db) (j : Nat), Wf b (m + 1 + j) → Wf (put b j a) (m + j)
  | .at i, j, h => by
    simp only [Wf] at h
    simp only [put]
    split
    · exact wf_moved (m := m) (j := j) a 0 ha
    · simp only [Wf]; split <;> omega
  | .nm x, j, h => h
  | .thing, _, _ => trivial
  | .take k b, j, h => by
    simp only [put, Wf]
    exact wf_put ha b (j + 1) h
  | .give f b, j, h => ⟨wf_put ha f j h.1, wf_put ha b j h.2⟩
  | .pair f b, j, h => ⟨wf_put ha f j h.1, wf_put ha b j h.2⟩
  | .first p, j, h => wf_put (m := m) ha p j h
  | .second p, j, h => wf_put (m := m) ha p j h
theorem wf_step : ∀ (b : Db) (pl : List Int) (m : Nat), Wf b m → VdB b pl → Wf (stepB b pl) m
  | .give f a, [], m, h, ⟨k, c, e⟩ => by subst e; exact wf_put (m := m) h.2 c 0 h.1
  | .first p, [], m, h, ⟨a, c, e⟩ => by subst e; exact h.1
  | .second p, [], m, h, ⟨a, c, e⟩ => by subst e; exact h.2
  | .take k b, i :: pl, m, h, v => wf_step b pl (m + 1) h v.2
  | .give f a, i :: pl, m, h, v => by
    rcases v with ⟨rfl, v⟩ | ⟨rfl, v⟩
    · simp only [stepB, if_true]; exact ⟨wf_step f pl m h.1 v, h.2⟩
    · simp only [stepB, Int.reduceEq, if_false]; exact ⟨h.1, wf_step a pl m h.2 v⟩
  | .pair f a, i :: pl, m, h, v => by
    rcases v with ⟨rfl, v⟩ | ⟨rfl, v⟩
    · simp only [stepB, if_true]; exact ⟨wf_step f pl m h.1 v, h.2⟩
    · simp only [stepB, Int.reduceEq, if_false]; exact ⟨h.1, wf_step a pl m h.2 v⟩
  | .first p, i :: pl, m, h, v => wf_step p pl m h v.2
  | .second p, i :: pl, m, h, v => wf_step p pl m h v.2
theorem wf_ab : ∀ (b : Db) (m : Nat), Wf b m → m + b.hgt ≤ 900 → b.ab 900
  | .at i, m, h, hm => by simp only [Wf, Db.ab, Db.hgt] at *; omega
  | .nm x, _, _, _ => trivial
  | .thing, _, _, _ => trivial
  | .take k b, m, h, hm => wf_ab b (m + 1) h (by simp only [Db.hgt] at hm; omega)
  | .give f a, m, h, hm => by simp only [Db.hgt] at hm; exact ⟨wf_ab f m h.1 (by omega), wf_ab a m h.2 (by omega)⟩
  | .pair f a, m, h, hm => by simp only [Db.hgt] at hm; exact ⟨wf_ab f m h.1 (by omega), wf_ab a m h.2 (by omega)⟩
  | .first p, m, h, hm => wf_ab p m h (by simp only [Db.hgt] at hm; omega)
  | .second p, m, h, hm => wf_ab p m h (by simp only [Db.hgt] at hm; omega)

theorem deref_dB (b : Db) (O : Ow) : deref O (dB b) = dB b := by cases b <;> rfl
def Db.ins : Db → List Db
  | .take _ b => [b]
  | .give f a => [f, a]
  | .pair a b => [a, b]
  | .first p => [p]
  | .second p => [p]
  | _ => []
def Db.isTake : Db → Bool
  | .take .. => true
  | _ => false
def Db.isPair : Db → Bool
  | .pair .. => true
  | _ => false
def Db.can : Db → Bool
  | .give f _ => f.isTake
  | .first p => p.isPair
  | .second p => p.isPair
  | _ => false
def plcB : Db → List Int → List (List Int)
  | .at _, _ => []
  | .nm _, _ => []
  | .thing, _ => []
  | .take _ b, pl => plcB b (pl ++ [0])
  | .give f a, pl => (if f.isTake then [pl] else []) ++ plcB f (pl ++ [0]) ++ plcB a (pl ++ [1])
  | .pair a b, pl => plcB a (pl ++ [0]) ++ plcB b (pl ++ [1])
  | .first p, pl => (if p.isPair then [pl] else []) ++ plcB p (pl ++ [0])
  | .second p, pl => (if p.isPair then [pl] else []) ++ plcB p (pl ++ [0])
def plcBs : List Db → Nat → List Int → List (List Int)
  | [], _, _ => []
  | q :: qs, i, pl => plcB q (pl ++ [(i : Int)]) ++ plcBs qs (i + 1) pl
theorem plcB_eq (p : Db) (pl : List Int) : plcB p pl = (if p.can then [pl] else []) ++ plcBs p.ins 0 pl := by
  cases p <;> simp [plcB, Db.can, Db.ins, plcBs] <;> rfl
theorem insB_cases (p : Db) : p.ins = [] ∨ (∃ x, p.ins = [x]) ∨ ∃ x y, p.ins = [x, y] := by
  cases p <;> simp [Db.ins]
theorem insB_hgt {p q : Db} (h : q ∈ p.ins) : q.hgt < p.hgt := by
  cases p <;> simp only [Db.ins, List.mem_cons, List.not_mem_nil, or_false] at h
  · subst h; simp [Db.hgt]
  · rcases h with rfl | rfl <;> simp only [Db.hgt] <;> omega
  · rcases h with rfl | rfl <;> simp only [Db.hgt] <;> omega
  · subst h; simp [Db.hgt]
  · subst h; simp [Db.hgt]
theorem dress_isTake (b : Db) (m : Nat) : (dress b m).isTake = b.isTake := by cases b <;> rfl
theorem dress_isPair (b : Db) (m : Nat) : (dress b m).isPair = b.isPair := by cases b <;> rfl
theorem plc_dress : ∀ (b : Db) (m : Nat) (pl : List Int), plc (dress b m) pl = plcB b pl
  | .at i, m, pl => rfl
  | .nm x, m, pl => rfl
  | .thing, m, pl => rfl
  | .take k b, m, pl => by simp only [dress, plc, plcB, plc_dress b]
  | .give f a, m, pl => by simp only [dress, plc, plcB, plc_dress f, plc_dress a, dress_isTake]
  | .pair f a, m, pl => by simp only [dress, plc, plcB, plc_dress f, plc_dress a]
  | .first f, m, pl => by simp only [dress, plc, plcB, plc_dress f, dress_isPair]
  | .second f, m, pl => by simp only [dress, plc, plcB, plc_dress f, dress_isPair]
/-! ### how many parts -/
def Pg.psz : Pg → Nat
  | .nm _ => 1
  | .thing => 1
  | .take _ _ b => b.psz + 1
  | .give f a => f.psz + a.psz + 1
  | .pair a b => a.psz + b.psz + 1
  | .first p => p.psz + 1
  | .second p => p.psz + 1
def Db.psz : Db → Nat
  | .at _ => 1
  | .nm _ => 1
  | .thing => 1
  | .take _ b => b.psz + 1
  | .give f a => f.psz + a.psz + 1
  | .pair a b => a.psz + b.psz + 1
  | .first p => p.psz + 1
  | .second p => p.psz + 1
/-- how often a name stands -/
def nmc : Pg → Str → Nat
  | .nm x, y => if x = y then 1 else 0
  | .thing, _ => 0
  | .take _ _ b, y => nmc b y
  | .give f a, y => nmc f y + nmc a y
  | .pair f a, y => nmc f y + nmc a y
  | .first p, y => nmc p y
  | .second p, y => nmc p y
theorem Pg.psz_pos (p : Pg) : 0 < p.psz := by cases p <;> simp [Pg.psz]
theorem Db.psz_pos (p : Db) : 0 < p.psz := by cases p <;> simp [Db.psz]
theorem dress_psz : ∀ (b : Db) (m : Nat), (dress b m).psz = b.psz
  | .at i, m => rfl
  | .nm x, m => rfl
  | .thing, m => rfl
  | .take k b, m => by simp only [dress, Pg.psz, Db.psz, dress_psz b]
  | .give f a, m => by simp only [dress, Pg.psz, Db.psz, dress_psz f, dress_psz a]
  | .pair f a, m => by simp only [dress, Pg.psz, Db.psz, dress_psz f, dress_psz a]
  | .first f, m => by simp only [dress, Pg.psz, Db.psz, dress_psz f]
  | .second f, m => by simp only [dress, Pg.psz, Db.psz, dress_psz f]
theorem bare_psz : ∀ (p : Pg) (c : List Str), (bare p c).psz = p.psz
  | .nm x, c => by simp only [bare]; cases ri c x <;> rfl
  | .thing, _ => rfl
  | .take x k b, c => by simp only [bare, Db.psz, Pg.psz, bare_psz b]
  | .give f a, c => by simp only [bare, Db.psz, Pg.psz, bare_psz f, bare_psz a]
  | .pair f a, c => by simp only [bare, Db.psz, Pg.psz, bare_psz f, bare_psz a]
  | .first f, c => by simp only [bare, Db.psz, Pg.psz, bare_psz f]
  | .second f, c => by simp only [bare, Db.psz, Pg.psz, bare_psz f]
theorem tidy_psz (p : Pg) (c : List Str) : (tidy p c).psz = p.psz := by rw [tidy_eq, dress_psz, bare_psz]
theorem wgiven_psz {a : Pg} {x : Str} : ∀ b : Pg, ((wgiven b x a).psz : Int) = b.psz + nmc b x * ((a.psz : Int) - 1)
  | .nm y => by
    simp only [wgiven, nmc]
    split <;> simp [Pg.psz] <;> omega
  | .thing => by simp [wgiven, nmc, Pg.psz]
  | .take y k b => by
    have := wgiven_psz (a := a) (x := x) b
    simp only [wgiven, nmc, Pg.psz]
    omega
  | .give f b => by
    have h1 := wgiven_psz (a := a) (x := x) f
    have h2 := wgiven_psz (a := a) (x := x) b
    simp only [wgiven, nmc, Pg.psz]
    have e : ((nmc f x + nmc b x : Nat) : Int) * ((a.psz : Int) - 1) = (nmc f x : Int) * ((a.psz : Int) - 1) + (nmc b x : Int) * ((a.psz : Int) - 1) := by rw [Int.natCast_add, Int.add_mul]
    rw [e]
    omega
  | .pair f b => by
    have h1 := wgiven_psz (a := a) (x := x) f
    have h2 := wgiven_psz (a := a) (x := x) b
    simp only [wgiven, nmc, Pg.psz]
    have e : ((nmc f x + nmc b x : Nat) : Int) * ((a.psz : Int) - 1) = (nmc f x : Int) * ((a.psz : Int) - 1) + (nmc b x : Int) * ((a.psz : Int) - 1) := by rw [Int.natCast_add, Int.add_mul]
    rw [e]
    omega
  | .first b => by
    have := wgiven_psz (a := a) (x := x) b
    simp only [wgiven, nmc, Pg.psz]
    omega
  | .second b => by
    have := wgiven_psz (a := a) (x := x) b
    simp only [wgiven, nmc, Pg.psz]
    omega
theorem withPart_psz {w : Pg} : ∀ (p : Pg) (pl : List Int) (q : Pg), partAt p pl = some q → (withPart p pl w).psz + q.psz = p.psz + w.psz
  | p, [], q, h => by
    simp only [partAt, Option.some.injEq] at h
    subst h
    simp only [withPart]; omega
  | .take x k b, i :: pl, q, h => by
    simp only [partAt] at h
    split at h <;> first | cases h; done | skip
    have := withPart_psz (w := w) b pl q h
    simp only [withPart, Pg.psz]; omega
  | .give f a, i :: pl, q, h => by
    simp only [partAt] at h
    by_cases hi : i = 0
    · rw [if_pos hi] at h
      have := withPart_psz (w := w) f pl q h
      simp only [withPart, if_pos hi, Pg.psz]; omega
    · rw [if_neg hi] at h
      split at h <;> first | cases h; done | skip
      have := withPart_psz (w := w) a pl q h
      simp only [withPart, if_neg hi, Pg.psz]; omega
  | .pair f a, i :: pl, q, h => by
    simp only [partAt] at h
    by_cases hi : i = 0
    · rw [if_pos hi] at h
      have := withPart_psz (w := w) f pl q h
      simp only [withPart, if_pos hi, Pg.psz]; omega
    · rw [if_neg hi] at h
      split at h <;> first | cases h; done | skip
      have := withPart_psz (w := w) a pl q h
      simp only [withPart, if_neg hi, Pg.psz]; omega
  | .first b, i :: pl, q, h => by
    simp only [partAt] at h
    split at h <;> first | cases h; done | skip
    have := withPart_psz (w := w) b pl q h
    simp only [withPart, Pg.psz]; omega
  | .second b, i :: pl, q, h => by
    simp only [partAt] at h
    split at h <;> first | cases h; done | skip
    have := withPart_psz (w := w) b pl q h
    simp only [withPart, Pg.psz]; omega
  | .nm x, i :: pl, q, h => by simp [partAt] at h
  | .thing, i :: pl, q, h => by simp [partAt] at h
/-- what parts_that_come adds up -/
def ptc (p q : Pg) : Int := match q with
  | .give (.take x _ b) a => (p.psz : Int) - q.psz + b.psz + nmc b x * ((a.psz : Int) - 1)
  | _ => (p.psz : Int) - q.psz + (wc q).psz
theorem ptc_eq {p q : Pg} {pl : List Int} (h : partAt p pl = some q) : ptc p q = (stepP p pl).psz := by
  have h1 := withPart_psz (w := wc q) p pl q h
  have es : stepP p pl = withPart p pl (wc q) := by simp only [stepP, h]
  rw [es]
  unfold ptc
  split
  · rename_i x k b a
    have h2 := wgiven_psz (a := a) (x := x) b
    simp only [wc] at h1 ⊢
    omega
  · omega
theorem plcB_psz : ∀ (b : Db) (pl : List Int), (plcB b pl).length < b.psz
  | .at i, _ => by simp [plcB, Db.psz]
  | .nm i, _ => by simp [plcB, Db.psz]
  | .thing, _ => by simp [plcB, Db.psz]
  | .take k b, pl => by have := plcB_psz b (pl ++ [0]); simp only [plcB, Db.psz]; omega
  | .give f a, pl => by
    have := plcB_psz f (pl ++ [0])
    have := plcB_psz a (pl ++ [1])
    have h5 : (if f.isTake then [pl] else []).length ≤ 1 := by split <;> simp
    simp only [plcB, Db.psz, List.length_append]; omega
  | .pair f a, pl => by
    have := plcB_psz f (pl ++ [0])
    have := plcB_psz a (pl ++ [1])
    simp only [plcB, Db.psz, List.length_append]; omega
  | .first f, pl => by
    have := plcB_psz f (pl ++ [0])
    have h5 : (if f.isPair then [pl] else []).length ≤ 1 := by split <;> simp
    simp only [plcB, Db.psz, List.length_append]; omega
  | .second f, pl => by
    have := plcB_psz f (pl ++ [0])
    have h5 : (if f.isPair then [pl] else []).length ≤ 1 := by split <;> simp
    simp only [plcB, Db.psz, List.length_append]; omega
theorem psz_hgt : ∀ p : Pg, p.psz + 1 ≤ 2 ^ (p.hgt + 1)
  | .nm _ => by simp [Pg.psz, Pg.hgt]
  | .thing => by simp [Pg.psz, Pg.hgt]
  | .take _ _ b => by have := psz_hgt b; simp only [Pg.psz, Pg.hgt]; rw [Nat.pow_succ]; omega
  | .first b => by have := psz_hgt b; simp only [Pg.psz, Pg.hgt]; rw [Nat.pow_succ]; omega
  | .second b => by have := psz_hgt b; simp only [Pg.psz, Pg.hgt]; rw [Nat.pow_succ]; omega
  | .give f a => by
    have h1 := psz_hgt f
    have h2 := psz_hgt a
    have h3 : 2 ^ (f.hgt + 1) ≤ 2 ^ (max f.hgt a.hgt + 1) := Nat.pow_le_pow_right (by decide) (by omega)
    have h4 : 2 ^ (a.hgt + 1) ≤ 2 ^ (max f.hgt a.hgt + 1) := Nat.pow_le_pow_right (by decide) (by omega)
    simp only [Pg.psz, Pg.hgt]
    rw [Nat.pow_succ 2 (max f.hgt a.hgt + 1)]
    omega
  | .pair f a => by
    have h1 := psz_hgt f
    have h2 := psz_hgt a
    have h3 : 2 ^ (f.hgt + 1) ≤ 2 ^ (max f.hgt a.hgt + 1) := Nat.pow_le_pow_right (by decide) (by omega)
    have h4 : 2 ^ (a.hgt + 1) ≤ 2 ^ (max f.hgt a.hgt + 1) := Nat.pow_le_pow_right (by decide) (by omega)
    simp only [Pg.psz, Pg.hgt]
    rw [Nat.pow_succ 2 (max f.hgt a.hgt + 1)]
    omega
/-! ### names and kinds are right ones -/
def Db.ok : Db → Prop
  | .at _ => True
  | .nm x => PyData.strOk x = true
  | .thing => True
  | .take k b => k.ok = true ∧ k.depth ≤ 12 ∧ b.ok
  | .give f a => f.ok ∧ a.ok
  | .pair f a => f.ok ∧ a.ok
  | .first p => p.ok
  | .second p => p.ok
theorem ok_movedB : ∀ (b : Db) (f n : Nat), b.ok → (moved b f n).ok
  | .at i, f, n, _ => trivial
  | .nm x, _, _, h => h
  | .thing, _, _, _ => trivial
  | .take k b, f, n, h => ⟨h.1, h.2.1, ok_movedB b _ _ h.2.2⟩
  | .give g a, f, n, h => ⟨ok_movedB g _ _ h.1, ok_movedB a _ _ h.2⟩
  | .pair g a, f, n, h => ⟨ok_movedB g _ _ h.1, ok_movedB a _ _ h.2⟩
  | .first p, f, n, h => ok_movedB p f n h
  | .second p, f, n, h => ok_movedB p f n h
theorem ok_putBd {a : Db} (ha : a.ok) : ∀ (b : Db) (t : Nat), b.ok → (put b t a).ok
  | .at i, t, _ => by
    simp only [put]; split
    · exact ok_movedB a _ _ ha
    · trivial
  | .nm x, _, h => h
  | .thing, _, _ => trivial
  | .take k b, t, h => ⟨h.1, h.2.1, ok_putBd ha b _ h.2.2⟩
  | .give f b, t, h => ⟨ok_putBd ha f t h.1, ok_putBd ha b t h.2⟩
  | .pair f b, t, h => ⟨ok_putBd ha f t h.1, ok_putBd ha b t h.2⟩
  | .first b, t, h => ok_putBd (a := a) ha b t h
  | .second b, t, h => ok_putBd (a := a) ha b t h
theorem ok_stepB : ∀ (b : Db) (pl : List Int), VdB b pl → b.ok → (stepB b pl).ok
  | .give f a, [], ⟨k, c, e⟩, h => by subst e; exact ok_putBd h.2 c 0 h.1.2.2
  | .first p, [], ⟨a, c, e⟩, h => by subst e; exact h.1
  | .second p, [], ⟨a, c, e⟩, h => by subst e; exact h.2
  | .take k b, i :: pl, v, h => ⟨h.1, h.2.1, ok_stepB b pl v.2 h.2.2⟩
  | .give f a, i :: pl, v, h => by
    rcases v with ⟨rfl, v⟩ | ⟨rfl, v⟩
    · simp only [stepB, if_true]; exact ⟨ok_stepB f pl v h.1, h.2⟩
    · simp only [stepB, Int.reduceEq, if_false]; exact ⟨h.1, ok_stepB a pl v h.2⟩
  | .pair f a, i :: pl, v, h => by
    rcases v with ⟨rfl, v⟩ | ⟨rfl, v⟩
    · simp only [stepB, if_true]; exact ⟨ok_stepB f pl v h.1, h.2⟩
    · simp only [stepB, Int.reduceEq, if_false]; exact ⟨h.1, ok_stepB a pl v h.2⟩
  | .first p, i :: pl, v, h => ok_stepB p pl v.2 h
  | .second p, i :: pl, v, h => ok_stepB p pl v.2 h
theorem xn_ok512 : ∀ k, k < 512 → PyData.strOk (xn k) = true := by
  have h : ∀ k ∈ List.range 512, PyData.strOk (xn k) = true := by decide +kernel
  exact fun k hk => h k (List.mem_range.mpr hk)
theorem ok_dressB : ∀ (b : Db) (m : Nat), b.ok → m + b.hgt < 512 → (dress b m).sok = true ∧ (dress b m).dpt ≤ b.hgt + 15
  | .at i, m, _, hm => ⟨xn_ok512 _ (by simp only [Db.hgt] at hm; omega), by simp [dress, Pg.dpt]⟩
  | .nm x, _, h, _ => ⟨h, by simp [dress, Pg.dpt]⟩
  | .thing, _, _, _ => ⟨rfl, by simp [dress, Pg.dpt]⟩
  | .take k b, m, h, hm => by
    simp only [Db.hgt] at hm
    have ih := ok_dressB b (m + 1) h.2.2 (by omega)
    have := h.2.1
    simp only [dress, Pg.sok, Pg.dpt, Db.hgt, xn_ok512 m (by omega), h.1, ih.1, Bool.and_self, true_and]
    omega
  | .give f a, m, h, hm => by
    simp only [Db.hgt] at hm
    have h1 := ok_dressB f m h.1 (by omega)
    have h2 := ok_dressB a m h.2 (by omega)
    simp only [dress, Pg.sok, Pg.dpt, Db.hgt, h1.1, h2.1, Bool.and_self, true_and]
    omega
  | .pair f a, m, h, hm => by
    simp only [Db.hgt] at hm
    have h1 := ok_dressB f m h.1 (by omega)
    have h2 := ok_dressB a m h.2 (by omega)
    simp only [dress, Pg.sok, Pg.dpt, Db.hgt, h1.1, h2.1, Bool.and_self, true_and]
    omega
  | .first p, m, h, hm => by
    simp only [Db.hgt] at hm
    have h1 := ok_dressB p m h (by omega)
    simp only [dress, Pg.sok, Pg.dpt, Db.hgt, h1.1, true_and]
    omega
  | .second p, m, h, hm => by
    simp only [Db.hgt] at hm
    have h1 := ok_dressB p m h (by omega)
    simp only [dress, Pg.sok, Pg.dpt, Db.hgt, h1.1, true_and]
    omega
/-! ### runs -/
theorem plc_place : ∀ (p : Pg) (pl : List Int) (q : List Int), q ∈ plc p pl → q.length ≤ pl.length + p.hgt
  | .nm _, pl, q, h => by simp [plc] at h
  | .thing, pl, q, h => by simp [plc] at h
  | .take _ _ b, pl, q, h => by
    have := plc_place b _ q (by simpa only [plc] using h)
    rw [List.length_append, List.length_singleton] at this
    simp only [Pg.hgt]; omega
  | .give f a, pl, q, h => by
    simp only [plc, List.mem_append] at h
    rcases h with (h | h) | h
    · split at h
      · rw [List.mem_singleton.mp h]; omega
      · cases h
    · have := plc_place f _ q h
      rw [List.length_append, List.length_singleton] at this
      simp only [Pg.hgt]; omega
    · have := plc_place a _ q h
      rw [List.length_append, List.length_singleton] at this
      simp only [Pg.hgt]; omega
  | .pair a b, pl, q, h => by
    simp only [plc, List.mem_append] at h
    rcases h with h | h
    · have := plc_place a _ q h
      rw [List.length_append, List.length_singleton] at this
      simp only [Pg.hgt]; omega
    · have := plc_place b _ q h
      rw [List.length_append, List.length_singleton] at this
      simp only [Pg.hgt]; omega
  | .first p, pl, q, h => by
    simp only [plc, List.mem_append] at h
    rcases h with h | h
    · split at h
      · rw [List.mem_singleton.mp h]; omega
      · cases h
    · have := plc_place p _ q h
      rw [List.length_append, List.length_singleton] at this
      simp only [Pg.hgt]; omega
  | .second p, pl, q, h => by
    simp only [plc, List.mem_append] at h
    rcases h with h | h
    · split at h
      · rw [List.mem_singleton.mp h]; omega
      · cases h
    · have := plc_place p _ q h
      rw [List.length_append, List.length_singleton] at this
      simp only [Pg.hgt]; omega
theorem tidy_hgt : ∀ (p : Pg) (c : List Str), (tidy p c).hgt = p.hgt
  | .nm x, c => by simp only [tidy]; cases ri c x <;> rfl
  | .thing, _ => rfl
  | .take x k b, c => by simp only [tidy, Pg.hgt, tidy_hgt b]
  | .give f a, c => by simp only [tidy, Pg.hgt, tidy_hgt f, tidy_hgt a]
  | .pair f a, c => by simp only [tidy, Pg.hgt, tidy_hgt f, tidy_hgt a]
  | .first f, c => by simp only [tidy, Pg.hgt, tidy_hgt f]
  | .second f, c => by simp only [tidy, Pg.hgt, tidy_hgt f]

structure Good (b : Db) : Prop where
  wf : Wf b 0
  ok : b.ok
  hg : b.hgt ≤ 100
  sz : b.psz ≤ 4194304
/-- the place's number at a turn -/
def pickN (pks : List Int) (t n : Nat) : Nat := if pks = [] then 0 else (pks.getD (t % pks.length) 0 % (n : Int)).toNat
theorem pickN_lt {pks : List Int} {t n : Nat} (h : 0 < n) : pickN pks t n < n := by
  unfold pickN
  split
  · exact h
  · have h1 := Int.emod_nonneg (pks.getD (t % pks.length) 0) (show (n : Int) ≠ 0 by omega)
    have h2 := Int.emod_lt_of_pos (pks.getD (t % pks.length) 0) (show (0 : Int) < n by omega)
    omega
def pickB (pks : List Int) (t : Nat) (b : Db) : List Int := (plcB b []).getD (pickN pks t (plcB b []).length) []
def runB (pks : List Int) : Nat → Nat → Db → List (List Int) → Option (Db × List (List Int))
  | 0, _, b, log => if plcB b [] = [] then some (b, log) else none
  | f + 1, t, b, log => if plcB b [] = [] then some (b, log) else if 1500 < (stepB b (pickB pks t b)).psz ∨ 100 < (stepB b (pickB pks t b)).hgt then none else runB pks f (t + 1) (stepB b (pickB pks t b)) (log ++ [pickB pks t b])
theorem pickB_mem {pks : List Int} {t : Nat} {b : Db} (h : plcB b [] ≠ []) : pickB pks t b ∈ plcB b [] := by
  unfold pickB
  have hl : 0 < (plcB b []).length := List.length_pos_iff.mpr h
  rw [List.getD_eq_getElem?_getD, List.getElem?_eq_getElem (pickN_lt hl)]
  exact List.getElem_mem _
theorem bd_hgtB : ∀ b : Db, b.bd ≤ b.hgt
  | .at _ => Nat.le_refl _
  | .nm _ => Nat.le_refl _
  | .thing => Nat.le_refl _
  | .take _ b => by have := bd_hgtB b; simp only [Db.bd, Db.hgt]; omega
  | .give f a => by have := bd_hgtB f; have := bd_hgtB a; simp only [Db.bd, Db.hgt]; omega
  | .pair f a => by have := bd_hgtB f; have := bd_hgtB a; simp only [Db.bd, Db.hgt]; omega
  | .first p => by have := bd_hgtB p; simp only [Db.bd, Db.hgt]; omega
  | .second p => by have := bd_hgtB p; simp only [Db.bd, Db.hgt]; omega
/-- what is known of a place of these -/
theorem place_facts {b : Db} (g : Good b) {pl : List Int} (h : pl ∈ plcB b []) : Vd (dress b 0) pl ∧ VdB b pl ∧ pl.length ≤ 100 ∧ tidy (stepP (dress b 0) pl) [] = dress (stepB b pl) 0 ∧ (stepP (dress b 0) pl).psz = (stepB b pl).psz ∧ (stepP (dress b 0) pl).hgt = (stepB b pl).hgt ∧ (stepB b pl).hgt ≤ 200 := by
  rw [← plc_dress b 0] at h
  obtain ⟨r, e, hv⟩ := plc_vd (dress b 0) [] pl h
  rw [List.nil_append] at e
  subst e
  have hb := bd_hgtB b
  have hg := g.hg
  have hvb := vdB_of (dress b 0) pl (xr 0) hv
  rw [bare_dress g.wf (by omega)] at hvb
  have e1 := bare_step b pl 0 g.wf (by omega) hv
  have e2 : tidy (stepP (dress b 0) pl) [] = dress (stepB b pl) 0 := by
    rw [tidy_eq, show ([] : List Str) = xr 0 from rfl, e1]; rfl
  have hlen : ∀ (p : Pg) (pl q : List Int), q ∈ plc p pl → q.length ≤ pl.length + p.hgt := plc_place
  have h1 := hlen _ _ _ h
  rw [dress_hgt, List.length_nil] at h1
  refine ⟨hv, hvb, by omega, e2, ?_, ?_, ?_⟩
  · rw [← tidy_psz _ [], e2, dress_psz]
  · rw [← tidy_hgt _ [], e2, dress_hgt]
  · have := stepB_hgt b pl hvb; omega
theorem good_step {b : Db} (g : Good b) {pl : List Int} (h : pl ∈ plcB b []) (hh : ¬ (1500 < (stepB b pl).psz ∨ 100 < (stepB b pl).hgt)) : Good (stepB b pl) := by
  obtain ⟨_, hv, _⟩ := place_facts g h
  exact ⟨wf_step b pl 0 g.wf hv, ok_stepB b pl hv g.ok, by omega, by omega⟩
theorem run_good {pks : List Int} : ∀ (f t : Nat) (b : Db) (log : List (List Int)) (b' : Db) (log' : List (List Int)), Good b → runB pks f t b log = some (b', log') → Good b' ∧ plcB b' [] = []
  | 0, t, b, log, b', log', g, h => by
    unfold runB at h
    split at h
    · rename_i e; cases h; exact ⟨g, e⟩
    · cases h
  | f + 1, t, b, log, b', log', g, h => by
    unfold runB at h
    split at h
    · rename_i e; cases h; exact ⟨g, e⟩
    · rename_i e
      split at h
      · cases h
      · rename_i hh
        exact run_good f (t + 1) _ _ b' log' (good_step g (pickB_mem e) hh) h
end Kf
/-! Kcf: whichever steps are done, the end is one. -/
namespace Kf
open PySem PySem.Spec L2
open PyProof.Rows hiding St
theorem mv_at_lo {i f n : Nat} (h : i < f) : moved (.at i) f n = .at i := by simp only [moved]; rw [if_neg (by omega)]; rfl
theorem mv_at_hi {i f n : Nat} (h : f ≤ i) : moved (.at i) f n = .at (i + n) := by simp only [moved]; rw [if_pos h]
theorem pt_at_lo {i t : Nat} {g : Db} (h : i < t) : put (.at i) t g = .at i := by simp only [put]; rw [if_neg (by omega), if_neg (by omega)]; rfl
theorem pt_at_eq {t : Nat} {g : Db} : put (.at t) t g = moved g 0 t := by simp [put]
theorem pt_at_hi {i t : Nat} {g : Db} (h : t < i) : put (.at i) t g = .at (i - 1) := by simp only [put]; rw [if_neg (by omega), if_pos h]
theorem mv_mv : ∀ (a : Db) {f f' n m : Nat}, f ≤ f' → f' ≤ f + n → moved (moved a f n) f' m = moved a f (n + m)
  | .at i, f, f', n, m, h1, h2 => by
    by_cases c : f ≤ i
    · rw [mv_at_hi c, mv_at_hi c, mv_at_hi (by omega)]; congr 1; omega
    · rw [mv_at_lo (by omega), mv_at_lo (by omega), mv_at_lo (by omega)]
  | .nm x, _, _, _, _, _, _ => rfl
  | .thing, _, _, _, _, _, _ => rfl
  | .take k b, f, f', n, m, h1, h2 => by simp only [moved]; rw [mv_mv b (by omega) (by omega)]
  | .give g a, f, f', n, m, h1, h2 => by simp only [moved]; rw [mv_mv g h1 h2, mv_mv a h1 h2]
  | .pair g a, f, f', n, m, h1, h2 => by simp only [moved]; rw [mv_mv g h1 h2, mv_mv a h1 h2]
  | .first p, f, f', n, m, h1, h2 => by simp only [moved]; rw [mv_mv p h1 h2]
  | .second p, f, f', n, m, h1, h2 => by simp only [moved]; rw [mv_mv p h1 h2]
theorem mv_comm : ∀ (a : Db) {e f j n : Nat}, e ≤ f → moved (moved a e j) (f + j) n = moved (moved a f n) e j
  | .at i, e, f, j, n, h => by
    by_cases c : f ≤ i
    · rw [mv_at_hi (show e ≤ i by omega), mv_at_hi c, mv_at_hi (by omega), mv_at_hi (by omega)]; congr 1; omega
    · rw [mv_at_lo (show i < f by omega)]
      by_cases d : e ≤ i
      · rw [mv_at_hi d, mv_at_lo (by omega)]
      · rw [mv_at_lo (by omega), mv_at_lo (by omega)]
  | .nm x, _, _, _, _, _ => rfl
  | .thing, _, _, _, _, _ => rfl
  | .take k b, e, f, j, n, h => by
    simp only [moved]
    have := mv_comm b (e := e + 1) (f := f + 1) (j := j) (n := n) (by omega)
    rw [show f + j + 1 = f + 1 + j by omega, this]
  | .give g a, e, f, j, n, h => by simp only [moved]; rw [mv_comm g h, mv_comm a h]
  | .pair g a, e, f, j, n, h => by simp only [moved]; rw [mv_comm g h, mv_comm a h]
  | .first p, e, f, j, n, h => by simp only [moved]; rw [mv_comm p h]
  | .second p, e, f, j, n, h => by simp only [moved]; rw [mv_comm p h]
theorem mv_put : ∀ (b : Db) {a : Db} {j f n : Nat}, moved (put b j a) (f + j) n = put (moved b (f + 1 + j) n) j (moved a f n)
  | .at i, a, j, f, n => by
    by_cases c : i = j
    · subst c
      rw [pt_at_eq, mv_at_lo (show i < f + 1 + i by omega), pt_at_eq, mv_comm a (Nat.zero_le _)]
    · by_cases d : i < j
      · rw [pt_at_lo d, mv_at_lo (by omega), mv_at_lo (by omega), pt_at_lo d]
      · rw [pt_at_hi (by omega)]
        by_cases e : f + 1 + j ≤ i
        · rw [mv_at_hi (by omega), mv_at_hi e, pt_at_hi (by omega)]; congr 1; omega
        · rw [mv_at_lo (by omega), mv_at_lo (by omega), pt_at_hi (by omega)]
  | .nm x, _, _, _, _ => rfl
  | .thing, _, _, _, _ => rfl
  | .take k b, a, j, f, n => by
    simp only [moved, put]
    have := mv_put b (a := a) (j := j + 1) (f := f) (n := n)
    rw [show f + j + 1 = f + (j + 1) by omega, this, show f + 1 + (j + 1) = f + 1 + j + 1 by omega]
  | .give g c, a, j, f, n => by simp only [moved, put]; rw [mv_put g, mv_put c]
  | .pair g c, a, j, f, n => by simp only [moved, put]; rw [mv_put g, mv_put c]
  | .first p, a, j, f, n => by simp only [moved, put]; rw [mv_put p]
  | .second p, a, j, f, n => by simp only [moved, put]; rw [mv_put p]
theorem pt_mv : ∀ (a : Db) {g : Db} {e n t : Nat}, e ≤ t → t ≤ e + n → put (moved a e (n + 1)) t g = moved a e n
  | .at i, g, e, n, t, h1, h2 => by
    by_cases c : e ≤ i
    · rw [mv_at_hi c, mv_at_hi c, pt_at_hi (by omega)]; congr 1
    · rw [mv_at_lo (by omega), mv_at_lo (by omega), pt_at_lo (by omega)]
  | .nm x, _, _, _, _, _, _ => rfl
  | .thing, _, _, _, _, _, _ => rfl
  | .take k b, g, e, n, t, h1, h2 => by simp only [moved, put]; rw [pt_mv b (by omega) (by omega)]
  | .give f a, g, e, n, t, h1, h2 => by simp only [moved, put]; rw [pt_mv f h1 h2, pt_mv a h1 h2]
  | .pair f a, g, e, n, t, h1, h2 => by simp only [moved, put]; rw [pt_mv f h1 h2, pt_mv a h1 h2]
  | .first p, g, e, n, t, h1, h2 => by simp only [moved, put]; rw [pt_mv p h1 h2]
  | .second p, g, e, n, t, h1, h2 => by simp only [moved, put]; rw [pt_mv p h1 h2]
theorem pt_mv2 : ∀ (a : Db) {g : Db} {e j t : Nat}, e ≤ t → put (moved a e j) (t + j) g = moved (put a t g) e j
  | .at i, g, e, j, t, h => by
    by_cases c : i = t
    · subst c
      rw [mv_at_hi h, pt_at_eq, pt_at_eq, mv_mv g (Nat.zero_le _) (by omega)]
    · by_cases d : i < t
      · rw [pt_at_lo d]
        by_cases e' : e ≤ i
        · rw [mv_at_hi e', pt_at_lo (by omega)]
        · rw [mv_at_lo (by omega), pt_at_lo (by omega)]
      · rw [pt_at_hi (by omega), mv_at_hi (by omega), mv_at_hi (by omega), pt_at_hi (by omega)]; congr 1; omega
  | .nm x, _, _, _, _, _ => rfl
  | .thing, _, _, _, _, _ => rfl
  | .take k b, g, e, j, t, h => by
    simp only [moved, put]
    have := pt_mv2 b (g := g) (e := e + 1) (j := j) (t := t + 1) (by omega)
    rw [show t + j + 1 = t + 1 + j by omega, this]
  | .give f a, g, e, j, t, h => by simp only [moved, put]; rw [pt_mv2 f h, pt_mv2 a h]
  | .pair f a, g, e, j, t, h => by simp only [moved, put]; rw [pt_mv2 f h, pt_mv2 a h]
  | .first p, g, e, j, t, h => by simp only [moved, put]; rw [pt_mv2 p h]
  | .second p, g, e, j, t, h => by simp only [moved, put]; rw [pt_mv2 p h]
theorem pt_pt : ∀ (b : Db) {a g : Db} {j t : Nat}, put (put b j a) (t + j) g = put (put b (t + j + 1) g) j (put a t g)
  | .at i, a, g, j, t => by
    by_cases c : i = j
    · subst c
      rw [pt_at_eq, pt_at_lo (show i < t + i + 1 by omega), pt_at_eq, pt_mv2 a (Nat.zero_le _)]
    · by_cases d : i < j
      · rw [pt_at_lo d, pt_at_lo (by omega), pt_at_lo (by omega), pt_at_lo d]
      · rw [pt_at_hi (show j < i by omega)]
        by_cases e : i = t + j + 1
        · subst e
          rw [show t + j + 1 - 1 = t + j by omega, pt_at_eq, pt_at_eq, pt_mv g (Nat.zero_le _) (by omega)]
        · by_cases e2 : i < t + j + 1
          · rw [pt_at_lo (by omega), pt_at_lo (by omega), pt_at_hi (by omega)]
          · rw [pt_at_hi (by omega), pt_at_hi (by omega), pt_at_hi (by omega)]
  | .nm x, _, _, _, _ => rfl
  | .thing, _, _, _, _ => rfl
  | .take k b, a, g, j, t => by
    simp only [put]
    have := pt_pt b (a := a) (g := g) (j := j + 1) (t := t)
    rw [show t + j + 1 = t + (j + 1) by omega, this]
  | .give f c, a, g, j, t => by simp only [put]; rw [pt_pt f, pt_pt c]
  | .pair f c, a, g, j, t => by simp only [put]; rw [pt_pt f, pt_pt c]
  | .first p, a, g, j, t => by simp only [put]; rw [pt_pt p]
  | .second p, a, g, j, t => by simp only [put]; rw [pt_pt p]
/-- some of the steps that can be done, all at once -/
inductive Par : Db → Db → Prop
  | at (i : Nat) : Par (.at i) (.at i)
  | nm (x : Str) : Par (.nm x) (.nm x)
  | thing : Par .thing .thing
  | take (k : Kd) {b b' : Db} : Par b b' → Par (.take k b) (.take k b')
  | give {f f' a a' : Db} : Par f f' → Par a a' → Par (.give f a) (.give f' a')
  | pair {f f' a a' : Db} : Par f f' → Par a a' → Par (.pair f a) (.pair f' a')
  | first {p p' : Db} : Par p p' → Par (.first p) (.first p')
  | second {p p' : Db} : Par p p' → Par (.second p) (.second p')
  | beta (k : Kd) {b b' a a' : Db} : Par b b' → Par a a' → Par (.give (.take k b) a) (put b' 0 a')
  | fst {a a' : Db} (c : Db) : Par a a' → Par (.first (.pair a c)) a'
  | snd {a a' : Db} (c : Db) : Par a a' → Par (.second (.pair c a)) a'
theorem Par.refl : ∀ b : Db, Par b b
  | .at i => .at i
  | .nm x => .nm x
  | .thing => .thing
  | .take k b => .take k (Par.refl b)
  | .give f a => .give (Par.refl f) (Par.refl a)
  | .pair f a => .pair (Par.refl f) (Par.refl a)
  | .first p => .first (Par.refl p)
  | .second p => .second (Par.refl p)
theorem Par.mv {b b' : Db} (h : Par b b') : ∀ (f n : Nat), Par (moved b f n) (moved b' f n) := by
  induction h with
  | «at» i => intro f n; exact Par.refl _
  | nm x => intro f n; exact Par.refl _
  | thing => intro f n; exact Par.refl _
  | take k _ ih => intro f n; exact .take k (ih (f + 1) n)
  | give _ _ ih1 ih2 => intro f n; exact .give (ih1 f n) (ih2 f n)
  | pair _ _ ih1 ih2 => intro f n; exact .pair (ih1 f n) (ih2 f n)
  | first _ ih => intro f n; exact .first (ih f n)
  | second _ ih => intro f n; exact .second (ih f n)
  | @beta k b b' a a' _ _ ih1 ih2 =>
    intro f n
    have e := mv_put b' (a := a') (j := 0) (f := f) (n := n)
    rw [Nat.add_zero, Nat.add_zero] at e
    rw [e]
    exact .beta k (ih1 (f + 1) n) (ih2 f n)
  | fst c _ ih => intro f n; exact .fst _ (ih f n)
  | snd c _ ih => intro f n; exact .snd _ (ih f n)
theorem Par.pt {b b' : Db} (h : Par b b') : ∀ {a a' : Db} (t : Nat), Par a a' → Par (put b t a) (put b' t a') := by
  induction h with
  | «at» i =>
    intro a a' t ha
    by_cases c : i = t
    · subst c; rw [pt_at_eq, pt_at_eq]; exact ha.mv 0 i
    · by_cases d : i < t
      · rw [pt_at_lo d, pt_at_lo d]; exact .at i
      · rw [pt_at_hi (by omega), pt_at_hi (by omega)]; exact .at _
  | nm x => intro a a' t ha; exact .nm x
  | thing => intro a a' t ha; exact .thing
  | take k _ ih => intro a a' t ha; exact .take k (ih (t + 1) ha)
  | give _ _ ih1 ih2 => intro a a' t ha; exact .give (ih1 t ha) (ih2 t ha)
  | pair _ _ ih1 ih2 => intro a a' t ha; exact .pair (ih1 t ha) (ih2 t ha)
  | first _ ih => intro a a' t ha; exact .first (ih t ha)
  | second _ ih => intro a a' t ha; exact .second (ih t ha)
  | @beta k b b' c c' _ _ ih1 ih2 =>
    intro a a' t ha
    have e := pt_pt b' (a := c') (g := a') (j := 0) (t := t)
    rw [Nat.add_zero] at e
    rw [e]
    exact .beta k (ih1 (t + 1) ha) (ih2 t ha)
  | fst c _ ih => intro a a' t ha; exact .fst _ (ih t ha)
  | snd c _ ih => intro a a' t ha; exact .snd _ (ih t ha)
/-- all steps that can be done, at once -/
def dev : Db → Db
  | .at i => .at i
  | .nm x => .nm x
  | .thing => .thing
  | .take k b => .take k (dev b)
  | .give (.take _ b) a => put (dev b) 0 (dev a)
  | .give f a => .give (dev f) (dev a)
  | .pair f a => .pair (dev f) (dev a)
  | .first (.pair a _) => dev a
  | .first p => .first (dev p)
  | .second (.pair _ a) => dev a
  | .second p => .second (dev p)
theorem Par.take_inv {k : Kd} {b c : Db} (h : Par (.take k b) c) : ∃ b', c = .take k b' ∧ Par b b' := by
  cases h with
  | take _ h => exact ⟨_, rfl, h⟩
theorem Par.pair_inv {a b c : Db} (h : Par (.pair a b) c) : ∃ a' b', c = .pair a' b' ∧ Par a a' ∧ Par b b' := by
  cases h with
  | pair h1 h2 => exact ⟨_, _, rfl, h1, h2⟩
theorem Par.dev {b c : Db} (h : Par b c) : Par c (dev b) := by
  induction h with
  | «at» i => exact .at i
  | nm x => exact .nm x
  | thing => exact .thing
  | take k _ ih => exact .take k ih
  | @give f f' a a' hf ha ih1 ih2 =>
    cases f with
    | take k b =>
      obtain ⟨b', rfl, hb⟩ := hf.take_inv
      simp only [Kf.dev] at ih1 ⊢
      obtain ⟨b2, e, hb2⟩ := ih1.take_inv
      cases e
      exact .beta k hb2 ih2
    | _ => exact .give ih1 ih2
  | pair _ _ ih1 ih2 => exact .pair ih1 ih2
  | @first p p' hp ih =>
    cases p with
    | pair a b =>
      obtain ⟨a', b', rfl, ha, hb⟩ := hp.pair_inv
      simp only [Kf.dev] at ih ⊢
      obtain ⟨a2, b2, e, h1, h2⟩ := ih.pair_inv
      cases e
      exact .fst _ h1
    | _ => exact .first ih
  | @second p p' hp ih =>
    cases p with
    | pair a b =>
      obtain ⟨a', b', rfl, ha, hb⟩ := hp.pair_inv
      simp only [Kf.dev] at ih ⊢
      obtain ⟨a2, b2, e, h1, h2⟩ := ih.pair_inv
      cases e
      exact .snd _ h2
    | _ => exact .second ih
  | beta k _ _ ih1 ih2 => simp only [Kf.dev]; exact ih1.pt 0 ih2
  | fst c _ ih => simp only [Kf.dev]; exact ih
  | snd c _ ih => simp only [Kf.dev]; exact ih
/-- one after another -/
inductive Pars : Db → Db → Prop
  | nil (b : Db) : Pars b b
  | cons {a b c : Db} : Par a b → Pars b c → Pars a c
theorem Pars.strip {a b c : Db} (h : Pars a c) (hb : Par a b) : ∃ d, Pars b d ∧ Par c d := by
  induction h generalizing b with
  | nil a => exact ⟨b, .nil b, hb⟩
  | @cons a x c h1 h2 ih =>
    obtain ⟨d, k1, k2⟩ := ih (b := Kf.dev a) h1.dev
    exact ⟨d, .cons hb.dev k1, k2⟩
theorem Pars.trans {a b c : Db} (h : Pars a b) (h' : Pars b c) : Pars a c := by
  induction h with
  | nil _ => exact h'
  | cons h1 _ ih => exact .cons h1 (ih h')
theorem Pars.diamond {a b c : Db} (h : Pars a b) (h' : Pars a c) : ∃ d, Pars b d ∧ Pars c d := by
  induction h generalizing c with
  | nil a => exact ⟨c, h', .nil c⟩
  | @cons a x b h1 h2 ih =>
    obtain ⟨d, k1, k2⟩ := h'.strip h1
    obtain ⟨e, m1, m2⟩ := ih k1
    exact ⟨e, m1, .cons k2 m2⟩
theorem nf_par {b c : Db} (h : Par b c) : ∀ pl, plcB b pl = [] → c = b := by
  induction h with
  | «at» i => intro pl h; rfl
  | nm x => intro pl h; rfl
  | thing => intro pl h; rfl
  | take k _ ih => intro pl h; simp only [plcB] at h; rw [ih _ h]
  | give _ _ ih1 ih2 =>
    intro pl h
    simp only [plcB, List.append_eq_nil_iff] at h
    rw [ih1 _ h.1.2, ih2 _ h.2]
  | pair _ _ ih1 ih2 =>
    intro pl h
    simp only [plcB, List.append_eq_nil_iff] at h
    rw [ih1 _ h.1, ih2 _ h.2]
  | first _ ih =>
    intro pl h
    simp only [plcB, List.append_eq_nil_iff] at h
    rw [ih _ h.2]
  | second _ ih =>
    intro pl h
    simp only [plcB, List.append_eq_nil_iff] at h
    rw [ih _ h.2]
  | beta k _ _ _ _ => intro pl h; simp [plcB, Db.isTake] at h
  | fst c _ _ => intro pl h; simp [plcB, Db.isPair] at h
  | snd c _ _ => intro pl h; simp [plcB, Db.isPair] at h
theorem nf_pars {b c : Db} (h : Pars b c) (hn : plcB b [] = []) : c = b := by
  induction h with
  | nil _ => rfl
  | cons h1 _ ih =>
    have e := nf_par h1 [] hn
    subst e
    exact ih hn
theorem step_par : ∀ (b : Db) (pl : List Int), VdB b pl → Par b (stepB b pl)
  | .give f a, [], ⟨k, c, e⟩ => by subst e; exact .beta k (Par.refl _) (Par.refl _)
  | .first p, [], ⟨a, c, e⟩ => by subst e; exact .fst _ (Par.refl _)
  | .second p, [], ⟨a, c, e⟩ => by subst e; exact .snd _ (Par.refl _)
  | .take k b, i :: pl, h => .take k (step_par b pl h.2)
  | .give f a, i :: pl, h => by
    rcases h with ⟨rfl, h⟩ | ⟨rfl, h⟩
    · simp only [stepB, if_true]; exact .give (step_par f pl h) (Par.refl _)
    · simp only [stepB, Int.reduceEq, if_false]; exact .give (Par.refl _) (step_par a pl h)
  | .pair f a, i :: pl, h => by
    rcases h with ⟨rfl, h⟩ | ⟨rfl, h⟩
    · simp only [stepB, if_true]; exact .pair (step_par f pl h) (Par.refl _)
    · simp only [stepB, Int.reduceEq, if_false]; exact .pair (Par.refl _) (step_par a pl h)
  | .first p, i :: pl, h => .first (step_par p pl h.2)
  | .second p, i :: pl, h => .second (step_par p pl h.2)
theorem run_pars {pks : List Int} : ∀ (f t : Nat) (b : Db) (log : List (List Int)) (b' : Db) (log' : List (List Int)), Good b → runB pks f t b log = some (b', log') → Pars b b'
  | 0, t, b, log, b', log', g, h => by
    unfold runB at h
    split at h
    · cases h; exact .nil _
    · cases h
  | f + 1, t, b, log, b', log', g, h => by
    unfold runB at h
    split at h
    · cases h; exact .nil _
    · rename_i e
      split at h
      · cases h
      · rename_i hh
        have hm := pickB_mem (pks := pks) (t := t) e
        exact .cons (step_par _ _ (place_facts g hm).2.1) (run_pars f (t + 1) _ _ b' log' (good_step g hm hh) h)
/-- whatever the picks, one end -/
theorem one_end {b b1 b2 c1 c2 : Db} {p1 p2 : List Int} {l1 l2 : List (List Int)} (g1 : Good b1) (g2 : Good b2) (s1 : Pars b b1) (s2 : Pars b b2) (h1 : runB p1 200 0 b1 [] = some (c1, l1)) (h2 : runB p2 200 0 b2 [] = some (c2, l2)) : c1 = c2 := by
  have k1 := s1.trans (run_pars 200 0 b1 [] c1 l1 g1 h1)
  have k2 := s2.trans (run_pars 200 0 b2 [] c2 l2 g2 h2)
  obtain ⟨d, m1, m2⟩ := k1.diamond k2
  rw [← nf_pars m1 (run_good 200 0 b1 [] c1 l1 g1 h1).2, ← nf_pars m2 (run_good 200 0 b2 [] c2 l2 g2 h2).2]
end Kf
/-! Ksz: how great a program becomes by one step; places of a tidied program. -/
namespace Kf
open PySem PySem.Spec L2
open PyProof.Rows hiding St
theorem moved_psz : ∀ (b : Db) (f n : Nat), (moved b f n).psz = b.psz
  | .at i, f, n => rfl
  | .nm x, _, _ => rfl
  | .thing, _, _ => rfl
  | .take k b, f, n => by simp only [moved, Db.psz, moved_psz b]
  | .give g a, f, n => by simp only [moved, Db.psz, moved_psz g, moved_psz a]
  | .pair g a, f, n => by simp only [moved, Db.psz, moved_psz g, moved_psz a]
  | .first p, f, n => by simp only [moved, Db.psz, moved_psz p]
  | .second p, f, n => by simp only [moved, Db.psz, moved_psz p]
theorem put_psz {a : Db} : ∀ (b : Db) (t : Nat), (put b t a).psz ≤ b.psz * a.psz
  | .at i, t => by
    simp only [put, Db.psz, Nat.one_mul]
    split
    · rw [moved_psz]; omega
    · exact a.psz_pos
  | .nm x, _ => by simp only [put, Db.psz, Nat.one_mul]; exact a.psz_pos
  | .thing, _ => by simp only [put, Db.psz, Nat.one_mul]; exact a.psz_pos
  | .take k b, t => by have := put_psz (a := a) b (t + 1); have := a.psz_pos; simp only [put, Db.psz, Nat.add_mul, Nat.one_mul]; omega
  | .give f b, t => by have := put_psz (a := a) f t; have := put_psz (a := a) b t; have := a.psz_pos; simp only [put, Db.psz, Nat.add_mul, Nat.one_mul]; omega
  | .pair f b, t => by have := put_psz (a := a) f t; have := put_psz (a := a) b t; have := a.psz_pos; simp only [put, Db.psz, Nat.add_mul, Nat.one_mul]; omega
  | .first b, t => by have := put_psz (a := a) b t; have := a.psz_pos; simp only [put, Db.psz, Nat.add_mul, Nat.one_mul]; omega
  | .second b, t => by have := put_psz (a := a) b t; have := a.psz_pos; simp only [put, Db.psz, Nat.add_mul, Nat.one_mul]; omega
theorem sq_add {s p r : Nat} (h : 4 * s ≤ p * p) (hp : 2 ≤ p) : 4 * (s + r) ≤ (p + r) * (p + r) := by
  have e : (p + r) * (p + r) = p * p + p * r + (r * p + r * r) := by rw [Nat.add_mul, Nat.mul_add, Nat.mul_add]
  have h1 : 2 * r ≤ p * r := Nat.mul_le_mul_right r hp
  have h2 : r * p = p * r := Nat.mul_comm _ _
  omega
theorem sq_exp (c d : Nat) : (2 * c + d) * (2 * c + d) = 4 * (c * c) + 4 * (c * d) + d * d := by
  have e1 : 2 * c * (2 * c) = 4 * (c * c) := by rw [Nat.mul_mul_mul_comm]
  have e2 : 2 * c * d = 2 * (c * d) := Nat.mul_assoc _ _ _
  have e3 : d * (2 * c) = 2 * (c * d) := by rw [Nat.mul_left_comm, Nat.mul_comm d c]
  rw [Nat.add_mul, Nat.mul_add, Nat.mul_add, e1, e2, e3]
  omega
theorem sq4 (c a : Nat) : 4 * (c * a) ≤ (c + a) * (c + a) := by
  rcases Nat.le_total c a with h | h
  · obtain ⟨d, rfl⟩ := Nat.exists_eq_add_of_le h
    rw [show c + (c + d) = 2 * c + d by omega, sq_exp, Nat.mul_add]; omega
  · obtain ⟨d, rfl⟩ := Nat.exists_eq_add_of_le h
    rw [show a + d + a = 2 * a + d by omega, sq_exp, Nat.add_mul, Nat.mul_comm d a]; omega
theorem sq_up {x y : Nat} (h : x ≤ y) : x * x ≤ y * y := Nat.mul_le_mul h h
theorem step_psz : ∀ (b : Db) (pl : List Int), VdB b pl → 4 * (stepB b pl).psz ≤ b.psz * b.psz ∧ 2 ≤ b.psz
  | .give f a, [], ⟨k, c, e⟩ => by
    subst e
    have h1 := put_psz (a := a) c 0
    have h2 := sq4 c.psz a.psz
    have h3 := sq_up (show c.psz + a.psz ≤ c.psz + 1 + a.psz + 1 by omega)
    simp only [stepB, Db.psz]
    exact ⟨by omega, by omega⟩
  | .first p, [], ⟨a, c, e⟩ => by
    subst e
    have h2 : 4 * a.psz ≤ (a.psz + 2) * (a.psz + 2) := by rw [Nat.add_mul, Nat.mul_add]; omega
    have h3 := sq_up (show a.psz + 2 ≤ a.psz + c.psz + 1 + 1 by have := c.psz_pos; omega)
    simp only [stepB, Db.psz]
    exact ⟨by omega, by omega⟩
  | .second p, [], ⟨a, c, e⟩ => by
    subst e
    have h2 : 4 * c.psz ≤ (c.psz + 2) * (c.psz + 2) := by rw [Nat.add_mul, Nat.mul_add]; omega
    have h3 := sq_up (show c.psz + 2 ≤ a.psz + c.psz + 1 + 1 by have := a.psz_pos; omega)
    simp only [stepB, Db.psz]
    exact ⟨by omega, by omega⟩
  | .take k b, i :: pl, h => by
    have ih := step_psz b pl h.2
    simp only [stepB, Db.psz]
    exact ⟨sq_add ih.1 ih.2, by omega⟩
  | .give f a, i :: pl, h => by
    rcases h with ⟨rfl, h⟩ | ⟨rfl, h⟩
    · have ih := step_psz f pl h
      have := sq_add (r := a.psz + 1) ih.1 ih.2
      simp only [stepB, if_true, Db.psz, Nat.add_assoc]
      exact ⟨this, by omega⟩
    · have ih := step_psz a pl h
      have := sq_add (r := f.psz + 1) ih.1 ih.2
      simp only [stepB, Int.reduceEq, if_false, Db.psz]
      rw [show f.psz + (stepB a pl).psz + 1 = (stepB a pl).psz + (f.psz + 1) by omega, show f.psz + a.psz + 1 = a.psz + (f.psz + 1) by omega]
      exact ⟨this, by omega⟩
  | .pair f a, i :: pl, h => by
    rcases h with ⟨rfl, h⟩ | ⟨rfl, h⟩
    · have ih := step_psz f pl h
      have := sq_add (r := a.psz + 1) ih.1 ih.2
      simp only [stepB, if_true, Db.psz, Nat.add_assoc]
      exact ⟨this, by omega⟩
    · have ih := step_psz a pl h
      have := sq_add (r := f.psz + 1) ih.1 ih.2
      simp only [stepB, Int.reduceEq, if_false, Db.psz]
      rw [show f.psz + (stepB a pl).psz + 1 = (stepB a pl).psz + (f.psz + 1) by omega, show f.psz + a.psz + 1 = a.psz + (f.psz + 1) by omega]
      exact ⟨this, by omega⟩
  | .first p, i :: pl, h => by
    have ih := step_psz p pl h.2
    simp only [stepB, Db.psz]
    exact ⟨sq_add ih.1 ih.2, by omega⟩
  | .second p, i :: pl, h => by
    have ih := step_psz p pl h.2
    simp only [stepB, Db.psz]
    exact ⟨sq_add ih.1 ih.2, by omega⟩
theorem step_psz' {b : Db} {pl : List Int} (h : VdB b pl) (hb : b.psz ≤ 4095) : (stepB b pl).psz ≤ 4194304 := by
  have h1 := (step_psz b pl h).1
  have h2 := sq_up hb
  have h3 : (4095 : Nat) * 4095 = 16769025 := by decide
  omega
theorem bare_isTake (p : Pg) (c : List Str) : (bare p c).isTake = p.isTake := by
  cases p with
  | nm x => simp only [bare]; cases ri c x <;> rfl
  | _ => rfl
theorem bare_isPair (p : Pg) (c : List Str) : (bare p c).isPair = p.isPair := by
  cases p with
  | nm x => simp only [bare]; cases ri c x <;> rfl
  | _ => rfl
theorem plc_bare : ∀ (p : Pg) (c : List Str) (pl : List Int), plcB (bare p c) pl = plc p pl
  | .nm x, c, pl => by simp only [bare, plc]; cases ri c x <;> rfl
  | .thing, c, pl => rfl
  | .take x k b, c, pl => by simp only [bare, plc, plcB, plc_bare b]
  | .give f a, c, pl => by simp only [bare, plc, plcB, plc_bare f, plc_bare a, bare_isTake]
  | .pair f a, c, pl => by simp only [bare, plc, plcB, plc_bare f, plc_bare a]
  | .first f, c, pl => by simp only [bare, plc, plcB, plc_bare f, bare_isPair]
  | .second f, c, pl => by simp only [bare, plc, plcB, plc_bare f, bare_isPair]
/-- a dressed one, bare again -/
theorem bare_dress0 {b : Db} (h : Wf b 0) (hb : b.hgt < 500) : bare (dress b 0) [] = b := by
  have := bare_dress (m := 0) h (by have := bd_hgtB b; omega)
  exact this
end Kf
/-! Kty: kinds of programs whose names are numbers; steps keep them. -/
namespace Kf
open PySem PySem.Spec L2
open PyProof.Rows hiding St
section
variable {e : Str → Option Kd}
def hasB (e : Str → Option Kd) : List Kd → Db → Kd → Prop
  | G, .at i, k => G[i]? = some k
  | _, .nm x, k => e x = some k
  | _, .thing, k => k = .one
  | G, .take a b, k => ∃ r, k = .to a r ∧ hasB e (a :: G) b r
  | G, .give f a, k => ∃ c, hasB e G f (.to c k) ∧ hasB e G a c
  | G, .pair a b, k => ∃ c d, k = .both c d ∧ hasB e G a c ∧ hasB e G b d
  | G, .first p, k => ∃ d, hasB e G p (.both k d)
  | G, .second p, k => ∃ c, hasB e G p (.both c k)
theorem hb_moved {D G2 : List Kd} : ∀ (b : Db) (G1 : List Kd) (k : Kd), hasB e (G1 ++ G2) b k → hasB e (G1 ++ (D ++ G2)) (moved b G1.length D.length) k
  | .at i, G1, k, h => by
    simp only [hasB, moved] at h ⊢
    by_cases c : G1.length ≤ i
    · rw [if_pos c, List.getElem?_append_right (by omega), List.getElem?_append_right (by omega)]
      rw [List.getElem?_append_right c] at h
      rw [← h]; congr 1; omega
    · rw [if_neg c, Nat.add_zero, List.getElem?_append_left (by omega)]
      rw [List.getElem?_append_left (by omega)] at h
      exact h
  | .nm x, _, _, h => h
  | .thing, _, _, h => h
  | .take a b, G1, k, ⟨r, e1, h⟩ => ⟨r, e1, hb_moved b (a :: G1) r h⟩
  | .give f a, G1, k, ⟨c, h1, h2⟩ => ⟨c, hb_moved f G1 _ h1, hb_moved a G1 _ h2⟩
  | .pair f a, G1, k, ⟨c, d, e1, h1, h2⟩ => ⟨c, d, e1, hb_moved f G1 _ h1, hb_moved a G1 _ h2⟩
  | .first p, G1, k, ⟨d, h⟩ => ⟨d, hb_moved p G1 _ h⟩
  | .second p, G1, k, ⟨d, h⟩ => ⟨d, hb_moved p G1 _ h⟩
theorem hb_put {G2 : List Kd} {d : Kd} {a : Db} (ha : hasB e G2 a d) : ∀ (b : Db) (G1 : List Kd) (k : Kd), hasB e (G1 ++ d :: G2) b k → hasB e (G1 ++ G2) (put b G1.length a) k
  | .at i, G1, k, h => by
    simp only [hasB, put] at h ⊢
    by_cases c : i = G1.length
    · subst c
      rw [if_pos rfl]
      rw [List.getElem?_append_right (by omega), Nat.sub_self, List.getElem?_cons_zero] at h
      cases h
      exact hb_moved (D := G1) (G2 := G2) a [] d ha
    · rw [if_neg c]
      simp only [hasB]
      by_cases c2 : G1.length < i
      · rw [if_pos c2, List.getElem?_append_right (by omega)]
        rw [List.getElem?_append_right (by omega), List.getElem?_cons] at h
        rw [if_neg (by omega)] at h
        rw [← h]; congr 1; omega
      · rw [if_neg c2, Nat.sub_zero, List.getElem?_append_left (by omega)]
        rw [List.getElem?_append_left (by omega)] at h
        exact h
  | .nm x, _, _, h => h
  | .thing, _, _, h => h
  | .take c b, G1, k, ⟨r, e1, h⟩ => ⟨r, e1, hb_put ha b (c :: G1) r h⟩
  | .give f b, G1, k, ⟨c, h1, h2⟩ => ⟨c, hb_put ha f G1 _ h1, hb_put ha b G1 _ h2⟩
  | .pair f b, G1, k, ⟨c, d, e1, h1, h2⟩ => ⟨c, d, e1, hb_put ha f G1 _ h1, hb_put ha b G1 _ h2⟩
  | .first p, G1, k, ⟨d, h⟩ => ⟨d, hb_put ha p G1 _ h⟩
  | .second p, G1, k, ⟨d, h⟩ => ⟨d, hb_put ha p G1 _ h⟩
theorem hb_step : ∀ (b : Db) (pl : List Int) (G : List Kd) (k : Kd), VdB b pl → hasB e G b k → hasB e G (stepB b pl) k
  | .give f a, [], G, k, ⟨kk, c, eq⟩, ⟨d, h1, h2⟩ => by
    subst eq
    obtain ⟨r, e1, h1⟩ := h1
    injection e1 with e2 e3
    subst e2 e3
    exact hb_put h2 c [] k h1
  | .first p, [], G, k, ⟨a, c, eq⟩, ⟨d, h⟩ => by
    subst eq
    obtain ⟨c1, d1, e1, h1, h2⟩ := h
    injection e1 with e2 e3
    subst e2 e3
    exact h1
  | .second p, [], G, k, ⟨a, c, eq⟩, ⟨d, h⟩ => by
    subst eq
    obtain ⟨c1, d1, e1, h1, h2⟩ := h
    injection e1 with e2 e3
    subst e2 e3
    exact h2
  | .take a b, i :: pl, G, k, v, ⟨r, e1, h⟩ => ⟨r, e1, hb_step b pl (a :: G) r v.2 h⟩
  | .give f a, i :: pl, G, k, v, ⟨c, h1, h2⟩ => by
    rcases v with ⟨rfl, v⟩ | ⟨rfl, v⟩
    · simp only [stepB, if_true]; exact ⟨c, hb_step f pl G _ v h1, h2⟩
    · simp only [stepB, Int.reduceEq, if_false]; exact ⟨c, h1, hb_step a pl G _ v h2⟩
  | .pair f a, i :: pl, G, k, v, ⟨c, d, e1, h1, h2⟩ => by
    rcases v with ⟨rfl, v⟩ | ⟨rfl, v⟩
    · simp only [stepB, if_true]; exact ⟨c, d, e1, hb_step f pl G _ v h1, h2⟩
    · simp only [stepB, Int.reduceEq, if_false]; exact ⟨c, d, e1, h1, hb_step a pl G _ v h2⟩
  | .first p, i :: pl, G, k, v, ⟨d, h⟩ => ⟨d, hb_step p pl G _ v.2 h⟩
  | .second p, i :: pl, G, k, v, ⟨d, h⟩ => ⟨d, hb_step p pl G _ v.2 h⟩
/-- what names are within takes -/
def eN (e : Str → Option Kd) (c : List Str) (G : List Kd) : Str → Option Kd := fun x => match ri c x with
  | some i => G[i]?
  | none => e x
theorem eN_cons (c : List Str) (G : List Kd) (x : Str) (a : Kd) : (fun y => if x = y then some a else eN e c G y) = eN e (x :: c) (a :: G) := by
  funext y
  unfold eN
  simp only [ri]
  by_cases h : x = y
  · rw [if_pos h, if_pos h]; rfl
  · rw [if_neg h, if_neg h]
    cases ri c y <;> rfl
theorem bare_has : ∀ (p : Pg) (c : List Str) (G : List Kd) (k : Kd), hasK (eN e c G) p k → hasB e G (bare p c) k
  | .nm x, c, G, k, h => by
    simp only [hasK, eN] at h
    simp only [bare]
    cases hr : ri c x with
    | none => rw [hr] at h; exact h
    | some i => rw [hr] at h; exact h
  | .thing, _, _, _, h => h
  | .take x a b, c, G, k, ⟨r, e1, h⟩ => ⟨r, e1, bare_has b (x :: c) (a :: G) r (by rw [← eN_cons]; exact h)⟩
  | .give f a, c, G, k, ⟨d, h1, h2⟩ => ⟨d, bare_has f c G _ h1, bare_has a c G _ h2⟩
  | .pair f a, c, G, k, ⟨d, d2, e1, h1, h2⟩ => ⟨d, d2, e1, bare_has f c G _ h1, bare_has a c G _ h2⟩
  | .first p, c, G, k, ⟨d, h⟩ => ⟨d, bare_has p c G _ h⟩
  | .second p, c, G, k, ⟨d, h⟩ => ⟨d, bare_has p c G _ h⟩
theorem dress_has : ∀ (b : Db) (m : Nat) (G : List Kd) (k : Kd), Wf b m → m + b.bd < 500 → hasB e G b k → hasK (eN e (xr m) G) (dress b m) k
  | .at i, m, G, k, w, hb, h => by
    simp only [Wf, hasB] at w h
    simp only [dress, hasK, eN]
    rw [ri_xr (by omega) (by omega)]
    show G[m - 1 - (m - 1 - i)]? = some k
    rw [show m - 1 - (m - 1 - i) = i by omega]
    exact h
  | .nm x, m, G, k, w, hb, h => by
    simp only [dress, hasK, eN]
    have : ri (xr m) x = none := ri_none fun y hy => by
      obtain ⟨j, hj, rfl⟩ := mem_xr hy
      exact w j (by omega)
    rw [this]
    exact h
  | .thing, _, _, _, _, _, h => h
  | .take a b, m, G, k, w, hb, ⟨r, e1, h⟩ => by
    refine ⟨r, e1, ?_⟩
    rw [eN_cons]
    simp only [Db.bd] at hb
    exact dress_has b (m + 1) (a :: G) r w (by omega) h
  | .give f a, m, G, k, w, hb, ⟨d, h1, h2⟩ => by simp only [Db.bd] at hb; exact ⟨d, dress_has f m G _ w.1 (by omega) h1, dress_has a m G _ w.2 (by omega) h2⟩
  | .pair f a, m, G, k, w, hb, ⟨d, d2, e1, h1, h2⟩ => by simp only [Db.bd] at hb; exact ⟨d, d2, e1, dress_has f m G _ w.1 (by omega) h1, dress_has a m G _ w.2 (by omega) h2⟩
  | .first p, m, G, k, w, hb, ⟨d, h⟩ => ⟨d, dress_has p m G _ w hb h⟩
  | .second p, m, G, k, w, hb, ⟨d, h⟩ => ⟨d, dress_has p m G _ w hb h⟩
theorem eN_nil (G : List Kd) : eN e [] G = e := rfl
/-! ### kinds are small -/
def Pg.ka : Pg → Prop
  | .nm _ => True
  | .thing => True
  | .take _ k b => k.ok = true ∧ k.depth ≤ 12 ∧ b.ka
  | .give f a => f.ka ∧ a.ka
  | .pair f a => f.ka ∧ a.ka
  | .first p => p.ka
  | .second p => p.ka
theorem dress_ka : ∀ (b : Db) (m : Nat), b.ok → (dress b m).ka
  | .at _, _, _ => trivial
  | .nm _, _, _ => trivial
  | .thing, _, _ => trivial
  | .take k b, m, h => ⟨h.1, h.2.1, dress_ka b _ h.2.2⟩
  | .give f a, m, h => ⟨dress_ka f m h.1, dress_ka a m h.2⟩
  | .pair f a, m, h => ⟨dress_ka f m h.1, dress_ka a m h.2⟩
  | .first p, m, h => dress_ka p m h
  | .second p, m, h => dress_ka p m h
def EOk (e : Str → Option Kd) : Prop := ∀ x k, e x = some k → k.ok = true ∧ k.depth ≤ 12
theorem EOk.ext {e : Str → Option Kd} (h : EOk e) {x : Str} {a : Kd} (h1 : a.ok = true) (h2 : a.depth ≤ 12) : EOk (fun y => if x = y then some a else e y) := fun y k q => by
  dsimp only at q
  split at q
  · cases q; exact ⟨h1, h2⟩
  · exact h y k q
theorem kd_has : ∀ (p : Pg) (e : Str → Option Kd) (k : Kd), hasK e p k → EOk e → p.ka → k.ok = true ∧ k.depth ≤ 12 + p.hgt
  | .nm x, e, k, h, he, _ => he x k h
  | .thing, e, k, h, _, _ => by subst h; exact ⟨rfl, by simp [Kd.depth]⟩
  | .take x a b, e, k, ⟨r, e1, h⟩, he, ⟨h1, h2, h3⟩ => by
    have := kd_has b _ r h (he.ext h1 h2) h3
    subst e1
    simp only [Kd.ok, Kd.depth, Pg.hgt, h1, this.1, Bool.and_self, true_and]
    omega
  | .give f a, e, k, ⟨c, h1, h2⟩, he, hk => by
    have := kd_has f e _ h1 he hk.1
    simp only [Kd.ok, Kd.depth, Bool.and_eq_true] at this
    simp only [Pg.hgt]
    exact ⟨this.1.2, by omega⟩
  | .pair f a, e, k, ⟨c, d, e1, h1, h2⟩, he, hk => by
    have i1 := kd_has f e _ h1 he hk.1
    have i2 := kd_has a e _ h2 he hk.2
    subst e1
    simp only [Kd.ok, Kd.depth, Pg.hgt, i1.1, i2.1, Bool.and_self, true_and]
    omega
  | .first p, e, k, ⟨d, h⟩, he, hk => by
    have := kd_has p e _ h he hk
    simp only [Kd.ok, Kd.depth, Bool.and_eq_true] at this
    simp only [Pg.hgt]
    exact ⟨this.1.1, by omega⟩
  | .second p, e, k, ⟨d, h⟩, he, hk => by
    have := kd_has p e _ h he hk
    simp only [Kd.ok, Kd.depth, Bool.and_eq_true] at this
    simp only [Pg.hgt]
    exact ⟨this.1.2, by omega⟩
/-! ### the kind here -/
def khere (e : Str → Option Kd) : Pg → List Kd → Option Kd
  | .nm x, _ => e x
  | .thing, _ => some .one
  | .take _ k _, [r] => some (.to k r)
  | .pair _ _, [a, b] => some (.both a b)
  | .give _ _, [.to c k, a] => if c = a then some k else none
  | .first _, [.both a _] => some a
  | .second _, [.both _ b] => some b
  | _, _ => none
def dKo : Option Kd → D
  | some k => dK k
  | none => .non
/-! ### going along a run -/
def Goes : Db → List (List Int) → Db → Prop
  | b, [], b' => b = b'
  | b, pl :: r, b' => pl ∈ plcB b [] ∧ Good (stepB b pl) ∧ Goes (stepB b pl) r b'
theorem run_goes {pks : List Int} : ∀ (f t : Nat) (b : Db) (log : List (List Int)) (b' : Db) (log' : List (List Int)), Good b → runB pks f t b log = some (b', log') → ∃ r, log' = log ++ r ∧ Goes b r b'
  | 0, t, b, log, b', log', g, h => by
    unfold runB at h
    split at h
    · cases h; exact ⟨[], by simp, rfl⟩
    · cases h
  | f + 1, t, b, log, b', log', g, h => by
    unfold runB at h
    split at h
    · cases h; exact ⟨[], by simp, rfl⟩
    · rename_i e
      split at h
      · cases h
      · rename_i hh
        have g2 := good_step g (pickB_mem e) hh
        obtain ⟨r, h1, h2⟩ := run_goes f (t + 1) _ _ b' log' g2 h
        exact ⟨pickB pks t b :: r, by rw [h1]; simp, pickB_mem e, g2, h2⟩
theorem good_dress {b : Db} (g : Good b) : (dress b 0).hgt ≤ 100 ∧ (dress b 0).sok = true ∧ (dress b 0).dpt ≤ 115 ∧ bare (dress b 0) [] = b ∧ tidy (dress b 0) [] = dress b 0 ∧ (dress b 0).ka := by
  have h := ok_dressB b 0 g.ok (by have := g.hg; omega)
  have e := bare_dress0 g.wf (by have := g.hg; omega)
  refine ⟨by rw [dress_hgt]; exact g.hg, h.1, by have := g.hg; omega, e, ?_, dress_ka b 0 g.ok⟩
  rw [tidy_eq, e]; rfl
end
end Kf
/-! Kgen: what the laws about any programs draw. -/
namespace Kf
open PySem PySem.Spec L2
open PyProof.Rows hiding St
def UN : List Str := ["p", "q", "f", "g", "u", "v", "x0", "x7"]
def TN : List Str := ["u", "v", "x0", "x7", "f"]
theorem un_ok : ∀ t ∈ UN, PyData.strOk t = true := by decide +kernel
theorem tn_un : ∀ t ∈ TN, t ∈ UN ∧ t ≠ "p" ∧ t ≠ "q" := by decide +kernel
structure RowU (kn : List (Str × Kd)) : Prop where
  nm : ∀ q ∈ kn, q.1 ∈ UN ∧ q.2.over AB ∧ q.2.leaves ≤ 4
  ep : envOf kn "p" = some (.mk "a")
  eq : envOf kn "q" = some (.mk "b")
theorem RowU.snoc {kn : List (Str × Kd)} (h : RowU kn) {x : Str} {k : Kd} (hx : x ∈ TN) (ho : k.over AB) (hl : k.leaves ≤ 4) : RowU (kn ++ [(x, k)]) := by
  obtain ⟨h1, h2, h3⟩ := tn_un x hx
  refine ⟨fun q hq => ?_, ?_, ?_⟩
  · rcases List.mem_append.mp hq with hq | hq
    · exact h.nm q hq
    · rw [List.mem_singleton.mp hq]; exact ⟨h1, ho, hl⟩
  · rw [envOf_snoc, if_neg h2]; exact h.ep
  · rw [envOf_snoc, if_neg h3]; exact h.eq
/-- what the names' table holds behind a row's first ones -/
structure DInvU (pre : List (Str × Kd)) (kvs : List (Key × D)) (ts : List Str) : Prop where
  ks : kvs.map (·.1) = ts.map Sum.inr
  nd : ts.Nodup
  an : ∀ t ∈ ts, t ∈ UN
  vl : ∀ x : Str, valD kvs (.inr x) = (envOf pre x).map dK
theorem DInvU.nil : DInvU [] [] [] := ⟨rfl, List.nodup_nil, fun _ h => (nomatch h), fun _ => rfl⟩
theorem DInvU.len {pre : List (Str × Kd)} {kvs : List (Key × D)} {ts : List Str} (h : DInvU pre kvs ts) : ts.length ≤ 8 ∧ kvs.length ≤ 8 := by
  have h1 : ts.length ≤ 8 := nodup_le (us := UN) h.nd h.an
  have h2 : kvs.length = ts.length := by have := congrArg List.length h.ks; simpa using this
  omega
theorem DInvU.put {pre : List (Str × Kd)} {kvs : List (Key × D)} {ts : List Str} (h : DInvU pre kvs ts) {x : Str} {k : Kd} (hx : x ∈ UN) : ∃ ts', DInvU (pre ++ [(x, k)]) (putD kvs (.inr x) (dK k)) ts' := by
  have hv : ∀ y : Str, valD (putD kvs (.inr x) (dK k)) (.inr y) = (envOf (pre ++ [(x, k)]) y).map dK := fun y => by
    rw [valD_put, envOf_snoc]
    by_cases e : x = y
    · subst e; simp
    · rw [if_neg (fun q => e (Sum.inr.inj q).symm), if_neg e, h.vl]
  have hk := keys_put kvs (.inr x) (dK k)
  by_cases c : (valD kvs (.inr x)).isSome = true
  · rw [if_pos c] at hk
    exact ⟨ts, hk.trans h.ks, h.nd, h.an, hv⟩
  · rw [if_neg c] at hk
    refine ⟨ts ++ [x], by rw [hk, h.ks, List.map_append]; rfl, ?_, ?_, hv⟩
    · refine List.nodup_append.mpr ⟨h.nd, by simp, fun a ha b hb e => c ?_⟩
      rw [List.mem_singleton.mp hb] at e
      subst e
      exact valD_mem.mp (by rw [h.ks]; exact List.mem_map.mpr ⟨a, ha, rfl⟩)
    · intro t ht
      rcases List.mem_append.mp ht with ht | ht
      · exact h.an t ht
      · rw [List.mem_singleton.mp ht]; exact hx
theorem DInvU.has {pre : List (Str × Kd)} {kvs : List (Key × D)} {ts : List Str} (h : DInvU pre kvs ts) {x : Str} (hx : x ∈ ts) : ∃ k, envOf pre x = some k := by
  have h1 := valD_mem.mp (show Sum.inr x ∈ kvs.map (·.1) by rw [h.ks]; exact List.mem_map.mpr ⟨x, hx, rfl⟩)
  rw [h.vl] at h1
  cases e : envOf pre x with
  | none => rw [e] at h1; simp at h1
  | some k => exact ⟨k, rfl⟩
theorem keysD_strs {kvs : List (Key × D)} {ts : List Str} (h : kvs.map (·.1) = ts.map Sum.inr) : keysD kvs = ts.map D.str := by
  have : keysD kvs = (kvs.map (·.1)).map keyD := by unfold keysD; rw [List.map_map]; rfl
  rw [this, h, List.map_map]
  rfl
/-! ### uses of a name -/
inductive Mv where
  | k (k : Kd) | one | two
def dMv : Mv → D
  | .k k => dK k
  | .one => .int 1
  | .two => .int 2
def Us : Kd → List Mv → Kd → Prop
  | k, [], g => k = g
  | .to a b, .k c :: ms, g => c = a ∧ Us b ms g
  | .both a _, .one :: ms, g => Us a ms g
  | .both _ b, .two :: ms, g => Us b ms g
  | _, _ :: _, _ => False
theorem us_len : ∀ (k : Kd) (ms : List Mv) (g : Kd), Us k ms g → ms.length ≤ k.depth
  | _, [], _, _ => Nat.zero_le _
  | .to a b, .k c :: ms, g, h => by have := us_len b ms g h.2; simp only [List.length_cons, Kd.depth]; omega
  | .both a b, .one :: ms, g, h => by have := us_len a ms g h; simp only [List.length_cons, Kd.depth]; omega
  | .both a b, .two :: ms, g, h => by have := us_len b ms g h; simp only [List.length_cons, Kd.depth]; omega
  | .mk _, m :: _, _, h => by cases m <;> exact (h : False).elim
  | .one, m :: _, _, h => by cases m <;> exact (h : False).elim
  | .to _ _, .one :: _, _, h => (h : False).elim
  | .to _ _, .two :: _, _, h => (h : False).elim
  | .both _ _, .k _ :: _, _, h => (h : False).elim
theorem us_kd : ∀ (k : Kd) (ms : List Mv) (g : Kd), Us k ms g → k.over AB → ∀ c, Mv.k c ∈ ms → c.over AB ∧ c.leaves < k.leaves
  | _, [], _, _, _, c, hc => nomatch hc
  | .to a b, .k d :: ms, g, h, ho, c, hc => by
    have hb : 0 < b.leaves := by cases b <;> simp only [Kd.leaves] <;> have := Kd.depth_lt <;> (try (rename_i x y; have := x.depth_lt)) <;> omega
    have ha : 0 < a.leaves := by cases a <;> simp only [Kd.leaves] <;> (try (rename_i x y; have := x.depth_lt)) <;> omega
    rcases List.mem_cons.mp hc with e | hc
    · cases e
      obtain ⟨rfl, _⟩ := h
      exact ⟨ho.1, by simp only [Kd.leaves]; omega⟩
    · have := us_kd b ms g h.2 ho.2 c hc
      exact ⟨this.1, by simp only [Kd.leaves]; omega⟩
  | .both a b, .one :: ms, g, h, ho, c, hc => by
    rcases List.mem_cons.mp hc with e | hc
    · cases e
    · have := us_kd a ms g h ho.1 c hc
      exact ⟨this.1, by simp only [Kd.leaves]; omega⟩
  | .both a b, .two :: ms, g, h, ho, c, hc => by
    rcases List.mem_cons.mp hc with e | hc
    · cases e
    · have := us_kd b ms g h ho.2 c hc
      exact ⟨this.1, by simp only [Kd.leaves]; omega⟩
  | .mk _, m :: _, _, h, _, _, _ => by cases m <;> exact (h : False).elim
  | .one, m :: _, _, h, _, _, _ => by cases m <;> exact (h : False).elim
  | .to _ _, .one :: _, _, h, _, _, _ => (h : False).elim
  | .to _ _, .two :: _, _, h, _, _, _ => (h : False).elim
  | .both _ _, .k _ :: _, _, h, _, _, _ => (h : False).elim
/-! ### names and kinds as drawn -/
def pgu : Pg → Prop
  | .nm x => x ∈ UN
  | .thing => True
  | .take x k b => x ∈ TN ∧ k.over AB ∧ k.leaves ≤ 4 ∧ pgu b
  | .give f a => pgu f ∧ pgu a
  | .pair f a => pgu f ∧ pgu a
  | .first p => pgu p
  | .second p => pgu p
def hasU (e : Str → Option Kd) (p : Pg) (k : Kd) : Prop := hasK e p k ∧ pgu p
theorem hu_give {e : Str → Option Kd} {f a : Pg} {d k : Kd} (h1 : hasU e f (.to d k)) (h2 : hasU e a d) : hasU e (.give f a) k := ⟨⟨d, h1.1, h2.1⟩, h1.2, h2.2⟩
theorem hu_pair {e : Str → Option Kd} {f a : Pg} {d k : Kd} (h1 : hasU e f d) (h2 : hasU e a k) : hasU e (.pair f a) (.both d k) := ⟨⟨d, k, rfl, h1.1, h2.1⟩, h1.2, h2.2⟩
theorem hu_first {e : Str → Option Kd} {f : Pg} {d k : Kd} (h1 : hasU e f (.both k d)) : hasU e (.first f) k := ⟨⟨d, h1.1⟩, h1.2⟩
theorem hu_second {e : Str → Option Kd} {f : Pg} {d k : Kd} (h1 : hasU e f (.both d k)) : hasU e (.second f) k := ⟨⟨d, h1.1⟩, h1.2⟩
theorem hu_take {kn : List (Str × Kd)} {x : Str} {b : Pg} {d k : Kd} (hx : x ∈ TN) (ho : d.over AB) (hl : d.leaves ≤ 4) (h1 : hasU (envOf (kn ++ [(x, d)])) b k) : hasU (envOf kn) (.take x d b) (.to d k) := by
  refine ⟨⟨k, rfl, ?_⟩, hx, ho, hl, h1.2⟩
  have := h1.1
  rw [envOf_ext] at this
  exact this
theorem pgu_ok : ∀ (p : Pg), pgu p → p.sok = true ∧ p.dpt ≤ p.hgt + 6
  | .nm x, h => ⟨un_ok x h, by simp [Pg.dpt]⟩
  | .thing, _ => ⟨rfl, by simp [Pg.dpt]⟩
  | .take x k b, h => by
    obtain ⟨h1, h2, h3, h4⟩ := h
    have ih := pgu_ok b h4
    have := k.depth_lt
    simp only [Pg.sok, Pg.dpt, Pg.hgt, un_ok x (tn_un x h1).1, over_ok ab_ok k h2, ih.1, Bool.and_self, true_and]
    omega
  | .give f a, h => by
    have h1 := pgu_ok f h.1
    have h2 := pgu_ok a h.2
    simp only [Pg.sok, Pg.dpt, Pg.hgt, h1.1, h2.1, Bool.and_self, true_and]
    omega
  | .pair f a, h => by
    have h1 := pgu_ok f h.1
    have h2 := pgu_ok a h.2
    simp only [Pg.sok, Pg.dpt, Pg.hgt, h1.1, h2.1, Bool.and_self, true_and]
    omega
  | .first p, h => by
    have h1 := pgu_ok p h
    simp only [Pg.sok, Pg.dpt, Pg.hgt, h1.1, true_and]
    omega
  | .second p, h => by
    have h1 := pgu_ok p h
    simp only [Pg.sok, Pg.dpt, Pg.hgt, h1.1, true_and]
    omega
theorem pgu_ka : ∀ p : Pg, pgu p → p.ka
  | .nm _, _ => trivial
  | .thing, _ => trivial
  | .take x k b, h => by
    obtain ⟨h1, h2, h3, h4⟩ := h
    have := k.depth_lt
    exact ⟨over_ok ab_ok k h2, by omega, pgu_ka b h4⟩
  | .give f a, h => ⟨pgu_ka f h.1, pgu_ka a h.2⟩
  | .pair f a, h => ⟨pgu_ka f h.1, pgu_ka a h.2⟩
  | .first p, h => pgu_ka p h
  | .second p, h => pgu_ka p h
/-! ### a program's word, a kind's word -/
def pw : Pg → Str
  | .nm _ => "name"
  | .thing => "thing"
  | .take .. => "take"
  | .give .. => "give"
  | .pair .. => "pair"
  | .first _ => "first"
  | .second _ => "second"
def kw : Kd → Str
  | .mk _ => "mark"
  | .one => "one"
  | .to .. => "to"
  | .both .. => "both"
def WD : List Str := ["name", "take", "give", "pair", "first", "second", "thing"]
theorem pw_in (p : Pg) : decide (pw p ∈ WD) = true := by
  have h1 : Str.ofString "name" ∈ WD := by decide +kernel
  have h2 : Str.ofString "thing" ∈ WD := by decide +kernel
  have h3 : Str.ofString "take" ∈ WD := by decide +kernel
  have h4 : Str.ofString "give" ∈ WD := by decide +kernel
  have h5 : Str.ofString "pair" ∈ WD := by decide +kernel
  have h6 : Str.ofString "first" ∈ WD := by decide +kernel
  have h7 : Str.ofString "second" ∈ WD := by decide +kernel
  exact decide_eq_true (by cases p <;> first | exact h1 | exact h2 | exact h3 | exact h4 | exact h5 | exact h6 | exact h7)
theorem kw_in (k : Kd) : decide (kw k ∈ WD) = false := by
  have h1 : Str.ofString "mark" ∉ WD := by decide +kernel
  have h2 : Str.ofString "one" ∉ WD := by decide +kernel
  have h3 : Str.ofString "to" ∉ WD := by decide +kernel
  have h4 : Str.ofString "both" ∉ WD := by decide +kernel
  exact decide_eq_false (by cases k <;> first | exact h1 | exact h2 | exact h3 | exact h4)
theorem wd_ok : ∀ t ∈ WD, PyData.strOk t = true := by decide +kernel
theorem pw_ok (p : Pg) : PyData.strOk (pw p) = true := wd_ok _ (of_decide_eq_true (pw_in p))
theorem kw_ok (k : Kd) : PyData.strOk (kw k) = true := by cases k <;> first | exact so_mark | exact so_one | exact so_to | exact so_both
section
variable {O : Ow} {Q : VD} {neg : Bool}
theorem rIx_dP0 {p : Pg} : rIxD (dP p) (.int 0) O Q = Q (.str (pw p)) O := by cases p <;> exact rIx_t0
theorem rIx_dK0 {k : Kd} : rIxD (dK k) (.int 0) O Q = Q (.str (kw k)) O := by cases k <;> exact rIx_t0
theorem isi_dP {p : Pg} : rIsiD [dP p, .ty "tuple"] O Q = Q (.bl true) O := by cases p <;> exact isi_t_tuple
theorem isi_dK {k : Kd} : rIsiD [dK k, .ty "tuple"] O Q = Q (.bl true) O := by cases k <;> exact isi_t_tuple
theorem rIn_wl {z : Str} {ts : List Str} (hz : PyData.strOk z = true) (h : ∀ t ∈ ts, PyData.strOk t = true) : rInD neg (.str z) (.lst (ts.map .str)) O Q = Q (.bl (neg ^^ decide (z ∈ ts))) O := by
  have := rIn_ws (neg := neg) (O := O) (Q := Q) hz h
  simp only [rInD, deref_str, deref_tup, deref_lst] at this ⊢
  exact this
theorem rIn_pw {p : Pg} : rInD neg (.str (pw p)) (.lst (WD.map .str)) O Q = Q (.bl !neg) O := by
  rw [rIn_wl (pw_ok p) wd_ok, pw_in]; cases neg <;> rfl
theorem rIn_kw {k : Kd} : rInD neg (.str (kw k)) (.lst (WD.map .str)) O Q = Q (.bl neg) O := by
  rw [rIn_wl (kw_ok k) wd_ok, kw_in]; cases neg <;> rfl
theorem rEq_Ki {k : Kd} {i : Int} (hk : k.ok = true) : rEqD neg (dK k) (.int i) O Q = Q (.bl neg) O := by
  have e : deq (dK k) (.int i) = false := by cases k <;> exact deq_ti
  rw [rEq_dr (by rw [deref_dK, isPy_dK]; exact hk) (by simp [deref, isPy]) (by simp [deref, dpI]), deref_dK, deref_int, e]
  cases neg <;> rfl
end
def psz4 {p : Pg} (h : p.hgt ≤ 4) : p.psz ≤ 31 := by
  have h1 := psz_hgt p
  have h2 : 2 ^ (p.hgt + 1) ≤ 2 ^ 5 := Nat.pow_le_pow_right (by decide) (by omega)
  have h3 : (2 : Nat) ^ 5 = 32 := by decide
  omega
end Kf
/-! Kren: programs with names called otherwise. -/
namespace Kf
open PySem PySem.Spec L2
open PyProof.Rows hiding St
/-! ### programs compared -/
theorem sdp1 : decide (Str.ofString "give" = Str.ofString "pair") = false := by decide +kernel
theorem sdp2 : decide (Str.ofString "pair" = Str.ofString "give") = false := by decide +kernel
theorem sdp3 : decide (Str.ofString "first" = Str.ofString "second") = false := by decide +kernel
theorem sdp4 : decide (Str.ofString "second" = Str.ofString "first") = false := by decide +kernel
theorem sdp5 : decide (Str.ofString "name" = Str.ofString "first") = false := by decide +kernel
theorem sdp6 : decide (Str.ofString "name" = Str.ofString "second") = false := by decide +kernel
theorem sdp7 : decide (Str.ofString "first" = Str.ofString "name") = false := by decide +kernel
theorem sdp8 : decide (Str.ofString "second" = Str.ofString "name") = false := by decide +kernel
theorem band_dec {p q : Prop} [Decidable p] [Decidable q] : (decide p && decide q) = decide (p ∧ q) := by by_cases p <;> by_cases q <;> simp_all
theorem deq_dP : ∀ a b : Pg, deq (dP a) (dP b) = decide (a = b) := by
  intro a
  induction a with
  | nm x => intro b; cases b <;> simp only [dP, deq_t, deqs_cc, deqs_nn, deqs_nc, deqs_cn, deq_s, sdp5, sdp6] <;> simp
  | thing => intro b; cases b <;> simp only [dP, deq_t, deqs_cc, deqs_nn, deqs_nc, deqs_cn, deq_s] <;> simp
  | take x k b ih =>
    intro c
    cases c with
    | take y l d =>
      simp only [dP, deq_t, deqs_cc, deqs_nn, deq_s, deq_K, ih]
      by_cases h1 : x = y <;> by_cases h2 : k = l <;> by_cases h3 : b = d <;> simp [h1, h2, h3]
    | _ => simp only [dP, deq_t, deqs_cc, deqs_nn, deqs_nc, deqs_cn, deq_s] <;> simp
  | give f a ih1 ih2 =>
    intro c
    cases c with
    | give f' a' =>
      simp only [dP, deq_t, deqs_cc, deqs_nn, deq_s, ih1, ih2]
      by_cases h1 : f = f' <;> by_cases h2 : a = a' <;> simp [h1, h2]
    | _ => simp only [dP, deq_t, deqs_cc, deqs_nn, deqs_nc, deqs_cn, deq_s, sdp1] <;> simp
  | pair f a ih1 ih2 =>
    intro c
    cases c with
    | pair f' a' =>
      simp only [dP, deq_t, deqs_cc, deqs_nn, deq_s, ih1, ih2]
      by_cases h1 : f = f' <;> by_cases h2 : a = a' <;> simp [h1, h2]
    | _ => simp only [dP, deq_t, deqs_cc, deqs_nn, deqs_nc, deqs_cn, deq_s, sdp2] <;> simp
  | first f ih =>
    intro c
    cases c with
    | first f' =>
      simp only [dP, deq_t, deqs_cc, deqs_nn, deq_s, ih]
      by_cases h1 : f = f' <;> simp [h1]
    | _ => simp only [dP, deq_t, deqs_cc, deqs_nn, deqs_nc, deqs_cn, deq_s, sdp3, sdp7] <;> simp
  | second f ih =>
    intro c
    cases c with
    | second f' =>
      simp only [dP, deq_t, deqs_cc, deqs_nn, deq_s, ih]
      by_cases h1 : f = f' <;> simp [h1]
    | _ => simp only [dP, deq_t, deqs_cc, deqs_nn, deqs_nc, deqs_cn, deq_s, sdp4, sdp8] <;> simp
theorem deref_dP' (p : Pg) (O : Ow) : deref O (dP p) = dP p := by cases p <;> rfl
theorem rEq_P {neg : Bool} {p q : Pg} {O : Ow} {Q : VD} (h : p.sok = true) (h' : q.sok = true) (hd : p.dpt ≤ 190) : rEqD neg (dP p) (dP q) O Q = Q (.bl (neg ^^ decide (p = q))) O := by
  rw [rEq_d (by rw [deref_dP', isPy_dP]; exact h) (by rw [deref_dP', isPy_dP]; exact h') (by rw [deref_dP', dp_dP]; exact hd), deref_dP', deref_dP', deq_dP]
/-! ### names called otherwise -/
def ren (nm : List (Str × Str)) (x : Str) : Str := ((nm.reverse.find? fun q => decide (q.1 = x)).map (·.2)).getD x
theorem ren_snoc (nm : List (Str × Str)) (y z x : Str) : ren (nm ++ [(y, z)]) x = if y = x then z else ren nm x := by
  unfold ren
  rw [List.reverse_append, List.reverse_singleton, List.singleton_append, List.find?_cons]
  by_cases h : y = x
  · simp [h]
  · simp [h]
theorem find_filter {y x : Str} (h : ¬ y = x) : ∀ l : List (Str × Str), (l.filter fun q => !decide (q.1 = y)).find? (fun q => decide (q.1 = x)) = l.find? fun q => decide (q.1 = x)
  | [] => rfl
  | q :: l => by
    rw [List.filter_cons]
    by_cases c : q.1 = y
    · simp only [c, decide_true, Bool.not_true, Bool.false_eq_true, if_false]
      rw [find_filter h l, List.find?_cons]
      have : decide (q.1 = x) = false := by rw [c]; exact decide_eq_false h
      rw [this]
    · simp only [c, decide_false, Bool.not_false, if_true]
      rw [List.find?_cons, List.find?_cons, find_filter h l]
theorem ren_later (nm : List (Str × Str)) (y z x : Str) : ren (nm.filter (fun q => !decide (q.1 = y)) ++ [(y, z)]) x = if y = x then z else ren nm x := by
  rw [ren_snoc]
  by_cases h : y = x
  · rw [if_pos h, if_pos h]
  · rw [if_neg h, if_neg h]
    unfold ren
    rw [← List.filter_reverse, find_filter h]
/-- what comes of a program by such a walk -/
def Ren : List (Str × Str) → Pg → Pg → Prop
  | nm, .nm x, q => q = .nm (ren nm x)
  | _, .thing, q => q = .thing
  | nm, .take x k b, q => ∃ z b', q = .take z k b' ∧ PyData.strOk z = true ∧ Ren (nm.filter (fun q => !decide (q.1 = x)) ++ [(x, z)]) b b'
  | nm, .give f a, q => ∃ f' a', q = .give f' a' ∧ Ren nm f f' ∧ Ren nm a a'
  | nm, .pair f a, q => ∃ f' a', q = .pair f' a' ∧ Ren nm f f' ∧ Ren nm a a'
  | nm, .first f, q => ∃ f', q = .first f' ∧ Ren nm f f'
  | nm, .second f, q => ∃ f', q = .second f' ∧ Ren nm f f'
theorem ren_hgt : ∀ (p : Pg) (nm : List (Str × Str)) (q : Pg), Ren nm p q → q.hgt = p.hgt
  | .nm x, nm, q, h => by rw [show q = _ from h]; rfl
  | .thing, nm, q, h => by rw [show q = _ from h]
  | .take x k b, nm, q, ⟨z, b', e, _, h⟩ => by subst e; simp only [Pg.hgt, ren_hgt b _ b' h]
  | .give f a, nm, q, ⟨f', a', e, h1, h2⟩ => by subst e; simp only [Pg.hgt, ren_hgt f _ f' h1, ren_hgt a _ a' h2]
  | .pair f a, nm, q, ⟨f', a', e, h1, h2⟩ => by subst e; simp only [Pg.hgt, ren_hgt f _ f' h1, ren_hgt a _ a' h2]
  | .first f, nm, q, ⟨f', e, h1⟩ => by subst e; simp only [Pg.hgt, ren_hgt f _ f' h1]
  | .second f, nm, q, ⟨f', e, h1⟩ => by subst e; simp only [Pg.hgt, ren_hgt f _ f' h1]
theorem ren_ok {nm : List (Str × Str)} (h : ∀ q ∈ nm, PyData.strOk q.2 = true) {x : Str} (hx : PyData.strOk x = true) : PyData.strOk (ren nm x) = true := by
  unfold ren
  cases e : nm.reverse.find? (fun q => decide (q.1 = x)) with
  | none => exact hx
  | some q => exact h q (List.mem_reverse.mp (List.mem_of_find?_eq_some e))
theorem later_ok {nm : List (Str × Str)} (h : ∀ q ∈ nm, PyData.strOk q.1 = true ∧ PyData.strOk q.2 = true) {x z : Str} (hx : PyData.strOk x = true) (hz : PyData.strOk z = true) : ∀ q ∈ nm.filter (fun q => !decide (q.1 = x)) ++ [(x, z)], PyData.strOk q.1 = true ∧ PyData.strOk q.2 = true := fun q hq => by
  rcases List.mem_append.mp hq with hq | hq
  · exact h q (List.mem_filter.mp hq).1
  · rw [List.mem_singleton.mp hq]; exact ⟨hx, hz⟩
theorem ren_sok : ∀ (p : Pg) (nm : List (Str × Str)) (q : Pg), Ren nm p q → (∀ q ∈ nm, PyData.strOk q.1 = true ∧ PyData.strOk q.2 = true) → p.sok = true → p.ka → q.sok = true ∧ q.ka ∧ q.dpt = p.dpt
  | .nm x, nm, q, h, hn, hs, _ => by rw [show q = _ from h]; exact ⟨ren_ok (fun q hq => (hn q hq).2) hs, trivial, by simp [Pg.dpt]⟩
  | .thing, nm, q, h, _, _, _ => by rw [show q = _ from h]; exact ⟨rfl, trivial, rfl⟩
  | .take x k b, nm, q, ⟨z, b', e, hz, h⟩, hn, hs, hk => by
    subst e
    simp only [Pg.sok, Bool.and_eq_true] at hs ⊢
    have := ren_sok b _ b' h (later_ok hn hs.1.1 hz) hs.2 hk.2.2
    exact ⟨⟨⟨hz, hs.1.2⟩, this.1⟩, ⟨hk.1, hk.2.1, this.2.1⟩, by simp only [Pg.dpt, this.2.2]⟩
  | .give f a, nm, q, ⟨f', a', e, h1, h2⟩, hn, hs, hk => by
    subst e
    simp only [Pg.sok, Bool.and_eq_true] at hs ⊢
    have i1 := ren_sok f _ f' h1 hn hs.1 hk.1
    have i2 := ren_sok a _ a' h2 hn hs.2 hk.2
    exact ⟨⟨i1.1, i2.1⟩, ⟨i1.2.1, i2.2.1⟩, by simp only [Pg.dpt, i1.2.2, i2.2.2]⟩
  | .pair f a, nm, q, ⟨f', a', e, h1, h2⟩, hn, hs, hk => by
    subst e
    simp only [Pg.sok, Bool.and_eq_true] at hs ⊢
    have i1 := ren_sok f _ f' h1 hn hs.1 hk.1
    have i2 := ren_sok a _ a' h2 hn hs.2 hk.2
    exact ⟨⟨i1.1, i2.1⟩, ⟨i1.2.1, i2.2.1⟩, by simp only [Pg.dpt, i1.2.2, i2.2.2]⟩
  | .first f, nm, q, ⟨f', e, h1⟩, hn, hs, hk => by
    subst e
    have i1 := ren_sok f _ f' h1 hn hs hk
    exact ⟨i1.1, i1.2.1, by simp only [Pg.dpt, i1.2.2]⟩
  | .second f, nm, q, ⟨f', e, h1⟩, hn, hs, hk => by
    subst e
    have i1 := ren_sok f _ f' h1 hn hs hk
    exact ⟨i1.1, i1.2.1, by simp only [Pg.dpt, i1.2.2]⟩
/-- its names are right ones -/
theorem ren_wf : ∀ (p : Pg) (nm : List (Str × Str)) (q : Pg) (e : Str → Option Kd) (k : Kd) (c d : List Str), Ren nm p q → hasK e p k → (∀ x, e x ≠ none → x ∈ c ∨ Fr x) → (∀ x ∈ c, ren nm x ∈ d) → (∀ x, x ∉ c → ren nm x = x) → Wf (bare q d) d.length
  | .nm x, nm, q, e, k, c, d, h, hk, he, hc, hn => by
    rw [show q = _ from h]
    simp only [bare]
    cases hr : ri d (ren nm x) with
    | some i => exact ri_lt hr
    | none =>
      have hx := ri_mem hr
      have h1 : x ∉ c := fun z => hx (hc x z)
      have h2 := he x (by rw [show e x = some k from hk]; simp)
      rw [hn x h1]
      exact h2.resolve_left h1
  | .thing, nm, q, e, k, c, d, h, hk, he, hc, hn => by rw [show q = _ from h]; trivial
  | .take x a b, nm, q, e, k, c, d, ⟨z, b', eq, _, h⟩, ⟨r, _, hk⟩, he, hc, hn => by
    subst eq
    show Wf (bare b' (z :: d)) (d.length + 1)
    refine ren_wf b _ b' _ r (x :: c) (z :: d) h hk (fun y hy => ?_) (fun y hy => ?_) (fun y hy => ?_)
    · by_cases e1 : x = y
      · subst e1; exact .inl List.mem_cons_self
      · rw [if_neg e1] at hy
        exact (he y hy).imp (List.mem_cons_of_mem _) id
    · rw [ren_later]
      by_cases e1 : x = y
      · rw [if_pos e1]; exact List.mem_cons_self
      · rw [if_neg e1]
        rcases List.mem_cons.mp hy with rfl | hy
        · exact absurd rfl e1
        · exact List.mem_cons_of_mem _ (hc y hy)
    · rw [ren_later]
      have h1 : ¬ x = y := fun z => hy (by rw [z]; exact List.mem_cons_self)
      rw [if_neg h1]
      exact hn y fun z => hy (List.mem_cons_of_mem _ z)
  | .give f a, nm, q, e, k, c, d, ⟨f', a', eq, h1, h2⟩, ⟨r, k1, k2⟩, he, hc, hn => by
    subst eq
    exact ⟨ren_wf f nm f' e _ c d h1 k1 he hc hn, ren_wf a nm a' e _ c d h2 k2 he hc hn⟩
  | .pair f a, nm, q, e, k, c, d, ⟨f', a', eq, h1, h2⟩, ⟨r, r2, _, k1, k2⟩, he, hc, hn => by
    subst eq
    exact ⟨ren_wf f nm f' e _ c d h1 k1 he hc hn, ren_wf a nm a' e _ c d h2 k2 he hc hn⟩
  | .first f, nm, q, e, k, c, d, ⟨f', eq, h1⟩, ⟨r, k1⟩, he, hc, hn => by
    subst eq
    exact ren_wf f nm f' e _ c d h1 k1 he hc hn
  | .second f, nm, q, e, k, c, d, ⟨f', eq, h1⟩, ⟨r, k1⟩, he, hc, hn => by
    subst eq
    exact ren_wf f nm f' e _ c d h1 k1 he hc hn
/-- kinds by numbers are kinds by names -/
theorem has_bare {e : Str → Option Kd} : ∀ (p : Pg) (c : List Str) (G : List Kd) (k : Kd), hasB e G (bare p c) k → hasK (eN e c G) p k
  | .nm x, c, G, k, h => by
    simp only [bare] at h
    simp only [hasK, eN]
    cases hr : ri c x with
    | none => rw [hr] at h; exact h
    | some i => rw [hr] at h; exact h
  | .thing, _, _, _, h => h
  | .take x a b, c, G, k, ⟨r, e1, h⟩ => ⟨r, e1, by rw [eN_cons]; exact has_bare b (x :: c) (a :: G) r h⟩
  | .give f a, c, G, k, ⟨d, h1, h2⟩ => ⟨d, has_bare f c G _ h1, has_bare a c G _ h2⟩
  | .pair f a, c, G, k, ⟨d, d2, e1, h1, h2⟩ => ⟨d, d2, e1, has_bare f c G _ h1, has_bare a c G _ h2⟩
  | .first p, c, G, k, ⟨d, h⟩ => ⟨d, has_bare p c G _ h⟩
  | .second p, c, G, k, ⟨d, h⟩ => ⟨d, has_bare p c G _ h⟩
/-- tidied alike, the kinds are alike -/
theorem alike {e : Str → Option Kd} {p q : Pg} {k : Kd} (hp : Wf (bare p []) 0) (hq : Wf (bare q []) 0) (hh : p.hgt < 500) (hh' : q.hgt < 500) (ht : tidy q [] = tidy p []) (h : hasK e p k) : hasK e q k := by
  have e1 : bare q [] = bare p [] := by
    rw [← bare_dress0 hq (by rw [bare_hgt]; exact hh'), ← bare_dress0 hp (by rw [bare_hgt]; exact hh)]
    have h1 := tidy_eq q []
    have h2 := tidy_eq p []
    rw [ht] at h1
    rw [h2] at h1
    exact congrArg (fun z => bare z []) h1.symm
  have h1 : hasB e [] (bare q []) k := by rw [e1]; exact bare_has p [] [] k h
  exact has_bare q [] [] k h1
/-- the last place of a name -/
def lastIx (t : List Str) (x : Str) : List Nat := (List.range t.length).filter fun k => decide (t[k]? = some x)
theorem lastIx_ri (x : Str) : ∀ c : List Str, (ri c x = none → lastIx c.reverse x = []) ∧ ∀ i, ri c x = some i → ∃ r, lastIx c.reverse x = r ++ [c.length - 1 - i]
  | [] => ⟨fun _ => rfl, fun i h => nomatch h⟩
  | y :: c => by
    obtain ⟨h1, h2⟩ := lastIx_ri x c
    have e : lastIx (y :: c).reverse x = lastIx c.reverse x ++ if y = x then [c.length] else [] := by
      unfold lastIx
      rw [List.reverse_cons, List.length_append, List.length_singleton, List.range_succ, List.filter_append]
      congr 1
      · refine List.filter_congr fun k hk => ?_
        rw [List.getElem?_append_left (List.mem_range.mp hk)]
      · rw [List.filter_cons, List.getElem?_append_right (Nat.le_refl _), Nat.sub_self, List.getElem?_cons_zero, List.length_reverse]
        by_cases c1 : y = x
        · simp [c1]
        · simp [c1]
    refine ⟨fun h => ?_, fun i h => ?_⟩
    · unfold ri at h
      by_cases c1 : y = x
      · rw [if_pos c1] at h; cases h
      · rw [if_neg c1] at h
        rw [e, if_neg c1, h1 (by cases hr : ri c x with | none => rfl | some j => rw [hr] at h; cases h)]; rfl
    · unfold ri at h
      by_cases c1 : y = x
      · rw [if_pos c1] at h
        cases h
        rw [e, if_pos c1]
        exact ⟨lastIx c.reverse x, by simp⟩
      · rw [if_neg c1] at h
        cases hr : ri c x with
        | none => rw [hr] at h; cases h
        | some j =>
          rw [hr] at h
          cases h
          obtain ⟨r, hr2⟩ := h2 j hr
          rw [e, if_neg c1, List.append_nil, hr2]
          exact ⟨r, by rw [List.length_cons, show c.length + 1 - 1 - (j + 1) = c.length - 1 - j by omega]⟩
theorem frU : ∀ x ∈ ([Str.ofString "p", "q", "f", "g"] : List Str), Fr x := by
  have h : ∀ x ∈ ([Str.ofString "p", "q", "f", "g"] : List Str), ∀ k ∈ List.range 512, xn k ≠ x := by decide +kernel
  exact fun x hx k hk => h x hx k (List.mem_range.mpr hk)
end Kf
namespace Kf
open PySem PySem.Spec L2
open PyProof.Rows hiding St
def topS (i : Nat) : Stmt := PySem.Challenge.pw_kindfill_k09_tidied.main.body.getD i (.Pass ⟨0, 0, 0, 0⟩)
/-! ### inner -/
abbrev s_inner : Stmt := topS 5
abbrev N_inner : List Str := ["program"]
abbrev P_inner : List Str := ["program"]
theorem sc_inner : FnScope N_inner P_inner (defScope s_inner) := ⟨rfl, rfl, rfl, by decide +kernel, rfl, by decide +kernel, by decide +kernel⟩
def g_inner : GS :=
  (gSeq (gIf (fTest (fOp (rEqD false) (fOp rIxD (fVar 0) (fC (.int 0))) (fC (.str "take")))) (gRet (fLstO (fCons (fOp rIxD (fVar 0) (fC (.int 3))) fNil))) gNext) (gSeq (gIf (fTest (fOp (rInD false) (fOp rIxD (fVar 0) (fC (.int 0))) (fTup (fCons (fC (.str "give")) (fCons (fC (.str "pair")) (fCons (fC (.str "first")) (fCons (fC (.str "second")) fNil))))))) (gRet (fCB rList1O (fCons (fSl rSlD (fVar 0) (fPart (fC (.int 1))) fNoPart) fNil))) gNext) (gRet (fLstO fNil))))
theorem der_inner {P : Program} {w : World} {K : PySem.W.Frag} {mg : Str → Option Value} {base : Heap} {k : Nat} {f : Addr} (m_list : mg "list" = none)
    (cdv : Value) (A : Around) (outer : List Env) (s : Shared) (H : Hp) (E : XK) (hr : Room k (A.deeper (envOfC "inner" (defScope s_inner) s.heap.objs.size f cdv))) :
    DSs MT (cxOf CX0 P w K mg base N_inner "inner" (defScope s_inner) f cdv A outer s H E).nox (defBody s_inner) (g_inner) :=
  (dss_cons (ds_if (dt_cmp (od_eq hr.u200) (de_ix (de_var 0) de_int) de_str (nomark _)) (dss_one (ds_ret (de_lstO (da_cons (de_ix (de_var 0) de_int) da_nil)))) dss_nil) (dss_cons (ds_if (dt_cmp (od_in hr.u200) (de_ix (de_var 0) de_int) (de_tup (da_cons de_str (da_cons de_str (da_cons de_str (da_cons de_str da_nil))))) (by rfl)) (dss_one (ds_ret (de_callTy cd_list1O (by rfl) m_list bb_list (da_cons (de_slice (de_var 0) (do_some de_int) do_none) da_nil)))) dss_nil) (dss_one (ds_ret (de_lstO da_nil)))))
/-! ### with_inner -/
abbrev s_with_inner : Stmt := topS 6
abbrev N_with_inner : List Str := ["program", "some"]
abbrev P_with_inner : List Str := ["program", "some"]
theorem sc_with_inner : FnScope N_with_inner P_with_inner (defScope s_with_inner) := ⟨rfl, rfl, rfl, by decide +kernel, rfl, by decide +kernel, by decide +kernel⟩
def g_with_inner : GS :=
  (gSeq (gIf (fTest (fOp (rEqD false) (fOp rIxD (fVar 0) (fC (.int 0))) (fC (.str "take")))) (gRet (fTup (fCons (fOp rIxD (fVar 0) (fC (.int 0))) (fCons (fOp rIxD (fVar 0) (fC (.int 1))) (fCons (fOp rIxD (fVar 0) (fC (.int 2))) (fCons (fOp rIxD (fVar 1) (fC (.int 0))) fNil)))))) gNext) (gSeq (gIf (fTest (fOp (rEqD false) (fVar 1) (fLst fNil))) (gRet (fVar 0)) gNext) (gRet (fOp rAddD (fTup (fCons (fOp rIxD (fVar 0) (fC (.int 0))) fNil)) (fCB rTup1 (fCons (fVar 1) fNil))))))
theorem der_with_inner {P : Program} {w : World} {K : PySem.W.Frag} {mg : Str → Option Value} {base : Heap} {k : Nat} {f : Addr} (m_tuple : mg "tuple" = none)
    (cdv : Value) (A : Around) (outer : List Env) (s : Shared) (H : Hp) (E : XK) (hr : Room k (A.deeper (envOfC "with_inner" (defScope s_with_inner) s.heap.objs.size f cdv))) :
    DSs MT (cxOf CX0 P w K mg base N_with_inner "with_inner" (defScope s_with_inner) f cdv A outer s H E).nox (defBody s_with_inner) (g_with_inner) :=
  (dss_cons (ds_if (dt_cmp (od_eq hr.u200) (de_ix (de_var 0) de_int) de_str (nomark _)) (dss_one (ds_ret (de_tup (da_cons (de_ix (de_var 0) de_int) (da_cons (de_ix (de_var 0) de_int) (da_cons (de_ix (de_var 0) de_int) (da_cons (de_ix (de_var 1) de_int) da_nil))))))) dss_nil) (dss_cons (ds_if (dt_cmp (od_eq hr.u200) (de_var 1) (de_lst da_nil) (nomark _)) (dss_one (ds_ret (de_var 0))) dss_nil) (dss_one (ds_ret (de_op od_add (de_tup (da_cons (de_ix (de_var 0) de_int) da_nil)) (de_callTy cd_tup1 (by rfl) m_tuple bb_tuple (da_cons (de_var 1) da_nil)))))))
/-! ### known_as -/
abbrev s_known_as : Stmt := topS 8
abbrev N_known_as : List Str := ["known", "name", "one", "kind"]
abbrev P_known_as : List Str := ["known", "name"]
theorem sc_known_as : FnScope N_known_as P_known_as (defScope s_known_as) := ⟨rfl, rfl, rfl, by decide +kernel, rfl, by decide +kernel, by decide +kernel⟩
def g_known_as : GS :=
  (gSeq (gFor (fiRev (fCons (fVar 0) fNil)) (.tp [(.nm 2), (.nm 3)]) (gIf (fTest (fOp (rEqD false) (fVar 2) (fVar 1))) (gRet (fVar 3)) gNext)) (gRet (fC .non)))
theorem der_known_as {P : Program} {w : World} {K : PySem.W.Frag} {mg : Str → Option Value} {base : Heap} {k : Nat} {f : Addr} (m_reversed : mg "reversed" = none)
    (cdv : Value) (A : Around) (outer : List Env) (s : Shared) (H : Hp) (E : XK) (hr : Room k (A.deeper (envOfC "known_as" (defScope s_known_as) s.heap.objs.size f cdv))) :
    DSs MT (cxOf CX0 P w K mg base N_known_as "known_as" (defScope s_known_as) f cdv A outer s H E).nox (defBody s_known_as) (g_known_as) :=
  (dss_cons (ds_for PassesOwn.never rfl (di_rev (by rfl) m_reversed (da_cons (de_var 0) da_nil)) (dp_tup (by rfl) (dps_cons (dp_name (i := 2) sc_known_as.nd (by rfl) (by first | exact Or.inl rfl | exact Or.inr rfl)) (dps_cons (dp_name (i := 3) sc_known_as.nd (by rfl) (by first | exact Or.inl rfl | exact Or.inr rfl)) dps_nil))) (dss_one (ds_if (dt_cmp (od_eq hr.u200) (de_var 2) (de_var 1) (nomark _)) (dss_one (ds_ret (de_var 3))) dss_nil))) (dss_one (ds_ret de_non)))
/-! ### kind_here -/
abbrev s_kind_here : Stmt := topS 9
abbrev N_kind_here : List Str := ["known", "program", "some", "word"]
abbrev P_kind_here : List Str := ["known", "program", "some"]
theorem sc_kind_here : FnScope N_kind_here P_kind_here (defScope s_kind_here) := ⟨rfl, rfl, rfl, by decide +kernel, rfl, by decide +kernel, by decide +kernel⟩
def g_kind_here (sp_known_as : DSp) (d_ONE : D) : GS :=
  (gSeq (gSet (fOp rIxD (fVar 1) (fC (.int 0))) 3) (gSeq (gIf (fTest (fOp (rEqD false) (fVar 3) (fC (.str "name")))) (gRet (fCall sp_known_as (fCons (fVar 0) (fCons (fOp rIxD (fVar 1) (fC (.int 1))) fNil)))) gNext) (gSeq (gIf (fTest (fOp (rEqD false) (fVar 3) (fC (.str "take")))) (gRet (fTup (fCons (fC (.str "to")) (fCons (fOp rIxD (fVar 1) (fC (.int 2))) (fCons (fOp rIxD (fVar 2) (fC (.int 0))) fNil))))) gNext) (gSeq (gIf (fTest (fOp (rEqD false) (fVar 3) (fC (.str "pair")))) (gRet (fTup (fCons (fC (.str "both")) (fCons (fOp rIxD (fVar 2) (fC (.int 0))) (fCons (fOp rIxD (fVar 2) (fC (.int 1))) fNil))))) gNext) (gSeq (gIf (fTest (fOp (rEqD false) (fVar 3) (fC (.str "thing")))) (gRet (fC d_ONE)) gNext) (gSeq (gIf (fTest (fOp (rEqD false) (fVar 3) (fC (.str "gap")))) (gRet (fOp rIxD (fVar 1) (fC (.int 1)))) gNext) (gSeq (gIf (fTest (fOp (rEqD false) (fVar 3) (fC (.str "give")))) (gSeq (gIf (fAnd (fTest (fOp (rEqD false) (fOp rIxD (fOp rIxD (fVar 2) (fC (.int 0))) (fC (.int 0))) (fC (.str "to")))) (fTest (fOp (rEqD false) (fOp rIxD (fOp rIxD (fVar 2) (fC (.int 0))) (fC (.int 1))) (fOp rIxD (fVar 2) (fC (.int 1)))))) (gRet (fOp rIxD (fOp rIxD (fVar 2) (fC (.int 0))) (fC (.int 2)))) gNext) (gRet (fC .non))) gNext) (gSeq (gIf (fTest (fOp (rEqD true) (fOp rIxD (fOp rIxD (fVar 2) (fC (.int 0))) (fC (.int 0))) (fC (.str "both")))) (gRet (fC .non)) gNext) (gRet (fOp rIxD (fOp rIxD (fVar 2) (fC (.int 0))) (fOp rAddD (fC (.int 1)) (fCB rInt1 (fCons (fOp (rEqD false) (fVar 3) (fC (.str "second"))) fNil)))))))))))))
theorem der_kind_here {P : Program} {w : World} {K : PySem.W.Frag} {mg : Str → Option Value} {base : Heap} {k : Nat} {f : Addr} {sp_known_as : DSp} {d_ONE : D} {a_known_as : Addr} {fd_known_as : FuncData} (n_known_as : Fn K mg "known_as" s_known_as P_known_as a_known_as fd_known_as) (G_known_as : FnOk P w K mg base CX0 k a_known_as fd_known_as P_known_as (liftSp K sp_known_as)) (m_int : mg "int" = none) (c_ONE : Cst K mg "ONE" d_ONE)
    (cdv : Value) (A : Around) (outer : List Env) (s : Shared) (H : Hp) (E : XK) (hr : Room k (A.deeper (envOfC "kind_here" (defScope s_kind_here) s.heap.objs.size f cdv))) :
    DSs MT (cxOf CX0 P w K mg base N_kind_here "kind_here" (defScope s_kind_here) f cdv A outer s H E).nox (defBody s_kind_here) (g_kind_here sp_known_as d_ONE) :=
  (dss_cons (ds_set (i := 3) sc_kind_here.nd rfl (by first | exact Or.inl rfl | exact Or.inr rfl) (de_ix (de_var 1) de_int)) (dss_cons (ds_if (dt_cmp (od_eq hr.u200) (de_var 3) de_str (nomark _)) (dss_one (ds_ret (de_callN n_known_as G_known_as hr (by rfl) (da_cons (de_var 0) (da_cons (de_ix (de_var 1) de_int) da_nil))))) dss_nil) (dss_cons (ds_if (dt_cmp (od_eq hr.u200) (de_var 3) de_str (nomark _)) (dss_one (ds_ret (de_tup (da_cons de_str (da_cons (de_ix (de_var 1) de_int) (da_cons (de_ix (de_var 2) de_int) da_nil)))))) dss_nil) (dss_cons (ds_if (dt_cmp (od_eq hr.u200) (de_var 3) de_str (nomark _)) (dss_one (ds_ret (de_tup (da_cons de_str (da_cons (de_ix (de_var 2) de_int) (da_cons (de_ix (de_var 2) de_int) da_nil)))))) dss_nil) (dss_cons (ds_if (dt_cmp (od_eq hr.u200) (de_var 3) de_str (nomark _)) (dss_one (ds_ret (de_cst c_ONE (by rfl)))) dss_nil) (dss_cons (ds_if (dt_cmp (od_eq hr.u200) (de_var 3) de_str (nomark _)) (dss_one (ds_ret (de_ix (de_var 1) de_int))) dss_nil) (dss_cons (ds_if (dt_cmp (od_eq hr.u200) (de_var 3) de_str (nomark _)) (dss_cons (ds_if (dt_of (dw_and (dt_cmp (od_eq hr.u200) (de_ix (de_ix (de_var 2) de_int) de_int) de_str (nomark _)) (dw_and1 (dt_cmp (od_eq hr.u200) (de_ix (de_ix (de_var 2) de_int) de_int) (de_ix (de_var 2) de_int) (nomark _))))) (dss_one (ds_ret (de_ix (de_ix (de_var 2) de_int) de_int))) dss_nil) (dss_one (ds_ret de_non))) dss_nil) (dss_cons (ds_if (dt_cmp (od_ne hr.u200) (de_ix (de_ix (de_var 2) de_int) de_int) de_str (nomark _)) (dss_one (ds_ret de_non)) dss_nil) (dss_one (ds_ret (de_ix (de_ix (de_var 2) de_int) (de_op od_add de_int (de_callTy cd_int1 (by rfl) m_int bb_int (da_cons (de_cmp (od_eq hr.u200) (de_var 3) de_str (nomark _)) da_nil))))))))))))))
/-! ### kind_within -/
abbrev s_kind_within : Stmt := topS 10
abbrev N_kind_within : List Str := ["known", "program", "place", "some", "found", "k", "part"]
abbrev P_kind_within : List Str := ["known", "program", "place"]
theorem sc_kind_within : FnScope N_kind_within P_kind_within (defScope s_kind_within) := ⟨rfl, rfl, rfl, by decide +kernel, rfl, by decide +kernel, by decide +kernel⟩
def g_kind_within (sp_inner sp_kind_within sp_kind_here : DSp) : GS :=
  (gSeq (gIf (fTest (fOp (rEqD false) (fOp rIxD (fVar 1) (fC (.int 0))) (fC (.str "take")))) (gSet (fOp rAddD (fVar 0) (fLst (fCons (fTup (fCons (fOp rIxD (fVar 1) (fC (.int 1))) (fCons (fOp rIxD (fVar 1) (fC (.int 2))) fNil))) fNil))) 0) gNext) (gSeq (gSet (fLc (fiEnum (fCons (fFrz (fCall sp_inner (fCons (fVar 1) fNil))) fNil)) (.tp [(.nm 5), (.nm 6)]) fYes (fCall sp_kind_within (fCons (fVar 0) (fCons (fVar 6) (fCons (fOp rAddD (fVar 2) (fLst (fCons (fVar 5) fNil))) fNil)))) [5, 6]) 3) (gSeq (gSet (fCall sp_kind_here (fCons (fVar 0) (fCons (fVar 1) (fCons (fVar 3) fNil)))) 4) (gSeq (gIf (fTest (fOp (rIsN false) (fVar 4) (fC .non))) gNever gNext) (gRet (fVar 4))))))
theorem der_kind_within {P : Program} {w : World} {K : PySem.W.Frag} {mg : Str → Option Value} {base : Heap} {k : Nat} {f : Addr} {sp_inner sp_kind_within sp_kind_here : DSp} {a_inner : Addr} {fd_inner : FuncData} (n_inner : Fn K mg "inner" s_inner P_inner a_inner fd_inner) (G_inner : FnOk P w K mg base CX0 k a_inner fd_inner P_inner (liftSp K sp_inner)) {a_kind_within : Addr} {fd_kind_within : FuncData} (n_kind_within : Fn K mg "kind_within" s_kind_within P_kind_within a_kind_within fd_kind_within) (G_kind_within : FnOk P w K mg base CX0 k a_kind_within fd_kind_within P_kind_within (liftSp K sp_kind_within)) {a_kind_here : Addr} {fd_kind_here : FuncData} (n_kind_here : Fn K mg "kind_here" s_kind_here P_kind_here a_kind_here fd_kind_here) (G_kind_here : FnOk P w K mg base CX0 k a_kind_here fd_kind_here P_kind_here (liftSp K sp_kind_here)) (m_enumerate : mg "enumerate" = none)
    (cdv : Value) (A : Around) (outer : List Env) (s : Shared) (H : Hp) (E : XK) (hr : Room k (A.deeper (envOfC "kind_within" (defScope s_kind_within) s.heap.objs.size f cdv))) :
    DSs MT (cxOf CX0 P w K mg base N_kind_within "kind_within" (defScope s_kind_within) f cdv A outer s H E).nox (defBody s_kind_within) (g_kind_within sp_inner sp_kind_within sp_kind_here) :=
  (dss_cons (ds_if (dt_cmp (od_eq hr.u200) (de_ix (de_var 1) de_int) de_str (nomark _)) (dss_one (ds_set (i := 0) sc_kind_within.nd rfl (by first | exact Or.inl rfl | exact Or.inr rfl) (de_op od_add (de_var 0) (de_lst (da_cons (de_tup (da_cons (de_ix (de_var 1) de_int) (da_cons (de_ix (de_var 1) de_int) da_nil))) da_nil))))) dss_nil) (dss_cons (ds_setLc (i := 3) rfl sc_kind_within.nd rfl rfl (sw_true rfl rfl rfl (by decide +kernel)) (di_enum (by rfl) m_enumerate (da_cons (de_frz (de_callN n_inner G_inner hr (by rfl) (da_cons (de_var 1) da_nil))) da_nil)) (blkOk_by (own := [("k", 5), ("part", 6)]) (N := N_kind_within) (sc := defScope s_kind_within) (by decide +kernel)) (fun _ _ _ _ _ => (dp_tup (by rfl) (dps_cons (dp_name (i := 5) sc_kind_within.nd (by rfl) (by first | exact Or.inl rfl | exact Or.inr rfl)) (dps_cons (dp_name (i := 6) sc_kind_within.nd (by rfl) (by first | exact Or.inl rfl | exact Or.inr rfl)) dps_nil)))) (fun _ _ _ _ _ => dts_nil) (fun _ _ _ _ _ => (de_callN n_kind_within G_kind_within hr (by rfl) (da_cons (de_var 0) (da_cons (de_var 6) (da_cons (de_op od_add (de_var 2) (de_lst (da_cons (de_var 5) da_nil))) da_nil)))))) (dss_cons (ds_set (i := 4) sc_kind_within.nd rfl (by first | exact Or.inl rfl | exact Or.inr rfl) (de_callN n_kind_here G_kind_here hr (by rfl) (da_cons (de_var 0) (da_cons (de_var 1) (da_cons (de_var 3) da_nil))))) (dss_cons (ds_if (dt_cmp od_is (de_var 4) de_non (nomark _)) (dss_one ds_never) dss_nil) (dss_one (ds_ret (de_var 4)))))))
/-! ### kind_of -/
abbrev s_kind_of : Stmt := topS 11
abbrev N_kind_of : List Str := ["row", "program"]
abbrev P_kind_of : List Str := ["row", "program"]
theorem sc_kind_of : FnScope N_kind_of P_kind_of (defScope s_kind_of) := ⟨rfl, rfl, rfl, by decide +kernel, rfl, by decide +kernel, by decide +kernel⟩
def g_kind_of (sp_kind_within : DSp) : GS :=
  (gRet (fCall sp_kind_within (fCons (fCB rList1 (fCons (fVar 0) fNil)) (fCons (fVar 1) (fCons (fLst fNil) fNil)))))
theorem der_kind_of {P : Program} {w : World} {K : PySem.W.Frag} {mg : Str → Option Value} {base : Heap} {k : Nat} {f : Addr} {sp_kind_within : DSp} {a_kind_within : Addr} {fd_kind_within : FuncData} (n_kind_within : Fn K mg "kind_within" s_kind_within P_kind_within a_kind_within fd_kind_within) (G_kind_within : FnOk P w K mg base CX0 k a_kind_within fd_kind_within P_kind_within (liftSp K sp_kind_within)) (m_list : mg "list" = none)
    (cdv : Value) (A : Around) (outer : List Env) (s : Shared) (H : Hp) (E : XK) (hr : Room k (A.deeper (envOfC "kind_of" (defScope s_kind_of) s.heap.objs.size f cdv))) :
    DSs MT (cxOf CX0 P w K mg base N_kind_of "kind_of" (defScope s_kind_of) f cdv A outer s H E).nox (defBody s_kind_of) (g_kind_of sp_kind_within) :=
  (dss_one (ds_ret (de_callN n_kind_within G_kind_within hr (by rfl) (da_cons (de_callTy cd_list1 (by rfl) m_list bb_list (da_cons (de_var 0) da_nil)) (da_cons (de_var 1) (da_cons (de_lst da_nil) da_nil))))))
/-! ### tidied_within -/
abbrev s_tidied_within : Stmt := topS 12
abbrev N_tidied_within : List Str := ["program", "taken", "k", "body", "part"]
abbrev P_tidied_within : List Str := ["program", "taken"]
theorem sc_tidied_within : FnScope N_tidied_within P_tidied_within (defScope s_tidied_within) := ⟨rfl, rfl, rfl, by decide +kernel, rfl, by decide +kernel, by decide +kernel⟩
def g_tidied_within (sp_tidied_within sp_with_inner sp_inner : DSp) : GS :=
  (gSeq (gIf (fTest (fOp (rEqD false) (fOp rIxD (fVar 0) (fC (.int 0))) (fC (.str "name")))) (gSeq (gFor (fiRevR (fCB rLenD (fCons (fVar 1) fNil))) (.nm 2) (gIf (fTest (fOp (rEqD false) (fOp rIxD (fVar 1) (fVar 2)) (fOp rIxD (fVar 0) (fC (.int 1))))) (gRet (fTup (fCons (fC (.str "name")) (fCons (fOp rAddD (fC (.str "x")) (fCB rStr1 (fCons (fVar 2) fNil))) fNil)))) gNext)) (gRet (fVar 0))) gNext) (gSeq (gIf (fTest (fOp (rEqD false) (fOp rIxD (fVar 0) (fC (.int 0))) (fC (.str "take")))) (gSeq (gSet (fCall sp_tidied_within (fCons (fOp rIxD (fVar 0) (fC (.int 3))) (fCons (fOp rAddD (fVar 1) (fLst (fCons (fOp rIxD (fVar 0) (fC (.int 1))) fNil))) fNil))) 3) (gRet (fTup (fCons (fC (.str "take")) (fCons (fOp rAddD (fC (.str "x")) (fCB rStr1 (fCons (fCB rLenD (fCons (fVar 1) fNil)) fNil))) (fCons (fOp rIxD (fVar 0) (fC (.int 2))) (fCons (fVar 3) fNil))))))) gNext) (gRet (fCall sp_with_inner (fCons (fVar 0) (fCons (fLc (fiList (fFrz (fCall sp_inner (fCons (fVar 0) fNil)))) (.nm 4) fYes (fCall sp_tidied_within (fCons (fVar 4) (fCons (fVar 1) fNil))) [4]) fNil))))))
theorem der_tidied_within {P : Program} {w : World} {K : PySem.W.Frag} {mg : Str → Option Value} {base : Heap} {k : Nat} {f : Addr} {sp_tidied_within sp_with_inner sp_inner : DSp} {a_tidied_within : Addr} {fd_tidied_within : FuncData} (n_tidied_within : Fn K mg "tidied_within" s_tidied_within P_tidied_within a_tidied_within fd_tidied_within) (G_tidied_within : FnOk P w K mg base CX0 k a_tidied_within fd_tidied_within P_tidied_within (liftSp K sp_tidied_within)) {a_with_inner : Addr} {fd_with_inner : FuncData} (n_with_inner : Fn K mg "with_inner" s_with_inner P_with_inner a_with_inner fd_with_inner) (G_with_inner : FnOk P w K mg base CX0 k a_with_inner fd_with_inner P_with_inner (liftSp K sp_with_inner)) {a_inner : Addr} {fd_inner : FuncData} (n_inner : Fn K mg "inner" s_inner P_inner a_inner fd_inner) (G_inner : FnOk P w K mg base CX0 k a_inner fd_inner P_inner (liftSp K sp_inner)) (m_reversed : mg "reversed" = none) (m_range : mg "range" = none) (m_len : mg "len" = none) (m_str : mg "str" = none)
    (cdv : Value) (A : Around) (outer : List Env) (s : Shared) (H : Hp) (E : XK) (hr : Room k (A.deeper (envOfC "tidied_within" (defScope s_tidied_within) s.heap.objs.size f cdv))) :
    DSs MT (cxOf CX0 P w K mg base N_tidied_within "tidied_within" (defScope s_tidied_within) f cdv A outer s H E).nox (defBody s_tidied_within) (g_tidied_within sp_tidied_within sp_with_inner sp_inner) :=
  (dss_cons (ds_if (dt_cmp (od_eq hr.u200) (de_ix (de_var 0) de_int) de_str (nomark _)) (dss_cons (ds_for PassesOwn.never rfl (di_revR (by rfl) m_reversed (by rfl) m_range (de_callB cd_len (by rfl) m_len bb_len (da_cons (de_var 1) da_nil))) (dp_name (i := 2) sc_tidied_within.nd (by rfl) (by first | exact Or.inl rfl | exact Or.inr rfl)) (dss_one (ds_if (dt_cmp (od_eq hr.u200) (de_ix (de_var 1) (de_var 2)) (de_ix (de_var 0) de_int) (nomark _)) (dss_one (ds_ret (de_tup (da_cons de_str (da_cons (de_op od_add de_str (de_callTy cd_str1 (by rfl) m_str bb_str (da_cons (de_var 2) da_nil))) da_nil))))) dss_nil))) (dss_one (ds_ret (de_var 0)))) dss_nil) (dss_cons (ds_if (dt_cmp (od_eq hr.u200) (de_ix (de_var 0) de_int) de_str (nomark _)) (dss_cons (ds_set (i := 3) sc_tidied_within.nd rfl (by first | exact Or.inl rfl | exact Or.inr rfl) (de_callN n_tidied_within G_tidied_within hr (by rfl) (da_cons (de_ix (de_var 0) de_int) (da_cons (de_op od_add (de_var 1) (de_lst (da_cons (de_ix (de_var 0) de_int) da_nil))) da_nil)))) (dss_one (ds_ret (de_tup (da_cons de_str (da_cons (de_op od_add de_str (de_callTy cd_str1 (by rfl) m_str bb_str (da_cons (de_callB cd_len (by rfl) m_len bb_len (da_cons (de_var 1) da_nil)) da_nil))) (da_cons (de_ix (de_var 0) de_int) (da_cons (de_var 3) da_nil)))))))) dss_nil) (dss_one (ds_ret (de_callN n_with_inner G_with_inner hr (by rfl) (da_cons (de_var 0) (da_cons (de_lc (by rfl) sc_tidied_within.nd (di_list (de_frz (de_callN n_inner G_inner hr (by rfl) (da_cons (de_var 0) da_nil)))) (blkOk_by (own := [("part", 4)]) (N := N_tidied_within) (sc := defScope s_tidied_within) (by decide +kernel)) (fun _ _ _ _ _ => (dp_name (i := 4) sc_tidied_within.nd (by rfl) (by first | exact Or.inl rfl | exact Or.inr rfl))) (fun _ _ _ _ _ => dts_nil) (fun _ _ _ _ _ => (de_callN n_tidied_within G_tidied_within hr (by rfl) (da_cons (de_var 4) (da_cons (de_var 1) da_nil))))) da_nil)))))))
/-! ### tidied -/
abbrev s_tidied : Stmt := topS 13
abbrev N_tidied : List Str := ["program"]
abbrev P_tidied : List Str := ["program"]
theorem sc_tidied : FnScope N_tidied P_tidied (defScope s_tidied) := ⟨rfl, rfl, rfl, by decide +kernel, rfl, by decide +kernel, by decide +kernel⟩
def g_tidied (sp_tidied_within : DSp) : GS :=
  (gRet (fCall sp_tidied_within (fCons (fVar 0) (fCons (fLst fNil) fNil))))
theorem der_tidied {P : Program} {w : World} {K : PySem.W.Frag} {mg : Str → Option Value} {base : Heap} {k : Nat} {f : Addr} {sp_tidied_within : DSp} {a_tidied_within : Addr} {fd_tidied_within : FuncData} (n_tidied_within : Fn K mg "tidied_within" s_tidied_within P_tidied_within a_tidied_within fd_tidied_within) (G_tidied_within : FnOk P w K mg base CX0 k a_tidied_within fd_tidied_within P_tidied_within (liftSp K sp_tidied_within))
    (cdv : Value) (A : Around) (outer : List Env) (s : Shared) (H : Hp) (E : XK) (hr : Room k (A.deeper (envOfC "tidied" (defScope s_tidied) s.heap.objs.size f cdv))) :
    DSs MT (cxOf CX0 P w K mg base N_tidied "tidied" (defScope s_tidied) f cdv A outer s H E).nox (defBody s_tidied) (g_tidied sp_tidied_within) :=
  (dss_one (ds_ret (de_callN n_tidied_within G_tidied_within hr (by rfl) (da_cons (de_var 0) (da_cons (de_lst da_nil) da_nil)))))
/-! ### _law_pool -/
abbrev s__law_pool : Stmt := topS 15
abbrev N__law_pool : List Str := ["_law_script", "_law_k", "_law_cell", "_law_number"]
abbrev P__law_pool : List Str := ["_law_script", "_law_k"]
theorem sc__law_pool : FnScope N__law_pool P__law_pool (defScope s__law_pool) := ⟨rfl, rfl, rfl, by decide +kernel, rfl, by decide +kernel, by decide +kernel⟩
def g__law_pool : GS :=
  (gSeq (gSet (fC (.int 0)) 2) (gSeq (gIf (fTest (fOp rLtD (fVar 1) (fCB rLenD (fCons (fVar 0) fNil)))) (gSet (fOp rIxD (fVar 0) (fVar 1)) 2) gNext) (gSeq (gSet (fOp rModD (fOp rPowD (fOp rAddD (fOp rAddD (fOp rModD (fVar 2) (fC (.int 2147483629))) (fOp rMulD (fOp rMulD (fC (.int 104729)) (fVar 1)) (fVar 1))) (fC (.int 11))) (fC (.int 3))) (fC (.int 2147483647))) 3) (gSeq (gIf (fTest (fOp rLtD (fVar 2) (fOp rPowD (fC (.int 10)) (fC (.int 18))))) (gSet (fC (.int 0)) 2) gNext) (gRet (fPool (fCons (fVar 2) (fCons (fVar 3) fNil))))))))
theorem der__law_pool {P : Program} {w : World} {K : PySem.W.Frag} {mg : Str → Option Value} {base : Heap} {k : Nat} {f : Addr} (m_len : mg "len" = none)
    (cdv : Value) (A : Around) (outer : List Env) (s : Shared) (H : Hp) (E : XK) (hr : Room k (A.deeper (envOfC "_law_pool" (defScope s__law_pool) s.heap.objs.size f cdv))) :
    DSs MT (cxOf CX0 P w K mg base N__law_pool "_law_pool" (defScope s__law_pool) f cdv A outer s H E).nox (defBody s__law_pool) (g__law_pool) :=
  (dss_cons (ds_set (i := 2) sc__law_pool.nd rfl (by first | exact Or.inl rfl | exact Or.inr rfl) de_int) (dss_cons (ds_if (dt_cmp od_lt (de_var 1) (de_callB cd_len (by rfl) m_len bb_len (da_cons (de_var 0) da_nil)) (nomark _)) (dss_one (ds_set (i := 2) sc__law_pool.nd rfl (by first | exact Or.inl rfl | exact Or.inr rfl) (de_ix (de_var 0) (de_var 1)))) dss_nil) (dss_cons (ds_set (i := 3) sc__law_pool.nd rfl (by first | exact Or.inl rfl | exact Or.inr rfl) (de_op od_mod (de_op od_pow (de_op od_add (de_op od_add (de_op od_mod (de_var 2) de_int) (de_op od_mul (de_op od_mul de_int (de_var 1)) (de_var 1))) de_int) de_int) de_int)) (dss_cons (ds_if (dt_cmp od_lt (de_var 2) (de_op od_pow de_int de_int) (nomark _)) (dss_one (ds_set (i := 2) sc__law_pool.nd rfl (by first | exact Or.inl rfl | exact Or.inr rfl) de_int)) dss_nil) (dss_one (ds_ret (de_pool (da_cons (de_var 2) (da_cons (de_var 3) da_nil)))))))))
/-! ### _law_take -/
abbrev s__law_take : Stmt := topS 16
abbrev N__law_take : List Str := ["_law_pool_here", "_law_many_here", "_law_found"]
abbrev P__law_take : List Str := ["_law_pool_here", "_law_many_here"]
theorem sc__law_take : FnScope N__law_take P__law_take (defScope s__law_take) := ⟨rfl, rfl, rfl, by decide +kernel, rfl, by decide +kernel, by decide +kernel⟩
def g__law_take : GS :=
  (gSeq (gIf (fTest (fOp rGtD (fOp rIxD (fVar 0) (fC (.int 0))) (fC (.int 0)))) (gSeq (gSet (fOp rModD (fOp rIxD (fVar 0) (fC (.int 0))) (fVar 1)) 2) (gSeq (gSetIx (fVar 0) (fC (.int 0)) (fOp rDivD (fOp rIxD (fVar 0) (fC (.int 0))) (fVar 1))) (gRet (fVar 2)))) gNext) (gSeq (gSetIx (fVar 0) (fC (.int 1)) (fOp rModD (fOp rAddD (fOp rMulD (fOp rIxD (fVar 0) (fC (.int 1))) (fC (.int 48271))) (fC (.int 11))) (fC (.int 2147483647)))) (gRet (fOp rModD (fOp rDivD (fOp rModD (fOp rMulD (fOp rIxD (fVar 0) (fC (.int 1))) (fOp rIxD (fVar 0) (fC (.int 1)))) (fC (.int 2147483629))) (fC (.int 64))) (fVar 1)))))
theorem der__law_take {P : Program} {w : World} {K : PySem.W.Frag} {mg : Str → Option Value} {base : Heap} {k : Nat} {f : Addr} 
    (cdv : Value) (A : Around) (outer : List Env) (s : Shared) (H : Hp) (E : XK) (hr : Room k (A.deeper (envOfC "_law_take" (defScope s__law_take) s.heap.objs.size f cdv))) :
    DSs MT (cxOf CX0 P w K mg base N__law_take "_law_take" (defScope s__law_take) f cdv A outer s H E).nox (defBody s__law_take) (g__law_take) :=
  (dss_cons (ds_if (dt_cmp od_gt (de_ix (de_var 0) de_int) de_int (nomark _)) (dss_cons (ds_set (i := 2) sc__law_take.nd rfl (by first | exact Or.inl rfl | exact Or.inr rfl) (de_op od_mod (de_ix (de_var 0) de_int) (de_var 1))) (dss_cons (ds_setIx (de_var 0) de_int (de_op od_div (de_ix (de_var 0) de_int) (de_var 1))) (dss_one (ds_ret (de_var 2))))) dss_nil) (dss_cons (ds_setIx (de_var 0) de_int (de_op od_mod (de_op od_add (de_op od_mul (de_ix (de_var 0) de_int) de_int) de_int) de_int)) (dss_one (ds_ret (de_op od_mod (de_op od_div (de_op od_mod (de_op od_mul (de_ix (de_var 0) de_int) (de_ix (de_var 0) de_int)) de_int) de_int) (de_var 1))))))
/-! ### _law_kind -/
abbrev s__law_kind : Stmt := topS 17
abbrev N__law_kind : List Str := ["_law_pool_here", "_law_leaves", "_law_marks", "_law_one", "_law_word"]
abbrev P__law_kind : List Str := ["_law_pool_here", "_law_leaves", "_law_marks"]
theorem sc__law_kind : FnScope N__law_kind P__law_kind (defScope s__law_kind) := ⟨rfl, rfl, rfl, by decide +kernel, rfl, by decide +kernel, by decide +kernel⟩
def g__law_kind (sp__law_take sp__law_kind : DSp) : GS :=
  (gSeq (gIf (fTest (fOp (rEqD false) (fVar 1) (fC (.int 1)))) (gSeq (gIf (fTest (fOp (rEqD false) (fCall sp__law_take (fCons (fVar 0) (fCons (fC (.int 9)) fNil))) (fC (.int 8)))) (gRet (fTup (fCons (fC (.str "one")) fNil))) gNext) (gRet (fTup (fCons (fC (.str "mark")) (fCons (fOp rIxD (fVar 2) (fCall sp__law_take (fCons (fVar 0) (fCons (fCB rLenD (fCons (fVar 2) fNil)) fNil)))) fNil))))) gNext) (gSeq (gSet (fOp rAddD (fC (.int 1)) (fCall sp__law_take (fCons (fVar 0) (fCons (fOp rSubD (fVar 1) (fC (.int 1))) fNil)))) 3) (gSeq (gSet (fOp rIxD (fLst (fCons (fC (.str "to")) (fCons (fC (.str "to")) (fCons (fC (.str "both")) fNil)))) (fCall sp__law_take (fCons (fVar 0) (fCons (fC (.int 3)) fNil)))) 4) (gRet (fTup (fCons (fVar 4) (fCons (fCall sp__law_kind (fCons (fVar 0) (fCons (fVar 3) (fCons (fVar 2) fNil)))) (fCons (fCall sp__law_kind (fCons (fVar 0) (fCons (fOp rSubD (fVar 1) (fVar 3)) (fCons (fVar 2) fNil)))) fNil))))))))
theorem der__law_kind {P : Program} {w : World} {K : PySem.W.Frag} {mg : Str → Option Value} {base : Heap} {k : Nat} {f : Addr} {sp__law_take sp__law_kind : DSp} {a__law_take : Addr} {fd__law_take : FuncData} (n__law_take : Fn K mg "_law_take" s__law_take P__law_take a__law_take fd__law_take) (G__law_take : FnOk P w K mg base CX0 k a__law_take fd__law_take P__law_take (liftSp K sp__law_take)) {a__law_kind : Addr} {fd__law_kind : FuncData} (n__law_kind : Fn K mg "_law_kind" s__law_kind P__law_kind a__law_kind fd__law_kind) (G__law_kind : FnOk P w K mg base CX0 k a__law_kind fd__law_kind P__law_kind (liftSp K sp__law_kind)) (m_len : mg "len" = none)
    (cdv : Value) (A : Around) (outer : List Env) (s : Shared) (H : Hp) (E : XK) (hr : Room k (A.deeper (envOfC "_law_kind" (defScope s__law_kind) s.heap.objs.size f cdv))) :
    DSs MT (cxOf CX0 P w K mg base N__law_kind "_law_kind" (defScope s__law_kind) f cdv A outer s H E).nox (defBody s__law_kind) (g__law_kind sp__law_take sp__law_kind) :=
  (dss_cons (ds_if (dt_cmp (od_eq hr.u200) (de_var 1) de_int (nomark _)) (dss_cons (ds_if (dt_cmp (od_eq hr.u200) (de_callN n__law_take G__law_take hr (by rfl) (da_cons (de_var 0) (da_cons de_int da_nil))) de_int (nomark _)) (dss_one (ds_ret (de_tup (da_cons de_str da_nil)))) dss_nil) (dss_one (ds_ret (de_tup (da_cons de_str (da_cons (de_ix (de_var 2) (de_callN n__law_take G__law_take hr (by rfl) (da_cons (de_var 0) (da_cons (de_callB cd_len (by rfl) m_len bb_len (da_cons (de_var 2) da_nil)) da_nil)))) da_nil)))))) dss_nil) (dss_cons (ds_set (i := 3) sc__law_kind.nd rfl (by first | exact Or.inl rfl | exact Or.inr rfl) (de_op od_add de_int (de_callN n__law_take G__law_take hr (by rfl) (da_cons (de_var 0) (da_cons (de_op od_sub (de_var 1) de_int) da_nil))))) (dss_cons (ds_set (i := 4) sc__law_kind.nd rfl (by first | exact Or.inl rfl | exact Or.inr rfl) (de_ix (de_lst (da_cons de_str (da_cons de_str (da_cons de_str da_nil)))) (de_callN n__law_take G__law_take hr (by rfl) (da_cons (de_var 0) (da_cons de_int da_nil))))) (dss_one (ds_ret (de_tup (da_cons (de_var 4) (da_cons (de_callN n__law_kind G__law_kind hr (by rfl) (da_cons (de_var 0) (da_cons (de_var 3) (da_cons (de_var 2) da_nil)))) (da_cons (de_callN n__law_kind G__law_kind hr (by rfl) (da_cons (de_var 0) (da_cons (de_op od_sub (de_var 1) (de_var 3)) (da_cons (de_var 2) da_nil)))) da_nil)))))))))
/-! ### _law_seen -/
abbrev s__law_seen : Stmt := topS 18
abbrev N__law_seen : List Str := ["_law_known", "_law_found", "_law_name", "_law_kind_here"]
abbrev P__law_seen : List Str := ["_law_known"]
theorem sc__law_seen : FnScope N__law_seen P__law_seen (defScope s__law_seen) := ⟨rfl, rfl, rfl, by decide +kernel, rfl, by decide +kernel, by decide +kernel⟩
def g__law_seen : GS :=
  (gSeq (gSet fDicO 1) (gSeq (gFor (fiList (fVar 0)) (.tp [(.nm 2), (.nm 3)]) (gDPut (fVar 1) (fVar 2) (fVar 3))) (gRet (fLcK 1 (.nm 2) fYes (fTup (fCons (fVar 2) (fCons (fDGet (fVar 1) (fVar 2)) fNil))) [2]))))
theorem der__law_seen {P : Program} {w : World} {K : PySem.W.Frag} {mg : Str → Option Value} {base : Heap} {k : Nat} {f : Addr} 
    (cdv : Value) (A : Around) (outer : List Env) (s : Shared) (H : Hp) (E : XK) (hr : Room k (A.deeper (envOfC "_law_seen" (defScope s__law_seen) s.heap.objs.size f cdv))) :
    DSs MT (cxOf CX0 P w K mg base N__law_seen "_law_seen" (defScope s__law_seen) f cdv A outer s H E).nox (defBody s__law_seen) (g__law_seen) :=
  (dss_cons (ds_set (i := 1) sc__law_seen.nd rfl (by first | exact Or.inl rfl | exact Or.inr rfl) de_dicO) (dss_cons (ds_for PassesOwn.never rfl (di_list (de_var 0)) (dp_tup (by rfl) (dps_cons (dp_name (i := 2) sc__law_seen.nd (by rfl) (by first | exact Or.inl rfl | exact Or.inr rfl)) (dps_cons (dp_name (i := 3) sc__law_seen.nd (by rfl) (by first | exact Or.inl rfl | exact Or.inr rfl)) dps_nil))) (dss_one (ds_dput hr.u200 (de_var 1) (de_var 2) (de_var 3)))) (dss_one (ds_ret (de_lcK (by rfl) sc__law_seen.nd (de_var 1) (blkOk_by (own := [("_law_name", 2)]) (N := N__law_seen) (sc := defScope s__law_seen) (by decide +kernel)) (fun _ _ _ _ _ => (dp_name (i := 2) sc__law_seen.nd (by rfl) (by first | exact Or.inl rfl | exact Or.inr rfl))) (fun _ _ _ _ _ => dts_nil) (fun _ _ _ _ _ => (de_tup (da_cons (de_var 2) (da_cons (de_dget hr.u200 (de_var 1) (de_var 2)) da_nil)))))))))
/-! ### _law_uses -/
abbrev s__law_uses : Stmt := topS 19
abbrev N__law_uses : List Str := ["_law_kind_here", "_law_goal", "_law_name", "_law_found", "_law_moves"]
abbrev P__law_uses : List Str := ["_law_kind_here", "_law_goal", "_law_name"]
theorem sc__law_uses : FnScope N__law_uses P__law_uses (defScope s__law_uses) := ⟨rfl, rfl, rfl, by decide +kernel, rfl, by decide +kernel, by decide +kernel⟩
def g__law_uses (sp__law_uses : DSp) : GS :=
  (gSeq (gSet (fLstO fNil) 3) (gSeq (gIf (fTest (fOp (rEqD false) (fVar 0) (fVar 1))) (gDrop (fBM "list" rAppendD (fVar 3) (fCons (fLst fNil) fNil))) gNext) (gSeq (gIf (fTest (fOp (rEqD false) (fOp rIxD (fVar 0) (fC (.int 0))) (fC (.str "to")))) (gSet (fOp rCatO (fVar 3) (fLc (fiList (fCall sp__law_uses (fCons (fOp rIxD (fVar 0) (fC (.int 2))) (fCons (fVar 1) (fCons (fVar 2) fNil))))) (.nm 4) fYes (fOp rAddD (fLst (fCons (fOp rIxD (fVar 0) (fC (.int 1))) fNil)) (fVar 4)) [4])) 3) gNext) (gSeq (gIf (fTest (fOp (rEqD false) (fOp rIxD (fVar 0) (fC (.int 0))) (fC (.str "both")))) (gSeq (gSet (fOp rCatO (fVar 3) (fLc (fiList (fCall sp__law_uses (fCons (fOp rIxD (fVar 0) (fC (.int 1))) (fCons (fVar 1) (fCons (fVar 2) fNil))))) (.nm 4) fYes (fOp rAddD (fLst (fCons (fC (.int 1)) fNil)) (fVar 4)) [4])) 3) (gSet (fOp rCatO (fVar 3) (fLc (fiList (fCall sp__law_uses (fCons (fOp rIxD (fVar 0) (fC (.int 2))) (fCons (fVar 1) (fCons (fVar 2) fNil))))) (.nm 4) fYes (fOp rAddD (fLst (fCons (fC (.int 2)) fNil)) (fVar 4)) [4])) 3)) gNext) (gRetF (fVar 3))))))
theorem der__law_uses {P : Program} {w : World} {K : PySem.W.Frag} {mg : Str → Option Value} {base : Heap} {k : Nat} {f : Addr} {sp__law_uses : DSp} {a__law_uses : Addr} {fd__law_uses : FuncData} (n__law_uses : Fn K mg "_law_uses" s__law_uses P__law_uses a__law_uses fd__law_uses) (G__law_uses : FnOk P w K mg base CX0 k a__law_uses fd__law_uses P__law_uses (liftSp K sp__law_uses))
    (cdv : Value) (A : Around) (outer : List Env) (s : Shared) (H : Hp) (E : XK) (hr : Room k (A.deeper (envOfC "_law_uses" (defScope s__law_uses) s.heap.objs.size f cdv))) :
    DSs MT (cxOf CX0 P w K mg base N__law_uses "_law_uses" (defScope s__law_uses) f cdv A outer s H E).nox (defBody s__law_uses) (g__law_uses sp__law_uses) :=
  (dss_cons (ds_set (i := 3) sc__law_uses.nd rfl (by first | exact Or.inl rfl | exact Or.inr rfl) (de_lstO da_nil)) (dss_cons (ds_if (dt_cmp (od_eq hr.u200) (de_var 0) (de_var 1) (nomark _)) (dss_one (ds_expr (de_bm PySem.F.plainAttrs_list PySem.F.slot_list_append PySem.F.type_list_append md_append (de_var 3) (da_cons (de_lst da_nil) da_nil)))) dss_nil) (dss_cons (ds_if (dt_cmp (od_eq hr.u200) (de_ix (de_var 0) de_int) de_str (nomark _)) (dss_one (ds_set (i := 3) sc__law_uses.nd rfl (by first | exact Or.inl rfl | exact Or.inr rfl) (de_op od_catO (de_var 3) (de_lc (by rfl) sc__law_uses.nd (di_list (de_callN n__law_uses G__law_uses hr (by rfl) (da_cons (de_ix (de_var 0) de_int) (da_cons (de_var 1) (da_cons (de_var 2) da_nil))))) (blkOk_by (own := [("_law_moves", 4)]) (N := N__law_uses) (sc := defScope s__law_uses) (by decide +kernel)) (fun _ _ _ _ _ => (dp_name (i := 4) sc__law_uses.nd (by rfl) (by first | exact Or.inl rfl | exact Or.inr rfl))) (fun _ _ _ _ _ => dts_nil) (fun _ _ _ _ _ => (de_op od_add (de_lst (da_cons (de_ix (de_var 0) de_int) da_nil)) (de_var 4))))))) dss_nil) (dss_cons (ds_if (dt_cmp (od_eq hr.u200) (de_ix (de_var 0) de_int) de_str (nomark _)) (dss_cons (ds_set (i := 3) sc__law_uses.nd rfl (by first | exact Or.inl rfl | exact Or.inr rfl) (de_op od_catO (de_var 3) (de_lc (by rfl) sc__law_uses.nd (di_list (de_callN n__law_uses G__law_uses hr (by rfl) (da_cons (de_ix (de_var 0) de_int) (da_cons (de_var 1) (da_cons (de_var 2) da_nil))))) (blkOk_by (own := [("_law_moves", 4)]) (N := N__law_uses) (sc := defScope s__law_uses) (by decide +kernel)) (fun _ _ _ _ _ => (dp_name (i := 4) sc__law_uses.nd (by rfl) (by first | exact Or.inl rfl | exact Or.inr rfl))) (fun _ _ _ _ _ => dts_nil) (fun _ _ _ _ _ => (de_op od_add (de_lst (da_cons de_int da_nil)) (de_var 4)))))) (dss_one (ds_set (i := 3) sc__law_uses.nd rfl (by first | exact Or.inl rfl | exact Or.inr rfl) (de_op od_catO (de_var 3) (de_lc (by rfl) sc__law_uses.nd (di_list (de_callN n__law_uses G__law_uses hr (by rfl) (da_cons (de_ix (de_var 0) de_int) (da_cons (de_var 1) (da_cons (de_var 2) da_nil))))) (blkOk_by (own := [("_law_moves", 4)]) (N := N__law_uses) (sc := defScope s__law_uses) (by decide +kernel)) (fun _ _ _ _ _ => (dp_name (i := 4) sc__law_uses.nd (by rfl) (by first | exact Or.inl rfl | exact Or.inr rfl))) (fun _ _ _ _ _ => dts_nil) (fun _ _ _ _ _ => (de_op od_add (de_lst (da_cons de_int da_nil)) (de_var 4)))))))) dss_nil) (dss_one (ds_retF (de_var 3)))))))
/-! ### _law_used -/
abbrev s__law_used : Stmt := topS 20
abbrev N__law_used : List Str := ["_law_pool_here", "_law_known", "_law_goal", "_law_room", "_law_some", "_law_name", "_law_kind_here", "_law_moves", "_law_found", "_law_move"]
abbrev P__law_used : List Str := ["_law_pool_here", "_law_known", "_law_goal", "_law_room"]
theorem sc__law_used : FnScope N__law_used P__law_used (defScope s__law_used) := ⟨rfl, rfl, rfl, by decide +kernel, rfl, by decide +kernel, by decide +kernel⟩
def g__law_used (sp__law_seen sp__law_uses sp__law_take sp__law_program : DSp) : GS :=
  (gSeq (gSet (fLst fNil) 4) (gSeq (gFor (fiList (fCall sp__law_seen (fCons (fVar 1) fNil))) (.tp [(.nm 5), (.nm 6)]) (gSet (fOp rAddD (fVar 4) (fLc (fiList (fCall sp__law_uses (fCons (fVar 6) (fCons (fVar 2) (fCons (fVar 5) fNil))))) (.nm 7) fYes (fTup (fCons (fVar 5) (fCons (fVar 7) fNil))) [7])) 4)) (gSeq (gIf (fTest (fOp (rEqD false) (fVar 4) (fLst fNil))) (gRet (fC .non)) gNext) (gSeq (gAsg (fOp rIxD (fVar 4) (fCall sp__law_take (fCons (fVar 0) (fCons (fCB rLenD (fCons (fVar 4) fNil)) fNil)))) (.tp [(.nm 5), (.nm 7)])) (gSeq (gSet (fTup (fCons (fC (.str "name")) (fCons (fVar 5) fNil))) 8) (gSeq (gFor (fiList (fVar 7)) (.nm 9) (gIf (fOr (fTest (fOp (rEqD false) (fVar 9) (fC (.int 1)))) (fTest (fOp (rEqD false) (fVar 9) (fC (.int 2))))) (gSet (fTup (fCons (fOp rIxD (fLst (fCons (fC (.str "first")) (fCons (fC (.str "second")) fNil))) (fOp rSubD (fVar 9) (fC (.int 1)))) (fCons (fVar 8) fNil))) 8) (gSet (fTup (fCons (fC (.str "give")) (fCons (fVar 8) (fCons (fCall sp__law_program (fCons (fVar 0) (fCons (fVar 1) (fCons (fVar 9) (fCons (fOp rSubD (fVar 3) (fC (.int 1))) fNil))))) fNil)))) 8))) (gRet (fVar 8))))))))
theorem der__law_used {P : Program} {w : World} {K : PySem.W.Frag} {mg : Str → Option Value} {base : Heap} {k : Nat} {f : Addr} {sp__law_seen sp__law_uses sp__law_take sp__law_program : DSp} {a__law_seen : Addr} {fd__law_seen : FuncData} (n__law_seen : Fn K mg "_law_seen" s__law_seen P__law_seen a__law_seen fd__law_seen) (G__law_seen : FnOk P w K mg base CX0 k a__law_seen fd__law_seen P__law_seen (liftSp K sp__law_seen)) {a__law_uses : Addr} {fd__law_uses : FuncData} (n__law_uses : Fn K mg "_law_uses" s__law_uses P__law_uses a__law_uses fd__law_uses) (G__law_uses : FnOk P w K mg base CX0 k a__law_uses fd__law_uses P__law_uses (liftSp K sp__law_uses)) {a__law_take : Addr} {fd__law_take : FuncData} (n__law_take : Fn K mg "_law_take" s__law_take P__law_take a__law_take fd__law_take) (G__law_take : FnOk P w K mg base CX0 k a__law_take fd__law_take P__law_take (liftSp K sp__law_take)) {a__law_program : Addr} {fd__law_program : FuncData} (n__law_program : Fn K mg "_law_program" s__law_program P__law_program a__law_program fd__law_program) (G__law_program : FnOk P w K mg base CX0 k a__law_program fd__law_program P__law_program (liftSp K sp__law_program)) (m_len : mg "len" = none)
    (cdv : Value) (A : Around) (outer : List Env) (s : Shared) (H : Hp) (E : XK) (hr : Room k (A.deeper (envOfC "_law_used" (defScope s__law_used) s.heap.objs.size f cdv))) :
    DSs MT (cxOf CX0 P w K mg base N__law_used "_law_used" (defScope s__law_used) f cdv A outer s H E).nox (defBody s__law_used) (g__law_used sp__law_seen sp__law_uses sp__law_take sp__law_program) :=
  (dss_cons (ds_set (i := 4) sc__law_used.nd rfl (by first | exact Or.inl rfl | exact Or.inr rfl) (de_lst da_nil)) (dss_cons (ds_for PassesOwn.never rfl (di_list (de_callN n__law_seen G__law_seen hr (by rfl) (da_cons (de_var 1) da_nil))) (dp_tup (by rfl) (dps_cons (dp_name (i := 5) sc__law_used.nd (by rfl) (by first | exact Or.inl rfl | exact Or.inr rfl)) (dps_cons (dp_name (i := 6) sc__law_used.nd (by rfl) (by first | exact Or.inl rfl | exact Or.inr rfl)) dps_nil))) (dss_one (ds_set (i := 4) sc__law_used.nd rfl (by first | exact Or.inl rfl | exact Or.inr rfl) (de_op od_add (de_var 4) (de_lc (by rfl) sc__law_used.nd (di_list (de_callN n__law_uses G__law_uses hr (by rfl) (da_cons (de_var 6) (da_cons (de_var 2) (da_cons (de_var 5) da_nil))))) (blkOk_by (own := [("_law_moves", 7)]) (N := N__law_used) (sc := defScope s__law_used) (by decide +kernel)) (fun _ _ _ _ _ => (dp_name (i := 7) sc__law_used.nd (by rfl) (by first | exact Or.inl rfl | exact Or.inr rfl))) (fun _ _ _ _ _ => dts_nil) (fun _ _ _ _ _ => (de_tup (da_cons (de_var 5) (da_cons (de_var 7) da_nil))))))))) (dss_cons (ds_if (dt_cmp (od_eq hr.u200) (de_var 4) (de_lst da_nil) (nomark _)) (dss_one (ds_ret de_non)) dss_nil) (dss_cons (ds_asg (de_ix (de_var 4) (de_callN n__law_take G__law_take hr (by rfl) (da_cons (de_var 0) (da_cons (de_callB cd_len (by rfl) m_len bb_len (da_cons (de_var 4) da_nil)) da_nil)))) (dp_tup (by rfl) (dps_cons (dp_name (i := 5) sc__law_used.nd (by rfl) (by first | exact Or.inl rfl | exact Or.inr rfl)) (dps_cons (dp_name (i := 7) sc__law_used.nd (by rfl) (by first | exact Or.inl rfl | exact Or.inr rfl)) dps_nil)))) (dss_cons (ds_set (i := 8) sc__law_used.nd rfl (by first | exact Or.inl rfl | exact Or.inr rfl) (de_tup (da_cons de_str (da_cons (de_var 5) da_nil)))) (dss_cons (ds_for PassesOwn.never rfl (di_list (de_var 7)) (dp_name (i := 9) sc__law_used.nd (by rfl) (by first | exact Or.inl rfl | exact Or.inr rfl)) (dss_one (ds_if (dt_of (dw_or (dt_cmp (od_eq hr.u200) (de_var 9) de_int (nomark _)) (dw_or1 (dt_cmp (od_eq hr.u200) (de_var 9) de_int (nomark _))))) (dss_one (ds_set (i := 8) sc__law_used.nd rfl (by first | exact Or.inl rfl | exact Or.inr rfl) (de_tup (da_cons (de_ix (de_lst (da_cons de_str (da_cons de_str da_nil))) (de_op od_sub (de_var 9) de_int)) (da_cons (de_var 8) da_nil))))) (dss_one (ds_set (i := 8) sc__law_used.nd rfl (by first | exact Or.inl rfl | exact Or.inr rfl) (de_tup (da_cons de_str (da_cons (de_var 8) (da_cons (de_callN n__law_program G__law_program hr (by rfl) (da_cons (de_var 0) (da_cons (de_var 1) (da_cons (de_var 9) (da_cons (de_op od_sub (de_var 3) de_int) da_nil))))) da_nil))))))))) (dss_one (ds_ret (de_var 8)))))))))
/-! ### _law_made -/
abbrev s__law_made : Stmt := topS 21
abbrev N__law_made : List Str := ["_law_pool_here", "_law_known", "_law_goal", "_law_room", "_law_name"]
abbrev P__law_made : List Str := ["_law_pool_here", "_law_known", "_law_goal", "_law_room"]
theorem sc__law_made : FnScope N__law_made P__law_made (defScope s__law_made) := ⟨rfl, rfl, rfl, by decide +kernel, rfl, by decide +kernel, by decide +kernel⟩
def g__law_made (sp__law_program sp__law_take : DSp) : GS :=
  (gSeq (gIf (fTest (fOp (rEqD false) (fOp rIxD (fVar 2) (fC (.int 0))) (fC (.str "one")))) (gRet (fTup (fCons (fC (.str "thing")) fNil))) gNext) (gSeq (gIf (fTest (fOp (rEqD false) (fOp rIxD (fVar 2) (fC (.int 0))) (fC (.str "mark")))) (gRet (fTup (fCons (fC (.str "name")) (fCons (fOp rIxD (fLst (fCons (fC (.str "p")) (fCons (fC (.str "q")) fNil))) (fCB rInt1 (fCons (fOp (rEqD false) (fOp rIxD (fVar 2) (fC (.int 1))) (fC (.str "b"))) fNil))) fNil)))) gNext) (gSeq (gIf (fTest (fOp (rEqD false) (fOp rIxD (fVar 2) (fC (.int 0))) (fC (.str "both")))) (gRet (fTup (fCons (fC (.str "pair")) (fCons (fCall sp__law_program (fCons (fVar 0) (fCons (fVar 1) (fCons (fOp rIxD (fVar 2) (fC (.int 1))) (fCons (fVar 3) fNil))))) (fCons (fCall sp__law_program (fCons (fVar 0) (fCons (fVar 1) (fCons (fOp rIxD (fVar 2) (fC (.int 2))) (fCons (fVar 3) fNil))))) fNil))))) gNext) (gSeq (gSet (fOp rIxD (fLst (fCons (fC (.str "u")) (fCons (fC (.str "v")) (fCons (fC (.str "x0")) (fCons (fC (.str "x7")) (fCons (fC (.str "f")) fNil)))))) (fCall sp__law_take (fCons (fVar 0) (fCons (fC (.int 5)) fNil)))) 4) (gRet (fTup (fCons (fC (.str "take")) (fCons (fVar 4) (fCons (fOp rIxD (fVar 2) (fC (.int 1))) (fCons (fCall sp__law_program (fCons (fVar 0) (fCons (fOp rAddD (fVar 1) (fLst (fCons (fTup (fCons (fVar 4) (fCons (fOp rIxD (fVar 2) (fC (.int 1))) fNil))) fNil))) (fCons (fOp rIxD (fVar 2) (fC (.int 2))) (fCons (fVar 3) fNil))))) fNil))))))))))
theorem der__law_made {P : Program} {w : World} {K : PySem.W.Frag} {mg : Str → Option Value} {base : Heap} {k : Nat} {f : Addr} {sp__law_program sp__law_take : DSp} {a__law_program : Addr} {fd__law_program : FuncData} (n__law_program : Fn K mg "_law_program" s__law_program P__law_program a__law_program fd__law_program) (G__law_program : FnOk P w K mg base CX0 k a__law_program fd__law_program P__law_program (liftSp K sp__law_program)) {a__law_take : Addr} {fd__law_take : FuncData} (n__law_take : Fn K mg "_law_take" s__law_take P__law_take a__law_take fd__law_take) (G__law_take : FnOk P w K mg base CX0 k a__law_take fd__law_take P__law_take (liftSp K sp__law_take)) (m_int : mg "int" = none)
    (cdv : Value) (A : Around) (outer : List Env) (s : Shared) (H : Hp) (E : XK) (hr : Room k (A.deeper (envOfC "_law_made" (defScope s__law_made) s.heap.objs.size f cdv))) :
    DSs MT (cxOf CX0 P w K mg base N__law_made "_law_made" (defScope s__law_made) f cdv A outer s H E).nox (defBody s__law_made) (g__law_made sp__law_program sp__law_take) :=
  (dss_cons (ds_if (dt_cmp (od_eq hr.u200) (de_ix (de_var 2) de_int) de_str (nomark _)) (dss_one (ds_ret (de_tup (da_cons de_str da_nil)))) dss_nil) (dss_cons (ds_if (dt_cmp (od_eq hr.u200) (de_ix (de_var 2) de_int) de_str (nomark _)) (dss_one (ds_ret (de_tup (da_cons de_str (da_cons (de_ix (de_lst (da_cons de_str (da_cons de_str da_nil))) (de_callTy cd_int1 (by rfl) m_int bb_int (da_cons (de_cmp (od_eq hr.u200) (de_ix (de_var 2) de_int) de_str (nomark _)) da_nil))) da_nil))))) dss_nil) (dss_cons (ds_if (dt_cmp (od_eq hr.u200) (de_ix (de_var 2) de_int) de_str (nomark _)) (dss_one (ds_ret (de_tup (da_cons de_str (da_cons (de_callN n__law_program G__law_program hr (by rfl) (da_cons (de_var 0) (da_cons (de_var 1) (da_cons (de_ix (de_var 2) de_int) (da_cons (de_var 3) da_nil))))) (da_cons (de_callN n__law_program G__law_program hr (by rfl) (da_cons (de_var 0) (da_cons (de_var 1) (da_cons (de_ix (de_var 2) de_int) (da_cons (de_var 3) da_nil))))) da_nil)))))) dss_nil) (dss_cons (ds_set (i := 4) sc__law_made.nd rfl (by first | exact Or.inl rfl | exact Or.inr rfl) (de_ix (de_lst (da_cons de_str (da_cons de_str (da_cons de_str (da_cons de_str (da_cons de_str da_nil)))))) (de_callN n__law_take G__law_take hr (by rfl) (da_cons (de_var 0) (da_cons de_int da_nil))))) (dss_one (ds_ret (de_tup (da_cons de_str (da_cons (de_var 4) (da_cons (de_ix (de_var 2) de_int) (da_cons (de_callN n__law_program G__law_program hr (by rfl) (da_cons (de_var 0) (da_cons (de_op od_add (de_var 1) (de_lst (da_cons (de_tup (da_cons (de_var 4) (da_cons (de_ix (de_var 2) de_int) da_nil))) da_nil))) (da_cons (de_ix (de_var 2) de_int) (da_cons (de_var 3) da_nil))))) da_nil)))))))))))
/-! ### _law_program -/
abbrev s__law_program : Stmt := topS 22
abbrev N__law_program : List Str := ["_law_pool_here", "_law_known", "_law_goal", "_law_room", "_law_way", "_law_name", "_law_kind_here", "_law_body", "_law_some", "_law_found"]
abbrev P__law_program : List Str := ["_law_pool_here", "_law_known", "_law_goal", "_law_room"]
theorem sc__law_program : FnScope N__law_program P__law_program (defScope s__law_program) := ⟨rfl, rfl, rfl, by decide +kernel, rfl, by decide +kernel, by decide +kernel⟩
def g__law_program (sp__law_take sp__law_kind sp__law_program sp__law_used sp__law_made : DSp) : GS :=
  (gSeq (gSet (fCall sp__law_take (fCons (fVar 0) (fCons (fC (.int 8)) fNil))) 4) (gSeq (gIf (fAnd (fTest (fOp rGtD (fVar 3) (fC (.int 0)))) (fTest (fOp rLtD (fVar 4) (fC (.int 2))))) (gSeq (gSet (fOp rIxD (fLst (fCons (fC (.str "u")) (fCons (fC (.str "v")) (fCons (fC (.str "x0")) (fCons (fC (.str "x7")) (fCons (fC (.str "f")) fNil)))))) (fCall sp__law_take (fCons (fVar 0) (fCons (fC (.int 5)) fNil)))) 5) (gSeq (gSet (fCall sp__law_kind (fCons (fVar 0) (fCons (fOp rAddD (fC (.int 1)) (fCall sp__law_take (fCons (fVar 0) (fCons (fC (.int 3)) fNil)))) (fCons (fLst (fCons (fC (.str "a")) (fCons (fC (.str "b")) fNil))) fNil)))) 6) (gSeq (gSet (fCall sp__law_program (fCons (fVar 0) (fCons (fOp rAddD (fVar 1) (fLst (fCons (fTup (fCons (fVar 5) (fCons (fVar 6) fNil))) fNil))) (fCons (fVar 2) (fCons (fOp rSubD (fVar 3) (fC (.int 1))) fNil))))) 7) (gRet (fTup (fCons (fC (.str "give")) (fCons (fTup (fCons (fC (.str "take")) (fCons (fVar 5) (fCons (fVar 6) (fCons (fVar 7) fNil))))) (fCons (fCall sp__law_program (fCons (fVar 0) (fCons (fVar 1) (fCons (fVar 6) (fCons (fOp rSubD (fVar 3) (fC (.int 1))) fNil))))) fNil)))))))) gNext) (gSeq (gIf (fAnd (fTest (fOp rGtD (fVar 3) (fC (.int 0)))) (fTest (fOp (rEqD false) (fVar 4) (fC (.int 2))))) (gSeq (gSet (fCall sp__law_kind (fCons (fVar 0) (fCons (fOp rAddD (fC (.int 1)) (fCall sp__law_take (fCons (fVar 0) (fCons (fC (.int 2)) fNil)))) (fCons (fLst (fCons (fC (.str "a")) (fCons (fC (.str "b")) fNil))) fNil)))) 6) (gSeq (gSet (fLst (fCons (fCall sp__law_program (fCons (fVar 0) (fCons (fVar 1) (fCons (fVar 2) (fCons (fOp rSubD (fVar 3) (fC (.int 1))) fNil))))) (fCons (fCall sp__law_program (fCons (fVar 0) (fCons (fVar 1) (fCons (fVar 6) (fCons (fOp rSubD (fVar 3) (fC (.int 1))) fNil))))) fNil))) 8) (gSeq (gIf (fTest (fOp (rEqD false) (fCall sp__law_take (fCons (fVar 0) (fCons (fC (.int 2)) fNil))) (fC (.int 0)))) (gRet (fTup (fCons (fC (.str "first")) (fCons (fTup (fCons (fC (.str "pair")) (fCons (fOp rIxD (fVar 8) (fC (.int 0))) (fCons (fOp rIxD (fVar 8) (fC (.int 1))) fNil)))) fNil)))) gNext) (gRet (fTup (fCons (fC (.str "second")) (fCons (fTup (fCons (fC (.str "pair")) (fCons (fOp rIxD (fVar 8) (fC (.int 1))) (fCons (fOp rIxD (fVar 8) (fC (.int 0))) fNil)))) fNil))))))) gNext) (gSeq (gSet (fC .non) 9) (gSeq (gIf (fAnd (fTest (fOp rGtD (fVar 3) (fC (.int 0)))) (fTest (fOp rLtD (fVar 4) (fC (.int 6))))) (gSet (fCall sp__law_used (fCons (fVar 0) (fCons (fVar 1) (fCons (fVar 2) (fCons (fVar 3) fNil))))) 9) gNext) (gSeq (gIf (fTest (fOp (rIsN false) (fVar 9) (fC .non))) (gSet (fCall sp__law_made (fCons (fVar 0) (fCons (fVar 1) (fCons (fVar 2) (fCons (fVar 3) fNil))))) 9) gNext) (gRet (fVar 9))))))))
theorem der__law_program {P : Program} {w : World} {K : PySem.W.Frag} {mg : Str → Option Value} {base : Heap} {k : Nat} {f : Addr} {sp__law_take sp__law_kind sp__law_program sp__law_used sp__law_made : DSp} {a__law_take : Addr} {fd__law_take : FuncData} (n__law_take : Fn K mg "_law_take" s__law_take P__law_take a__law_take fd__law_take) (G__law_take : FnOk P w K mg base CX0 k a__law_take fd__law_take P__law_take (liftSp K sp__law_take)) {a__law_kind : Addr} {fd__law_kind : FuncData} (n__law_kind : Fn K mg "_law_kind" s__law_kind P__law_kind a__law_kind fd__law_kind) (G__law_kind : FnOk P w K mg base CX0 k a__law_kind fd__law_kind P__law_kind (liftSp K sp__law_kind)) {a__law_program : Addr} {fd__law_program : FuncData} (n__law_program : Fn K mg "_law_program" s__law_program P__law_program a__law_program fd__law_program) (G__law_program : FnOk P w K mg base CX0 k a__law_program fd__law_program P__law_program (liftSp K sp__law_program)) {a__law_used : Addr} {fd__law_used : FuncData} (n__law_used : Fn K mg "_law_used" s__law_used P__law_used a__law_used fd__law_used) (G__law_used : FnOk P w K mg base CX0 k a__law_used fd__law_used P__law_used (liftSp K sp__law_used)) {a__law_made : Addr} {fd__law_made : FuncData} (n__law_made : Fn K mg "_law_made" s__law_made P__law_made a__law_made fd__law_made) (G__law_made : FnOk P w K mg base CX0 k a__law_made fd__law_made P__law_made (liftSp K sp__law_made))
    (cdv : Value) (A : Around) (outer : List Env) (s : Shared) (H : Hp) (E : XK) (hr : Room k (A.deeper (envOfC "_law_program" (defScope s__law_program) s.heap.objs.size f cdv))) :
    DSs MT (cxOf CX0 P w K mg base N__law_program "_law_program" (defScope s__law_program) f cdv A outer s H E).nox (defBody s__law_program) (g__law_program sp__law_take sp__law_kind sp__law_program sp__law_used sp__law_made) :=
  (dss_cons (ds_set (i := 4) sc__law_program.nd rfl (by first | exact Or.inl rfl | exact Or.inr rfl) (de_callN n__law_take G__law_take hr (by rfl) (da_cons (de_var 0) (da_cons de_int da_nil)))) (dss_cons (ds_if (dt_of (dw_and (dt_cmp od_gt (de_var 3) de_int (nomark _)) (dw_and1 (dt_cmp od_lt (de_var 4) de_int (nomark _))))) (dss_cons (ds_set (i := 5) sc__law_program.nd rfl (by first | exact Or.inl rfl | exact Or.inr rfl) (de_ix (de_lst (da_cons de_str (da_cons de_str (da_cons de_str (da_cons de_str (da_cons de_str da_nil)))))) (de_callN n__law_take G__law_take hr (by rfl) (da_cons (de_var 0) (da_cons de_int da_nil))))) (dss_cons (ds_set (i := 6) sc__law_program.nd rfl (by first | exact Or.inl rfl | exact Or.inr rfl) (de_callN n__law_kind G__law_kind hr (by rfl) (da_cons (de_var 0) (da_cons (de_op od_add de_int (de_callN n__law_take G__law_take hr (by rfl) (da_cons (de_var 0) (da_cons de_int da_nil)))) (da_cons (de_lst (da_cons de_str (da_cons de_str da_nil))) da_nil))))) (dss_cons (ds_set (i := 7) sc__law_program.nd rfl (by first | exact Or.inl rfl | exact Or.inr rfl) (de_callN n__law_program G__law_program hr (by rfl) (da_cons (de_var 0) (da_cons (de_op od_add (de_var 1) (de_lst (da_cons (de_tup (da_cons (de_var 5) (da_cons (de_var 6) da_nil))) da_nil))) (da_cons (de_var 2) (da_cons (de_op od_sub (de_var 3) de_int) da_nil)))))) (dss_one (ds_ret (de_tup (da_cons de_str (da_cons (de_tup (da_cons de_str (da_cons (de_var 5) (da_cons (de_var 6) (da_cons (de_var 7) da_nil))))) (da_cons (de_callN n__law_program G__law_program hr (by rfl) (da_cons (de_var 0) (da_cons (de_var 1) (da_cons (de_var 6) (da_cons (de_op od_sub (de_var 3) de_int) da_nil))))) da_nil))))))))) dss_nil) (dss_cons (ds_if (dt_of (dw_and (dt_cmp od_gt (de_var 3) de_int (nomark _)) (dw_and1 (dt_cmp (od_eq hr.u200) (de_var 4) de_int (nomark _))))) (dss_cons (ds_set (i := 6) sc__law_program.nd rfl (by first | exact Or.inl rfl | exact Or.inr rfl) (de_callN n__law_kind G__law_kind hr (by rfl) (da_cons (de_var 0) (da_cons (de_op od_add de_int (de_callN n__law_take G__law_take hr (by rfl) (da_cons (de_var 0) (da_cons de_int da_nil)))) (da_cons (de_lst (da_cons de_str (da_cons de_str da_nil))) da_nil))))) (dss_cons (ds_set (i := 8) sc__law_program.nd rfl (by first | exact Or.inl rfl | exact Or.inr rfl) (de_lst (da_cons (de_callN n__law_program G__law_program hr (by rfl) (da_cons (de_var 0) (da_cons (de_var 1) (da_cons (de_var 2) (da_cons (de_op od_sub (de_var 3) de_int) da_nil))))) (da_cons (de_callN n__law_program G__law_program hr (by rfl) (da_cons (de_var 0) (da_cons (de_var 1) (da_cons (de_var 6) (da_cons (de_op od_sub (de_var 3) de_int) da_nil))))) da_nil)))) (dss_cons (ds_if (dt_cmp (od_eq hr.u200) (de_callN n__law_take G__law_take hr (by rfl) (da_cons (de_var 0) (da_cons de_int da_nil))) de_int (nomark _)) (dss_one (ds_ret (de_tup (da_cons de_str (da_cons (de_tup (da_cons de_str (da_cons (de_ix (de_var 8) de_int) (da_cons (de_ix (de_var 8) de_int) da_nil)))) da_nil))))) dss_nil) (dss_one (ds_ret (de_tup (da_cons de_str (da_cons (de_tup (da_cons de_str (da_cons (de_ix (de_var 8) de_int) (da_cons (de_ix (de_var 8) de_int) da_nil)))) da_nil)))))))) dss_nil) (dss_cons (ds_set (i := 9) sc__law_program.nd rfl (by first | exact Or.inl rfl | exact Or.inr rfl) de_non) (dss_cons (ds_if (dt_of (dw_and (dt_cmp od_gt (de_var 3) de_int (nomark _)) (dw_and1 (dt_cmp od_lt (de_var 4) de_int (nomark _))))) (dss_one (ds_set (i := 9) sc__law_program.nd rfl (by first | exact Or.inl rfl | exact Or.inr rfl) (de_callN n__law_used G__law_used hr (by rfl) (da_cons (de_var 0) (da_cons (de_var 1) (da_cons (de_var 2) (da_cons (de_var 3) da_nil))))))) dss_nil) (dss_cons (ds_if (dt_cmp od_is (de_var 9) de_non (nomark _)) (dss_one (ds_set (i := 9) sc__law_program.nd rfl (by first | exact Or.inl rfl | exact Or.inr rfl) (de_callN n__law_made G__law_made hr (by rfl) (da_cons (de_var 0) (da_cons (de_var 1) (da_cons (de_var 2) (da_cons (de_var 3) da_nil))))))) dss_nil) (dss_one (ds_ret (de_var 9)))))))))
/-! ### _law_row -/
abbrev s__law_row : Stmt := topS 23
abbrev N__law_row : List Str := ["_law_pool_here", "_law_row_here", "_law_name"]
abbrev P__law_row : List Str := ["_law_pool_here"]
theorem sc__law_row : FnScope N__law_row P__law_row (defScope s__law_row) := ⟨rfl, rfl, rfl, by decide +kernel, rfl, by decide +kernel, by decide +kernel⟩
def g__law_row (sp__law_take sp__law_kind : DSp) : GS :=
  (gSeq (gSet (fLstO (fCons (fTup (fCons (fC (.str "p")) (fCons (fTup (fCons (fC (.str "mark")) (fCons (fC (.str "a")) fNil))) fNil))) (fCons (fTup (fCons (fC (.str "q")) (fCons (fTup (fCons (fC (.str "mark")) (fCons (fC (.str "b")) fNil))) fNil))) fNil))) 1) (gSeq (gFor (fiList (fSl rSlD (fLst (fCons (fC (.str "f")) (fCons (fC (.str "g")) fNil))) fNoPart (fPart (fCall sp__law_take (fCons (fVar 0) (fCons (fC (.int 3)) fNil)))))) (.nm 2) (gDrop (fBM "list" rAppendD (fVar 1) (fCons (fTup (fCons (fVar 2) (fCons (fCall sp__law_kind (fCons (fVar 0) (fCons (fOp rAddD (fC (.int 1)) (fCall sp__law_take (fCons (fVar 0) (fCons (fC (.int 4)) fNil)))) (fCons (fLst (fCons (fC (.str "a")) (fCons (fC (.str "b")) fNil))) fNil)))) fNil))) fNil)))) (gRetF (fVar 1))))
theorem der__law_row {P : Program} {w : World} {K : PySem.W.Frag} {mg : Str → Option Value} {base : Heap} {k : Nat} {f : Addr} {sp__law_take sp__law_kind : DSp} {a__law_take : Addr} {fd__law_take : FuncData} (n__law_take : Fn K mg "_law_take" s__law_take P__law_take a__law_take fd__law_take) (G__law_take : FnOk P w K mg base CX0 k a__law_take fd__law_take P__law_take (liftSp K sp__law_take)) {a__law_kind : Addr} {fd__law_kind : FuncData} (n__law_kind : Fn K mg "_law_kind" s__law_kind P__law_kind a__law_kind fd__law_kind) (G__law_kind : FnOk P w K mg base CX0 k a__law_kind fd__law_kind P__law_kind (liftSp K sp__law_kind))
    (cdv : Value) (A : Around) (outer : List Env) (s : Shared) (H : Hp) (E : XK) (hr : Room k (A.deeper (envOfC "_law_row" (defScope s__law_row) s.heap.objs.size f cdv))) :
    DSs MT (cxOf CX0 P w K mg base N__law_row "_law_row" (defScope s__law_row) f cdv A outer s H E).nox (defBody s__law_row) (g__law_row sp__law_take sp__law_kind) :=
  (dss_cons (ds_set (i := 1) sc__law_row.nd rfl (by first | exact Or.inl rfl | exact Or.inr rfl) (de_lstO (da_cons (de_tup (da_cons de_str (da_cons (de_tup (da_cons de_str (da_cons de_str da_nil))) da_nil))) (da_cons (de_tup (da_cons de_str (da_cons (de_tup (da_cons de_str (da_cons de_str da_nil))) da_nil))) da_nil)))) (dss_cons (ds_for PassesOwn.never rfl (di_list (de_slice (de_lst (da_cons de_str (da_cons de_str da_nil))) do_none (do_some (de_callN n__law_take G__law_take hr (by rfl) (da_cons (de_var 0) (da_cons de_int da_nil)))))) (dp_name (i := 2) sc__law_row.nd (by rfl) (by first | exact Or.inl rfl | exact Or.inr rfl)) (dss_one (ds_expr (de_bm PySem.F.plainAttrs_list PySem.F.slot_list_append PySem.F.type_list_append md_append (de_var 1) (da_cons (de_tup (da_cons (de_var 2) (da_cons (de_callN n__law_kind G__law_kind hr (by rfl) (da_cons (de_var 0) (da_cons (de_op od_add de_int (de_callN n__law_take G__law_take hr (by rfl) (da_cons (de_var 0) (da_cons de_int da_nil)))) (da_cons (de_lst (da_cons de_str (da_cons de_str da_nil))) da_nil)))) da_nil))) da_nil))))) (dss_one (ds_retF (de_var 1)))))
/-! ### _law_many -/
abbrev s__law_many : Stmt := topS 24
abbrev N__law_many : List Str := ["_law_program_here", "_law_row_here", "_law_many_here", "_law_one", "_law_part"]
abbrev P__law_many : List Str := ["_law_program_here"]
theorem sc__law_many : FnScope N__law_many P__law_many (defScope s__law_many) := ⟨rfl, rfl, rfl, by decide +kernel, rfl, by decide +kernel, by decide +kernel⟩
def g__law_many (sp__law_words : DSp) : GS :=
  (gSeq (gSet (fLstO (fCons (fVar 0) fNil)) 1) (gSeq (gSet (fC (.int 0)) 2) (gSeq (gWhile (fTest (fOp (rEqD true) (fVar 1) (fLst fNil))) (gSeq (gSet (fBM0 "list" rPopD (fVar 1)) 3) (gSeq (gSet (fOp rAddD (fVar 2) (fC (.int 1))) 2) (gDrop (fBM "list" rExtendD (fVar 1) (fCons (fLc (fiTup (fVar 3)) (.nm 4) (fAnd (fTest (fCB rIsiD (fCons (fVar 4) (fCons (fC (.ty "tuple")) fNil)))) (fTest (fOp (rInD false) (fOp rIxD (fVar 4) (fC (.int 0))) (fCall sp__law_words fNil)))) (fVar 4) [4]) fNil)))))) (gRet (fVar 2)))))
theorem der__law_many {P : Program} {w : World} {K : PySem.W.Frag} {mg : Str → Option Value} {base : Heap} {k : Nat} {f : Addr} {sp__law_words : DSp} {a__law_words : Addr} {fd__law_words : FuncData} (n__law_words : Fn K mg "_law_words" s__law_words P__law_words a__law_words fd__law_words) (G__law_words : FnOk P w K mg base CX0 k a__law_words fd__law_words P__law_words (liftSp K sp__law_words)) (m_tuple : mg "tuple" = none) (m_isinstance : mg "isinstance" = none)
    (cdv : Value) (A : Around) (outer : List Env) (s : Shared) (H : Hp) (E : XK) (hr : Room k (A.deeper (envOfC "_law_many" (defScope s__law_many) s.heap.objs.size f cdv))) :
    DSs MT (cxOf CX0 P w K mg base N__law_many "_law_many" (defScope s__law_many) f cdv A outer s H E).nox (defBody s__law_many) (g__law_many sp__law_words) :=
  (dss_cons (ds_set (i := 1) sc__law_many.nd rfl (by first | exact Or.inl rfl | exact Or.inr rfl) (de_lstO (da_cons (de_var 0) da_nil))) (dss_cons (ds_set (i := 2) sc__law_many.nd rfl (by first | exact Or.inl rfl | exact Or.inr rfl) de_int) (dss_cons (ds_while PassesOwn.never (dt_cmp (od_ne hr.u200) (de_var 1) (de_lst da_nil) (nomark _)) (dss_cons (ds_set (i := 3) sc__law_many.nd rfl (by first | exact Or.inl rfl | exact Or.inr rfl) (de_bm0 PySem.F.plainAttrs_list PySem.F.slot_list_pop PySem.F.type_list_pop md_pop (de_var 1))) (dss_cons (ds_set (i := 2) sc__law_many.nd rfl (by first | exact Or.inl rfl | exact Or.inr rfl) (de_op od_add (de_var 2) de_int)) (dss_one (ds_expr (de_bm PySem.F.plainAttrs_list PySem.F.slot_list_extend PySem.F.type_list_extend md_extend (de_var 1) (da_cons (de_lc (by rfl) sc__law_many.nd (di_tup (de_var 3)) (blkOk_by (own := [("_law_part", 4)]) (N := N__law_many) (sc := defScope s__law_many) (by decide +kernel)) (fun _ _ _ _ _ => (dp_name (i := 4) sc__law_many.nd (by rfl) (by first | exact Or.inl rfl | exact Or.inr rfl))) (fun _ _ _ _ _ => (dts_one (dt_of (dw_and (dt_val (de_callB cd_isi (by rfl) m_isinstance bb_isinstance (da_cons (de_var 4) (da_cons (de_ty bb_tuple m_tuple (by rfl)) da_nil)))) (dw_and1 (dt_cmp (od_in hr.u200) (de_ix (de_var 4) de_int) (de_callN0 n__law_words G__law_words hr (by rfl)) (by rfl))))))) (fun _ _ _ _ _ => (de_var 4))) da_nil))))))) (dss_one (ds_ret (de_var 2))))))
/-! ### _law_words -/
abbrev s__law_words : Stmt := topS 25
abbrev N__law_words : List Str := []
abbrev P__law_words : List Str := []
theorem sc__law_words : FnScope N__law_words P__law_words (defScope s__law_words) := ⟨rfl, rfl, rfl, by decide +kernel, rfl, by decide +kernel, by decide +kernel⟩
def g__law_words : GS :=
  (gRet (fLst (fCons (fC (.str "name")) (fCons (fC (.str "take")) (fCons (fC (.str "give")) (fCons (fC (.str "pair")) (fCons (fC (.str "first")) (fCons (fC (.str "second")) (fCons (fC (.str "thing")) fNil)))))))))
theorem der__law_words {P : Program} {w : World} {K : PySem.W.Frag} {mg : Str → Option Value} {base : Heap} {k : Nat} {f : Addr} 
    (cdv : Value) (A : Around) (outer : List Env) (s : Shared) (H : Hp) (E : XK) (hr : Room k (A.deeper (envOfC "_law_words" (defScope s__law_words) s.heap.objs.size f cdv))) :
    DSs MT (cxOf CX0 P w K mg base N__law_words "_law_words" (defScope s__law_words) f cdv A outer s H E).nox (defBody s__law_words) (g__law_words) :=
  (dss_one (ds_ret (de_lst (da_cons de_str (da_cons de_str (da_cons de_str (da_cons de_str (da_cons de_str (da_cons de_str (da_cons de_str da_nil))))))))))
/-! ### _law_drawn -/
abbrev s__law_drawn : Stmt := topS 26
abbrev N__law_drawn : List Str := ["_law_pool_here", "_law_row_here", "_law_most", "_law_goal", "_law_program_here"]
abbrev P__law_drawn : List Str := ["_law_pool_here", "_law_row_here", "_law_most"]
theorem sc__law_drawn : FnScope N__law_drawn P__law_drawn (defScope s__law_drawn) := ⟨rfl, rfl, rfl, by decide +kernel, rfl, by decide +kernel, by decide +kernel⟩
def g__law_drawn (sp__law_kind sp__law_take sp__law_program sp__law_many : DSp) : GS :=
  (gSeq (gSet (fCall sp__law_kind (fCons (fVar 0) (fCons (fOp rAddD (fC (.int 1)) (fCall sp__law_take (fCons (fVar 0) (fCons (fC (.int 4)) fNil)))) (fCons (fLst (fCons (fC (.str "a")) (fCons (fC (.str "b")) fNil))) fNil)))) 3) (gSeq (gSet (fCall sp__law_program (fCons (fVar 0) (fCons (fCB rList1 (fCons (fVar 1) fNil)) (fCons (fVar 3) (fCons (fOp rAddD (fC (.int 1)) (fCall sp__law_take (fCons (fVar 0) (fCons (fC (.int 2)) fNil)))) fNil))))) 4) (gSeq (gIf (fTest (fOp rGtD (fCall sp__law_many (fCons (fVar 4) fNil)) (fVar 2))) (gSet (fCall sp__law_program (fCons (fVar 0) (fCons (fCB rList1 (fCons (fVar 1) fNil)) (fCons (fVar 3) (fCons (fC (.int 0)) fNil))))) 4) gNext) (gRet (fTup (fCons (fVar 3) (fCons (fVar 4) fNil)))))))
theorem der__law_drawn {P : Program} {w : World} {K : PySem.W.Frag} {mg : Str → Option Value} {base : Heap} {k : Nat} {f : Addr} {sp__law_kind sp__law_take sp__law_program sp__law_many : DSp} {a__law_kind : Addr} {fd__law_kind : FuncData} (n__law_kind : Fn K mg "_law_kind" s__law_kind P__law_kind a__law_kind fd__law_kind) (G__law_kind : FnOk P w K mg base CX0 k a__law_kind fd__law_kind P__law_kind (liftSp K sp__law_kind)) {a__law_take : Addr} {fd__law_take : FuncData} (n__law_take : Fn K mg "_law_take" s__law_take P__law_take a__law_take fd__law_take) (G__law_take : FnOk P w K mg base CX0 k a__law_take fd__law_take P__law_take (liftSp K sp__law_take)) {a__law_program : Addr} {fd__law_program : FuncData} (n__law_program : Fn K mg "_law_program" s__law_program P__law_program a__law_program fd__law_program) (G__law_program : FnOk P w K mg base CX0 k a__law_program fd__law_program P__law_program (liftSp K sp__law_program)) {a__law_many : Addr} {fd__law_many : FuncData} (n__law_many : Fn K mg "_law_many" s__law_many P__law_many a__law_many fd__law_many) (G__law_many : FnOk P w K mg base CX0 k a__law_many fd__law_many P__law_many (liftSp K sp__law_many)) (m_list : mg "list" = none)
    (cdv : Value) (A : Around) (outer : List Env) (s : Shared) (H : Hp) (E : XK) (hr : Room k (A.deeper (envOfC "_law_drawn" (defScope s__law_drawn) s.heap.objs.size f cdv))) :
    DSs MT (cxOf CX0 P w K mg base N__law_drawn "_law_drawn" (defScope s__law_drawn) f cdv A outer s H E).nox (defBody s__law_drawn) (g__law_drawn sp__law_kind sp__law_take sp__law_program sp__law_many) :=
  (dss_cons (ds_set (i := 3) sc__law_drawn.nd rfl (by first | exact Or.inl rfl | exact Or.inr rfl) (de_callN n__law_kind G__law_kind hr (by rfl) (da_cons (de_var 0) (da_cons (de_op od_add de_int (de_callN n__law_take G__law_take hr (by rfl) (da_cons (de_var 0) (da_cons de_int da_nil)))) (da_cons (de_lst (da_cons de_str (da_cons de_str da_nil))) da_nil))))) (dss_cons (ds_set (i := 4) sc__law_drawn.nd rfl (by first | exact Or.inl rfl | exact Or.inr rfl) (de_callN n__law_program G__law_program hr (by rfl) (da_cons (de_var 0) (da_cons (de_callTy cd_list1 (by rfl) m_list bb_list (da_cons (de_var 1) da_nil)) (da_cons (de_var 3) (da_cons (de_op od_add de_int (de_callN n__law_take G__law_take hr (by rfl) (da_cons (de_var 0) (da_cons de_int da_nil)))) da_nil)))))) (dss_cons (ds_if (dt_cmp od_gt (de_callN n__law_many G__law_many hr (by rfl) (da_cons (de_var 4) da_nil)) (de_var 2) (nomark _)) (dss_one (ds_set (i := 4) sc__law_drawn.nd rfl (by first | exact Or.inl rfl | exact Or.inr rfl) (de_callN n__law_program G__law_program hr (by rfl) (da_cons (de_var 0) (da_cons (de_callTy cd_list1 (by rfl) m_list bb_list (da_cons (de_var 1) da_nil)) (da_cons (de_var 3) (da_cons de_int da_nil))))))) dss_nil) (dss_one (ds_ret (de_tup (da_cons (de_var 3) (da_cons (de_var 4) da_nil))))))))
/-! ### _law_tidied -/
abbrev s__law_tidied : Stmt := topS 27
abbrev N__law_tidied : List Str := ["_law_program_here", "_law_taken", "_law_word", "_law_some", "_law_k", "_law_part"]
abbrev P__law_tidied : List Str := ["_law_program_here", "_law_taken"]
theorem sc__law_tidied : FnScope N__law_tidied P__law_tidied (defScope s__law_tidied) := ⟨rfl, rfl, rfl, by decide +kernel, rfl, by decide +kernel, by decide +kernel⟩
def g__law_tidied (sp__law_tidied : DSp) : GS :=
  (gSeq (gSet (fOp rIxD (fVar 0) (fC (.int 0))) 2) (gSeq (gIf (fTest (fOp (rEqD false) (fVar 2) (fC (.str "name")))) (gSeq (gSet (fLc (fiRng1 (fCons (fCB rLenD (fCons (fVar 1) fNil)) fNil)) (.nm 4) (fTest (fOp (rEqD false) (fOp rIxD (fVar 1) (fVar 4)) (fOp rIxD (fVar 0) (fC (.int 1))))) (fVar 4) [4]) 3) (gRet (fOp rIxD (fLst (fCons (fVar 0) (fCons (fTup (fCons (fC (.str "name")) (fCons (fOp rAddD (fC (.str "x")) (fCB rStr1 (fCons (fOp rIxD (fOrL (fVar 3) (fLst (fCons (fC (.int 0)) fNil))) (fUn rNeg (fC (.int 1)))) fNil))) fNil))) fNil))) (fCB rInt1 (fCons (fOp (rEqD true) (fVar 3) (fLst fNil)) fNil))))) gNext) (gSeq (gIf (fTest (fOp (rEqD false) (fVar 2) (fC (.str "take")))) (gRet (fTup (fCons (fC (.str "take")) (fCons (fOp rAddD (fC (.str "x")) (fCB rStr1 (fCons (fCB rLenD (fCons (fVar 1) fNil)) fNil))) (fCons (fOp rIxD (fVar 0) (fC (.int 2))) (fCons (fCall sp__law_tidied (fCons (fOp rIxD (fVar 0) (fC (.int 3))) (fCons (fOp rAddD (fVar 1) (fLst (fCons (fOp rIxD (fVar 0) (fC (.int 1))) fNil))) fNil))) fNil)))))) gNext) (gRet (fOp rAddD (fTup (fCons (fVar 2) fNil)) (fCB rTup1 (fCons (fLc (fiTup (fSl rSlD (fVar 0) (fPart (fC (.int 1))) fNoPart)) (.nm 5) fYes (fCall sp__law_tidied (fCons (fVar 5) (fCons (fVar 1) fNil))) [5]) fNil)))))))
theorem der__law_tidied {P : Program} {w : World} {K : PySem.W.Frag} {mg : Str → Option Value} {base : Heap} {k : Nat} {f : Addr} {sp__law_tidied : DSp} {a__law_tidied : Addr} {fd__law_tidied : FuncData} (n__law_tidied : Fn K mg "_law_tidied" s__law_tidied P__law_tidied a__law_tidied fd__law_tidied) (G__law_tidied : FnOk P w K mg base CX0 k a__law_tidied fd__law_tidied P__law_tidied (liftSp K sp__law_tidied)) (m_range : mg "range" = none) (m_len : mg "len" = none) (m_str : mg "str" = none) (m_int : mg "int" = none) (m_tuple : mg "tuple" = none)
    (cdv : Value) (A : Around) (outer : List Env) (s : Shared) (H : Hp) (E : XK) (hr : Room k (A.deeper (envOfC "_law_tidied" (defScope s__law_tidied) s.heap.objs.size f cdv))) :
    DSs MT (cxOf CX0 P w K mg base N__law_tidied "_law_tidied" (defScope s__law_tidied) f cdv A outer s H E).nox (defBody s__law_tidied) (g__law_tidied sp__law_tidied) :=
  (dss_cons (ds_set (i := 2) sc__law_tidied.nd rfl (by first | exact Or.inl rfl | exact Or.inr rfl) (de_ix (de_var 0) de_int)) (dss_cons (ds_if (dt_cmp (od_eq hr.u200) (de_var 2) de_str (nomark _)) (dss_cons (ds_setLc (i := 3) rfl sc__law_tidied.nd rfl rfl (sw_true rfl rfl rfl (by decide +kernel)) (di_range1 (by rfl) m_range (da_cons (de_callB cd_len (by rfl) m_len bb_len (da_cons (de_var 1) da_nil)) da_nil)) (blkOk_by (own := [("_law_k", 4)]) (N := N__law_tidied) (sc := defScope s__law_tidied) (by decide +kernel)) (fun _ _ _ _ _ => (dp_name (i := 4) sc__law_tidied.nd (by rfl) (by first | exact Or.inl rfl | exact Or.inr rfl))) (fun _ _ _ _ _ => (dts_one (dt_cmp (od_eq hr.u200) (de_ix (de_var 1) (de_var 4)) (de_ix (de_var 0) de_int) (nomark _)))) (fun _ _ _ _ _ => (de_var 4))) (dss_one (ds_ret (de_ix (de_lst (da_cons (de_var 0) (da_cons (de_tup (da_cons de_str (da_cons (de_op od_add de_str (de_callTy cd_str1 (by rfl) m_str bb_str (da_cons (de_ix (de_orL (de_var 3) (de_one (de_lst (da_cons de_int da_nil)))) (de_neg de_int)) da_nil))) da_nil))) da_nil))) (de_callTy cd_int1 (by rfl) m_int bb_int (da_cons (de_cmp (od_ne hr.u200) (de_var 3) (de_lst da_nil) (nomark _)) da_nil)))))) dss_nil) (dss_cons (ds_if (dt_cmp (od_eq hr.u200) (de_var 2) de_str (nomark _)) (dss_one (ds_ret (de_tup (da_cons de_str (da_cons (de_op od_add de_str (de_callTy cd_str1 (by rfl) m_str bb_str (da_cons (de_callB cd_len (by rfl) m_len bb_len (da_cons (de_var 1) da_nil)) da_nil))) (da_cons (de_ix (de_var 0) de_int) (da_cons (de_callN n__law_tidied G__law_tidied hr (by rfl) (da_cons (de_ix (de_var 0) de_int) (da_cons (de_op od_add (de_var 1) (de_lst (da_cons (de_ix (de_var 0) de_int) da_nil))) da_nil))) da_nil))))))) dss_nil) (dss_one (ds_ret (de_op od_add (de_tup (da_cons (de_var 2) da_nil)) (de_callTy cd_tup1 (by rfl) m_tuple bb_tuple (da_cons (de_lc (by rfl) sc__law_tidied.nd (di_tup (de_slice (de_var 0) (do_some de_int) do_none)) (blkOk_by (own := [("_law_part", 5)]) (N := N__law_tidied) (sc := defScope s__law_tidied) (by decide +kernel)) (fun _ _ _ _ _ => (dp_name (i := 5) sc__law_tidied.nd (by rfl) (by first | exact Or.inl rfl | exact Or.inr rfl))) (fun _ _ _ _ _ => dts_nil) (fun _ _ _ _ _ => (de_callN n__law_tidied G__law_tidied hr (by rfl) (da_cons (de_var 5) (da_cons (de_var 1) da_nil))))) da_nil))))))))
/-! ### _law_farther -/
abbrev s__law_farther : Stmt := topS 28
abbrev N__law_farther : List Str := ["_law_program_here", "_law_inside", "_law_word", "_law_found", "_law_part"]
abbrev P__law_farther : List Str := ["_law_program_here", "_law_inside"]
theorem sc__law_farther : FnScope N__law_farther P__law_farther (defScope s__law_farther) := ⟨rfl, rfl, rfl, by decide +kernel, rfl, by decide +kernel, by decide +kernel⟩
def g__law_farther (sp__law_farther : DSp) : GS :=
  (gSeq (gSet (fOp rIxD (fVar 0) (fC (.int 0))) 2) (gSeq (gIf (fTest (fOp (rEqD false) (fVar 2) (fC (.str "name")))) (gRet (fOp rRepD (fLst (fCons (fOp rIxD (fVar 0) (fC (.int 1))) fNil)) (fCB rInt1 (fCons (fOp (rInD true) (fOp rIxD (fVar 0) (fC (.int 1))) (fVar 1)) fNil)))) gNext) (gSeq (gIf (fTest (fOp (rEqD false) (fVar 2) (fC (.str "take")))) (gRet (fCall sp__law_farther (fCons (fOp rIxD (fVar 0) (fC (.int 3))) (fCons (fOp rAddD (fVar 1) (fLst (fCons (fOp rIxD (fVar 0) (fC (.int 1))) fNil))) fNil)))) gNext) (gSeq (gSet (fLst fNil) 3) (gSeq (gFor (fiTup (fSl rSlD (fVar 0) (fPart (fC (.int 1))) fNoPart)) (.nm 4) (gSet (fOp rAddD (fVar 3) (fCall sp__law_farther (fCons (fVar 4) (fCons (fVar 1) fNil)))) 3)) (gRet (fVar 3)))))))
theorem der__law_farther {P : Program} {w : World} {K : PySem.W.Frag} {mg : Str → Option Value} {base : Heap} {k : Nat} {f : Addr} {sp__law_farther : DSp} {a__law_farther : Addr} {fd__law_farther : FuncData} (n__law_farther : Fn K mg "_law_farther" s__law_farther P__law_farther a__law_farther fd__law_farther) (G__law_farther : FnOk P w K mg base CX0 k a__law_farther fd__law_farther P__law_farther (liftSp K sp__law_farther)) (m_int : mg "int" = none)
    (cdv : Value) (A : Around) (outer : List Env) (s : Shared) (H : Hp) (E : XK) (hr : Room k (A.deeper (envOfC "_law_farther" (defScope s__law_farther) s.heap.objs.size f cdv))) :
    DSs MT (cxOf CX0 P w K mg base N__law_farther "_law_farther" (defScope s__law_farther) f cdv A outer s H E).nox (defBody s__law_farther) (g__law_farther sp__law_farther) :=
  (dss_cons (ds_set (i := 2) sc__law_farther.nd rfl (by first | exact Or.inl rfl | exact Or.inr rfl) (de_ix (de_var 0) de_int)) (dss_cons (ds_if (dt_cmp (od_eq hr.u200) (de_var 2) de_str (nomark _)) (dss_one (ds_ret (de_op od_rep (de_lst (da_cons (de_ix (de_var 0) de_int) da_nil)) (de_callTy cd_int1 (by rfl) m_int bb_int (da_cons (de_cmp (od_notin hr.u200) (de_ix (de_var 0) de_int) (de_var 1) (by rfl)) da_nil))))) dss_nil) (dss_cons (ds_if (dt_cmp (od_eq hr.u200) (de_var 2) de_str (nomark _)) (dss_one (ds_ret (de_callN n__law_farther G__law_farther hr (by rfl) (da_cons (de_ix (de_var 0) de_int) (da_cons (de_op od_add (de_var 1) (de_lst (da_cons (de_ix (de_var 0) de_int) da_nil))) da_nil))))) dss_nil) (dss_cons (ds_set (i := 3) sc__law_farther.nd rfl (by first | exact Or.inl rfl | exact Or.inr rfl) (de_lst da_nil)) (dss_cons (ds_for PassesOwn.never rfl (di_tup (de_slice (de_var 0) (do_some de_int) do_none)) (dp_name (i := 4) sc__law_farther.nd (by rfl) (by first | exact Or.inl rfl | exact Or.inr rfl)) (dss_one (ds_set (i := 3) sc__law_farther.nd rfl (by first | exact Or.inl rfl | exact Or.inr rfl) (de_op od_add (de_var 3) (de_callN n__law_farther G__law_farther hr (by rfl) (da_cons (de_var 4) (da_cons (de_var 1) da_nil))))))) (dss_one (ds_ret (de_var 3))))))))
/-! ### _law_called -/
abbrev s__law_called : Stmt := topS 29
abbrev N__law_called : List Str := ["_law_pool_here", "_law_program_here", "_law_names", "_law_word", "_law_some", "_law_used_here", "_law_free", "_law_new", "_law_later", "_law_name", "_law_one", "_law_other", "_law_part"]
abbrev P__law_called : List Str := ["_law_pool_here", "_law_program_here", "_law_names"]
theorem sc__law_called : FnScope N__law_called P__law_called (defScope s__law_called) := ⟨rfl, rfl, rfl, by decide +kernel, rfl, by decide +kernel, by decide +kernel⟩
def g__law_called (sp__law_farther sp__law_take sp__law_called : DSp) : GS :=
  (gSeq (gSet (fOp rIxD (fVar 1) (fC (.int 0))) 3) (gSeq (gIf (fTest (fOp (rEqD false) (fVar 3) (fC (.str "name")))) (gRet (fTup (fCons (fC (.str "name")) (fCons (fDGet2 (fCB rDictP (fCons (fVar 2) fNil)) (fOp rIxD (fVar 1) (fC (.int 1))) (fOp rIxD (fVar 1) (fC (.int 1)))) fNil)))) gNext) (gSeq (gIf (fTest (fOp (rEqD false) (fVar 3) (fC (.str "take")))) (gSeq (gSet (fCB rDictP (fCons (fVar 2) fNil)) 4) (gSeq (gSet (fLc (fiList (fCall sp__law_farther (fCons (fOp rIxD (fVar 1) (fC (.int 3))) (fCons (fLst (fCons (fOp rIxD (fVar 1) (fC (.int 1))) fNil)) fNil)))) (.nm 9) fYes (fDGet2 (fVar 4) (fVar 9) (fVar 9)) [9]) 5) (gSeq (gSet (fLc (fiList (fLst (fCons (fC (.str "u")) (fCons (fC (.str "w")) (fCons (fC (.str "x1")) (fCons (fC (.str "x99")) (fCons (fC (.str "zz")) (fCons (fC (.str "x0")) fNil)))))))) (.nm 9) (fTest (fOp (rInD true) (fVar 9) (fVar 5))) (fVar 9) [9]) 6) (gSeq (gSet (fOp rIxD (fOp rAddD (fVar 6) (fLst (fCons (fOp rAddD (fC (.str "x")) (fCB rStr1 (fCons (fOp rAddD (fC (.int 50)) (fCB rLenD (fCons (fVar 2) fNil))) fNil))) fNil))) (fCall sp__law_take (fCons (fVar 0) (fCons (fOp rAddD (fCB rLenD (fCons (fVar 6) fNil)) (fC (.int 1))) fNil)))) 7) (gSeq (gIf (fTest (fOp (rInD false) (fVar 7) (fVar 5))) (gSet (fOp rIxD (fVar 1) (fC (.int 1))) 7) gNext) (gSeq (gSet (fOp rAddD (fLc (fiList (fVar 2)) (.tp [(.nm 10), (.nm 11)]) (fTest (fOp (rEqD true) (fVar 10) (fOp rIxD (fVar 1) (fC (.int 1))))) (fTup (fCons (fVar 10) (fCons (fVar 11) fNil))) [10, 11]) (fLst (fCons (fTup (fCons (fOp rIxD (fVar 1) (fC (.int 1))) (fCons (fVar 7) fNil))) fNil))) 8) (gRet (fTup (fCons (fC (.str "take")) (fCons (fVar 7) (fCons (fOp rIxD (fVar 1) (fC (.int 2))) (fCons (fCall sp__law_called (fCons (fVar 0) (fCons (fOp rIxD (fVar 1) (fC (.int 3))) (fCons (fVar 8) fNil)))) fNil)))))))))))) gNext) (gRet (fOp rAddD (fTup (fCons (fVar 3) fNil)) (fCB rTup1 (fCons (fLc (fiTup (fSl rSlD (fVar 1) (fPart (fC (.int 1))) fNoPart)) (.nm 12) fYes (fCall sp__law_called (fCons (fVar 0) (fCons (fVar 12) (fCons (fVar 2) fNil)))) [12]) fNil)))))))
theorem der__law_called {P : Program} {w : World} {K : PySem.W.Frag} {mg : Str → Option Value} {base : Heap} {k : Nat} {f : Addr} {sp__law_farther sp__law_take sp__law_called : DSp} {a__law_farther : Addr} {fd__law_farther : FuncData} (n__law_farther : Fn K mg "_law_farther" s__law_farther P__law_farther a__law_farther fd__law_farther) (G__law_farther : FnOk P w K mg base CX0 k a__law_farther fd__law_farther P__law_farther (liftSp K sp__law_farther)) {a__law_take : Addr} {fd__law_take : FuncData} (n__law_take : Fn K mg "_law_take" s__law_take P__law_take a__law_take fd__law_take) (G__law_take : FnOk P w K mg base CX0 k a__law_take fd__law_take P__law_take (liftSp K sp__law_take)) {a__law_called : Addr} {fd__law_called : FuncData} (n__law_called : Fn K mg "_law_called" s__law_called P__law_called a__law_called fd__law_called) (G__law_called : FnOk P w K mg base CX0 k a__law_called fd__law_called P__law_called (liftSp K sp__law_called)) (m_dict : mg "dict" = none) (m_len : mg "len" = none) (m_str : mg "str" = none) (m_tuple : mg "tuple" = none)
    (cdv : Value) (A : Around) (outer : List Env) (s : Shared) (H : Hp) (E : XK) (hr : Room k (A.deeper (envOfC "_law_called" (defScope s__law_called) s.heap.objs.size f cdv))) :
    DSs MT (cxOf CX0 P w K mg base N__law_called "_law_called" (defScope s__law_called) f cdv A outer s H E).nox (defBody s__law_called) (g__law_called sp__law_farther sp__law_take sp__law_called) :=
  (dss_cons (ds_set (i := 3) sc__law_called.nd rfl (by first | exact Or.inl rfl | exact Or.inr rfl) (de_ix (de_var 1) de_int)) (dss_cons (ds_if (dt_cmp (od_eq hr.u200) (de_var 3) de_str (nomark _)) (dss_one (ds_ret (de_tup (da_cons de_str (da_cons (de_dget2 hr.u200 (de_callTy (cd_dictP (by rfl)) (by rfl) m_dict bb_dict (da_cons (de_var 2) da_nil)) (de_ix (de_var 1) de_int) (de_ix (de_var 1) de_int)) da_nil))))) dss_nil) (dss_cons (ds_if (dt_cmp (od_eq hr.u200) (de_var 3) de_str (nomark _)) (dss_cons (ds_set (i := 4) sc__law_called.nd rfl (by first | exact Or.inl rfl | exact Or.inr rfl) (de_callTy (cd_dictP (by rfl)) (by rfl) m_dict bb_dict (da_cons (de_var 2) da_nil))) (dss_cons (ds_set (i := 5) sc__law_called.nd rfl (by first | exact Or.inl rfl | exact Or.inr rfl) (de_lc (by rfl) sc__law_called.nd (di_list (de_callN n__law_farther G__law_farther hr (by rfl) (da_cons (de_ix (de_var 1) de_int) (da_cons (de_lst (da_cons (de_ix (de_var 1) de_int) da_nil)) da_nil)))) (blkOk_by (own := [("_law_name", 9)]) (N := N__law_called) (sc := defScope s__law_called) (by decide +kernel)) (fun _ _ _ _ _ => (dp_name (i := 9) sc__law_called.nd (by rfl) (by first | exact Or.inl rfl | exact Or.inr rfl))) (fun _ _ _ _ _ => dts_nil) (fun _ _ _ _ _ => (de_dget2 hr.u200 (de_var 4) (de_var 9) (de_var 9))))) (dss_cons (ds_setLc (i := 6) rfl sc__law_called.nd rfl rfl (sw_true rfl rfl rfl (by decide +kernel)) (di_list (de_lst (da_cons de_str (da_cons de_str (da_cons de_str (da_cons de_str (da_cons de_str (da_cons de_str da_nil)))))))) (blkOk_by (own := [("_law_name", 9)]) (N := N__law_called) (sc := defScope s__law_called) (by decide +kernel)) (fun _ _ _ _ _ => (dp_name (i := 9) sc__law_called.nd (by rfl) (by first | exact Or.inl rfl | exact Or.inr rfl))) (fun _ _ _ _ _ => (dts_one (dt_cmp (od_notin hr.u200) (de_var 9) (de_var 5) (by rfl)))) (fun _ _ _ _ _ => (de_var 9))) (dss_cons (ds_set (i := 7) sc__law_called.nd rfl (by first | exact Or.inl rfl | exact Or.inr rfl) (de_ix (de_op od_add (de_var 6) (de_lst (da_cons (de_op od_add de_str (de_callTy cd_str1 (by rfl) m_str bb_str (da_cons (de_op od_add de_int (de_callB cd_len (by rfl) m_len bb_len (da_cons (de_var 2) da_nil))) da_nil))) da_nil))) (de_callN n__law_take G__law_take hr (by rfl) (da_cons (de_var 0) (da_cons (de_op od_add (de_callB cd_len (by rfl) m_len bb_len (da_cons (de_var 6) da_nil)) de_int) da_nil))))) (dss_cons (ds_if (dt_cmp (od_in hr.u200) (de_var 7) (de_var 5) (by rfl)) (dss_one (ds_set (i := 7) sc__law_called.nd rfl (by first | exact Or.inl rfl | exact Or.inr rfl) (de_ix (de_var 1) de_int))) dss_nil) (dss_cons (ds_set (i := 8) sc__law_called.nd rfl (by first | exact Or.inl rfl | exact Or.inr rfl) (de_op od_add (de_lc (by rfl) sc__law_called.nd (di_list (de_var 2)) (blkOk_by (own := [("_law_one", 10), ("_law_other", 11)]) (N := N__law_called) (sc := defScope s__law_called) (by decide +kernel)) (fun _ _ _ _ _ => (dp_tup (by rfl) (dps_cons (dp_name (i := 10) sc__law_called.nd (by rfl) (by first | exact Or.inl rfl | exact Or.inr rfl)) (dps_cons (dp_name (i := 11) sc__law_called.nd (by rfl) (by first | exact Or.inl rfl | exact Or.inr rfl)) dps_nil)))) (fun _ _ _ _ _ => (dts_one (dt_cmp (od_ne hr.u200) (de_var 10) (de_ix (de_var 1) de_int) (nomark _)))) (fun _ _ _ _ _ => (de_tup (da_cons (de_var 10) (da_cons (de_var 11) da_nil))))) (de_lst (da_cons (de_tup (da_cons (de_ix (de_var 1) de_int) (da_cons (de_var 7) da_nil))) da_nil)))) (dss_one (ds_ret (de_tup (da_cons de_str (da_cons (de_var 7) (da_cons (de_ix (de_var 1) de_int) (da_cons (de_callN n__law_called G__law_called hr (by rfl) (da_cons (de_var 0) (da_cons (de_ix (de_var 1) de_int) (da_cons (de_var 8) da_nil)))) da_nil))))))))))))) dss_nil) (dss_one (ds_ret (de_op od_add (de_tup (da_cons (de_var 3) da_nil)) (de_callTy cd_tup1 (by rfl) m_tuple bb_tuple (da_cons (de_lc (by rfl) sc__law_called.nd (di_tup (de_slice (de_var 1) (do_some de_int) do_none)) (blkOk_by (own := [("_law_part", 12)]) (N := N__law_called) (sc := defScope s__law_called) (by decide +kernel)) (fun _ _ _ _ _ => (dp_name (i := 12) sc__law_called.nd (by rfl) (by first | exact Or.inl rfl | exact Or.inr rfl))) (fun _ _ _ _ _ => dts_nil) (fun _ _ _ _ _ => (de_callN n__law_called G__law_called hr (by rfl) (da_cons (de_var 0) (da_cons (de_var 12) (da_cons (de_var 2) da_nil)))))) da_nil))))))))
/-! ### law -/
abbrev s_law : Stmt := topS 30
abbrev N_law : List Str := ["_law_script", "_law_k", "_law_pool_here", "_law_row_here", "_law_goal", "_law_program_here", "_law_due", "_law_other"]
abbrev P_law : List Str := ["_law_script"]
theorem sc_law : FnScope N_law P_law (defScope s_law) := ⟨rfl, rfl, rfl, by decide +kernel, rfl, by decide +kernel, by decide +kernel⟩
def g_law (sp__law_pool sp__law_row sp__law_drawn sp__law_tidied sp__law_called sp_tidied sp_kind_of : DSp) : GS :=
  (gSeq (gFor (fiRng1 (fCons (fCB rMax2 (fCons (fC (.int 1)) (fCons (fCB rMin2 (fCons (fCB rLenD (fCons (fVar 0) fNil)) (fCons (fC (.int 16)) fNil))) fNil))) fNil)) (.nm 1) (gSeq (gSet (fCall sp__law_pool (fCons (fVar 0) (fCons (fVar 1) fNil))) 2) (gSeq (gSet (fCall sp__law_row (fCons (fVar 2) fNil)) 3) (gSeq (gAsg (fCall sp__law_drawn (fCons (fVar 2) (fCons (fVar 3) (fCons (fC (.int 150)) fNil)))) (.tp [(.nm 4), (.nm 5)])) (gSeq (gSet (fCall sp__law_tidied (fCons (fVar 5) (fCons (fLst fNil) fNil))) 6) (gSeq (gSet (fCall sp__law_called (fCons (fVar 2) (fCons (fVar 5) (fCons (fLst fNil) fNil)))) 7) (gSeq (gIf (fTest (fOp (rEqD true) (fCall sp__law_tidied (fCons (fVar 7) (fCons (fLst fNil) fNil))) (fVar 6))) (gSet (fVar 5) 7) gNext) (gSeq (gIf (fOr (fTest (fOp (rEqD true) (fCall sp_tidied (fCons (fVar 5) fNil)) (fVar 6))) (fOr (fTest (fOp (rEqD true) (fCall sp_tidied (fCons (fVar 7) fNil)) (fVar 6))) (fTest (fOp (rEqD true) (fCall sp_tidied (fCons (fVar 6) fNil)) (fVar 6))))) (gRet (fC (.bl false))) gNext) (gIf (fOr (fTest (fOp (rEqD true) (fCall sp_kind_of (fCons (fVar 3) (fCons (fVar 5) fNil))) (fVar 4))) (fOr (fTest (fOp (rEqD true) (fCall sp_kind_of (fCons (fVar 3) (fCons (fVar 7) fNil))) (fVar 4))) (fTest (fOp (rEqD true) (fCall sp_kind_of (fCons (fVar 3) (fCons (fVar 6) fNil))) (fVar 4))))) (gRet (fC (.bl false))) gNext))))))))) (gRet (fC (.bl true))))
theorem der_law {P : Program} {w : World} {K : PySem.W.Frag} {mg : Str → Option Value} {base : Heap} {k : Nat} {f : Addr} {sp__law_pool sp__law_row sp__law_drawn sp__law_tidied sp__law_called sp_tidied sp_kind_of : DSp} {a__law_pool : Addr} {fd__law_pool : FuncData} (n__law_pool : Fn K mg "_law_pool" s__law_pool P__law_pool a__law_pool fd__law_pool) (G__law_pool : FnOk P w K mg base CX0 k a__law_pool fd__law_pool P__law_pool (liftSp K sp__law_pool)) {a__law_row : Addr} {fd__law_row : FuncData} (n__law_row : Fn K mg "_law_row" s__law_row P__law_row a__law_row fd__law_row) (G__law_row : FnOk P w K mg base CX0 k a__law_row fd__law_row P__law_row (liftSp K sp__law_row)) {a__law_drawn : Addr} {fd__law_drawn : FuncData} (n__law_drawn : Fn K mg "_law_drawn" s__law_drawn P__law_drawn a__law_drawn fd__law_drawn) (G__law_drawn : FnOk P w K mg base CX0 k a__law_drawn fd__law_drawn P__law_drawn (liftSp K sp__law_drawn)) {a__law_tidied : Addr} {fd__law_tidied : FuncData} (n__law_tidied : Fn K mg "_law_tidied" s__law_tidied P__law_tidied a__law_tidied fd__law_tidied) (G__law_tidied : FnOk P w K mg base CX0 k a__law_tidied fd__law_tidied P__law_tidied (liftSp K sp__law_tidied)) {a__law_called : Addr} {fd__law_called : FuncData} (n__law_called : Fn K mg "_law_called" s__law_called P__law_called a__law_called fd__law_called) (G__law_called : FnOk P w K mg base CX0 k a__law_called fd__law_called P__law_called (liftSp K sp__law_called)) {a_tidied : Addr} {fd_tidied : FuncData} (n_tidied : Fn K mg "tidied" s_tidied P_tidied a_tidied fd_tidied) (G_tidied : FnOk P w K mg base CX0 k a_tidied fd_tidied P_tidied (liftSp K sp_tidied)) {a_kind_of : Addr} {fd_kind_of : FuncData} (n_kind_of : Fn K mg "kind_of" s_kind_of P_kind_of a_kind_of fd_kind_of) (G_kind_of : FnOk P w K mg base CX0 k a_kind_of fd_kind_of P_kind_of (liftSp K sp_kind_of)) (m_range : mg "range" = none) (m_len : mg "len" = none) (m_min : mg "min" = none) (m_max : mg "max" = none)
    (cdv : Value) (A : Around) (outer : List Env) (s : Shared) (H : Hp) (E : XK) (hr : Room k (A.deeper (envOfC "law" (defScope s_law) s.heap.objs.size f cdv))) :
    DSs MT (cxOf CX0 P w K mg base N_law "law" (defScope s_law) f cdv A outer s H E).nox (defBody s_law) (g_law sp__law_pool sp__law_row sp__law_drawn sp__law_tidied sp__law_called sp_tidied sp_kind_of) :=
  (dss_cons (ds_for PassesOwn.never rfl (di_range1 (by rfl) m_range (da_cons (de_callB (cd_max2 (by rfl)) (by rfl) m_max bb_max (da_cons de_int (da_cons (de_callB (cd_min2 (by rfl)) (by rfl) m_min bb_min (da_cons (de_callB cd_len (by rfl) m_len bb_len (da_cons (de_var 0) da_nil)) (da_cons de_int da_nil))) da_nil))) da_nil)) (dp_name (i := 1) sc_law.nd (by rfl) (by first | exact Or.inl rfl | exact Or.inr rfl)) (dss_cons (ds_set (i := 2) sc_law.nd rfl (by first | exact Or.inl rfl | exact Or.inr rfl) (de_callN n__law_pool G__law_pool hr (by rfl) (da_cons (de_var 0) (da_cons (de_var 1) da_nil)))) (dss_cons (ds_set (i := 3) sc_law.nd rfl (by first | exact Or.inl rfl | exact Or.inr rfl) (de_callN n__law_row G__law_row hr (by rfl) (da_cons (de_var 2) da_nil))) (dss_cons (ds_asg (de_callN n__law_drawn G__law_drawn hr (by rfl) (da_cons (de_var 2) (da_cons (de_var 3) (da_cons de_int da_nil)))) (dp_tup (by rfl) (dps_cons (dp_name (i := 4) sc_law.nd (by rfl) (by first | exact Or.inl rfl | exact Or.inr rfl)) (dps_cons (dp_name (i := 5) sc_law.nd (by rfl) (by first | exact Or.inl rfl | exact Or.inr rfl)) dps_nil)))) (dss_cons (ds_set (i := 6) sc_law.nd rfl (by first | exact Or.inl rfl | exact Or.inr rfl) (de_callN n__law_tidied G__law_tidied hr (by rfl) (da_cons (de_var 5) (da_cons (de_lst da_nil) da_nil)))) (dss_cons (ds_set (i := 7) sc_law.nd rfl (by first | exact Or.inl rfl | exact Or.inr rfl) (de_callN n__law_called G__law_called hr (by rfl) (da_cons (de_var 2) (da_cons (de_var 5) (da_cons (de_lst da_nil) da_nil))))) (dss_cons (ds_if (dt_cmp (od_ne hr.u200) (de_callN n__law_tidied G__law_tidied hr (by rfl) (da_cons (de_var 7) (da_cons (de_lst da_nil) da_nil))) (de_var 6) (nomark _)) (dss_one (ds_set (i := 7) sc_law.nd rfl (by first | exact Or.inl rfl | exact Or.inr rfl) (de_var 5))) dss_nil) (dss_cons (ds_if (dt_of (dw_or (dt_cmp (od_ne hr.u200) (de_callN n_tidied G_tidied hr (by rfl) (da_cons (de_var 5) da_nil)) (de_var 6) (nomark _)) (dw_or (dt_cmp (od_ne hr.u200) (de_callN n_tidied G_tidied hr (by rfl) (da_cons (de_var 7) da_nil)) (de_var 6) (nomark _)) (dw_or1 (dt_cmp (od_ne hr.u200) (de_callN n_tidied G_tidied hr (by rfl) (da_cons (de_var 6) da_nil)) (de_var 6) (nomark _)))))) (dss_one (ds_ret de_bl)) dss_nil) (dss_one (ds_if (dt_of (dw_or (dt_cmp (od_ne hr.u200) (de_callN n_kind_of G_kind_of hr (by rfl) (da_cons (de_var 3) (da_cons (de_var 5) da_nil))) (de_var 4) (nomark _)) (dw_or (dt_cmp (od_ne hr.u200) (de_callN n_kind_of G_kind_of hr (by rfl) (da_cons (de_var 3) (da_cons (de_var 7) da_nil))) (de_var 4) (nomark _)) (dw_or1 (dt_cmp (od_ne hr.u200) (de_callN n_kind_of G_kind_of hr (by rfl) (da_cons (de_var 3) (da_cons (de_var 6) da_nil))) (de_var 4) (nomark _)))))) (dss_one (ds_ret de_bl)) dss_nil)))))))))) (dss_one (ds_ret de_bl)))
/-! ### all facts of the text -/
structure Tx (K : PySem.W.Frag) (mg : Str → Option Value) where
  a_inner : Addr
  fd_inner : FuncData
  n_inner : Fn K mg "inner" s_inner P_inner a_inner fd_inner
  a_with_inner : Addr
  fd_with_inner : FuncData
  n_with_inner : Fn K mg "with_inner" s_with_inner P_with_inner a_with_inner fd_with_inner
  a_known_as : Addr
  fd_known_as : FuncData
  n_known_as : Fn K mg "known_as" s_known_as P_known_as a_known_as fd_known_as
  a_kind_here : Addr
  fd_kind_here : FuncData
  n_kind_here : Fn K mg "kind_here" s_kind_here P_kind_here a_kind_here fd_kind_here
  a_kind_within : Addr
  fd_kind_within : FuncData
  n_kind_within : Fn K mg "kind_within" s_kind_within P_kind_within a_kind_within fd_kind_within
  a_kind_of : Addr
  fd_kind_of : FuncData
  n_kind_of : Fn K mg "kind_of" s_kind_of P_kind_of a_kind_of fd_kind_of
  a_tidied_within : Addr
  fd_tidied_within : FuncData
  n_tidied_within : Fn K mg "tidied_within" s_tidied_within P_tidied_within a_tidied_within fd_tidied_within
  a_tidied : Addr
  fd_tidied : FuncData
  n_tidied : Fn K mg "tidied" s_tidied P_tidied a_tidied fd_tidied
  a__law_pool : Addr
  fd__law_pool : FuncData
  n__law_pool : Fn K mg "_law_pool" s__law_pool P__law_pool a__law_pool fd__law_pool
  a__law_take : Addr
  fd__law_take : FuncData
  n__law_take : Fn K mg "_law_take" s__law_take P__law_take a__law_take fd__law_take
  a__law_kind : Addr
  fd__law_kind : FuncData
  n__law_kind : Fn K mg "_law_kind" s__law_kind P__law_kind a__law_kind fd__law_kind
  a__law_seen : Addr
  fd__law_seen : FuncData
  n__law_seen : Fn K mg "_law_seen" s__law_seen P__law_seen a__law_seen fd__law_seen
  a__law_uses : Addr
  fd__law_uses : FuncData
  n__law_uses : Fn K mg "_law_uses" s__law_uses P__law_uses a__law_uses fd__law_uses
  a__law_used : Addr
  fd__law_used : FuncData
  n__law_used : Fn K mg "_law_used" s__law_used P__law_used a__law_used fd__law_used
  a__law_made : Addr
  fd__law_made : FuncData
  n__law_made : Fn K mg "_law_made" s__law_made P__law_made a__law_made fd__law_made
  a__law_program : Addr
  fd__law_program : FuncData
  n__law_program : Fn K mg "_law_program" s__law_program P__law_program a__law_program fd__law_program
  a__law_row : Addr
  fd__law_row : FuncData
  n__law_row : Fn K mg "_law_row" s__law_row P__law_row a__law_row fd__law_row
  a__law_many : Addr
  fd__law_many : FuncData
  n__law_many : Fn K mg "_law_many" s__law_many P__law_many a__law_many fd__law_many
  a__law_words : Addr
  fd__law_words : FuncData
  n__law_words : Fn K mg "_law_words" s__law_words P__law_words a__law_words fd__law_words
  a__law_drawn : Addr
  fd__law_drawn : FuncData
  n__law_drawn : Fn K mg "_law_drawn" s__law_drawn P__law_drawn a__law_drawn fd__law_drawn
  a__law_tidied : Addr
  fd__law_tidied : FuncData
  n__law_tidied : Fn K mg "_law_tidied" s__law_tidied P__law_tidied a__law_tidied fd__law_tidied
  a__law_farther : Addr
  fd__law_farther : FuncData
  n__law_farther : Fn K mg "_law_farther" s__law_farther P__law_farther a__law_farther fd__law_farther
  a__law_called : Addr
  fd__law_called : FuncData
  n__law_called : Fn K mg "_law_called" s__law_called P__law_called a__law_called fd__law_called
  a_law : Addr
  fd_law : FuncData
  n_law : Fn K mg "law" s_law P_law a_law fd_law
  m_list : mg "list" = none
  m_tuple : mg "tuple" = none
  m_reversed : mg "reversed" = none
  m_int : mg "int" = none
  m_enumerate : mg "enumerate" = none
  m_range : mg "range" = none
  m_len : mg "len" = none
  m_str : mg "str" = none
  m_isinstance : mg "isinstance" = none
  m_dict : mg "dict" = none
  m_min : mg "min" = none
  m_max : mg "max" = none
  c_ONE : Cst K mg "ONE" (.tup [(.str "one")])
section
variable {P : Program} {w : World} {K : PySem.W.Frag} {mg : Str → Option Value} {base : Heap}
abbrev FO_inner (P : Program) (w : World) (base : Heap) (T : Tx K mg) (k : Nat) (sp : DSp) : Prop := FnOk P w K mg base CX0 k T.a_inner T.fd_inner P_inner (liftSp K sp)
abbrev FO_with_inner (P : Program) (w : World) (base : Heap) (T : Tx K mg) (k : Nat) (sp : DSp) : Prop := FnOk P w K mg base CX0 k T.a_with_inner T.fd_with_inner P_with_inner (liftSp K sp)
abbrev FO_known_as (P : Program) (w : World) (base : Heap) (T : Tx K mg) (k : Nat) (sp : DSp) : Prop := FnOk P w K mg base CX0 k T.a_known_as T.fd_known_as P_known_as (liftSp K sp)
abbrev FO_kind_here (P : Program) (w : World) (base : Heap) (T : Tx K mg) (k : Nat) (sp : DSp) : Prop := FnOk P w K mg base CX0 k T.a_kind_here T.fd_kind_here P_kind_here (liftSp K sp)
abbrev FO_kind_within (P : Program) (w : World) (base : Heap) (T : Tx K mg) (k : Nat) (sp : DSp) : Prop := FnOk P w K mg base CX0 k T.a_kind_within T.fd_kind_within P_kind_within (liftSp K sp)
abbrev FO_kind_of (P : Program) (w : World) (base : Heap) (T : Tx K mg) (k : Nat) (sp : DSp) : Prop := FnOk P w K mg base CX0 k T.a_kind_of T.fd_kind_of P_kind_of (liftSp K sp)
abbrev FO_tidied_within (P : Program) (w : World) (base : Heap) (T : Tx K mg) (k : Nat) (sp : DSp) : Prop := FnOk P w K mg base CX0 k T.a_tidied_within T.fd_tidied_within P_tidied_within (liftSp K sp)
abbrev FO_tidied (P : Program) (w : World) (base : Heap) (T : Tx K mg) (k : Nat) (sp : DSp) : Prop := FnOk P w K mg base CX0 k T.a_tidied T.fd_tidied P_tidied (liftSp K sp)
abbrev FO__law_pool (P : Program) (w : World) (base : Heap) (T : Tx K mg) (k : Nat) (sp : DSp) : Prop := FnOk P w K mg base CX0 k T.a__law_pool T.fd__law_pool P__law_pool (liftSp K sp)
abbrev FO__law_take (P : Program) (w : World) (base : Heap) (T : Tx K mg) (k : Nat) (sp : DSp) : Prop := FnOk P w K mg base CX0 k T.a__law_take T.fd__law_take P__law_take (liftSp K sp)
abbrev FO__law_kind (P : Program) (w : World) (base : Heap) (T : Tx K mg) (k : Nat) (sp : DSp) : Prop := FnOk P w K mg base CX0 k T.a__law_kind T.fd__law_kind P__law_kind (liftSp K sp)
abbrev FO__law_seen (P : Program) (w : World) (base : Heap) (T : Tx K mg) (k : Nat) (sp : DSp) : Prop := FnOk P w K mg base CX0 k T.a__law_seen T.fd__law_seen P__law_seen (liftSp K sp)
abbrev FO__law_uses (P : Program) (w : World) (base : Heap) (T : Tx K mg) (k : Nat) (sp : DSp) : Prop := FnOk P w K mg base CX0 k T.a__law_uses T.fd__law_uses P__law_uses (liftSp K sp)
abbrev FO__law_used (P : Program) (w : World) (base : Heap) (T : Tx K mg) (k : Nat) (sp : DSp) : Prop := FnOk P w K mg base CX0 k T.a__law_used T.fd__law_used P__law_used (liftSp K sp)
abbrev FO__law_made (P : Program) (w : World) (base : Heap) (T : Tx K mg) (k : Nat) (sp : DSp) : Prop := FnOk P w K mg base CX0 k T.a__law_made T.fd__law_made P__law_made (liftSp K sp)
abbrev FO__law_program (P : Program) (w : World) (base : Heap) (T : Tx K mg) (k : Nat) (sp : DSp) : Prop := FnOk P w K mg base CX0 k T.a__law_program T.fd__law_program P__law_program (liftSp K sp)
abbrev FO__law_row (P : Program) (w : World) (base : Heap) (T : Tx K mg) (k : Nat) (sp : DSp) : Prop := FnOk P w K mg base CX0 k T.a__law_row T.fd__law_row P__law_row (liftSp K sp)
abbrev FO__law_many (P : Program) (w : World) (base : Heap) (T : Tx K mg) (k : Nat) (sp : DSp) : Prop := FnOk P w K mg base CX0 k T.a__law_many T.fd__law_many P__law_many (liftSp K sp)
abbrev FO__law_words (P : Program) (w : World) (base : Heap) (T : Tx K mg) (k : Nat) (sp : DSp) : Prop := FnOk P w K mg base CX0 k T.a__law_words T.fd__law_words P__law_words (liftSp K sp)
abbrev FO__law_drawn (P : Program) (w : World) (base : Heap) (T : Tx K mg) (k : Nat) (sp : DSp) : Prop := FnOk P w K mg base CX0 k T.a__law_drawn T.fd__law_drawn P__law_drawn (liftSp K sp)
abbrev FO__law_tidied (P : Program) (w : World) (base : Heap) (T : Tx K mg) (k : Nat) (sp : DSp) : Prop := FnOk P w K mg base CX0 k T.a__law_tidied T.fd__law_tidied P__law_tidied (liftSp K sp)
abbrev FO__law_farther (P : Program) (w : World) (base : Heap) (T : Tx K mg) (k : Nat) (sp : DSp) : Prop := FnOk P w K mg base CX0 k T.a__law_farther T.fd__law_farther P__law_farther (liftSp K sp)
abbrev FO__law_called (P : Program) (w : World) (base : Heap) (T : Tx K mg) (k : Nat) (sp : DSp) : Prop := FnOk P w K mg base CX0 k T.a__law_called T.fd__law_called P__law_called (liftSp K sp)
abbrev FO_law (P : Program) (w : World) (base : Heap) (T : Tx K mg) (k : Nat) (sp : DSp) : Prop := FnOk P w K mg base CX0 k T.a_law T.fd_law P_law (liftSp K sp)
theorem fnd_inner {k : Nat} {dsp  : DSp} (T : Tx K mg) 
    (len : ∀ ds O R RE, dsp ds O R RE → ds.length = 1) (hread : ∀ ds O R RE, dsp ds O R RE → g_inner  { nx := fun _ O' => R .non O', rt := R } (startD N_inner ds) O) : FO_inner P w base T (k + 1) dsp :=
  fn_d (g := g_inner ) T.n_inner.F sc_inner len (der_inner T.m_list) hread
theorem fndG_inner {k : Nat} {dsp  : DSp} (T : Tx K mg) 
    (len : ∀ ds O R RE, dsp ds O R RE → ds.length = 1) (hread : ∀ ds O R RE, dsp ds O R RE → g_inner  { nx := fun _ O' => VG R .non O', rt := VG R } (startD N_inner ds) O) : FO_inner P w base T (k + 1) dsp :=
  fn_dG (g := g_inner ) T.n_inner.F sc_inner len (der_inner T.m_list) hread
theorem fnd_with_inner {k : Nat} {dsp  : DSp} (T : Tx K mg) 
    (len : ∀ ds O R RE, dsp ds O R RE → ds.length = 2) (hread : ∀ ds O R RE, dsp ds O R RE → g_with_inner  { nx := fun _ O' => R .non O', rt := R } (startD N_with_inner ds) O) : FO_with_inner P w base T (k + 1) dsp :=
  fn_d (g := g_with_inner ) T.n_with_inner.F sc_with_inner len (der_with_inner T.m_tuple) hread
theorem fndG_with_inner {k : Nat} {dsp  : DSp} (T : Tx K mg) 
    (len : ∀ ds O R RE, dsp ds O R RE → ds.length = 2) (hread : ∀ ds O R RE, dsp ds O R RE → g_with_inner  { nx := fun _ O' => VG R .non O', rt := VG R } (startD N_with_inner ds) O) : FO_with_inner P w base T (k + 1) dsp :=
  fn_dG (g := g_with_inner ) T.n_with_inner.F sc_with_inner len (der_with_inner T.m_tuple) hread
theorem fnd_known_as {k : Nat} {dsp  : DSp} (T : Tx K mg) 
    (len : ∀ ds O R RE, dsp ds O R RE → ds.length = 2) (hread : ∀ ds O R RE, dsp ds O R RE → g_known_as  { nx := fun _ O' => R .non O', rt := R } (startD N_known_as ds) O) : FO_known_as P w base T (k + 1) dsp :=
  fn_d (g := g_known_as ) T.n_known_as.F sc_known_as len (der_known_as T.m_reversed) hread
theorem fndG_known_as {k : Nat} {dsp  : DSp} (T : Tx K mg) 
    (len : ∀ ds O R RE, dsp ds O R RE → ds.length = 2) (hread : ∀ ds O R RE, dsp ds O R RE → g_known_as  { nx := fun _ O' => VG R .non O', rt := VG R } (startD N_known_as ds) O) : FO_known_as P w base T (k + 1) dsp :=
  fn_dG (g := g_known_as ) T.n_known_as.F sc_known_as len (der_known_as T.m_reversed) hread
theorem fnd_kind_here {k : Nat} {dsp sp_known_as : DSp} (T : Tx K mg) (G_known_as : FO_known_as P w base T k sp_known_as)
    (len : ∀ ds O R RE, dsp ds O R RE → ds.length = 3) (hread : ∀ ds O R RE, dsp ds O R RE → g_kind_here sp_known_as (.tup [(.str "one")]) { nx := fun _ O' => R .non O', rt := R } (startD N_kind_here ds) O) : FO_kind_here P w base T (k + 1) dsp :=
  fn_d (g := g_kind_here sp_known_as (.tup [(.str "one")])) T.n_kind_here.F sc_kind_here len (der_kind_here T.n_known_as G_known_as T.m_int T.c_ONE) hread
theorem fndG_kind_here {k : Nat} {dsp sp_known_as : DSp} (T : Tx K mg) (G_known_as : FO_known_as P w base T k sp_known_as)
    (len : ∀ ds O R RE, dsp ds O R RE → ds.length = 3) (hread : ∀ ds O R RE, dsp ds O R RE → g_kind_here sp_known_as (.tup [(.str "one")]) { nx := fun _ O' => VG R .non O', rt := VG R } (startD N_kind_here ds) O) : FO_kind_here P w base T (k + 1) dsp :=
  fn_dG (g := g_kind_here sp_known_as (.tup [(.str "one")])) T.n_kind_here.F sc_kind_here len (der_kind_here T.n_known_as G_known_as T.m_int T.c_ONE) hread
theorem fnd_kind_within {k : Nat} {dsp sp_inner sp_kind_within sp_kind_here : DSp} (T : Tx K mg) (G_inner : FO_inner P w base T k sp_inner) (G_kind_within : FO_kind_within P w base T k sp_kind_within) (G_kind_here : FO_kind_here P w base T k sp_kind_here)
    (len : ∀ ds O R RE, dsp ds O R RE → ds.length = 3) (hread : ∀ ds O R RE, dsp ds O R RE → g_kind_within sp_inner sp_kind_within sp_kind_here { nx := fun _ O' => R .non O', rt := R } (startD N_kind_within ds) O) : FO_kind_within P w base T (k + 1) dsp :=
  fn_d (g := g_kind_within sp_inner sp_kind_within sp_kind_here) T.n_kind_within.F sc_kind_within len (der_kind_within T.n_inner G_inner T.n_kind_within G_kind_within T.n_kind_here G_kind_here T.m_enumerate) hread
theorem fndG_kind_within {k : Nat} {dsp sp_inner sp_kind_within sp_kind_here : DSp} (T : Tx K mg) (G_inner : FO_inner P w base T k sp_inner) (G_kind_within : FO_kind_within P w base T k sp_kind_within) (G_kind_here : FO_kind_here P w base T k sp_kind_here)
    (len : ∀ ds O R RE, dsp ds O R RE → ds.length = 3) (hread : ∀ ds O R RE, dsp ds O R RE → g_kind_within sp_inner sp_kind_within sp_kind_here { nx := fun _ O' => VG R .non O', rt := VG R } (startD N_kind_within ds) O) : FO_kind_within P w base T (k + 1) dsp :=
  fn_dG (g := g_kind_within sp_inner sp_kind_within sp_kind_here) T.n_kind_within.F sc_kind_within len (der_kind_within T.n_inner G_inner T.n_kind_within G_kind_within T.n_kind_here G_kind_here T.m_enumerate) hread
theorem fnd_kind_of {k : Nat} {dsp sp_kind_within : DSp} (T : Tx K mg) (G_kind_within : FO_kind_within P w base T k sp_kind_within)
    (len : ∀ ds O R RE, dsp ds O R RE → ds.length = 2) (hread : ∀ ds O R RE, dsp ds O R RE → g_kind_of sp_kind_within { nx := fun _ O' => R .non O', rt := R } (startD N_kind_of ds) O) : FO_kind_of P w base T (k + 1) dsp :=
  fn_d (g := g_kind_of sp_kind_within) T.n_kind_of.F sc_kind_of len (der_kind_of T.n_kind_within G_kind_within T.m_list) hread
theorem fndG_kind_of {k : Nat} {dsp sp_kind_within : DSp} (T : Tx K mg) (G_kind_within : FO_kind_within P w base T k sp_kind_within)
    (len : ∀ ds O R RE, dsp ds O R RE → ds.length = 2) (hread : ∀ ds O R RE, dsp ds O R RE → g_kind_of sp_kind_within { nx := fun _ O' => VG R .non O', rt := VG R } (startD N_kind_of ds) O) : FO_kind_of P w base T (k + 1) dsp :=
  fn_dG (g := g_kind_of sp_kind_within) T.n_kind_of.F sc_kind_of len (der_kind_of T.n_kind_within G_kind_within T.m_list) hread
theorem fnd_tidied_within {k : Nat} {dsp sp_tidied_within sp_with_inner sp_inner : DSp} (T : Tx K mg) (G_tidied_within : FO_tidied_within P w base T k sp_tidied_within) (G_with_inner : FO_with_inner P w base T k sp_with_inner) (G_inner : FO_inner P w base T k sp_inner)
    (len : ∀ ds O R RE, dsp ds O R RE → ds.length = 2) (hread : ∀ ds O R RE, dsp ds O R RE → g_tidied_within sp_tidied_within sp_with_inner sp_inner { nx := fun _ O' => R .non O', rt := R } (startD N_tidied_within ds) O) : FO_tidied_within P w base T (k + 1) dsp :=
  fn_d (g := g_tidied_within sp_tidied_within sp_with_inner sp_inner) T.n_tidied_within.F sc_tidied_within len (der_tidied_within T.n_tidied_within G_tidied_within T.n_with_inner G_with_inner T.n_inner G_inner T.m_reversed T.m_range T.m_len T.m_str) hread
theorem fndG_tidied_within {k : Nat} {dsp sp_tidied_within sp_with_inner sp_inner : DSp} (T : Tx K mg) (G_tidied_within : FO_tidied_within P w base T k sp_tidied_within) (G_with_inner : FO_with_inner P w base T k sp_with_inner) (G_inner : FO_inner P w base T k sp_inner)
    (len : ∀ ds O R RE, dsp ds O R RE → ds.length = 2) (hread : ∀ ds O R RE, dsp ds O R RE → g_tidied_within sp_tidied_within sp_with_inner sp_inner { nx := fun _ O' => VG R .non O', rt := VG R } (startD N_tidied_within ds) O) : FO_tidied_within P w base T (k + 1) dsp :=
  fn_dG (g := g_tidied_within sp_tidied_within sp_with_inner sp_inner) T.n_tidied_within.F sc_tidied_within len (der_tidied_within T.n_tidied_within G_tidied_within T.n_with_inner G_with_inner T.n_inner G_inner T.m_reversed T.m_range T.m_len T.m_str) hread
theorem fnd_tidied {k : Nat} {dsp sp_tidied_within : DSp} (T : Tx K mg) (G_tidied_within : FO_tidied_within P w base T k sp_tidied_within)
    (len : ∀ ds O R RE, dsp ds O R RE → ds.length = 1) (hread : ∀ ds O R RE, dsp ds O R RE → g_tidied sp_tidied_within { nx := fun _ O' => R .non O', rt := R } (startD N_tidied ds) O) : FO_tidied P w base T (k + 1) dsp :=
  fn_d (g := g_tidied sp_tidied_within) T.n_tidied.F sc_tidied len (der_tidied T.n_tidied_within G_tidied_within) hread
theorem fndG_tidied {k : Nat} {dsp sp_tidied_within : DSp} (T : Tx K mg) (G_tidied_within : FO_tidied_within P w base T k sp_tidied_within)
    (len : ∀ ds O R RE, dsp ds O R RE → ds.length = 1) (hread : ∀ ds O R RE, dsp ds O R RE → g_tidied sp_tidied_within { nx := fun _ O' => VG R .non O', rt := VG R } (startD N_tidied ds) O) : FO_tidied P w base T (k + 1) dsp :=
  fn_dG (g := g_tidied sp_tidied_within) T.n_tidied.F sc_tidied len (der_tidied T.n_tidied_within G_tidied_within) hread
theorem fnd__law_pool {k : Nat} {dsp  : DSp} (T : Tx K mg) 
    (len : ∀ ds O R RE, dsp ds O R RE → ds.length = 2) (hread : ∀ ds O R RE, dsp ds O R RE → g__law_pool  { nx := fun _ O' => R .non O', rt := R } (startD N__law_pool ds) O) : FO__law_pool P w base T (k + 1) dsp :=
  fn_d (g := g__law_pool ) T.n__law_pool.F sc__law_pool len (der__law_pool T.m_len) hread
theorem fndG__law_pool {k : Nat} {dsp  : DSp} (T : Tx K mg) 
    (len : ∀ ds O R RE, dsp ds O R RE → ds.length = 2) (hread : ∀ ds O R RE, dsp ds O R RE → g__law_pool  { nx := fun _ O' => VG R .non O', rt := VG R } (startD N__law_pool ds) O) : FO__law_pool P w base T (k + 1) dsp :=
  fn_dG (g := g__law_pool ) T.n__law_pool.F sc__law_pool len (der__law_pool T.m_len) hread
theorem fnd__law_take {k : Nat} {dsp  : DSp} (T : Tx K mg) 
    (len : ∀ ds O R RE, dsp ds O R RE → ds.length = 2) (hread : ∀ ds O R RE, dsp ds O R RE → g__law_take  { nx := fun _ O' => R .non O', rt := R } (startD N__law_take ds) O) : FO__law_take P w base T (k + 1) dsp :=
  fn_d (g := g__law_take ) T.n__law_take.F sc__law_take len (der__law_take ) hread
theorem fndG__law_take {k : Nat} {dsp  : DSp} (T : Tx K mg) 
    (len : ∀ ds O R RE, dsp ds O R RE → ds.length = 2) (hread : ∀ ds O R RE, dsp ds O R RE → g__law_take  { nx := fun _ O' => VG R .non O', rt := VG R } (startD N__law_take ds) O) : FO__law_take P w base T (k + 1) dsp :=
  fn_dG (g := g__law_take ) T.n__law_take.F sc__law_take len (der__law_take ) hread
theorem fnd__law_kind {k : Nat} {dsp sp__law_take sp__law_kind : DSp} (T : Tx K mg) (G__law_take : FO__law_take P w base T k sp__law_take) (G__law_kind : FO__law_kind P w base T k sp__law_kind)
    (len : ∀ ds O R RE, dsp ds O R RE → ds.length = 3) (hread : ∀ ds O R RE, dsp ds O R RE → g__law_kind sp__law_take sp__law_kind { nx := fun _ O' => R .non O', rt := R } (startD N__law_kind ds) O) : FO__law_kind P w base T (k + 1) dsp :=
  fn_d (g := g__law_kind sp__law_take sp__law_kind) T.n__law_kind.F sc__law_kind len (der__law_kind T.n__law_take G__law_take T.n__law_kind G__law_kind T.m_len) hread
theorem fndG__law_kind {k : Nat} {dsp sp__law_take sp__law_kind : DSp} (T : Tx K mg) (G__law_take : FO__law_take P w base T k sp__law_take) (G__law_kind : FO__law_kind P w base T k sp__law_kind)
    (len : ∀ ds O R RE, dsp ds O R RE → ds.length = 3) (hread : ∀ ds O R RE, dsp ds O R RE → g__law_kind sp__law_take sp__law_kind { nx := fun _ O' => VG R .non O', rt := VG R } (startD N__law_kind ds) O) : FO__law_kind P w base T (k + 1) dsp :=
  fn_dG (g := g__law_kind sp__law_take sp__law_kind) T.n__law_kind.F sc__law_kind len (der__law_kind T.n__law_take G__law_take T.n__law_kind G__law_kind T.m_len) hread
theorem fnd__law_seen {k : Nat} {dsp  : DSp} (T : Tx K mg) 
    (len : ∀ ds O R RE, dsp ds O R RE → ds.length = 1) (hread : ∀ ds O R RE, dsp ds O R RE → g__law_seen  { nx := fun _ O' => R .non O', rt := R } (startD N__law_seen ds) O) : FO__law_seen P w base T (k + 1) dsp :=
  fn_d (g := g__law_seen ) T.n__law_seen.F sc__law_seen len (der__law_seen ) hread
theorem fndG__law_seen {k : Nat} {dsp  : DSp} (T : Tx K mg) 
    (len : ∀ ds O R RE, dsp ds O R RE → ds.length = 1) (hread : ∀ ds O R RE, dsp ds O R RE → g__law_seen  { nx := fun _ O' => VG R .non O', rt := VG R } (startD N__law_seen ds) O) : FO__law_seen P w base T (k + 1) dsp :=
  fn_dG (g := g__law_seen ) T.n__law_seen.F sc__law_seen len (der__law_seen ) hread
theorem fnd__law_uses {k : Nat} {dsp sp__law_uses : DSp} (T : Tx K mg) (G__law_uses : FO__law_uses P w base T k sp__law_uses)
    (len : ∀ ds O R RE, dsp ds O R RE → ds.length = 3) (hread : ∀ ds O R RE, dsp ds O R RE → g__law_uses sp__law_uses { nx := fun _ O' => R .non O', rt := R } (startD N__law_uses ds) O) : FO__law_uses P w base T (k + 1) dsp :=
  fn_d (g := g__law_uses sp__law_uses) T.n__law_uses.F sc__law_uses len (der__law_uses T.n__law_uses G__law_uses) hread
theorem fndG__law_uses {k : Nat} {dsp sp__law_uses : DSp} (T : Tx K mg) (G__law_uses : FO__law_uses P w base T k sp__law_uses)
    (len : ∀ ds O R RE, dsp ds O R RE → ds.length = 3) (hread : ∀ ds O R RE, dsp ds O R RE → g__law_uses sp__law_uses { nx := fun _ O' => VG R .non O', rt := VG R } (startD N__law_uses ds) O) : FO__law_uses P w base T (k + 1) dsp :=
  fn_dG (g := g__law_uses sp__law_uses) T.n__law_uses.F sc__law_uses len (der__law_uses T.n__law_uses G__law_uses) hread
theorem fnd__law_used {k : Nat} {dsp sp__law_seen sp__law_uses sp__law_take sp__law_program : DSp} (T : Tx K mg) (G__law_seen : FO__law_seen P w base T k sp__law_seen) (G__law_uses : FO__law_uses P w base T k sp__law_uses) (G__law_take : FO__law_take P w base T k sp__law_take) (G__law_program : FO__law_program P w base T k sp__law_program)
    (len : ∀ ds O R RE, dsp ds O R RE → ds.length = 4) (hread : ∀ ds O R RE, dsp ds O R RE → g__law_used sp__law_seen sp__law_uses sp__law_take sp__law_program { nx := fun _ O' => R .non O', rt := R } (startD N__law_used ds) O) : FO__law_used P w base T (k + 1) dsp :=
  fn_d (g := g__law_used sp__law_seen sp__law_uses sp__law_take sp__law_program) T.n__law_used.F sc__law_used len (der__law_used T.n__law_seen G__law_seen T.n__law_uses G__law_uses T.n__law_take G__law_take T.n__law_program G__law_program T.m_len) hread
theorem fndG__law_used {k : Nat} {dsp sp__law_seen sp__law_uses sp__law_take sp__law_program : DSp} (T : Tx K mg) (G__law_seen : FO__law_seen P w base T k sp__law_seen) (G__law_uses : FO__law_uses P w base T k sp__law_uses) (G__law_take : FO__law_take P w base T k sp__law_take) (G__law_program : FO__law_program P w base T k sp__law_program)
    (len : ∀ ds O R RE, dsp ds O R RE → ds.length = 4) (hread : ∀ ds O R RE, dsp ds O R RE → g__law_used sp__law_seen sp__law_uses sp__law_take sp__law_program { nx := fun _ O' => VG R .non O', rt := VG R } (startD N__law_used ds) O) : FO__law_used P w base T (k + 1) dsp :=
  fn_dG (g := g__law_used sp__law_seen sp__law_uses sp__law_take sp__law_program) T.n__law_used.F sc__law_used len (der__law_used T.n__law_seen G__law_seen T.n__law_uses G__law_uses T.n__law_take G__law_take T.n__law_program G__law_program T.m_len) hread
theorem fnd__law_made {k : Nat} {dsp sp__law_program sp__law_take : DSp} (T : Tx K mg) (G__law_program : FO__law_program P w base T k sp__law_program) (G__law_take : FO__law_take P w base T k sp__law_take)
    (len : ∀ ds O R RE, dsp ds O R RE → ds.length = 4) (hread : ∀ ds O R RE, dsp ds O R RE → g__law_made sp__law_program sp__law_take { nx := fun _ O' => R .non O', rt := R } (startD N__law_made ds) O) : FO__law_made P w base T (k + 1) dsp :=
  fn_d (g := g__law_made sp__law_program sp__law_take) T.n__law_made.F sc__law_made len (der__law_made T.n__law_program G__law_program T.n__law_take G__law_take T.m_int) hread
theorem fndG__law_made {k : Nat} {dsp sp__law_program sp__law_take : DSp} (T : Tx K mg) (G__law_program : FO__law_program P w base T k sp__law_program) (G__law_take : FO__law_take P w base T k sp__law_take)
    (len : ∀ ds O R RE, dsp ds O R RE → ds.length = 4) (hread : ∀ ds O R RE, dsp ds O R RE → g__law_made sp__law_program sp__law_take { nx := fun _ O' => VG R .non O', rt := VG R } (startD N__law_made ds) O) : FO__law_made P w base T (k + 1) dsp :=
  fn_dG (g := g__law_made sp__law_program sp__law_take) T.n__law_made.F sc__law_made len (der__law_made T.n__law_program G__law_program T.n__law_take G__law_take T.m_int) hread
theorem fnd__law_program {k : Nat} {dsp sp__law_take sp__law_kind sp__law_program sp__law_used sp__law_made : DSp} (T : Tx K mg) (G__law_take : FO__law_take P w base T k sp__law_take) (G__law_kind : FO__law_kind P w base T k sp__law_kind) (G__law_program : FO__law_program P w base T k sp__law_program) (G__law_used : FO__law_used P w base T k sp__law_used) (G__law_made : FO__law_made P w base T k sp__law_made)
    (len : ∀ ds O R RE, dsp ds O R RE → ds.length = 4) (hread : ∀ ds O R RE, dsp ds O R RE → g__law_program sp__law_take sp__law_kind sp__law_program sp__law_used sp__law_made { nx := fun _ O' => R .non O', rt := R } (startD N__law_program ds) O) : FO__law_program P w base T (k + 1) dsp :=
  fn_d (g := g__law_program sp__law_take sp__law_kind sp__law_program sp__law_used sp__law_made) T.n__law_program.F sc__law_program len (der__law_program T.n__law_take G__law_take T.n__law_kind G__law_kind T.n__law_program G__law_program T.n__law_used G__law_used T.n__law_made G__law_made) hread
theorem fndG__law_program {k : Nat} {dsp sp__law_take sp__law_kind sp__law_program sp__law_used sp__law_made : DSp} (T : Tx K mg) (G__law_take : FO__law_take P w base T k sp__law_take) (G__law_kind : FO__law_kind P w base T k sp__law_kind) (G__law_program : FO__law_program P w base T k sp__law_program) (G__law_used : FO__law_used P w base T k sp__law_used) (G__law_made : FO__law_made P w base T k sp__law_made)
    (len : ∀ ds O R RE, dsp ds O R RE → ds.length = 4) (hread : ∀ ds O R RE, dsp ds O R RE → g__law_program sp__law_take sp__law_kind sp__law_program sp__law_used sp__law_made { nx := fun _ O' => VG R .non O', rt := VG R } (startD N__law_program ds) O) : FO__law_program P w base T (k + 1) dsp :=
  fn_dG (g := g__law_program sp__law_take sp__law_kind sp__law_program sp__law_used sp__law_made) T.n__law_program.F sc__law_program len (der__law_program T.n__law_take G__law_take T.n__law_kind G__law_kind T.n__law_program G__law_program T.n__law_used G__law_used T.n__law_made G__law_made) hread
theorem fnd__law_row {k : Nat} {dsp sp__law_take sp__law_kind : DSp} (T : Tx K mg) (G__law_take : FO__law_take P w base T k sp__law_take) (G__law_kind : FO__law_kind P w base T k sp__law_kind)
    (len : ∀ ds O R RE, dsp ds O R RE → ds.length = 1) (hread : ∀ ds O R RE, dsp ds O R RE → g__law_row sp__law_take sp__law_kind { nx := fun _ O' => R .non O', rt := R } (startD N__law_row ds) O) : FO__law_row P w base T (k + 1) dsp :=
  fn_d (g := g__law_row sp__law_take sp__law_kind) T.n__law_row.F sc__law_row len (der__law_row T.n__law_take G__law_take T.n__law_kind G__law_kind) hread
theorem fndG__law_row {k : Nat} {dsp sp__law_take sp__law_kind : DSp} (T : Tx K mg) (G__law_take : FO__law_take P w base T k sp__law_take) (G__law_kind : FO__law_kind P w base T k sp__law_kind)
    (len : ∀ ds O R RE, dsp ds O R RE → ds.length = 1) (hread : ∀ ds O R RE, dsp ds O R RE → g__law_row sp__law_take sp__law_kind { nx := fun _ O' => VG R .non O', rt := VG R } (startD N__law_row ds) O) : FO__law_row P w base T (k + 1) dsp :=
  fn_dG (g := g__law_row sp__law_take sp__law_kind) T.n__law_row.F sc__law_row len (der__law_row T.n__law_take G__law_take T.n__law_kind G__law_kind) hread
theorem fnd__law_many {k : Nat} {dsp sp__law_words : DSp} (T : Tx K mg) (G__law_words : FO__law_words P w base T k sp__law_words)
    (len : ∀ ds O R RE, dsp ds O R RE → ds.length = 1) (hread : ∀ ds O R RE, dsp ds O R RE → g__law_many sp__law_words { nx := fun _ O' => R .non O', rt := R } (startD N__law_many ds) O) : FO__law_many P w base T (k + 1) dsp :=
  fn_d (g := g__law_many sp__law_words) T.n__law_many.F sc__law_many len (der__law_many T.n__law_words G__law_words T.m_tuple T.m_isinstance) hread
theorem fndG__law_many {k : Nat} {dsp sp__law_words : DSp} (T : Tx K mg) (G__law_words : FO__law_words P w base T k sp__law_words)
    (len : ∀ ds O R RE, dsp ds O R RE → ds.length = 1) (hread : ∀ ds O R RE, dsp ds O R RE → g__law_many sp__law_words { nx := fun _ O' => VG R .non O', rt := VG R } (startD N__law_many ds) O) : FO__law_many P w base T (k + 1) dsp :=
  fn_dG (g := g__law_many sp__law_words) T.n__law_many.F sc__law_many len (der__law_many T.n__law_words G__law_words T.m_tuple T.m_isinstance) hread
theorem fnd__law_words {k : Nat} {dsp  : DSp} (T : Tx K mg) 
    (len : ∀ ds O R RE, dsp ds O R RE → ds.length = 0) (hread : ∀ ds O R RE, dsp ds O R RE → g__law_words  { nx := fun _ O' => R .non O', rt := R } (startD N__law_words ds) O) : FO__law_words P w base T (k + 1) dsp :=
  fn_d (g := g__law_words ) T.n__law_words.F sc__law_words len (der__law_words ) hread
theorem fndG__law_words {k : Nat} {dsp  : DSp} (T : Tx K mg) 
    (len : ∀ ds O R RE, dsp ds O R RE → ds.length = 0) (hread : ∀ ds O R RE, dsp ds O R RE → g__law_words  { nx := fun _ O' => VG R .non O', rt := VG R } (startD N__law_words ds) O) : FO__law_words P w base T (k + 1) dsp :=
  fn_dG (g := g__law_words ) T.n__law_words.F sc__law_words len (der__law_words ) hread
theorem fnd__law_drawn {k : Nat} {dsp sp__law_kind sp__law_take sp__law_program sp__law_many : DSp} (T : Tx K mg) (G__law_kind : FO__law_kind P w base T k sp__law_kind) (G__law_take : FO__law_take P w base T k sp__law_take) (G__law_program : FO__law_program P w base T k sp__law_program) (G__law_many : FO__law_many P w base T k sp__law_many)
    (len : ∀ ds O R RE, dsp ds O R RE → ds.length = 3) (hread : ∀ ds O R RE, dsp ds O R RE → g__law_drawn sp__law_kind sp__law_take sp__law_program sp__law_many { nx := fun _ O' => R .non O', rt := R } (startD N__law_drawn ds) O) : FO__law_drawn P w base T (k + 1) dsp :=
  fn_d (g := g__law_drawn sp__law_kind sp__law_take sp__law_program sp__law_many) T.n__law_drawn.F sc__law_drawn len (der__law_drawn T.n__law_kind G__law_kind T.n__law_take G__law_take T.n__law_program G__law_program T.n__law_many G__law_many T.m_list) hread
theorem fndG__law_drawn {k : Nat} {dsp sp__law_kind sp__law_take sp__law_program sp__law_many : DSp} (T : Tx K mg) (G__law_kind : FO__law_kind P w base T k sp__law_kind) (G__law_take : FO__law_take P w base T k sp__law_take) (G__law_program : FO__law_program P w base T k sp__law_program) (G__law_many : FO__law_many P w base T k sp__law_many)
    (len : ∀ ds O R RE, dsp ds O R RE → ds.length = 3) (hread : ∀ ds O R RE, dsp ds O R RE → g__law_drawn sp__law_kind sp__law_take sp__law_program sp__law_many { nx := fun _ O' => VG R .non O', rt := VG R } (startD N__law_drawn ds) O) : FO__law_drawn P w base T (k + 1) dsp :=
  fn_dG (g := g__law_drawn sp__law_kind sp__law_take sp__law_program sp__law_many) T.n__law_drawn.F sc__law_drawn len (der__law_drawn T.n__law_kind G__law_kind T.n__law_take G__law_take T.n__law_program G__law_program T.n__law_many G__law_many T.m_list) hread
theorem fnd__law_tidied {k : Nat} {dsp sp__law_tidied : DSp} (T : Tx K mg) (G__law_tidied : FO__law_tidied P w base T k sp__law_tidied)
    (len : ∀ ds O R RE, dsp ds O R RE → ds.length = 2) (hread : ∀ ds O R RE, dsp ds O R RE → g__law_tidied sp__law_tidied { nx := fun _ O' => R .non O', rt := R } (startD N__law_tidied ds) O) : FO__law_tidied P w base T (k + 1) dsp :=
  fn_d (g := g__law_tidied sp__law_tidied) T.n__law_tidied.F sc__law_tidied len (der__law_tidied T.n__law_tidied G__law_tidied T.m_range T.m_len T.m_str T.m_int T.m_tuple) hread
theorem fndG__law_tidied {k : Nat} {dsp sp__law_tidied : DSp} (T : Tx K mg) (G__law_tidied : FO__law_tidied P w base T k sp__law_tidied)
    (len : ∀ ds O R RE, dsp ds O R RE → ds.length = 2) (hread : ∀ ds O R RE, dsp ds O R RE → g__law_tidied sp__law_tidied { nx := fun _ O' => VG R .non O', rt := VG R } (startD N__law_tidied ds) O) : FO__law_tidied P w base T (k + 1) dsp :=
  fn_dG (g := g__law_tidied sp__law_tidied) T.n__law_tidied.F sc__law_tidied len (der__law_tidied T.n__law_tidied G__law_tidied T.m_range T.m_len T.m_str T.m_int T.m_tuple) hread
theorem fnd__law_farther {k : Nat} {dsp sp__law_farther : DSp} (T : Tx K mg) (G__law_farther : FO__law_farther P w base T k sp__law_farther)
    (len : ∀ ds O R RE, dsp ds O R RE → ds.length = 2) (hread : ∀ ds O R RE, dsp ds O R RE → g__law_farther sp__law_farther { nx := fun _ O' => R .non O', rt := R } (startD N__law_farther ds) O) : FO__law_farther P w base T (k + 1) dsp :=
  fn_d (g := g__law_farther sp__law_farther) T.n__law_farther.F sc__law_farther len (der__law_farther T.n__law_farther G__law_farther T.m_int) hread
theorem fndG__law_farther {k : Nat} {dsp sp__law_farther : DSp} (T : Tx K mg) (G__law_farther : FO__law_farther P w base T k sp__law_farther)
    (len : ∀ ds O R RE, dsp ds O R RE → ds.length = 2) (hread : ∀ ds O R RE, dsp ds O R RE → g__law_farther sp__law_farther { nx := fun _ O' => VG R .non O', rt := VG R } (startD N__law_farther ds) O) : FO__law_farther P w base T (k + 1) dsp :=
  fn_dG (g := g__law_farther sp__law_farther) T.n__law_farther.F sc__law_farther len (der__law_farther T.n__law_farther G__law_farther T.m_int) hread
theorem fnd__law_called {k : Nat} {dsp sp__law_farther sp__law_take sp__law_called : DSp} (T : Tx K mg) (G__law_farther : FO__law_farther P w base T k sp__law_farther) (G__law_take : FO__law_take P w base T k sp__law_take) (G__law_called : FO__law_called P w base T k sp__law_called)
    (len : ∀ ds O R RE, dsp ds O R RE → ds.length = 3) (hread : ∀ ds O R RE, dsp ds O R RE → g__law_called sp__law_farther sp__law_take sp__law_called { nx := fun _ O' => R .non O', rt := R } (startD N__law_called ds) O) : FO__law_called P w base T (k + 1) dsp :=
  fn_d (g := g__law_called sp__law_farther sp__law_take sp__law_called) T.n__law_called.F sc__law_called len (der__law_called T.n__law_farther G__law_farther T.n__law_take G__law_take T.n__law_called G__law_called T.m_dict T.m_len T.m_str T.m_tuple) hread
theorem fndG__law_called {k : Nat} {dsp sp__law_farther sp__law_take sp__law_called : DSp} (T : Tx K mg) (G__law_farther : FO__law_farther P w base T k sp__law_farther) (G__law_take : FO__law_take P w base T k sp__law_take) (G__law_called : FO__law_called P w base T k sp__law_called)
    (len : ∀ ds O R RE, dsp ds O R RE → ds.length = 3) (hread : ∀ ds O R RE, dsp ds O R RE → g__law_called sp__law_farther sp__law_take sp__law_called { nx := fun _ O' => VG R .non O', rt := VG R } (startD N__law_called ds) O) : FO__law_called P w base T (k + 1) dsp :=
  fn_dG (g := g__law_called sp__law_farther sp__law_take sp__law_called) T.n__law_called.F sc__law_called len (der__law_called T.n__law_farther G__law_farther T.n__law_take G__law_take T.n__law_called G__law_called T.m_dict T.m_len T.m_str T.m_tuple) hread
theorem fnd_law {k : Nat} {dsp sp__law_pool sp__law_row sp__law_drawn sp__law_tidied sp__law_called sp_tidied sp_kind_of : DSp} (T : Tx K mg) (G__law_pool : FO__law_pool P w base T k sp__law_pool) (G__law_row : FO__law_row P w base T k sp__law_row) (G__law_drawn : FO__law_drawn P w base T k sp__law_drawn) (G__law_tidied : FO__law_tidied P w base T k sp__law_tidied) (G__law_called : FO__law_called P w base T k sp__law_called) (G_tidied : FO_tidied P w base T k sp_tidied) (G_kind_of : FO_kind_of P w base T k sp_kind_of)
    (len : ∀ ds O R RE, dsp ds O R RE → ds.length = 1) (hread : ∀ ds O R RE, dsp ds O R RE → g_law sp__law_pool sp__law_row sp__law_drawn sp__law_tidied sp__law_called sp_tidied sp_kind_of { nx := fun _ O' => R .non O', rt := R } (startD N_law ds) O) : FO_law P w base T (k + 1) dsp :=
  fn_d (g := g_law sp__law_pool sp__law_row sp__law_drawn sp__law_tidied sp__law_called sp_tidied sp_kind_of) T.n_law.F sc_law len (der_law T.n__law_pool G__law_pool T.n__law_row G__law_row T.n__law_drawn G__law_drawn T.n__law_tidied G__law_tidied T.n__law_called G__law_called T.n_tidied G_tidied T.n_kind_of G_kind_of T.m_range T.m_len T.m_min T.m_max) hread
theorem fndG_law {k : Nat} {dsp sp__law_pool sp__law_row sp__law_drawn sp__law_tidied sp__law_called sp_tidied sp_kind_of : DSp} (T : Tx K mg) (G__law_pool : FO__law_pool P w base T k sp__law_pool) (G__law_row : FO__law_row P w base T k sp__law_row) (G__law_drawn : FO__law_drawn P w base T k sp__law_drawn) (G__law_tidied : FO__law_tidied P w base T k sp__law_tidied) (G__law_called : FO__law_called P w base T k sp__law_called) (G_tidied : FO_tidied P w base T k sp_tidied) (G_kind_of : FO_kind_of P w base T k sp_kind_of)
    (len : ∀ ds O R RE, dsp ds O R RE → ds.length = 1) (hread : ∀ ds O R RE, dsp ds O R RE → g_law sp__law_pool sp__law_row sp__law_drawn sp__law_tidied sp__law_called sp_tidied sp_kind_of { nx := fun _ O' => VG R .non O', rt := VG R } (startD N_law ds) O) : FO_law P w base T (k + 1) dsp :=
  fn_dG (g := g_law sp__law_pool sp__law_row sp__law_drawn sp__law_tidied sp__law_called sp_tidied sp_kind_of) T.n_law.F sc_law len (der_law T.n__law_pool G__law_pool T.n__law_row G__law_row T.n__law_drawn G__law_drawn T.n__law_tidied G__law_tidied T.n__law_called G__law_called T.n_tidied G_tidied T.n_kind_of G_kind_of T.m_range T.m_len T.m_min T.m_max) hread
end
end Kf
namespace Kf
open PySem PySem.Spec L2
open PyProof.Rows hiding St
local macro_rules | `(tactic| walk_at "kf") => `(tactic| simp (config := { failIfUnchanged := false }) only [startD, ap_fOrL, rOrL_l, ap_fLcK, ap_gForK, ap_fMaxD, rMaxD_l, rMaxL_l, ap_fCallXD, ap_gForE, asLE_l, ap_fFrz, ap_fDicO, ap_fDGet, ap_fDGet1, ap_fDGet2, ap_gDPut, ap_fIsiT, ap_gForR, rRep_l, isT_i, isT_s, isT_b, isT_n, isT_t, isT_l, ap_gSeq, ap_gIf, ap_gRet, ap_gNext, ap_gSet, ap_gAsg, ap_gDrop, ap_gRetF, ap_gRetN, ap_gFor, ap_gSetIx, ap_gBreak, ap_fRev, ap_fiRevR, asIR_i, rRev_l, ap_fCallX, ap_gRaise, ap_gTry, ap_gTryAs, ap_gNever, ap_fEdic, ap_fTest, ap_fOp, ap_fVar, envGet_s, patGet_s, ap_fC, ap_fCB, ap_fCons, ap_fNil, ap_fCall, ap_fAnd, ap_fOr, ap_fNot, ap_fAndV, ap_fOrV, ap_fNotV, ap_fIf, ap_fTup, ap_fLst, ap_fLstO, ap_fChain, ap_fUn, ap_fBM, ap_fBM0, ap_fPool, rPool_i, ap_fSl, ap_fPart, ap_fNoPart, asI_i, rSl_l, ap_fiRng1, ap_fiRng2, ap_fiList, ap_fiTup, ap_fiStr, ap_fiEnum, ap_fiZip, ap_fiRev, asL_l, asT_t, asSg_s, asR1_i, asR2_i, asL1_l, asL2_l, ap_fLc, ap_fLcO, ap_fYes, wipeD, lcD, isi_i_int, isi_i_bool, isi_i_str, isi_i_tuple, isi_i_list, isi_i_dict, isi_b_int, isi_b_bool, isi_b_str, isi_b_tuple, isi_b_list, isi_b_dict, isi_s_int, isi_s_bool, isi_s_str, isi_s_tuple, isi_s_list, isi_s_dict, isi_t_int, isi_t_bool, isi_t_str, isi_t_tuple, isi_t_list, isi_t_dict, isi_l_int, isi_l_bool, isi_l_str, isi_l_tuple, isi_l_list, isi_l_dict, isi_n_int, isi_n_bool, isi_n_str, isi_n_tuple, isi_n_list, isi_n_dict, isi_d_int, isi_d_bool, isi_d_str, isi_d_tuple, isi_d_list, isi_d_dict,
  deref_tup, deref_lst, deref_int, deref_str, deref_bl, deref_non, deref_scr, rLt_i, rLt_s, rLe_i, rLe_s, rInts_i, rInts0_i, rAdd_i, rAdd_s, rAdd_l, rAdd_t, rCatO_l, rNeg_i, rLen_t, rLen_l, rLen_c, rLen_s, rMax_i, rMin_i, rInt_i, rInt_b, rDivmod_i, ap_gAug, rStr_i, rList_l, rList_t, rListO_l, rListO_t, rTup_l, rTup_t,
  rIx_t0, rIx_t1, rIx_t2, rIx_t3, rIx_l0, rIx_l1, rIx_l2, rIsN_x, isNon_t, isNon_n, isNon_i, isNon_s, isNon_l, rEq_i, rEq_b, rEq_i2, rEq_b2, rJoin_m, rSplit_s, tyOk_l, tyOk_s, patD_nm, patD_tp, patDs_nil, patDs_cons, Option.bind_some, notX, notX',
  List.map_cons, List.map_nil, List.length_cons, List.length_nil, List.cons_append, List.nil_append, List.append_nil, List.replicate, List.getElem?_cons_zero, List.getElem?_cons_succ, List.set_cons_zero, List.set_cons_succ, updO_same, updO_updO,
  Nat.reduceSub, Nat.reduceAdd, Nat.reduceLeDiff, Nat.zero_add, Int.cast_ofNat_Int, Int.natCast_zero, Int.natCast_one, Int.reduceLT, Int.reduceLE, Int.reduceEq, Int.reduceAdd, Int.reduceSub, Int.reduceNeg, decide_true, decide_false, if_true, if_false, Bool.false_eq_true, eq_self, reduceIte, Bool.true_eq_false, decide_eq_true_eq, Bool.not_true, Bool.not_false, Bool.not_eq_true', decide_eq_false_iff_not, exists_eq_left', exists_eq_left, D.bl.injEq, true_and, and_true, not_true_eq_false, not_false_eq_true])
local macro_rules | `(tactic| walk_at "len") => `(tactic| (intro ds O R RE h; first | (obtain ⟨e, _⟩ := h; subst e; rfl) | (obtain ⟨_, e, _⟩ := h; subst e; rfl) | (obtain ⟨_, _, e, _⟩ := h; subst e; rfl) | (obtain ⟨_, _, _, e, _⟩ := h; subst e; rfl) | (obtain ⟨_, _, _, _, e, _⟩ := h; subst e; rfl) | (obtain ⟨_, _, _, _, _, e, _⟩ := h; subst e; rfl) | (obtain ⟨_, _, _, _, _, _, e, _⟩ := h; subst e; rfl) | (obtain ⟨_, _, _, _, _, _, _, e, _⟩ := h; subst e; rfl) | (obtain ⟨_, _, _, _, _, _, _, _, e, _⟩ := h; subst e; rfl) | (obtain ⟨_, _, _, _, _, _, _, _, _, e, _⟩ := h; subst e; rfl)))
local macro_rules | `(tactic| walk_at "kf1") => `(tactic| simp (config := { failIfUnchanged := false }) only [startD, ap_fOrL, rOrL_l, ap_fLcK, ap_gForK, ap_fMaxD, rMaxD_l, rMaxL_l, ap_fCallXD, ap_gForE, asLE_l, ap_fFrz, ap_fDicO, ap_fDGet, ap_fDGet1, ap_fDGet2, ap_gDPut, ap_fIsiT, ap_gForR, rRep_l, isT_i, isT_s, isT_b, isT_n, isT_t, isT_l, ap_gIf, ap_gRet, ap_gNext, ap_gSet, ap_gAsg, ap_gDrop, ap_gRetF, ap_gRetN, ap_gFor, ap_gSetIx, ap_gBreak, ap_fRev, ap_fiRevR, asIR_i, rRev_l, ap_fCallX, ap_gRaise, ap_gTry, ap_gTryAs, ap_gNever, ap_fEdic, ap_fTest, ap_fOp, ap_fVar, envGet_s, patGet_s, ap_fC, ap_fCB, ap_fCons, ap_fNil, ap_fCall, ap_fAnd, ap_fOr, ap_fNot, ap_fAndV, ap_fOrV, ap_fNotV, ap_fIf, ap_fTup, ap_fLst, ap_fLstO, ap_fChain, ap_fUn, ap_fBM, ap_fBM0, ap_fPool, rPool_i, ap_fSl, ap_fPart, ap_fNoPart, asI_i, rSl_l, ap_fiRng1, ap_fiRng2, ap_fiList, ap_fiTup, ap_fiStr, ap_fiEnum, ap_fiZip, ap_fiRev, asL_l, asT_t, asSg_s, asR1_i, asR2_i, asL1_l, asL2_l, ap_fLc, ap_fLcO, ap_fYes, wipeD, lcD, isi_i_int, isi_i_bool, isi_i_str, isi_i_tuple, isi_i_list, isi_i_dict, isi_b_int, isi_b_bool, isi_b_str, isi_b_tuple, isi_b_list, isi_b_dict, isi_s_int, isi_s_bool, isi_s_str, isi_s_tuple, isi_s_list, isi_s_dict, isi_t_int, isi_t_bool, isi_t_str, isi_t_tuple, isi_t_list, isi_t_dict, isi_l_int, isi_l_bool, isi_l_str, isi_l_tuple, isi_l_list, isi_l_dict, isi_n_int, isi_n_bool, isi_n_str, isi_n_tuple, isi_n_list, isi_n_dict, isi_d_int, isi_d_bool, isi_d_str, isi_d_tuple, isi_d_list, isi_d_dict,
  deref_tup, deref_lst, deref_int, deref_str, deref_bl, deref_non, deref_scr, rLt_i, rLt_s, rLe_i, rLe_s, rInts_i, rInts0_i, rAdd_i, rAdd_s, rAdd_l, rAdd_t, rCatO_l, rNeg_i, rLen_t, rLen_l, rLen_c, rLen_s, rMax_i, rMin_i, rInt_i, rInt_b, rDivmod_i, ap_gAug, rStr_i, rList_l, rList_t, rListO_l, rListO_t, rTup_l, rTup_t,
  rIx_t0, rIx_t1, rIx_t2, rIx_t3, rIx_l0, rIx_l1, rIx_l2, rIsN_x, isNon_t, isNon_n, isNon_i, isNon_s, isNon_l, rEq_i, rEq_b, rEq_i2, rEq_b2, rJoin_m, rSplit_s, tyOk_l, tyOk_s, patD_nm, patD_tp, patDs_nil, patDs_cons, Option.bind_some, notX, notX',
  List.map_cons, List.map_nil, List.length_cons, List.length_nil, List.cons_append, List.nil_append, List.append_nil, List.replicate, List.getElem?_cons_zero, List.getElem?_cons_succ, List.set_cons_zero, List.set_cons_succ, updO_same, updO_updO,
  Nat.reduceSub, Nat.reduceAdd, Nat.reduceLeDiff, Nat.zero_add, Int.cast_ofNat_Int, Int.natCast_zero, Int.natCast_one, Int.reduceLT, Int.reduceLE, Int.reduceEq, Int.reduceAdd, Int.reduceSub, Int.reduceNeg, decide_true, decide_false, if_true, if_false, Bool.false_eq_true, eq_self, reduceIte, Bool.true_eq_false, decide_eq_true_eq, Bool.not_true, Bool.not_false, Bool.not_eq_true', decide_eq_false_iff_not, exists_eq_left', exists_eq_left, D.bl.injEq, true_and, and_true, not_true_eq_false, not_false_eq_true])
section
variable {P : Program} {w : World} {K : PySem.W.Frag} {mg : Str → Option Value} {base : Heap}
local macro_rules | `(tactic| walk_at "tg") => `(tactic| simp (config := { failIfUnchanged := false }) only [te_name_take, te_name_give, te_name_pair, te_name_first, te_name_second, te_name_to, te_name_both, te_name_one, te_name_mark, te_name_name, te_name_thing, te_name_at, te_thing_take, te_thing_give, te_thing_pair, te_thing_first, te_thing_second, te_thing_to, te_thing_both, te_thing_one, te_thing_mark, te_thing_name, te_thing_thing, te_thing_at, te_take_take, te_take_give, te_take_pair, te_take_first, te_take_second, te_take_to, te_take_both, te_take_one, te_take_mark, te_take_name, te_take_thing, te_take_at, te_give_take, te_give_give, te_give_pair, te_give_first, te_give_second, te_give_to, te_give_both, te_give_one, te_give_mark, te_give_name, te_give_thing, te_give_at, te_pair_take, te_pair_give, te_pair_pair, te_pair_first, te_pair_second, te_pair_to, te_pair_both, te_pair_one, te_pair_mark, te_pair_name, te_pair_thing, te_pair_at, te_first_take, te_first_give, te_first_pair, te_first_first, te_first_second, te_first_to, te_first_both, te_first_one, te_first_mark, te_first_name, te_first_thing, te_first_at, te_second_take, te_second_give, te_second_pair, te_second_first, te_second_second, te_second_to, te_second_both, te_second_one, te_second_mark, te_second_name, te_second_thing, te_second_at, te_mark_take, te_mark_give, te_mark_pair, te_mark_first, te_mark_second, te_mark_to, te_mark_both, te_mark_one, te_mark_mark, te_mark_name, te_mark_thing, te_mark_at, te_one_take, te_one_give, te_one_pair, te_one_first, te_one_second, te_one_to, te_one_both, te_one_one, te_one_mark, te_one_name, te_one_thing, te_one_at, te_to_take, te_to_give, te_to_pair, te_to_first, te_to_second, te_to_to, te_to_both, te_to_one, te_to_mark, te_to_name, te_to_thing, te_to_at, te_both_take, te_both_give, te_both_pair, te_both_first, te_both_second, te_both_to, te_both_both, te_both_one, te_both_mark, te_both_name, te_both_thing, te_both_at, te_at_take, te_at_give, te_at_pair, te_at_first, te_at_second, te_at_to, te_at_both, te_at_one, te_at_mark, te_at_name, te_at_thing, te_at_at, ti4_name, ti4_thing, ti4_take, ti4_give, ti4_pair, ti4_first, ti4_second, ti2_name, ti2_thing, ti2_take, ti2_give, ti2_pair, ti2_first, ti2_second, szT_0, szT_1, szT_2, szT_3, szT_4, szT_5, szT_6, szT_7, szT_8, szT_9, szT_10, szT_11, szT_12, Bool.not_true, Bool.not_false, true_and])
theorem ok_pool {a : Addr} {fd : FuncData} {k : Nat} (N : Fn K mg "_law_pool" s__law_pool P__law_pool a fd) (m_len : mg "len" = none) : FnOk P w K mg base CX0 (k + 1) a fd P__law_pool (liftSp K spPool) := by
  refine fn_d (g := g__law_pool) N.F sc__law_pool (fun ds O R RE ⟨ns, k, e, _⟩ => by rw [e]; rfl) (der__law_pool m_len) ?_
  rintro ds O R RE ⟨ns, k, rfl, h0, h1, hR⟩
  unfold g__law_pool
  walk_at "kf"
  have c1 : CMul 104729 k := Or.inl ⟨by decide, by decide⟩
  have c2 : CMul (104729 * k) k := Or.inr ⟨by omega, by omega⟩
  have c3 : CPow 10 18 := ⟨by decide, by decide, by decide⟩
  have e18 : (10 : Int) ^ Int.toNat 18 = 1000000000000000000 := by decide
  split
  · obtain ⟨n, e1, _⟩ := atI_some (xs := ns) h0 (by assumption)
    simp only [rIx_c e1]
    walk_at "kf"
    refine ⟨c1, c2, poolNum n h0 h1, c3, ?_⟩
    rw [e18]
    split
    · exact ⟨(poolMod _).1, (poolMod _).2, hR⟩
    · exact ⟨by omega, (poolMod _).1, (poolMod _).2, hR⟩
  · refine ⟨c1, c2, poolNum 0 h0 h1, c3, (poolMod _).1, (poolMod _).2, hR⟩
theorem ok_take {a : Addr} {fd : FuncData} {k : Nat} (N : Fn K mg "_law_take" s__law_take P__law_take a fd) : FnOk P w K mg base CX0 (k + 1) a fd P__law_take (liftSp K spTake) := by
  refine fn_d (g := g__law_take) N.F sc__law_take (fun ds O R RE ⟨ns, k, e, _⟩ => by rw [e]; rfl) der__law_take ?_
  rintro ds O R RE ⟨p, m, rfl, hp, h0, h1, hR⟩
  unfold g__law_take
  walk_at "kf"
  simp only [rIx_p0 hp, rIx_p1 hp]
  intro x hx
  walk_at "kf"
  split
  · simp only [rIx_p0 hp]
    intro y hy
    walk_at "kf"
    refine ⟨h0, ?_⟩
    simp only [rIx_p0 hp]
    intro z hz
    walk_at "kf"
    refine ⟨⟨h0, h1⟩, ?_⟩
    simp only [rSet_p0 hp]
    exact ⟨Int.ediv_nonneg hz (by omega), hR _ (Int.emod_nonneg _ (by omega)) (Int.emod_lt_of_pos _ h0)⟩
  · simp only [rIx_p1 hp]
    intro y hy hy2
    walk_at "kf"
    refine ⟨Or.inr ⟨by decide, by decide⟩, ?_⟩
    simp only [rSet_p1 hp]
    refine ⟨poolMod _, ?_⟩
    walk_at "kf"
    simp only [rIx_p1 hp]
    intro z hz hz2
    intro u hu hu2
    walk_at "kf"
    exact ⟨Or.inl ⟨by omega, by omega⟩, ⟨by decide, by decide⟩, h0, hR _ (Int.emod_nonneg _ (by omega)) (Int.emod_lt_of_pos _ h0)⟩
/-- the law's own kinds: three words -/
def spLKind (n : Nat) : DSp := fun ds O R _ => ∃ (p : Addr) (l : Nat) (ms : List Str), ds = [.ref p, .int l, .lst (ms.map .str)] ∧ O p = some .pool ∧ 1 ≤ l ∧ l ≤ n ∧ l ≤ 1000 ∧ 1 ≤ ms.length ∧ ms.length ≤ 1000 ∧ ∀ k : Kd, k.leaves = l → k.over ms → R (dK k) O
theorem ok_lkind (T : Tx K mg) : ∀ n, FO__law_kind P w base T (n + 1) (spLKind n)
  | 0 => fnUp (none_left fun ds O R RE ⟨p, l, ms, _, _, h1, h2, _⟩ => by omega) (Nat.zero_le _)
  | n + 1 => by
    refine fnd__law_kind T (ok_take T.n__law_take) (ok_lkind T n) (by walk_at "len") ?_
    rintro ds O R RE ⟨p, l, ms, rfl, hp, h1, hn, h1000, hm1, hm2, hR⟩
    unfold g__law_kind
    walk_at "kf"
    by_cases hl : l = 1
    · subst hl
      walk_at "kf"
      refine take_of hp (by decide) (by decide) fun r hr0 hr1 => ?_
      walk_at "kf"
      split
      · exact ⟨sz_small (by decide), hR .one rfl trivial⟩
      · rw [List.length_map]
        refine take_of hp (by omega) (by omega) fun r hr0 hr1 => ?_
        obtain ⟨v, e1, e2⟩ := atI_some (xs := ms) hr0 hr1
        rw [rIx_l (by rw [atI_map, e1]; rfl)]
        exact ⟨sz_small (by decide), hR (.mk v) rfl e2⟩
    · rw [if_neg (by omega)]
      refine take_of hp (by omega) (by omega) fun r hr0 hr1 => ?_
      walk_at "kf"
      obtain ⟨f, hf⟩ : ∃ f : Nat, 1 + r = (f : Int) := ⟨(1 + r).toNat, by omega⟩
      rw [hf]
      refine ⟨sz_small (by decide), ?_⟩
      refine take_of hp (by decide) (by decide) fun r hr0 hr1 => ?_
      have h3 : r = 0 ∨ r = 1 ∨ r = 2 := by omega
      have fin : ∀ z : Str, (∀ k1 k2 : Kd, k1.leaves + k2.leaves = l → k1.over ms → k2.over ms → R (.tup [.str z, dK k1, dK k2]) O) →
          spLKind n [.ref p, .int f, .lst (ms.map .str)] O (fun x O1 => spLKind n [.ref p, .int ((l : Int) - f), .lst (ms.map .str)] O1 (fun x_1 O1 => 3 ≤ sizeLine ∧ R (.tup [.str z, x, x_1]) O1) X0) X0 := by
        intro z hz
        refine ⟨p, f, ms, rfl, hp, by omega, by omega, by omega, hm1, hm2, fun k1 hk1 ho1 => ?_⟩
        dsimp only
        rw [show (l : Int) - (f : Int) = ((l - f : Nat) : Int) by omega]
        refine ⟨p, l - f, ms, rfl, hp, by omega, by omega, by omega, hm1, hm2, fun k2 hk2 ho2 => ?_⟩
        exact ⟨sz_small (by decide), hz k1 k2 (by omega) ho1 ho2⟩
      have hto := fin "to" fun k1 k2 h o1 o2 => hR (.to k1 k2) (by simp only [Kd.leaves]; omega) ⟨o1, o2⟩
      have hbo := fin "both" fun k1 k2 h o1 o2 => hR (.both k1 k2) (by simp only [Kd.leaves]; omega) ⟨o1, o2⟩
      rcases h3 with rfl | rfl | rfl <;> walk_at "kf" <;> first | exact hto | exact hbo
theorem gIf_T {c : FT} {g u : GS} {R : DEnds} {ρ : DEnv} {O : Ow} (h : ∀ Q : Bool → Ow → Prop, c ρ O Q = Q true O) : gIf c g u R ρ O = g R ρ O := by rw [ap_gIf, h]; simp
theorem gIf_F {c : FT} {g u : GS} {R : DEnds} {ρ : DEnv} {O : Ow} (h : ∀ Q : Bool → Ow → Prop, c ρ O Q = Q false O) : gIf c g u R ρ O = u R ρ O := by rw [ap_gIf, h]; simp
def spSeen : DSp := fun ds O R _ => ∃ kn : List (Str × Kd), ds = [.lst (kn.map kv)] ∧ RowU kn ∧ ∀ ys : List (Str × Kd), (∀ y ∈ ys, envOf kn y.1 = some y.2) → ys.length ≤ 8 → R (.lst (ys.map kv)) O
theorem ok_seen (T : Tx K mg) : FO__law_seen P w base T 1 spSeen := by
  refine fndG__law_seen T (by walk_at "len") ?_
  rintro ds O R RE ⟨kn, rfl, hk, hR⟩
  unfold g__law_seen
  refine gSeq_step ?_
  walk_at "kf1"
  intro p hp
  walk_at "kf1"
  refine gSeq_step ?_
  walk_at "kf1"
  refine forA_ix kv (fun pre _ ρ O' => ∃ kvs ts x2 x3, O' = updO O p (.dic kvs) ∧ DInvU pre kvs ts ∧ ρ = [some (.lst (kn.map kv)), some (.ref p), x2, x3]) kn [] _ _ ⟨_, _, _, _, rfl, DInvU.nil, rfl⟩ ?_ ?_
  · rintro ρ O' ⟨kvs, ts, x2, x3, rfl, hd, rfl⟩
    rw [List.nil_append] at hd
    try dsimp only
    walk_at "kf1"
    rw [asDc_r updO_same]
    intro o
    rw [keysD_strs hd.ks, updO_updO]
    have hl := hd.len
    have hy : ∀ y ∈ ts, ∃ k, envOf kn y = some k := fun y h => hd.has h
    refine lcK_map updO_same D.str (fun y => kv (y, (envOf kn y).getD .one)) ts _ _ (sz_small (by simp only [List.length_nil]; omega)) ?_ ?_
    · intro y hym Q' hQ'
      obtain ⟨k, e⟩ := hy y hym
      walk_at "kf1"
      have dl : dicAt (updO O p (.dicL kvs o)) p = some kvs := by simp [dicAt, updO_same]
      simp only [rDGet, rKey, keyOf, dl, hd.vl, e, Option.map_some]
      rw [e] at hQ'
      walk_at "tg"
      exact hQ'
    · rw [List.nil_append, updO_updO]
      refine VG.up hp ?_
      have := hR (ts.map fun y => (y, (envOf kn y).getD .one)) (fun q hq => by
        obtain ⟨y, h1, rfl⟩ := List.mem_map.mp hq
        obtain ⟨k, e⟩ := hy y h1
        simp only [e, Option.getD_some]) (by rw [List.length_map]; exact hl.1)
      rw [List.map_map] at this
      exact this
  · rintro pre q rest e ρ O' ⟨kvs, ts, x2, x3, rfl, hd, rfl⟩ N hN
    rw [List.nil_append] at e
    have hq : q ∈ kn := by rw [e]; simp
    obtain ⟨ts', hd'⟩ := hd.put (k := q.2) (hk.nm q hq).1
    have hl := hd.len
    walk_at "kf1"
    rw [rDPut_s updO_same]
    refine ⟨Nat.lt_of_lt_of_le (show kvs.length < 9 by omega) (by decide), ?_⟩
    rw [updO_updO]
    exact hN _ _ ⟨_, _, _, _, rfl, hd', rfl⟩
abbrev dMvs (m : List Mv) : D := .lst (m.map dMv)
def spUses (n : Nat) : DSp := fun ds O R _ => ∃ (k g : Kd) (x : Str), ds = [dK k, dK g, .str x] ∧ k.depth < n ∧ k.ok = true ∧ g.ok = true ∧ k.depth ≤ 100 ∧ k.leaves ≤ 100 ∧ ∀ ms : List (List Mv), (∀ m ∈ ms, Us k m g) → ms.length + 1 ≤ 2 * k.leaves → R (.lst (ms.map dMvs)) O
theorem sz_cat {a b : Nat} (h : a + b ≤ 1000) : a + b ≤ sizeLine := sz_21 (by omega)
theorem ok_uses (T : Tx K mg) : ∀ n, FO__law_uses P w base T (n + 1) (spUses n)
  | 0 => fnUp (none_left fun ds O R RE ⟨k, g, x, _, h, _⟩ => by omega) (Nat.zero_le _)
  | n + 1 => by
    refine fndG__law_uses T (ok_uses T n) (by walk_at "len") ?_
    rintro ds O R RE ⟨k, g, x, rfl, hn, hk, hg, hd, hl, hR⟩
    unfold g__law_uses
    refine gSeq_step ?_
    walk_at "kf1"
    walk_at "tg"
    intro f hf
    have cat : ∀ (c : Kd) (pre : Mv) (y : D) (ms0 : List (List Mv)) (O1 : Ow) (f1 : Addr) (Q : VD) (ρ : DEnv) (fc : FE) (fm : FE), y = dMv pre → c.depth < n → c.ok = true → c.depth ≤ 100 → c.leaves ≤ 100 → ms0.length ≤ 400 → O1 f1 = some (.lst (ms0.map dMvs)) →
        (∀ ms : List (List Mv), (∀ m ∈ ms, Us c m g) → ms.length + 1 ≤ 2 * c.leaves → ∀ p, O1 p = none → Q (.ref p) (updO O1 p (.lst ((ms0 ++ ms.map (pre :: ·)).map dMvs)))) →
        (∀ (Q' : VD) (O' : Ow), fc ρ O' Q' = Q' (dK c) O') → (∀ (z : D) (Q' : VD) (O' : Ow), fm ((wipeD ρ [4]).set 4 (some z)) O' Q' = Q' y O') → ρ[3]? = some (some (.ref f1)) → ρ[1]? = some (some (dK g)) → ρ[2]? = some (some (.str x)) → ρ.length = 5 →
        fOp rCatO (fVar 3) (fLc (fiList (fCall (spUses n) (fCons fc (fCons (fVar 1) (fCons (fVar 2) fNil))))) (.nm 4) fYes (fOp rAddD (fLst (fCons fm fNil)) (fVar 4)) [4]) ρ O1 Q := by
      intro c pre y ms0 O1 f1 Q ρ fc fm hy hcn hc hcd hcl hm0 hO1 hQ efc efm e3 e1 e2 hlen
      rw [ap_fOp, ap_fVar, e3, envGet_s, ap_fLc, ap_fiList, ap_fCall, ap_fCons, efc, ap_fCons, ap_fVar, e1, envGet_s, ap_fCons, ap_fVar, e2, envGet_s, ap_fNil]
      refine ⟨c, g, x, rfl, hcn, hc, hg, hcd, hcl, fun ms hms hmsl => ?_⟩
      dsimp only
      rw [asL_l]
      refine lcA_map dMvs (fun m => dMvs (pre :: m)) ms _ _ (sz_21 (by simp only [List.length_nil]; omega)) ?_ ?_
      · intro m hm Q' hQ'
        have := us_len c m g (hms m hm)
        rw [patD_nm, patGet_s, ap_fOp, ap_fLst, ap_fCons, efm, ap_fNil]
        refine ⟨sz_small (by simp), ?_⟩
        rw [ap_fVar, List.getElem?_set_self (by simp [wipeD, hlen]), envGet_s, rAdd_l]
        refine ⟨sz_21 (by simp only [List.length_cons, List.length_nil, List.length_map]; omega), ?_⟩
        rw [hy]
        exact hQ'
      · rw [List.nil_append]
        have e : D.lst (ms.map fun m => dMvs (pre :: m)) = .lst ((ms.map (pre :: ·)).map dMvs) := by rw [List.map_map]; rfl
        rw [e]
        show rCatO (.ref f1) _ O1 Q
        simp only [rCatO, deref, hO1]
        refine ⟨sz_21 (by simp only [List.length_map]; omega), fun p hp => ?_⟩
        have := hQ ms hms hmsl p hp
        rw [List.map_append] at this
        exact this
    have ret : ∀ (ms : List (List Mv)) (O1 : Ow) (f1 : Addr), (∀ m ∈ ms, Us k m g) → ms.length + 1 ≤ 2 * k.leaves → Sub O (delO O1 f1) → VG R (.lst (ms.map dMvs)) (delO O1 f1) := fun ms O1 f1 h1 h2 h4 => ⟨O, h4, hR ms h1 h2⟩
    have lv : 1 ≤ k.leaves := by have := k.depth_lt; omega
    obtain ⟨ms0, h0, h0l, e0⟩ : ∃ ms0 : List (List Mv), (∀ m ∈ ms0, Us k m g) ∧ ms0.length ≤ 1 ∧ (if k = g then [([] : List Mv)] else []) = ms0 := by
      refine ⟨_, ?_, ?_, rfl⟩
      · intro m hm
        split at hm
        · rw [List.mem_singleton.mp hm]; rename_i e; subst e; cases k <;> rfl
        · cases hm
      · split <;> simp
    have rest : ∀ x4 : Option D, (gSeq (gIf (fTest (fOp (rEqD false) (fOp rIxD (fVar 0) (fC (.int 0))) (fC (.str "to")))) (gSet (fOp rCatO (fVar 3) (fLc (fiList (fCall (spUses n) (fCons (fOp rIxD (fVar 0) (fC (.int 2))) (fCons (fVar 1) (fCons (fVar 2) fNil))))) (.nm 4) fYes (fOp rAddD (fLst (fCons (fOp rIxD (fVar 0) (fC (.int 1))) fNil)) (fVar 4)) [4])) 3) gNext) (gSeq (gIf (fTest (fOp (rEqD false) (fOp rIxD (fVar 0) (fC (.int 0))) (fC (.str "both")))) (gSeq (gSet (fOp rCatO (fVar 3) (fLc (fiList (fCall (spUses n) (fCons (fOp rIxD (fVar 0) (fC (.int 1))) (fCons (fVar 1) (fCons (fVar 2) fNil))))) (.nm 4) fYes (fOp rAddD (fLst (fCons (fC (.int 1)) fNil)) (fVar 4)) [4])) 3) (gSet (fOp rCatO (fVar 3) (fLc (fiList (fCall (spUses n) (fCons (fOp rIxD (fVar 0) (fC (.int 2))) (fCons (fVar 1) (fCons (fVar 2) fNil))))) (.nm 4) fYes (fOp rAddD (fLst (fCons (fC (.int 2)) fNil)) (fVar 4)) [4])) 3)) gNext) (gRetF (fVar 3)))) { nx := fun _ O' => VG R .non O', rt := VG R } [some (dK k), some (dK g), some (.str x), some (.ref f), x4] (updO O f (.lst (ms0.map dMvs))) := by
      intro x4
      have sub0 : Sub O (delO (updO O f (.lst (ms0.map dMvs))) f) := by rw [delO_updO hf]; exact Sub.refl _
      have subN : ∀ (O1 : Ow) (f1 : Addr) (c : Cell), Sub O O1 → O1 f1 = none → Sub O (delO (updO O1 f1 c) f1) := fun O1 f1 c s h => by rw [delO_updO h]; exact s
      have so : Sub O (updO O f (.lst (ms0.map dMvs))) := sub_upd hf
      cases k with
      | mk m =>
        refine gSeq_step ?_
        simp only [dK]
        walk_at "kf1"; walk_at "tg"; walk_at "kf1"
        refine gSeq_step ?_
        walk_at "kf1"; walk_at "tg"; walk_at "kf1"
        exact ret ms0 _ f h0 (by omega) sub0
      | one =>
        refine gSeq_step ?_
        simp only [dK]
        walk_at "kf1"; walk_at "tg"; walk_at "kf1"
        refine gSeq_step ?_
        walk_at "kf1"; walk_at "tg"; walk_at "kf1"
        exact ret ms0 _ f h0 (by omega) sub0
      | to a b =>
        simp only [Kd.depth, Kd.leaves, Kd.ok, Bool.and_eq_true] at hn hd hl hk lv
        refine gSeq_step ?_
        rw [gIf_T (fun Q => by simp only [dK]; walk_at "kf1"; walk_at "tg"; walk_at "kf1"), ap_gSet]
        refine cat b (.k a) (dK a) ms0 _ f _ _ _ _ rfl (by omega) hk.2 (by omega) (by omega) (by omega) updO_same ?_ (fun Q' O' => ?_) (fun z Q' O' => ?_) rfl rfl rfl rfl
        · intro ms hms hmsl p hp
          try dsimp only
          refine gSeq_step ?_
          simp only [dK]
          walk_at "kf1"; walk_at "tg"; walk_at "kf1"
          refine ret (ms0 ++ ms.map (Mv.k a :: ·)) _ p ?_ ?_ (subN _ p _ so hp)
          · intro m hm
            rcases List.mem_append.mp hm with hm | hm
            · exact h0 m hm
            · obtain ⟨m', h1, rfl⟩ := List.mem_map.mp hm
              exact ⟨rfl, hms m' h1⟩
          · have ha : 1 ≤ a.leaves := by have := a.depth_lt; omega
            simp only [List.length_append, List.length_map, Kd.leaves]; omega
        · simp only [dK]; walk_at "kf1"
        · simp only [wipeD, dK]; walk_at "kf1"
      | both a b =>
        simp only [Kd.depth, Kd.leaves, Kd.ok, Bool.and_eq_true] at hn hd hl hk lv
        have ha : 1 ≤ a.leaves := by have := a.depth_lt; omega
        have hb : 1 ≤ b.leaves := by have := b.depth_lt; omega
        refine gSeq_step ?_
        rw [gIf_F (fun Q => by simp only [dK]; walk_at "kf1"; walk_at "tg"; walk_at "kf1")]
        walk_at "kf1"
        refine gSeq_step ?_
        rw [gIf_T (fun Q => by simp only [dK]; walk_at "kf1"; walk_at "tg"; walk_at "kf1")]
        refine gSeq_step ?_
        rw [ap_gSet]
        refine cat a .one (.int 1) ms0 _ f _ _ _ _ rfl (by omega) hk.1 (by omega) (by omega) (by omega) updO_same ?_ (fun Q' O' => ?_) (fun z Q' O' => ?_) rfl rfl rfl rfl
        · intro ms hms hmsl p hp
          have s1 : Sub O (updO (updO O f (.lst (ms0.map dMvs))) p (.lst ((ms0 ++ ms.map (Mv.one :: ·)).map dMvs))) := so.trans (sub_upd hp)
          try dsimp only
          rw [ap_gSet]
          refine cat b .two (.int 2) (ms0 ++ ms.map (Mv.one :: ·)) _ p _ _ _ _ rfl (by omega) hk.2 (by omega) (by omega) (by simp only [List.length_append, List.length_map]; omega) updO_same ?_ (fun Q' O' => ?_) (fun z Q' O' => ?_) rfl rfl rfl rfl
          · intro ms2 hms2 hmsl2 p2 hp2
            try dsimp only
            walk_at "kf1"
            refine ret (ms0 ++ ms.map (Mv.one :: ·) ++ ms2.map (Mv.two :: ·)) _ p2 ?_ ?_ (subN _ p2 _ s1 hp2)
            · intro m hm
              rcases List.mem_append.mp hm with hm | hm
              · rcases List.mem_append.mp hm with hm | hm
                · exact h0 m hm
                · obtain ⟨m', h1, rfl⟩ := List.mem_map.mp hm
                  exact hms m' h1
              · obtain ⟨m', h1, rfl⟩ := List.mem_map.mp hm
                exact hms2 m' h1
            · simp only [List.length_append, List.length_map, Kd.leaves]; omega
          · simp only [dK]; walk_at "kf1"
          · simp only [wipeD, dK]; walk_at "kf1"
        · simp only [dK]; walk_at "kf1"
        · simp only [wipeD, dK]; walk_at "kf1"
    refine gSeq_step ?_
    walk_at "kf1"
    rw [rEq_K hk hg (by omega)]
    by_cases c : k = g
    · rw [if_pos c] at e0
      simp only [c, decide_true, Bool.false_xor]
      walk_at "kf1"
      refine ⟨tyOk_r updO_same, ?_⟩
      walk_at "tg"
      rw [rApp_r updO_same]
      refine ⟨Nat.lt_of_lt_of_le (show ([] : List D).length < 1 by simp) (by decide), ?_⟩
      rw [updO_updO]
      have := rest none
      rw [← e0] at this
      rw [c] at this
      exact this
    · rw [if_neg c] at e0
      simp only [c, decide_false, Bool.false_xor]
      walk_at "kf1"
      have := rest none
      rw [← e0] at this
      exact this
end
end Kf
namespace Kf
open PySem PySem.Spec L2
open PyProof.Rows hiding St
local macro_rules | `(tactic| walk_at "kf") => `(tactic| simp (config := { failIfUnchanged := false }) only [startD, ap_fOrL, rOrL_l, ap_fLcK, ap_gForK, ap_fMaxD, rMaxD_l, rMaxL_l, ap_fCallXD, ap_gForE, asLE_l, ap_fFrz, ap_fDicO, ap_fDGet, ap_fDGet1, ap_fDGet2, ap_gDPut, ap_fIsiT, ap_gForR, rRep_l, isT_i, isT_s, isT_b, isT_n, isT_t, isT_l, ap_gSeq, ap_gIf, ap_gRet, ap_gNext, ap_gSet, ap_gAsg, ap_gDrop, ap_gRetF, ap_gRetN, ap_gFor, ap_gSetIx, ap_gBreak, ap_fRev, ap_fiRevR, asIR_i, rRev_l, ap_fCallX, ap_gRaise, ap_gTry, ap_gTryAs, ap_gNever, ap_fEdic, ap_fTest, ap_fOp, ap_fVar, envGet_s, patGet_s, ap_fC, ap_fCB, ap_fCons, ap_fNil, ap_fCall, ap_fAnd, ap_fOr, ap_fNot, ap_fAndV, ap_fOrV, ap_fNotV, ap_fIf, ap_fTup, ap_fLst, ap_fLstO, ap_fChain, ap_fUn, ap_fBM, ap_fBM0, ap_fPool, rPool_i, ap_fSl, ap_fPart, ap_fNoPart, asI_i, rSl_l, ap_fiRng1, ap_fiRng2, ap_fiList, ap_fiTup, ap_fiStr, ap_fiEnum, ap_fiZip, ap_fiRev, asL_l, asT_t, asSg_s, asR1_i, asR2_i, asL1_l, asL2_l, ap_fLc, ap_fLcO, ap_fYes, wipeD, lcD, isi_i_int, isi_i_bool, isi_i_str, isi_i_tuple, isi_i_list, isi_i_dict, isi_b_int, isi_b_bool, isi_b_str, isi_b_tuple, isi_b_list, isi_b_dict, isi_s_int, isi_s_bool, isi_s_str, isi_s_tuple, isi_s_list, isi_s_dict, isi_t_int, isi_t_bool, isi_t_str, isi_t_tuple, isi_t_list, isi_t_dict, isi_l_int, isi_l_bool, isi_l_str, isi_l_tuple, isi_l_list, isi_l_dict, isi_n_int, isi_n_bool, isi_n_str, isi_n_tuple, isi_n_list, isi_n_dict, isi_d_int, isi_d_bool, isi_d_str, isi_d_tuple, isi_d_list, isi_d_dict,
  deref_tup, deref_lst, deref_int, deref_str, deref_bl, deref_non, deref_scr, rLt_i, rLt_s, rLe_i, rLe_s, rInts_i, rInts0_i, rAdd_i, rAdd_s, rAdd_l, rAdd_t, rCatO_l, rNeg_i, rLen_t, rLen_l, rLen_c, rLen_s, rMax_i, rMin_i, rInt_i, rInt_b, rDivmod_i, ap_gAug, rStr_i, rList_l, rList_t, rListO_l, rListO_t, rTup_l, rTup_t,
  rIx_t0, rIx_t1, rIx_t2, rIx_t3, rIx_l0, rIx_l1, rIx_l2, rIsN_x, isNon_t, isNon_n, isNon_i, isNon_s, isNon_l, rEq_i, rEq_b, rEq_i2, rEq_b2, rJoin_m, rSplit_s, tyOk_l, tyOk_s, patD_nm, patD_tp, patDs_nil, patDs_cons, Option.bind_some, notX, notX',
  List.map_cons, List.map_nil, List.length_cons, List.length_nil, List.cons_append, List.nil_append, List.append_nil, List.replicate, List.getElem?_cons_zero, List.getElem?_cons_succ, List.set_cons_zero, List.set_cons_succ, updO_same, updO_updO,
  Nat.reduceSub, Nat.reduceAdd, Nat.reduceLeDiff, Nat.zero_add, Int.cast_ofNat_Int, Int.natCast_zero, Int.natCast_one, Int.reduceLT, Int.reduceLE, Int.reduceEq, Int.reduceAdd, Int.reduceSub, Int.reduceNeg, decide_true, decide_false, if_true, if_false, Bool.false_eq_true, eq_self, reduceIte, Bool.true_eq_false, decide_eq_true_eq, Bool.not_true, Bool.not_false, Bool.not_eq_true', decide_eq_false_iff_not, exists_eq_left', exists_eq_left, D.bl.injEq, true_and, and_true, not_true_eq_false, not_false_eq_true])
local macro_rules | `(tactic| walk_at "len") => `(tactic| (intro ds O R RE h; first | (obtain ⟨e, _⟩ := h; subst e; rfl) | (obtain ⟨_, e, _⟩ := h; subst e; rfl) | (obtain ⟨_, _, e, _⟩ := h; subst e; rfl) | (obtain ⟨_, _, _, e, _⟩ := h; subst e; rfl) | (obtain ⟨_, _, _, _, e, _⟩ := h; subst e; rfl) | (obtain ⟨_, _, _, _, _, e, _⟩ := h; subst e; rfl) | (obtain ⟨_, _, _, _, _, _, e, _⟩ := h; subst e; rfl) | (obtain ⟨_, _, _, _, _, _, _, e, _⟩ := h; subst e; rfl) | (obtain ⟨_, _, _, _, _, _, _, _, e, _⟩ := h; subst e; rfl) | (obtain ⟨_, _, _, _, _, _, _, _, _, e, _⟩ := h; subst e; rfl)))
local macro_rules | `(tactic| walk_at "kf1") => `(tactic| simp (config := { failIfUnchanged := false }) only [startD, ap_fOrL, rOrL_l, ap_fLcK, ap_gForK, ap_fMaxD, rMaxD_l, rMaxL_l, ap_fCallXD, ap_gForE, asLE_l, ap_fFrz, ap_fDicO, ap_fDGet, ap_fDGet1, ap_fDGet2, ap_gDPut, ap_fIsiT, ap_gForR, rRep_l, isT_i, isT_s, isT_b, isT_n, isT_t, isT_l, ap_gIf, ap_gRet, ap_gNext, ap_gSet, ap_gAsg, ap_gDrop, ap_gRetF, ap_gRetN, ap_gFor, ap_gSetIx, ap_gBreak, ap_fRev, ap_fiRevR, asIR_i, rRev_l, ap_fCallX, ap_gRaise, ap_gTry, ap_gTryAs, ap_gNever, ap_fEdic, ap_fTest, ap_fOp, ap_fVar, envGet_s, patGet_s, ap_fC, ap_fCB, ap_fCons, ap_fNil, ap_fCall, ap_fAnd, ap_fOr, ap_fNot, ap_fAndV, ap_fOrV, ap_fNotV, ap_fIf, ap_fTup, ap_fLst, ap_fLstO, ap_fChain, ap_fUn, ap_fBM, ap_fBM0, ap_fPool, rPool_i, ap_fSl, ap_fPart, ap_fNoPart, asI_i, rSl_l, ap_fiRng1, ap_fiRng2, ap_fiList, ap_fiTup, ap_fiStr, ap_fiEnum, ap_fiZip, ap_fiRev, asL_l, asT_t, asSg_s, asR1_i, asR2_i, asL1_l, asL2_l, ap_fLc, ap_fLcO, ap_fYes, wipeD, lcD, isi_i_int, isi_i_bool, isi_i_str, isi_i_tuple, isi_i_list, isi_i_dict, isi_b_int, isi_b_bool, isi_b_str, isi_b_tuple, isi_b_list, isi_b_dict, isi_s_int, isi_s_bool, isi_s_str, isi_s_tuple, isi_s_list, isi_s_dict, isi_t_int, isi_t_bool, isi_t_str, isi_t_tuple, isi_t_list, isi_t_dict, isi_l_int, isi_l_bool, isi_l_str, isi_l_tuple, isi_l_list, isi_l_dict, isi_n_int, isi_n_bool, isi_n_str, isi_n_tuple, isi_n_list, isi_n_dict, isi_d_int, isi_d_bool, isi_d_str, isi_d_tuple, isi_d_list, isi_d_dict,
  deref_tup, deref_lst, deref_int, deref_str, deref_bl, deref_non, deref_scr, rLt_i, rLt_s, rLe_i, rLe_s, rInts_i, rInts0_i, rAdd_i, rAdd_s, rAdd_l, rAdd_t, rCatO_l, rNeg_i, rLen_t, rLen_l, rLen_c, rLen_s, rMax_i, rMin_i, rInt_i, rInt_b, rDivmod_i, ap_gAug, rStr_i, rList_l, rList_t, rListO_l, rListO_t, rTup_l, rTup_t,
  rIx_t0, rIx_t1, rIx_t2, rIx_t3, rIx_l0, rIx_l1, rIx_l2, rIsN_x, isNon_t, isNon_n, isNon_i, isNon_s, isNon_l, rEq_i, rEq_b, rEq_i2, rEq_b2, rJoin_m, rSplit_s, tyOk_l, tyOk_s, patD_nm, patD_tp, patDs_nil, patDs_cons, Option.bind_some, notX, notX',
  List.map_cons, List.map_nil, List.length_cons, List.length_nil, List.cons_append, List.nil_append, List.append_nil, List.replicate, List.getElem?_cons_zero, List.getElem?_cons_succ, List.set_cons_zero, List.set_cons_succ, updO_same, updO_updO,
  Nat.reduceSub, Nat.reduceAdd, Nat.reduceLeDiff, Nat.zero_add, Int.cast_ofNat_Int, Int.natCast_zero, Int.natCast_one, Int.reduceLT, Int.reduceLE, Int.reduceEq, Int.reduceAdd, Int.reduceSub, Int.reduceNeg, decide_true, decide_false, if_true, if_false, Bool.false_eq_true, eq_self, reduceIte, Bool.true_eq_false, decide_eq_true_eq, Bool.not_true, Bool.not_false, Bool.not_eq_true', decide_eq_false_iff_not, exists_eq_left', exists_eq_left, D.bl.injEq, true_and, and_true, not_true_eq_false, not_false_eq_true])
section
variable {P : Program} {w : World} {K : PySem.W.Frag} {mg : Str → Option Value} {base : Heap}
local macro_rules | `(tactic| walk_at "tg") => `(tactic| simp (config := { failIfUnchanged := false }) only [te_name_take, te_name_give, te_name_pair, te_name_first, te_name_second, te_name_to, te_name_both, te_name_one, te_name_mark, te_name_name, te_name_thing, te_name_at, te_thing_take, te_thing_give, te_thing_pair, te_thing_first, te_thing_second, te_thing_to, te_thing_both, te_thing_one, te_thing_mark, te_thing_name, te_thing_thing, te_thing_at, te_take_take, te_take_give, te_take_pair, te_take_first, te_take_second, te_take_to, te_take_both, te_take_one, te_take_mark, te_take_name, te_take_thing, te_take_at, te_give_take, te_give_give, te_give_pair, te_give_first, te_give_second, te_give_to, te_give_both, te_give_one, te_give_mark, te_give_name, te_give_thing, te_give_at, te_pair_take, te_pair_give, te_pair_pair, te_pair_first, te_pair_second, te_pair_to, te_pair_both, te_pair_one, te_pair_mark, te_pair_name, te_pair_thing, te_pair_at, te_first_take, te_first_give, te_first_pair, te_first_first, te_first_second, te_first_to, te_first_both, te_first_one, te_first_mark, te_first_name, te_first_thing, te_first_at, te_second_take, te_second_give, te_second_pair, te_second_first, te_second_second, te_second_to, te_second_both, te_second_one, te_second_mark, te_second_name, te_second_thing, te_second_at, te_mark_take, te_mark_give, te_mark_pair, te_mark_first, te_mark_second, te_mark_to, te_mark_both, te_mark_one, te_mark_mark, te_mark_name, te_mark_thing, te_mark_at, te_one_take, te_one_give, te_one_pair, te_one_first, te_one_second, te_one_to, te_one_both, te_one_one, te_one_mark, te_one_name, te_one_thing, te_one_at, te_to_take, te_to_give, te_to_pair, te_to_first, te_to_second, te_to_to, te_to_both, te_to_one, te_to_mark, te_to_name, te_to_thing, te_to_at, te_both_take, te_both_give, te_both_pair, te_both_first, te_both_second, te_both_to, te_both_both, te_both_one, te_both_mark, te_both_name, te_both_thing, te_both_at, te_at_take, te_at_give, te_at_pair, te_at_first, te_at_second, te_at_to, te_at_both, te_at_one, te_at_mark, te_at_name, te_at_thing, te_at_at, ti4_name, ti4_thing, ti4_take, ti4_give, ti4_pair, ti4_first, ti4_second, ti2_name, ti2_thing, ti2_take, ti2_give, ti2_pair, ti2_first, ti2_second, szT_0, szT_1, szT_2, szT_3, szT_4, szT_5, szT_6, szT_7, szT_8, szT_9, szT_10, szT_11, szT_12, Bool.not_true, Bool.not_false, true_and])
def hU (r : Int) (k : Kd) : Nat := 8 * r.toNat + k.leaves
def mU (r : Int) (k : Kd) : Nat := 6 * r.toNat + k.leaves
def spProgU (n : Nat) : DSp := fun ds O R _ => ∃ (pa : Addr) (kn : List (Str × Kd)) (k : Kd) (r : Int), ds = [.ref pa, .lst (kn.map kv), dK k, .int r] ∧ O pa = some .pool ∧ RowU kn ∧ k.over AB ∧ k.leaves ≤ 4 ∧ 0 ≤ r ∧ r ≤ 100 ∧ mU r k < n ∧ kn.length + mU r k ≤ 900 ∧
  ∀ p : Pg, p.hgt ≤ hU r k → hasU (envOf kn) p k → R (dP p) O
def dPn : Option Pg → D
  | some p => dP p
  | none => .non
def spUsed (n : Nat) : DSp := fun ds O R _ => ∃ (pa : Addr) (kn : List (Str × Kd)) (k : Kd) (r : Int), ds = [.ref pa, .lst (kn.map kv), dK k, .int r] ∧ O pa = some .pool ∧ RowU kn ∧ k.over AB ∧ k.leaves ≤ 4 ∧ 0 < r ∧ r ≤ 100 ∧ mU r k < n ∧ kn.length + mU r k ≤ 900 ∧
  ∀ o : Option Pg, (∀ p, o = some p → p.hgt ≤ hU r k ∧ hasU (envOf kn) p k) → R (dPn o) O
abbrev dUs (u : Str × List Mv) : D := .tup [.str u.1, dMvs u.2]
theorem py_mv {m : List Mv} (h : ∀ c, Mv.k c ∈ m → c.ok = true) : isPys (m.map dMv) = true := by
  rw [isPys_all, List.all_eq_true]
  intro d hd
  obtain ⟨z, hz, rfl⟩ := List.mem_map.mp hd
  cases z with
  | k c => simp only [dMv, isPy_dK]; exact h c hz
  | one => simp [dMv, isPy]
  | two => simp [dMv, isPy]
theorem lvp (k : Kd) : 1 ≤ k.leaves := by have := k.depth_lt; omega
theorem over_k {k : Kd} (h : k.over AB) : k.ok = true := over_ok ab_ok k h
theorem ok_used (T : Tx K mg) (n : Nat) (ih : FO__law_program P w base T (2 * n + 8) (spProgU n)) : FO__law_used P w base T (2 * n + 9) (spUsed (n + 1)) := by
  refine fnd__law_used T (fnUp (ok_seen T) (by omega)) (fnUp (ok_uses T 5) (by omega)) (ok_take T.n__law_take) ih (by walk_at "len") ?_
  rintro ds O R RE ⟨pa, kn, g, r, rfl, hp, hk, ho, hl, hr, hr100, hn, hkl, hR⟩
  have hg := over_k ho
  have lg := lvp g
  unfold mU at hn hkl
  unfold g__law_used
  refine gSeq_step ?_
  walk_at "kf1"
  walk_at "tg"
  refine gSeq_step ?_
  walk_at "kf1"
  refine ⟨kn, rfl, hk, fun ys hys hyl => ?_⟩
  try dsimp only
  walk_at "kf1"
  have kd_of : ∀ (x : Str) (k : Kd), envOf kn x = some k → x ∈ UN ∧ k.over AB ∧ k.leaves ≤ 4 := fun x k e => hk.nm (x, k) (envOf_mem e)
  refine forA_ix kv (fun pre _ ρ O' => O' = O ∧ ∃ (us : List (Str × List Mv)) (x5 x6 x7 x8 x9 : Option D), ρ = [some (.ref pa), some (.lst (kn.map kv)), some (dK g), some (.int r), some (.lst (us.map dUs)), x5, x6, x7, x8, x9] ∧ us.length ≤ 8 * pre.length ∧ ∀ u ∈ us, ∃ k, envOf kn u.1 = some k ∧ Us k u.2 g) ys [] _ _ ⟨rfl, [], _, _, _, _, _, rfl, by simp, fun u h => nomatch h⟩ ?_ ?_
  · rintro ρ O' ⟨rfl, us, x5, x6, x7, x8, x9, rfl, hul, hus⟩
    rw [List.nil_append] at hul
    have hpy : isPys (us.map dUs) = true := by
      rw [isPys_all, List.all_eq_true]
      intro d hd
      obtain ⟨u, hu, rfl⟩ := List.mem_map.mp hd
      obtain ⟨k, e1, e2⟩ := hus u hu
      obtain ⟨a1, a2, a3⟩ := kd_of _ _ e1
      have : isPys (u.2.map dMv) = true := py_mv fun c hc => over_k (us_kd k u.2 g e2 a2 c hc).1
      simp only [dUs, dMvs, isPy, isPys, this, un_ok _ a1, Bool.and_self]
    try dsimp only
    refine gSeq_step ?_
    walk_at "kf1"
    walk_at "tg"
    rw [rEq_nilA (xs := us.map dUs) rfl hpy]
    cases us with
    | nil =>
      simp only [List.map_nil, List.isEmpty_nil, Bool.false_xor]
      walk_at "kf1"
      exact hR none fun p h => nomatch h
    | cons u0 ur =>
      simp only [List.map_cons, List.isEmpty_cons, Bool.false_xor]
      walk_at "kf1"
      refine gSeq_step ?_
      walk_at "kf1"
      refine take_of hp (by simp only [List.length_map]; omega) (by simp only [List.length_map]; simp only [List.length_cons] at hul; omega) fun j hj0 hj1 => ?_
      refine rIx_any hj0 (by simpa using hj1) fun v hv => ?_
      obtain ⟨u, hu, rfl⟩ : ∃ u ∈ u0 :: ur, dUs u = v := by
        rw [← List.map_cons (f := dUs)] at hv
        exact List.mem_map.mp hv
      obtain ⟨k0, e1, e2⟩ := hus u hu
      obtain ⟨a1, a2, a3⟩ := kd_of _ _ e1
      have hml := us_len k0 u.2 g e2
      have hd0 := k0.depth_lt
      have hmk := us_kd k0 u.2 g e2 a2
      walk_at "kf1"
      refine gSeq_step ?_
      walk_at "kf1"
      walk_at "tg"
      refine gSeq_step ?_
      walk_at "kf1"
      refine forA_ix dMv (fun pre rest ρ O2 => O2 = O' ∧ ∃ (p : Pg) (k : Kd) (x4 x5 x6 x9 : Option D), ρ = [some (.ref pa), some (.lst (kn.map kv)), some (dK g), some (.int r), x4, x5, x6, some (dMvs u.2), some (dP p), x9] ∧ hasU (envOf kn) p k ∧ Us k rest g ∧ p.hgt + 4 ≤ pre.length + 8 * r.toNat) u.2 [] _ _ ⟨rfl, .nm u.1, k0, _, _, _, _, rfl, ⟨e1, a1⟩, e2, by simp only [Pg.hgt, List.length_nil]; omega⟩ ?_ ?_
      · rintro ρ O' ⟨rfl, p, k, x4, x5, x6, x9, rfl, hpk, hus', hph⟩
        have ek : k = g := by cases k <;> exact hus'
        subst ek
        rw [List.nil_append] at hph
        try dsimp only
        walk_at "kf1"
        exact hR (some p) fun p' h => by
          cases h
          exact ⟨by unfold hU; omega, hpk⟩
      · rintro pre m rest ep ρ O' ⟨rfl, p, k, x4, x5, x6, x9, rfl, hpk, hus', hph⟩ N hN
        rw [List.nil_append] at ep
        have hmem : m ∈ u.2 := by rw [ep]; simp
        walk_at "kf1"
        cases m with
        | k c =>
          obtain ⟨c1, c2⟩ := hmk c hmem
          simp only [dMv]
          rw [rEq_Ki (over_k c1)]
          walk_at "kf1"
          rw [rEq_Ki (over_k c1)]
          walk_at "kf1"
          refine ⟨pa, kn, c, r - 1, rfl, hp, hk, c1, by omega, by omega, by omega, by unfold mU; omega, by unfold mU; omega, fun q hq hqk => ?_⟩
          walk_at "tg"
          unfold hU at hq
          cases k with
          | to a b =>
            obtain ⟨rfl, hus2⟩ := hus'
            refine hN _ _ ⟨rfl, .give p q, b, _, _, _, _, rfl, hu_give hpk hqk, hus2, ?_⟩
            simp only [Pg.hgt, List.length_append, List.length_singleton]
            omega
          | _ => exact (hus' : False).elim
        | one =>
          simp only [dMv]
          walk_at "kf1"
          walk_at "tg"
          walk_at "kf1"
          walk_at "tg"
          cases k with
          | both a b =>
            refine hN _ _ ⟨rfl, .first p, a, _, _, _, _, rfl, hu_first hpk, hus', ?_⟩
            simp only [Pg.hgt, List.length_append, List.length_singleton]
            omega
          | _ => exact (hus' : False).elim
        | two =>
          simp only [dMv]
          walk_at "kf1"
          walk_at "tg"
          walk_at "kf1"
          walk_at "tg"
          cases k with
          | both a b =>
            refine hN _ _ ⟨rfl, .second p, b, _, _, _, _, rfl, hu_second hpk, hus', ?_⟩
            simp only [Pg.hgt, List.length_append, List.length_singleton]
            omega
          | _ => exact (hus' : False).elim
  · rintro pre y rest e ρ O' ⟨rfl, us, x5, x6, x7, x8, x9, rfl, hul, hus⟩ N hN
    rw [List.nil_append] at e
    have hy : y ∈ ys := by rw [e]; simp
    have hyk := hys y hy
    obtain ⟨a1, a2, a3⟩ := kd_of _ _ hyk
    have hd0 := y.2.depth_lt
    have hpl : pre.length < 8 := by
      have := congrArg List.length e
      rw [List.length_append, List.length_cons] at this
      omega
    walk_at "kf1"
    refine ⟨y.2, g, y.1, rfl, by omega, over_k a2, hg, by omega, by omega, fun ms hms hmsl => ?_⟩
    try dsimp only
    walk_at "kf1"
    refine lcA_map dMvs (fun m => dUs (y.1, m)) ms _ _ (sz_21 (by simp only [List.length_nil]; omega)) ?_ ?_
    · intro m hm Q' hQ'
      walk_at "kf1"
      walk_at "tg"
      exact hQ'
    · rw [List.nil_append]
      have e3 : ms.map (fun m => dUs (y.1, m)) = (ms.map fun m => (y.1, m)).map dUs := by rw [List.map_map]; rfl
      rw [e3]
      walk_at "kf1"
      refine ⟨sz_21 (by simp only [List.length_map]; omega), ?_⟩
      rw [← List.map_append]
      refine hN _ _ ⟨rfl, _, _, _, _, _, _, rfl, ?_, fun u hu => ?_⟩
      · simp only [List.length_append, List.length_map, List.length_singleton]; omega
      · rcases List.mem_append.mp hu with hu | hu
        · exact hus u hu
        · obtain ⟨m, hm, rfl⟩ := List.mem_map.mp hu
          exact ⟨y.2, hyk, hms m hm⟩
theorem five_of {r : Int} {O : Ow} {Q : VD} (h0 : 0 ≤ r) (h1 : r < 5) (h : ∀ x ∈ TN, Q (.str x) O) : rIxD (.lst [.str "u", .str "v", .str "x0", .str "x7", .str "f"]) (.int r) O Q := by
  refine rIx_any h0 (by simpa using h1) fun v hv => ?_
  simp only [List.mem_cons, List.not_mem_nil, or_false] at hv
  rcases hv with rfl | rfl | rfl | rfl | rfl <;> exact h _ (by decide +kernel)
theorem snoc_kv (kn : List (Str × Kd)) (x : Str) (k : Kd) : D.lst (kn.map kv ++ [.tup [.str x, dK k]]) = .lst ((kn ++ [(x, k)]).map kv) := by rw [List.map_append]; rfl
theorem dP_give (f a : Pg) : D.tup [.str "give", dP f, dP a] = dP (.give f a) := rfl
theorem dP_take (x : Str) (k : Kd) (b : Pg) : D.tup [.str "take", .str x, dK k, dP b] = dP (.take x k b) := rfl
theorem dP_pair (f a : Pg) : D.tup [.str "pair", dP f, dP a] = dP (.pair f a) := rfl
theorem dP_first (f : Pg) : D.tup [.str "first", dP f] = dP (.first f) := rfl
theorem dP_second (f : Pg) : D.tup [.str "second", dP f] = dP (.second f) := rfl
theorem ok_made (T : Tx K mg) (n : Nat) (ih : FO__law_program P w base T (2 * n + 8) (spProgU n)) : FO__law_made P w base T (2 * n + 9) (spProgU (n + 1)) := by
  refine fnd__law_made T ih (ok_take T.n__law_take) (by walk_at "len") ?_
  rintro ds O R RE ⟨pa, kn, g, r, rfl, hp, hk, ho, hl, hr, hr100, hn, hkl, hR⟩
  unfold mU at hn hkl
  unfold hU at hR
  have call : ∀ (kn' : List (Str × Kd)) (k' : Kd) (R' : VD) (RE' : XD), RowU kn' → k'.over AB → k'.leaves < g.leaves → kn'.length ≤ kn.length + 1 → (∀ p : Pg, p.hgt ≤ 8 * r.toNat + k'.leaves → hasU (envOf kn') p k' → R' (dP p) O) → spProgU n [.ref pa, .lst (kn'.map kv), dK k', .int r] O R' RE' := by
    intro kn' k' R' RE' h1 h2 h3 h4 h5
    exact ⟨pa, kn', k', r, rfl, hp, h1, h2, by omega, hr, hr100, by unfold mU; omega, by unfold mU; omega, fun p hp' hh => h5 p hp' hh⟩
  have z2 : (kn.map kv).length + 1 ≤ sizeLine := sz_21 (by rw [List.length_map]; omega)
  unfold g__law_made
  cases g with
  | one =>
    simp only [dK]
    walk_at "kf"; walk_at "tg"; walk_at "kf"; walk_at "tg"
    exact hR .thing (by simp [Pg.hgt]) ⟨rfl, trivial⟩
  | mk m =>
    have hm : m = Str.ofString "a" ∨ m = Str.ofString "b" := by
      have : m ∈ AB := ho
      simpa [AB] using this
    simp only [dK]
    walk_at "kf"; walk_at "tg"; walk_at "kf"; walk_at "tg"; walk_at "kf"
    rcases hm with rfl | rfl
    · rw [rEq_s (by decide +kernel) (by decide +kernel), show decide (Str.ofString "a" = Str.ofString "b") = false by decide +kernel]
      simp only [Bool.false_xor]
      walk_at "kf"; walk_at "tg"; walk_at "kf"; walk_at "tg"
      exact hR (.nm "p") (by simp [Pg.hgt]) ⟨hk.ep, by show Str.ofString "p" ∈ UN; decide +kernel⟩
    · rw [rEq_s (by decide +kernel) (by decide +kernel), show decide (Str.ofString "b" = Str.ofString "b") = true by decide +kernel]
      simp only [Bool.false_xor]
      walk_at "kf"; walk_at "tg"; walk_at "kf"; walk_at "tg"
      exact hR (.nm "q") (by simp [Pg.hgt]) ⟨hk.eq, by show Str.ofString "q" ∈ UN; decide +kernel⟩
  | both a b =>
    have la := lvp a
    have lb := lvp b
    simp only [Kd.leaves] at hl hn hkl hR call
    simp only [dK]
    walk_at "kf"; walk_at "tg"; walk_at "kf"; walk_at "tg"; walk_at "kf"; walk_at "tg"; walk_at "kf"
    refine call kn a _ _ hk ho.1 (by omega) (by omega) fun p1 hp1 hk1 => ?_
    try dsimp only
    refine call kn b _ _ hk ho.2 (by omega) (by omega) fun p2 hp2 hk2 => ?_
    try dsimp only
    walk_at "tg"
    exact hR (.pair p1 p2) (by simp only [Pg.hgt]; omega) (hu_pair hk1 hk2)
  | to a b =>
    have la := lvp a
    have lb := lvp b
    simp only [Kd.leaves] at hl hn hkl hR call
    simp only [dK]
    walk_at "kf"; walk_at "tg"; walk_at "kf"; walk_at "tg"; walk_at "kf"; walk_at "tg"; walk_at "kf"; walk_at "tg"
    refine take_of hp (by decide) (by decide) fun r2 h20 h21 => ?_
    refine five_of h20 h21 fun x hx => ?_
    walk_at "kf"; walk_at "tg"
    refine ⟨z2, ?_⟩
    rw [snoc_kv]
    refine call _ b _ _ (hk.snoc hx ho.1 (by omega)) ho.2 (by omega) (by rw [List.length_append, List.length_singleton]; exact Nat.le_refl _) fun p1 hp1 hk1 => ?_
    try dsimp only
    walk_at "tg"
    exact hR (.take x a p1) (by simp only [Pg.hgt]; omega) (hu_take hx ho.1 (by omega) hk1)
theorem isNon_dP (p : Pg) : isNon (dP p) = false := by cases p <;> rfl
theorem ok_progU (T : Tx K mg) : ∀ n, FO__law_program P w base T (2 * n + 8) (spProgU n)
  | 0 => fnUp (none_left fun ds O R RE ⟨pa, kn, k, r, _, _, _, _, _, _, _, h, _⟩ => by omega) (Nat.zero_le _)
  | n + 1 => by
    have ih := ok_progU T n
    refine fnd__law_program T (ok_take T.n__law_take) (fnUp (ok_lkind T 3) (by omega)) (fnUp ih (by omega)) (ok_used T n ih) (ok_made T n ih) (by walk_at "len") ?_
    rintro ds O R RE ⟨pa, kn, g, r, rfl, hp, hk, ho, hl, hr, hr100, hn, hkl, hR⟩
    have lg := lvp g
    have z2 : (kn.map kv).length + 1 ≤ sizeLine := sz_21 (by rw [List.length_map]; unfold mU at hkl; omega)
    have call : ∀ (kn' : List (Str × Kd)) (k' : Kd) (R' : VD) (RE' : XD), 0 < r → RowU kn' → k'.over AB → k'.leaves ≤ 4 → kn'.length ≤ kn.length + 1 → (∀ p : Pg, p.hgt + 4 ≤ 8 * r.toNat → hasU (envOf kn') p k' → R' (dP p) O) → spProgU n [.ref pa, .lst (kn'.map kv), dK k', .int (r - 1)] O R' RE' := by
      intro kn' k' R' RE' h0 h1 h2 h3 h4 h5
      unfold mU at hn hkl
      exact ⟨pa, kn', k', r - 1, rfl, hp, h1, h2, by omega, by omega, by omega, by unfold mU; omega, by unfold mU; omega, fun p hp' hh => h5 p (by unfold hU at hp'; omega) hh⟩
    have lk : ∀ (l : Int) (R' : VD) (RE' : XD), 0 ≤ l → l < 3 → (∀ k : Kd, k.leaves ≤ 4 → k.over AB → R' (dK k) O) → spLKind 3 [.ref pa, .int (1 + l), .lst [.str "a", .str "b"]] O R' RE' := by
      intro l R' RE' h0 h1 h2
      refine ⟨pa, (1 + l).toNat, AB, by rw [show (((1 + l).toNat : Nat) : Int) = 1 + l by omega]; rfl, hp, by omega, by omega, by omega, by decide, by decide, fun k h3 h4 => h2 k (by omega) h4⟩
    unfold g__law_program
    refine gSeq_step ?_
    walk_at "kf1"
    refine take_of hp (by decide) (by decide) fun way hw0 hw1 => ?_
    walk_at "kf1"
    have last : ∀ x5 x6 x7 x8, (gSeq (gIf (fTest (fOp (rIsN false) (fVar 9) (fC .non))) (gSet (fCall (spProgU (n + 1)) (fCons (fVar 0) (fCons (fVar 1) (fCons (fVar 2) (fCons (fVar 3) fNil))))) 9) gNext) (gRet (fVar 9))) { nx := fun _ O' => R .non O', rt := R } [some (.ref pa), some (.lst (kn.map kv)), some (dK g), some (.int r), some (.int way), x5, x6, x7, x8, some .non] O := by
      intro x5 x6 x7 x8
      refine gSeq_step ?_
      walk_at "kf1"
      refine ⟨pa, kn, g, r, rfl, hp, hk, ho, hl, hr, hr100, hn, hkl, fun p h1 h2 => ?_⟩
      try dsimp only
      walk_at "kf1"
      exact hR p h1 h2
    have rest : ∀ x5 x6 x7 x8 x9, (gSeq (gSet (fC .non) 9) (gSeq (gIf (fAnd (fTest (fOp rGtD (fVar 3) (fC (.int 0)))) (fTest (fOp rLtD (fVar 4) (fC (.int 6))))) (gSet (fCall (spUsed (n + 1)) (fCons (fVar 0) (fCons (fVar 1) (fCons (fVar 2) (fCons (fVar 3) fNil))))) 9) gNext) (gSeq (gIf (fTest (fOp (rIsN false) (fVar 9) (fC .non))) (gSet (fCall (spProgU (n + 1)) (fCons (fVar 0) (fCons (fVar 1) (fCons (fVar 2) (fCons (fVar 3) fNil))))) 9) gNext) (gRet (fVar 9))))) { nx := fun _ O' => R .non O', rt := R } [some (.ref pa), some (.lst (kn.map kv)), some (dK g), some (.int r), some (.int way), x5, x6, x7, x8, x9] O := by
      intro x5 x6 x7 x8 x9
      refine gSeq_step ?_
      walk_at "kf1"
      refine gSeq_step ?_
      walk_at "kf1"
      by_cases h0 : 0 < r
      · rw [if_pos h0]
        walk_at "kf1"
        by_cases h6 : way < 6
        · rw [if_pos h6]
          refine ⟨pa, kn, g, r, rfl, hp, hk, ho, hl, h0, hr100, hn, hkl, fun o ho' => ?_⟩
          cases o with
          | none =>
            simp only [dPn]
            exact last _ _ _ _
          | some p =>
            obtain ⟨h1, h2⟩ := ho' p rfl
            simp only [dPn]
            refine gSeq_step ?_
            walk_at "kf1"
            rw [isNon_dP]
            walk_at "kf1"
            exact hR p h1 h2
        · rw [if_neg h6]
          exact last _ _ _ _
      · rw [if_neg h0]
        walk_at "kf1"
        exact last _ _ _ _
    refine gSeq_step ?_
    by_cases h0 : 0 < r
    · by_cases hw2 : way < 2
      · rw [gIf_T (fun Q => by walk_at "kf1"; rw [if_pos h0]; walk_at "kf1"; simp only [hw2, decide_true])]
        refine gSeq_step ?_
        walk_at "kf1"
        walk_at "tg"
        refine take_of hp (by decide) (by decide) fun r2 h20 h21 => ?_
        refine five_of h20 h21 fun x hx => ?_
        walk_at "kf1"
        refine gSeq_step ?_
        walk_at "kf1"
        refine take_of hp (by decide) (by decide) fun r3 h30 h31 => ?_
        walk_at "kf1"
        walk_at "tg"
        refine lk r3 _ _ h30 h31 fun ko hkol hko => ?_
        try dsimp only
        refine gSeq_step ?_
        walk_at "kf1"
        walk_at "tg"
        refine ⟨z2, ?_⟩
        rw [snoc_kv]
        refine call _ g _ _ h0 (hk.snoc hx hko hkol) ho hl (by rw [List.length_append, List.length_singleton]; exact Nat.le_refl _) fun b hb hbk => ?_
        try dsimp only
        walk_at "kf1"
        walk_at "tg"
        refine call kn ko _ _ h0 hk hko hkol (by omega) fun a ha hak => ?_
        try dsimp only
        walk_at "tg"
        rw [dP_take, dP_give]
        exact hR _ (by unfold hU; simp only [Pg.hgt]; omega) (hu_give (hu_take hx hko hkol hbk) hak)
      · rw [gIf_F (fun Q => by walk_at "kf1"; rw [if_pos h0]; walk_at "kf1"; simp only [hw2, decide_false])]
        walk_at "kf1"
        refine gSeq_step ?_
        by_cases hw3 : way = 2
        · rw [gIf_T (fun Q => by walk_at "kf1"; rw [if_pos h0]; walk_at "kf1"; simp only [hw3, decide_true])]
          refine gSeq_step ?_
          walk_at "kf1"
          refine take_of hp (by decide) (by decide) fun r3 h30 h31 => ?_
          walk_at "kf1"
          walk_at "tg"
          refine lk r3 _ _ h30 (by omega) fun ko hkol hko => ?_
          try dsimp only
          refine gSeq_step ?_
          walk_at "kf1"
          refine call kn g _ _ h0 hk ho hl (by omega) fun a ha hak => ?_
          try dsimp only
          refine call kn ko _ _ h0 hk hko hkol (by omega) fun b hb hbk => ?_
          try dsimp only
          walk_at "tg"
          refine gSeq_step ?_
          walk_at "kf1"
          refine take_of hp (by decide) (by decide) fun r4 h40 h41 => ?_
          walk_at "kf1"
          walk_at "tg"
          split
          · walk_at "tg"
            rw [dP_pair, dP_first]
            exact hR _ (by unfold hU; simp only [Pg.hgt]; omega) (hu_first (hu_pair hak hbk))
          · walk_at "kf1"
            walk_at "tg"
            rw [dP_pair, dP_second]
            exact hR _ (by unfold hU; simp only [Pg.hgt]; omega) (hu_second (hu_pair hbk hak))
        · rw [gIf_F (fun Q => by walk_at "kf1"; rw [if_pos h0]; walk_at "kf1"; simp only [hw3, decide_false])]
          walk_at "kf1"
          exact rest _ _ _ _ _
    · rw [gIf_F (fun Q => by walk_at "kf1"; rw [if_neg h0])]
      walk_at "kf1"
      refine gSeq_step ?_
      rw [gIf_F (fun Q => by walk_at "kf1"; rw [if_neg h0])]
      walk_at "kf1"
      exact rest _ _ _ _ _
end
end Kf
namespace Kf
open PySem PySem.Spec L2
open PyProof.Rows hiding St
local macro_rules | `(tactic| walk_at "kf") => `(tactic| simp (config := { failIfUnchanged := false }) only [startD, ap_fOrL, rOrL_l, ap_fLcK, ap_gForK, ap_fMaxD, rMaxD_l, rMaxL_l, ap_fCallXD, ap_gForE, asLE_l, ap_fFrz, ap_fDicO, ap_fDGet, ap_fDGet1, ap_fDGet2, ap_gDPut, ap_fIsiT, ap_gForR, rRep_l, isT_i, isT_s, isT_b, isT_n, isT_t, isT_l, ap_gSeq, ap_gIf, ap_gRet, ap_gNext, ap_gSet, ap_gAsg, ap_gDrop, ap_gRetF, ap_gRetN, ap_gFor, ap_gSetIx, ap_gBreak, ap_fRev, ap_fiRevR, asIR_i, rRev_l, ap_fCallX, ap_gRaise, ap_gTry, ap_gTryAs, ap_gNever, ap_fEdic, ap_fTest, ap_fOp, ap_fVar, envGet_s, patGet_s, ap_fC, ap_fCB, ap_fCons, ap_fNil, ap_fCall, ap_fAnd, ap_fOr, ap_fNot, ap_fAndV, ap_fOrV, ap_fNotV, ap_fIf, ap_fTup, ap_fLst, ap_fLstO, ap_fChain, ap_fUn, ap_fBM, ap_fBM0, ap_fPool, rPool_i, ap_fSl, ap_fPart, ap_fNoPart, asI_i, rSl_l, ap_fiRng1, ap_fiRng2, ap_fiList, ap_fiTup, ap_fiStr, ap_fiEnum, ap_fiZip, ap_fiRev, asL_l, asT_t, asSg_s, asR1_i, asR2_i, asL1_l, asL2_l, ap_fLc, ap_fLcO, ap_fYes, wipeD, lcD, isi_i_int, isi_i_bool, isi_i_str, isi_i_tuple, isi_i_list, isi_i_dict, isi_b_int, isi_b_bool, isi_b_str, isi_b_tuple, isi_b_list, isi_b_dict, isi_s_int, isi_s_bool, isi_s_str, isi_s_tuple, isi_s_list, isi_s_dict, isi_t_int, isi_t_bool, isi_t_str, isi_t_tuple, isi_t_list, isi_t_dict, isi_l_int, isi_l_bool, isi_l_str, isi_l_tuple, isi_l_list, isi_l_dict, isi_n_int, isi_n_bool, isi_n_str, isi_n_tuple, isi_n_list, isi_n_dict, isi_d_int, isi_d_bool, isi_d_str, isi_d_tuple, isi_d_list, isi_d_dict,
  deref_tup, deref_lst, deref_int, deref_str, deref_bl, deref_non, deref_scr, rLt_i, rLt_s, rLe_i, rLe_s, rInts_i, rInts0_i, rAdd_i, rAdd_s, rAdd_l, rAdd_t, rCatO_l, rNeg_i, rLen_t, rLen_l, rLen_c, rLen_s, rMax_i, rMin_i, rInt_i, rInt_b, rDivmod_i, ap_gAug, rStr_i, rList_l, rList_t, rListO_l, rListO_t, rTup_l, rTup_t,
  rIx_t0, rIx_t1, rIx_t2, rIx_t3, rIx_l0, rIx_l1, rIx_l2, rIsN_x, isNon_t, isNon_n, isNon_i, isNon_s, isNon_l, rEq_i, rEq_b, rEq_i2, rEq_b2, rJoin_m, rSplit_s, tyOk_l, tyOk_s, patD_nm, patD_tp, patDs_nil, patDs_cons, Option.bind_some, notX, notX',
  List.map_cons, List.map_nil, List.length_cons, List.length_nil, List.cons_append, List.nil_append, List.append_nil, List.replicate, List.getElem?_cons_zero, List.getElem?_cons_succ, List.set_cons_zero, List.set_cons_succ, updO_same, updO_updO,
  Nat.reduceSub, Nat.reduceAdd, Nat.reduceLeDiff, Nat.zero_add, Int.cast_ofNat_Int, Int.natCast_zero, Int.natCast_one, Int.reduceLT, Int.reduceLE, Int.reduceEq, Int.reduceAdd, Int.reduceSub, Int.reduceNeg, decide_true, decide_false, if_true, if_false, Bool.false_eq_true, eq_self, reduceIte, Bool.true_eq_false, decide_eq_true_eq, Bool.not_true, Bool.not_false, Bool.not_eq_true', decide_eq_false_iff_not, exists_eq_left', exists_eq_left, D.bl.injEq, true_and, and_true, not_true_eq_false, not_false_eq_true])
local macro_rules | `(tactic| walk_at "len") => `(tactic| (intro ds O R RE h; first | (obtain ⟨e, _⟩ := h; subst e; rfl) | (obtain ⟨_, e, _⟩ := h; subst e; rfl) | (obtain ⟨_, _, e, _⟩ := h; subst e; rfl) | (obtain ⟨_, _, _, e, _⟩ := h; subst e; rfl) | (obtain ⟨_, _, _, _, e, _⟩ := h; subst e; rfl) | (obtain ⟨_, _, _, _, _, e, _⟩ := h; subst e; rfl) | (obtain ⟨_, _, _, _, _, _, e, _⟩ := h; subst e; rfl) | (obtain ⟨_, _, _, _, _, _, _, e, _⟩ := h; subst e; rfl) | (obtain ⟨_, _, _, _, _, _, _, _, e, _⟩ := h; subst e; rfl) | (obtain ⟨_, _, _, _, _, _, _, _, _, e, _⟩ := h; subst e; rfl)))
local macro_rules | `(tactic| walk_at "kf1") => `(tactic| simp (config := { failIfUnchanged := false }) only [startD, ap_fOrL, rOrL_l, ap_fLcK, ap_gForK, ap_fMaxD, rMaxD_l, rMaxL_l, ap_fCallXD, ap_gForE, asLE_l, ap_fFrz, ap_fDicO, ap_fDGet, ap_fDGet1, ap_fDGet2, ap_gDPut, ap_fIsiT, ap_gForR, rRep_l, isT_i, isT_s, isT_b, isT_n, isT_t, isT_l, ap_gIf, ap_gRet, ap_gNext, ap_gSet, ap_gAsg, ap_gDrop, ap_gRetF, ap_gRetN, ap_gFor, ap_gSetIx, ap_gBreak, ap_fRev, ap_fiRevR, asIR_i, rRev_l, ap_fCallX, ap_gRaise, ap_gTry, ap_gTryAs, ap_gNever, ap_fEdic, ap_fTest, ap_fOp, ap_fVar, envGet_s, patGet_s, ap_fC, ap_fCB, ap_fCons, ap_fNil, ap_fCall, ap_fAnd, ap_fOr, ap_fNot, ap_fAndV, ap_fOrV, ap_fNotV, ap_fIf, ap_fTup, ap_fLst, ap_fLstO, ap_fChain, ap_fUn, ap_fBM, ap_fBM0, ap_fPool, rPool_i, ap_fSl, ap_fPart, ap_fNoPart, asI_i, rSl_l, ap_fiRng1, ap_fiRng2, ap_fiList, ap_fiTup, ap_fiStr, ap_fiEnum, ap_fiZip, ap_fiRev, asL_l, asT_t, asSg_s, asR1_i, asR2_i, asL1_l, asL2_l, ap_fLc, ap_fLcO, ap_fYes, wipeD, lcD, isi_i_int, isi_i_bool, isi_i_str, isi_i_tuple, isi_i_list, isi_i_dict, isi_b_int, isi_b_bool, isi_b_str, isi_b_tuple, isi_b_list, isi_b_dict, isi_s_int, isi_s_bool, isi_s_str, isi_s_tuple, isi_s_list, isi_s_dict, isi_t_int, isi_t_bool, isi_t_str, isi_t_tuple, isi_t_list, isi_t_dict, isi_l_int, isi_l_bool, isi_l_str, isi_l_tuple, isi_l_list, isi_l_dict, isi_n_int, isi_n_bool, isi_n_str, isi_n_tuple, isi_n_list, isi_n_dict, isi_d_int, isi_d_bool, isi_d_str, isi_d_tuple, isi_d_list, isi_d_dict,
  deref_tup, deref_lst, deref_int, deref_str, deref_bl, deref_non, deref_scr, rLt_i, rLt_s, rLe_i, rLe_s, rInts_i, rInts0_i, rAdd_i, rAdd_s, rAdd_l, rAdd_t, rCatO_l, rNeg_i, rLen_t, rLen_l, rLen_c, rLen_s, rMax_i, rMin_i, rInt_i, rInt_b, rDivmod_i, ap_gAug, rStr_i, rList_l, rList_t, rListO_l, rListO_t, rTup_l, rTup_t,
  rIx_t0, rIx_t1, rIx_t2, rIx_t3, rIx_l0, rIx_l1, rIx_l2, rIsN_x, isNon_t, isNon_n, isNon_i, isNon_s, isNon_l, rEq_i, rEq_b, rEq_i2, rEq_b2, rJoin_m, rSplit_s, tyOk_l, tyOk_s, patD_nm, patD_tp, patDs_nil, patDs_cons, Option.bind_some, notX, notX',
  List.map_cons, List.map_nil, List.length_cons, List.length_nil, List.cons_append, List.nil_append, List.append_nil, List.replicate, List.getElem?_cons_zero, List.getElem?_cons_succ, List.set_cons_zero, List.set_cons_succ, updO_same, updO_updO,
  Nat.reduceSub, Nat.reduceAdd, Nat.reduceLeDiff, Nat.zero_add, Int.cast_ofNat_Int, Int.natCast_zero, Int.natCast_one, Int.reduceLT, Int.reduceLE, Int.reduceEq, Int.reduceAdd, Int.reduceSub, Int.reduceNeg, decide_true, decide_false, if_true, if_false, Bool.false_eq_true, eq_self, reduceIte, Bool.true_eq_false, decide_eq_true_eq, Bool.not_true, Bool.not_false, Bool.not_eq_true', decide_eq_false_iff_not, exists_eq_left', exists_eq_left, D.bl.injEq, true_and, and_true, not_true_eq_false, not_false_eq_true])
section
variable {P : Program} {w : World} {K : PySem.W.Frag} {mg : Str → Option Value} {base : Heap}
local macro_rules | `(tactic| walk_at "tg") => `(tactic| simp (config := { failIfUnchanged := false }) only [te_name_take, te_name_give, te_name_pair, te_name_first, te_name_second, te_name_to, te_name_both, te_name_one, te_name_mark, te_name_name, te_name_thing, te_name_at, te_thing_take, te_thing_give, te_thing_pair, te_thing_first, te_thing_second, te_thing_to, te_thing_both, te_thing_one, te_thing_mark, te_thing_name, te_thing_thing, te_thing_at, te_take_take, te_take_give, te_take_pair, te_take_first, te_take_second, te_take_to, te_take_both, te_take_one, te_take_mark, te_take_name, te_take_thing, te_take_at, te_give_take, te_give_give, te_give_pair, te_give_first, te_give_second, te_give_to, te_give_both, te_give_one, te_give_mark, te_give_name, te_give_thing, te_give_at, te_pair_take, te_pair_give, te_pair_pair, te_pair_first, te_pair_second, te_pair_to, te_pair_both, te_pair_one, te_pair_mark, te_pair_name, te_pair_thing, te_pair_at, te_first_take, te_first_give, te_first_pair, te_first_first, te_first_second, te_first_to, te_first_both, te_first_one, te_first_mark, te_first_name, te_first_thing, te_first_at, te_second_take, te_second_give, te_second_pair, te_second_first, te_second_second, te_second_to, te_second_both, te_second_one, te_second_mark, te_second_name, te_second_thing, te_second_at, te_mark_take, te_mark_give, te_mark_pair, te_mark_first, te_mark_second, te_mark_to, te_mark_both, te_mark_one, te_mark_mark, te_mark_name, te_mark_thing, te_mark_at, te_one_take, te_one_give, te_one_pair, te_one_first, te_one_second, te_one_to, te_one_both, te_one_one, te_one_mark, te_one_name, te_one_thing, te_one_at, te_to_take, te_to_give, te_to_pair, te_to_first, te_to_second, te_to_to, te_to_both, te_to_one, te_to_mark, te_to_name, te_to_thing, te_to_at, te_both_take, te_both_give, te_both_pair, te_both_first, te_both_second, te_both_to, te_both_both, te_both_one, te_both_mark, te_both_name, te_both_thing, te_both_at, te_at_take, te_at_give, te_at_pair, te_at_first, te_at_second, te_at_to, te_at_both, te_at_one, te_at_mark, te_at_name, te_at_thing, te_at_at, ti4_name, ti4_thing, ti4_take, ti4_give, ti4_pair, ti4_first, ti4_second, ti2_name, ti2_thing, ti2_take, ti2_give, ti2_pair, ti2_first, ti2_second, szT_0, szT_1, szT_2, szT_3, szT_4, szT_5, szT_6, szT_7, szT_8, szT_9, szT_10, szT_11, szT_12, Bool.not_true, Bool.not_false, true_and])
def spRowU : DSp := fun ds O R _ => ∃ pa : Addr, ds = [.ref pa] ∧ O pa = some .pool ∧ ∀ kn : List (Str × Kd), RowU kn → kn.length ≤ 4 → (∀ q ∈ kn, q.1 ∈ ([Str.ofString "p", "q", "f", "g"] : List Str)) → R (.lst (kn.map kv)) O
def rowPQ : List (Str × Kd) := [("p", .mk "a"), ("q", .mk "b")]
theorem rowPQ_ok : RowU rowPQ := by
  refine ⟨fun q hq => ?_, by decide +kernel, by decide +kernel⟩
  simp only [rowPQ, List.mem_cons, List.not_mem_nil, or_false] at hq
  rcases hq with rfl | rfl <;> simp [Kd.over, Kd.leaves, UN, AB]
theorem RowU.snoc2 {kn : List (Str × Kd)} (h : RowU kn) {x : Str} {k : Kd} (hx : x = Str.ofString "f" ∨ x = Str.ofString "g") (ho : k.over AB) (hl : k.leaves ≤ 4) : RowU (kn ++ [(x, k)]) := by
  have h1 : x ∈ UN ∧ x ≠ "p" ∧ x ≠ "q" := by rcases hx with rfl | rfl <;> decide +kernel
  refine ⟨fun q hq => ?_, ?_, ?_⟩
  · rcases List.mem_append.mp hq with hq | hq
    · exact h.nm q hq
    · rw [List.mem_singleton.mp hq]; exact ⟨h1.1, ho, hl⟩
  · rw [envOf_snoc, if_neg h1.2.1]; exact h.ep
  · rw [envOf_snoc, if_neg h1.2.2]; exact h.eq
theorem ok_rowU (T : Tx K mg) : FO__law_row P w base T 6 spRowU := by
  refine fnd__law_row T (ok_take T.n__law_take) (ok_lkind T 4) (by walk_at "len") ?_
  rintro ds O R RE ⟨pa, rfl, hp, hR⟩
  unfold g__law_row
  refine gSeq_step ?_
  walk_at "kf1"
  walk_at "tg"
  intro f hf
  have hpf : ∀ c, updO O f c pa = some .pool := fun c => by
    have hne : pa ≠ f := fun z => by rw [z, hf] at hp; cases hp
    rw [updO_ne hne, hp]
  refine gSeq_step ?_
  walk_at "kf1"
  walk_at "tg"
  refine take_of (hpf _) (by decide) (by decide) fun r hr0 hr1 => ?_
  walk_at "kf1"
  have e : ∃ ts : List Str, cut [D.str "f", D.str "g"] none (some r) = ts.map D.str ∧ ts.length ≤ 2 ∧ ∀ t ∈ ts, t = Str.ofString "f" ∨ t = Str.ofString "g" := by
    have h3 : r = 0 ∨ r = 1 ∨ r = 2 := by omega
    rcases h3 with rfl | rfl | rfl
    · exact ⟨[], by simp [cut, HT.sIx], by simp, by simp⟩
    · exact ⟨["f"], by simp [cut, HT.sIx], by simp, by simp⟩
    · exact ⟨["f", "g"], by simp [cut, HT.sIx], by simp, by simp⟩
  obtain ⟨ts, e1, e2, e3⟩ := e
  rw [e1]
  refine forA_ix D.str (fun pre _ ρ O' => ∃ (kn : List (Str × Kd)) (x2 : Option D), ρ = [some (.ref pa), some (.ref f), x2] ∧ O' = updO O f (.lst (kn.map kv)) ∧ RowU kn ∧ kn.length = 2 + pre.length ∧ ∀ q ∈ kn, q.1 ∈ ([Str.ofString "p", "q", "f", "g"] : List Str)) ts [] _ _ ⟨rowPQ, _, rfl, rfl, rowPQ_ok, rfl, by decide +kernel⟩ ?_ ?_
  · rintro ρ O' ⟨kn, x2, rfl, rfl, h1, h2, h3⟩
    rw [List.nil_append] at h2
    try dsimp only
    walk_at "kf1"
    rw [delO_updO hf]
    exact hR kn h1 (by omega) h3
  · rintro pre t rest ep ρ O' ⟨kn, x2, rfl, rfl, h1, h2, h3⟩ N hN
    rw [List.nil_append] at ep
    have ht := e3 t (by rw [ep]; simp)
    have hpl : pre.length < 2 := by
      have := congrArg List.length ep
      rw [List.length_append, List.length_cons] at this
      omega
    walk_at "kf1"
    refine ⟨tyOk_r updO_same, ?_⟩
    refine take_of (hpf _) (by decide) (by decide) fun l hl0 hl1 => ?_
    walk_at "kf1"
    walk_at "tg"
    refine ⟨pa, (1 + l).toNat, AB, by rw [show (((1 + l).toNat : Nat) : Int) = 1 + l by omega]; rfl, hpf _, by omega, by omega, by omega, by decide, by decide, fun k h4 h5 => ?_⟩
    walk_at "tg"
    rw [rApp_r updO_same]
    refine ⟨Nat.lt_of_lt_of_le (show (kn.map kv).length < 100 by rw [List.length_map]; omega) (by decide), ?_⟩
    rw [updO_updO]
    refine hN _ _ ⟨kn ++ [(t, k)], _, rfl, by rw [List.map_append]; rfl, h1.snoc2 ht h5 (by omega), by simp only [List.length_append, List.length_singleton]; omega, fun q hq => ?_⟩
    rcases List.mem_append.mp hq with hq | hq
    · exact h3 q hq
    · rw [List.mem_singleton.mp hq]
      rcases ht with rfl | rfl <;> simp
def spWords : DSp := fun ds O R _ => ds = [] ∧ R (.lst (WD.map .str)) O
theorem ok_words (T : Tx K mg) : FO__law_words P w base T 1 spWords := by
  refine fnd__law_words T (by intro ds O R RE h; rw [h.1]; rfl) ?_
  rintro ds O R RE ⟨rfl, hR⟩
  unfold g__law_words
  walk_at "kf"
  walk_at "tg"
  exact hR
def pszs : List Pg → Nat
  | [] => 0
  | p :: ps => p.psz + pszs ps
theorem pszs_app : ∀ a b : List Pg, pszs (a ++ b) = pszs a + pszs b
  | [], b => by simp [pszs]
  | p :: a, b => by simp only [List.cons_append, pszs, pszs_app a b]; omega
theorem pszs_ins (p : Pg) : pszs p.ins + 1 = p.psz := by cases p <;> simp only [Pg.ins, pszs, Pg.psz] <;> omega
theorem pszs_len : ∀ ps : List Pg, ps.length ≤ pszs ps
  | [] => Nat.le_refl _
  | p :: ps => by have := pszs_len ps; have := p.psz_pos; simp only [List.length_cons, pszs]; omega
def spManyU : DSp := fun ds O R _ => ∃ p : Pg, ds = [dP p] ∧ p.sok = true ∧ p.psz ≤ 4194304 ∧ R (.int p.psz) O
theorem spWords_eq {O : Ow} {R : VD} {RE : XD} : spWords [] O R RE = R (.lst (WD.map .str)) O := by simp [spWords]
theorem szL_0 : ((0 : Nat) < sizeLine) = True := eq_true (by decide)
theorem szL_1 : ((1 : Nat) < sizeLine) = True := eq_true (by decide)
theorem szL_2 : ((2 : Nat) < sizeLine) = True := eq_true (by decide)
theorem many_lc {p : Pg} {x0 x1 x2 x3 : Option D} {O : Ow} {Q : List D → Ow → Prop} (hQ : Q (p.ins.map dP) O) :
    asT (dP p) O fun ds O1 => lcD (.nm 4) (fAnd (fTest (fCB rIsiD (fCons (fVar 4) (fCons (fC (.ty "tuple")) fNil)))) (fTest (fOp (rInD false) (fOp rIxD (fVar 4) (fC (.int 0))) (fCall spWords fNil)))) (fVar 4) [x0, x1, x2, x3, none] ds [] O1 Q := by
  cases p <;> simp only [dP, asT_t, Pg.ins, List.map_cons, List.map_nil] at hQ ⊢ <;> walk_at "kf" <;> (try simp only [isi_dP, isi_dK, rIx_dP0, rIx_dK0, spWords_eq, rIn_pw, rIn_kw, szL_0, szL_1, szL_2, true_and]) <;> walk_at "kf" <;> (try simp only [isi_dP, isi_dK, rIx_dP0, rIx_dK0, spWords_eq, rIn_pw, rIn_kw, szL_0, szL_1, szL_2, true_and]) <;> walk_at "kf" <;> (try simp only [isi_dP, isi_dK, rIx_dP0, rIx_dK0, spWords_eq, rIn_pw, rIn_kw, szL_0, szL_1, szL_2, true_and]) <;> walk_at "kf" <;> (try simp only [isi_dP, isi_dK, rIx_dP0, rIx_dK0, spWords_eq, rIn_pw, rIn_kw, szL_0, szL_1, szL_2, true_and]) <;> walk_at "kf" <;> (try simp only [isi_dP, isi_dK, rIx_dP0, rIx_dK0, spWords_eq, rIn_pw, rIn_kw, szL_0, szL_1, szL_2, true_and]) <;> walk_at "kf" <;> (try simp only [isi_dP, isi_dK, rIx_dP0, rIx_dK0, spWords_eq, rIn_pw, rIn_kw, szL_0, szL_1, szL_2, true_and]) <;> walk_at "kf" <;> (try simp only [isi_dP, isi_dK, rIx_dP0, rIx_dK0, spWords_eq, rIn_pw, rIn_kw, szL_0, szL_1, szL_2, true_and]) <;> walk_at "kf" <;> (try simp only [isi_dP, isi_dK, rIx_dP0, rIx_dK0, spWords_eq, rIn_pw, rIn_kw, szL_0, szL_1, szL_2, true_and]) <;> exact hQ
theorem py_Ps {ps : List Pg} (h : ∀ p ∈ ps, p.sok = true) : isPys (ps.map dP) = true := by
  rw [isPys_all, List.all_eq_true]
  intro d hd
  obtain ⟨p, hp, rfl⟩ := List.mem_map.mp hd
  rw [isPy_dP]
  exact h p hp
theorem ok_manyU (T : Tx K mg) : FO__law_many P w base T 2 spManyU := by
  refine fndG__law_many T (ok_words T) (by walk_at "len") ?_
  rintro ds O R RE ⟨p, rfl, hs, hz, hR⟩
  unfold g__law_many
  refine gSeq_step ?_
  walk_at "kf1"
  walk_at "tg"
  intro f hf
  refine gSeq_step ?_
  walk_at "kf1"
  refine gSeq_step ?_
  refine ⟨fun m ρ O' => ∃ (ps : List Pg) (n : Nat) (x3 x4 : Option D), ρ = [some (dP p), some (.ref f), some (.int (n : Int)), x3, x4] ∧ O' = updO O f (.lst (ps.map dP)) ∧ m = pszs ps ∧ n + pszs ps = p.psz ∧ ∀ q ∈ ps, q.sok = true, ⟨p.psz, [p], 0, none, none, rfl, rfl, by simp [pszs], by simp [pszs], by simpa using hs⟩, ?_⟩
  rintro m ρ O' ⟨ps, n, x3, x4, rfl, rfl, rfl, hn, hps⟩
  walk_at "kf1"
  walk_at "tg"
  rw [rEq_nilA (xs := ps.map dP) (deref_ref updO_same) (py_Ps hps)]
  rcases List.eq_nil_or_concat ps with rfl | ⟨qs, q, rfl⟩
  · simp only [List.map_nil, List.isEmpty_nil, Bool.xor_self]
    walk_at "kf1"
    simp only [pszs] at hn
    have : (n : Int) = p.psz := by omega
    rw [this]
    exact VG.up hf hR
  · have e1 : ((qs.concat q).map dP).isEmpty = false := by simp
    rw [e1]
    walk_at "kf1"
    have hq : q.sok = true := hps q (by simp)
    have hl := pszs_len (qs.concat q)
    have hsum : pszs (qs.concat q) = pszs qs + q.psz := by rw [List.concat_eq_append, pszs_app]; simp [pszs]
    have hins := pszs_ins q
    refine gSeq_step ?_
    walk_at "kf1"
    refine ⟨tyOk_r updO_same, ?_⟩
    have e2 : (qs.concat q).map dP = qs.map dP ++ [dP q] := by simp
    rw [e2, rPop_r updO_same (d := dP q) (by simp), updO_updO, List.dropLast_concat]
    walk_at "kf1"
    refine gSeq_step ?_
    walk_at "kf1"
    refine ⟨tyOk_r updO_same, ?_⟩
    refine many_lc ?_
    rw [rExt_r updO_same rfl]
    refine ⟨sz_21 ?_, ?_⟩
    · have := pszs_len q.ins
      have := pszs_len qs
      simp only [List.length_map]; omega
    · rw [updO_updO]
      refine ⟨pszs (qs ++ q.ins), by rw [hsum, pszs_app]; omega, qs ++ q.ins, n + 1, _, _, rfl, by rw [List.map_append], rfl, by rw [pszs_app]; omega, fun z hz => ?_⟩
      rcases List.mem_append.mp hz with hz | hz
      · exact hps z (by simp [hz])
      · exact (ins_ok hz hq).1
def spDrawnU : DSp := fun ds O R _ => ∃ (pa : Addr) (kn : List (Str × Kd)) (m : Nat), ds = [.ref pa, .lst (kn.map kv), .int m] ∧ O pa = some .pool ∧ RowU kn ∧ kn.length ≤ 4 ∧ 31 ≤ m ∧ ∀ (k : Kd) (p : Pg), k.over AB → k.leaves ≤ 4 → p.hgt ≤ 20 → p.psz ≤ m → hasU (envOf kn) p k → R (.tup [dK k, dP p]) O
theorem ok_drawnU (T : Tx K mg) : FO__law_drawn P w base T 60 spDrawnU := by
  refine fnd__law_drawn T (fnUp (ok_lkind T 4) (by omega)) (ok_take T.n__law_take) (fnUp (ok_progU T 17) (by omega)) (fnUp (ok_manyU T) (by omega)) (by walk_at "len") ?_
  rintro ds O R RE ⟨pa, kn, m, rfl, hp, hk, hkl, hm, hR⟩
  unfold g__law_drawn
  refine gSeq_step ?_
  walk_at "kf1"
  refine take_of hp (by decide) (by decide) fun l hl0 hl1 => ?_
  walk_at "kf1"
  walk_at "tg"
  refine ⟨pa, (1 + l).toNat, AB, by rw [show (((1 + l).toNat : Nat) : Int) = 1 + l by omega]; rfl, hp, by omega, by omega, by omega, by decide, by decide, fun k hkl2 hko => ?_⟩
  try dsimp only
  refine gSeq_step ?_
  walk_at "kf1"
  refine take_of hp (by decide) (by decide) fun r hr0 hr1 => ?_
  walk_at "kf1"
  refine ⟨pa, kn, k, 1 + r, rfl, hp, hk, hko, by omega, by omega, by omega, by unfold mU; omega, by unfold mU; omega, fun p hph hpk => ?_⟩
  unfold hU at hph
  have hsz : p.psz ≤ 4194304 := by
    have h1 := psz_hgt p
    have h2 : 2 ^ (p.hgt + 1) ≤ 2 ^ 21 := Nat.pow_le_pow_right (by decide) (by omega)
    have h3 : (2 : Nat) ^ 21 = 2097152 := by decide
    omega
  try dsimp only
  refine gSeq_step ?_
  walk_at "kf1"
  refine ⟨p, rfl, (pgu_ok p hpk.2).1, hsz, ?_⟩
  walk_at "kf1"
  split
  · refine ⟨pa, kn, k, 0, rfl, hp, hk, hko, by omega, by omega, by omega, by unfold mU; omega, by unfold mU; omega, fun q hqh hqk => ?_⟩
    unfold hU at hqh
    try dsimp only
    walk_at "kf1"
    walk_at "tg"
    have := psz4 (p := q) (by omega)
    exact hR k q hko (by omega) (by omega) (by omega) hqk
  · try dsimp only
    walk_at "kf1"
    walk_at "tg"
    exact hR k p hko (by omega) (by omega) (by omega) hpk
end
end Kf
namespace Kf
open PySem PySem.Spec L2
open PyProof.Rows hiding St
local macro_rules | `(tactic| walk_at "kf") => `(tactic| simp (config := { failIfUnchanged := false }) only [startD, ap_fOrL, rOrL_l, ap_fLcK, ap_gForK, ap_fMaxD, rMaxD_l, rMaxL_l, ap_fCallXD, ap_gForE, asLE_l, ap_fFrz, ap_fDicO, ap_fDGet, ap_fDGet1, ap_fDGet2, ap_gDPut, ap_fIsiT, ap_gForR, rRep_l, isT_i, isT_s, isT_b, isT_n, isT_t, isT_l, ap_gSeq, ap_gIf, ap_gRet, ap_gNext, ap_gSet, ap_gAsg, ap_gDrop, ap_gRetF, ap_gRetN, ap_gFor, ap_gSetIx, ap_gBreak, ap_fRev, ap_fiRevR, asIR_i, rRev_l, ap_fCallX, ap_gRaise, ap_gTry, ap_gTryAs, ap_gNever, ap_fEdic, ap_fTest, ap_fOp, ap_fVar, envGet_s, patGet_s, ap_fC, ap_fCB, ap_fCons, ap_fNil, ap_fCall, ap_fAnd, ap_fOr, ap_fNot, ap_fAndV, ap_fOrV, ap_fNotV, ap_fIf, ap_fTup, ap_fLst, ap_fLstO, ap_fChain, ap_fUn, ap_fBM, ap_fBM0, ap_fPool, rPool_i, ap_fSl, ap_fPart, ap_fNoPart, asI_i, rSl_l, ap_fiRng1, ap_fiRng2, ap_fiList, ap_fiTup, ap_fiStr, ap_fiEnum, ap_fiZip, ap_fiRev, asL_l, asT_t, asSg_s, asR1_i, asR2_i, asL1_l, asL2_l, ap_fLc, ap_fLcO, ap_fYes, wipeD, lcD, isi_i_int, isi_i_bool, isi_i_str, isi_i_tuple, isi_i_list, isi_i_dict, isi_b_int, isi_b_bool, isi_b_str, isi_b_tuple, isi_b_list, isi_b_dict, isi_s_int, isi_s_bool, isi_s_str, isi_s_tuple, isi_s_list, isi_s_dict, isi_t_int, isi_t_bool, isi_t_str, isi_t_tuple, isi_t_list, isi_t_dict, isi_l_int, isi_l_bool, isi_l_str, isi_l_tuple, isi_l_list, isi_l_dict, isi_n_int, isi_n_bool, isi_n_str, isi_n_tuple, isi_n_list, isi_n_dict, isi_d_int, isi_d_bool, isi_d_str, isi_d_tuple, isi_d_list, isi_d_dict,
  deref_tup, deref_lst, deref_int, deref_str, deref_bl, deref_non, deref_scr, rLt_i, rLt_s, rLe_i, rLe_s, rInts_i, rInts0_i, rAdd_i, rAdd_s, rAdd_l, rAdd_t, rCatO_l, rNeg_i, rLen_t, rLen_l, rLen_c, rLen_s, rMax_i, rMin_i, rInt_i, rInt_b, rDivmod_i, ap_gAug, rStr_i, rList_l, rList_t, rListO_l, rListO_t, rTup_l, rTup_t,
  rIx_t0, rIx_t1, rIx_t2, rIx_t3, rIx_l0, rIx_l1, rIx_l2, rIsN_x, isNon_t, isNon_n, isNon_i, isNon_s, isNon_l, rEq_i, rEq_b, rEq_i2, rEq_b2, rJoin_m, rSplit_s, tyOk_l, tyOk_s, patD_nm, patD_tp, patDs_nil, patDs_cons, Option.bind_some, notX, notX',
  List.map_cons, List.map_nil, List.length_cons, List.length_nil, List.cons_append, List.nil_append, List.append_nil, List.replicate, List.getElem?_cons_zero, List.getElem?_cons_succ, List.set_cons_zero, List.set_cons_succ, updO_same, updO_updO,
  Nat.reduceSub, Nat.reduceAdd, Nat.reduceLeDiff, Nat.zero_add, Int.cast_ofNat_Int, Int.natCast_zero, Int.natCast_one, Int.reduceLT, Int.reduceLE, Int.reduceEq, Int.reduceAdd, Int.reduceSub, Int.reduceNeg, decide_true, decide_false, if_true, if_false, Bool.false_eq_true, eq_self, reduceIte, Bool.true_eq_false, decide_eq_true_eq, Bool.not_true, Bool.not_false, Bool.not_eq_true', decide_eq_false_iff_not, exists_eq_left', exists_eq_left, D.bl.injEq, true_and, and_true, not_true_eq_false, not_false_eq_true])
local macro_rules | `(tactic| walk_at "len") => `(tactic| (intro ds O R RE h; first | (obtain ⟨e, _⟩ := h; subst e; rfl) | (obtain ⟨_, e, _⟩ := h; subst e; rfl) | (obtain ⟨_, _, e, _⟩ := h; subst e; rfl) | (obtain ⟨_, _, _, e, _⟩ := h; subst e; rfl) | (obtain ⟨_, _, _, _, e, _⟩ := h; subst e; rfl) | (obtain ⟨_, _, _, _, _, e, _⟩ := h; subst e; rfl) | (obtain ⟨_, _, _, _, _, _, e, _⟩ := h; subst e; rfl) | (obtain ⟨_, _, _, _, _, _, _, e, _⟩ := h; subst e; rfl) | (obtain ⟨_, _, _, _, _, _, _, _, e, _⟩ := h; subst e; rfl) | (obtain ⟨_, _, _, _, _, _, _, _, _, e, _⟩ := h; subst e; rfl)))
local macro_rules | `(tactic| walk_at "kf1") => `(tactic| simp (config := { failIfUnchanged := false }) only [startD, ap_fOrL, rOrL_l, ap_fLcK, ap_gForK, ap_fMaxD, rMaxD_l, rMaxL_l, ap_fCallXD, ap_gForE, asLE_l, ap_fFrz, ap_fDicO, ap_fDGet, ap_fDGet1, ap_fDGet2, ap_gDPut, ap_fIsiT, ap_gForR, rRep_l, isT_i, isT_s, isT_b, isT_n, isT_t, isT_l, ap_gIf, ap_gRet, ap_gNext, ap_gSet, ap_gAsg, ap_gDrop, ap_gRetF, ap_gRetN, ap_gFor, ap_gSetIx, ap_gBreak, ap_fRev, ap_fiRevR, asIR_i, rRev_l, ap_fCallX, ap_gRaise, ap_gTry, ap_gTryAs, ap_gNever, ap_fEdic, ap_fTest, ap_fOp, ap_fVar, envGet_s, patGet_s, ap_fC, ap_fCB, ap_fCons, ap_fNil, ap_fCall, ap_fAnd, ap_fOr, ap_fNot, ap_fAndV, ap_fOrV, ap_fNotV, ap_fIf, ap_fTup, ap_fLst, ap_fLstO, ap_fChain, ap_fUn, ap_fBM, ap_fBM0, ap_fPool, rPool_i, ap_fSl, ap_fPart, ap_fNoPart, asI_i, rSl_l, ap_fiRng1, ap_fiRng2, ap_fiList, ap_fiTup, ap_fiStr, ap_fiEnum, ap_fiZip, ap_fiRev, asL_l, asT_t, asSg_s, asR1_i, asR2_i, asL1_l, asL2_l, ap_fLc, ap_fLcO, ap_fYes, wipeD, lcD, isi_i_int, isi_i_bool, isi_i_str, isi_i_tuple, isi_i_list, isi_i_dict, isi_b_int, isi_b_bool, isi_b_str, isi_b_tuple, isi_b_list, isi_b_dict, isi_s_int, isi_s_bool, isi_s_str, isi_s_tuple, isi_s_list, isi_s_dict, isi_t_int, isi_t_bool, isi_t_str, isi_t_tuple, isi_t_list, isi_t_dict, isi_l_int, isi_l_bool, isi_l_str, isi_l_tuple, isi_l_list, isi_l_dict, isi_n_int, isi_n_bool, isi_n_str, isi_n_tuple, isi_n_list, isi_n_dict, isi_d_int, isi_d_bool, isi_d_str, isi_d_tuple, isi_d_list, isi_d_dict,
  deref_tup, deref_lst, deref_int, deref_str, deref_bl, deref_non, deref_scr, rLt_i, rLt_s, rLe_i, rLe_s, rInts_i, rInts0_i, rAdd_i, rAdd_s, rAdd_l, rAdd_t, rCatO_l, rNeg_i, rLen_t, rLen_l, rLen_c, rLen_s, rMax_i, rMin_i, rInt_i, rInt_b, rDivmod_i, ap_gAug, rStr_i, rList_l, rList_t, rListO_l, rListO_t, rTup_l, rTup_t,
  rIx_t0, rIx_t1, rIx_t2, rIx_t3, rIx_l0, rIx_l1, rIx_l2, rIsN_x, isNon_t, isNon_n, isNon_i, isNon_s, isNon_l, rEq_i, rEq_b, rEq_i2, rEq_b2, rJoin_m, rSplit_s, tyOk_l, tyOk_s, patD_nm, patD_tp, patDs_nil, patDs_cons, Option.bind_some, notX, notX',
  List.map_cons, List.map_nil, List.length_cons, List.length_nil, List.cons_append, List.nil_append, List.append_nil, List.replicate, List.getElem?_cons_zero, List.getElem?_cons_succ, List.set_cons_zero, List.set_cons_succ, updO_same, updO_updO,
  Nat.reduceSub, Nat.reduceAdd, Nat.reduceLeDiff, Nat.zero_add, Int.cast_ofNat_Int, Int.natCast_zero, Int.natCast_one, Int.reduceLT, Int.reduceLE, Int.reduceEq, Int.reduceAdd, Int.reduceSub, Int.reduceNeg, decide_true, decide_false, if_true, if_false, Bool.false_eq_true, eq_self, reduceIte, Bool.true_eq_false, decide_eq_true_eq, Bool.not_true, Bool.not_false, Bool.not_eq_true', decide_eq_false_iff_not, exists_eq_left', exists_eq_left, D.bl.injEq, true_and, and_true, not_true_eq_false, not_false_eq_true])
section
variable {P : Program} {w : World} {K : PySem.W.Frag} {mg : Str → Option Value} {base : Heap}
local macro_rules | `(tactic| walk_at "tg") => `(tactic| simp (config := { failIfUnchanged := false }) only [te_name_take, te_name_give, te_name_pair, te_name_first, te_name_second, te_name_to, te_name_both, te_name_one, te_name_mark, te_name_name, te_name_thing, te_name_at, te_thing_take, te_thing_give, te_thing_pair, te_thing_first, te_thing_second, te_thing_to, te_thing_both, te_thing_one, te_thing_mark, te_thing_name, te_thing_thing, te_thing_at, te_take_take, te_take_give, te_take_pair, te_take_first, te_take_second, te_take_to, te_take_both, te_take_one, te_take_mark, te_take_name, te_take_thing, te_take_at, te_give_take, te_give_give, te_give_pair, te_give_first, te_give_second, te_give_to, te_give_both, te_give_one, te_give_mark, te_give_name, te_give_thing, te_give_at, te_pair_take, te_pair_give, te_pair_pair, te_pair_first, te_pair_second, te_pair_to, te_pair_both, te_pair_one, te_pair_mark, te_pair_name, te_pair_thing, te_pair_at, te_first_take, te_first_give, te_first_pair, te_first_first, te_first_second, te_first_to, te_first_both, te_first_one, te_first_mark, te_first_name, te_first_thing, te_first_at, te_second_take, te_second_give, te_second_pair, te_second_first, te_second_second, te_second_to, te_second_both, te_second_one, te_second_mark, te_second_name, te_second_thing, te_second_at, te_mark_take, te_mark_give, te_mark_pair, te_mark_first, te_mark_second, te_mark_to, te_mark_both, te_mark_one, te_mark_mark, te_mark_name, te_mark_thing, te_mark_at, te_one_take, te_one_give, te_one_pair, te_one_first, te_one_second, te_one_to, te_one_both, te_one_one, te_one_mark, te_one_name, te_one_thing, te_one_at, te_to_take, te_to_give, te_to_pair, te_to_first, te_to_second, te_to_to, te_to_both, te_to_one, te_to_mark, te_to_name, te_to_thing, te_to_at, te_both_take, te_both_give, te_both_pair, te_both_first, te_both_second, te_both_to, te_both_both, te_both_one, te_both_mark, te_both_name, te_both_thing, te_both_at, te_at_take, te_at_give, te_at_pair, te_at_first, te_at_second, te_at_to, te_at_both, te_at_one, te_at_mark, te_at_name, te_at_thing, te_at_at, ti4_name, ti4_thing, ti4_take, ti4_give, ti4_pair, ti4_first, ti4_second, ti2_name, ti2_thing, ti2_take, ti2_give, ti2_pair, ti2_first, ti2_second, szT_0, szT_1, szT_2, szT_3, szT_4, szT_5, szT_6, szT_7, szT_8, szT_9, szT_10, szT_11, szT_12, Bool.not_true, Bool.not_false, true_and])
def spInnerO : DSp := fun ds O R _ => ∃ p : Pg, ds = [dP p] ∧ ∀ a, O a = none → R (.ref a) (updO O a (.lst (p.ins.map dP)))
theorem cut1_2 (a b : D) : cut [a, b] (some 1) none = [b] := by simp [cut, HT.sIx]
theorem cut1_3 (a b c : D) : cut [a, b, c] (some 1) none = [b, c] := by simp [cut, HT.sIx]
theorem sl1_2 {a b : D} {O : Ow} {Q : VD} : rSlD (.tup [a, b]) (some 1) none O Q = Q (.tup [b]) O := by
  rw [rSl_t (by simp [HT.sIx]), cut1_2]
theorem sl1_3 {a b c : D} {O : Ow} {Q : VD} : rSlD (.tup [a, b, c]) (some 1) none O Q = Q (.tup [b, c]) O := by
  rw [rSl_t (by simp [HT.sIx]), cut1_3]
theorem ok_innerO (T : Tx K mg) : FO_inner P w base T 1 spInnerO := by
  refine fnd_inner T (by walk_at "len") ?_
  rintro ds O R RE ⟨p, rfl, hR⟩
  unfold g_inner
  cases p <;> simp only [dP, Pg.ins] at hR ⊢ <;> walk_at "kf" <;> walk_at "tg" <;> walk_at "kf" <;> walk_at "tg" <;> walk_at "kf" <;> (try simp only [sl1_2, sl1_3]) <;> walk_at "kf" <;> walk_at "tg" <;> exact hR
def spWithInner : DSp := fun ds O R _ => ∃ (p : Pg) (x : D) (qs : List Pg), ds = [dP p, x] ∧ deref O x = .lst (qs.map dP) ∧ qs.length = p.ins.length ∧ (∀ q ∈ qs, q.sok = true) ∧ R (dP (setIns p qs)) O
theorem rIx_d {x : D} {xs : List D} {i : Int} {d : D} {O : Ow} {Q : VD} (h : deref O x = .lst xs) (e : atI xs i = some d) : rIxD x (.int i) O Q = Q d O := by
  cases x with
  | ref a => simp only [deref] at h; split at h <;> first | (cases h; rename_i e2; rw [rIx_r e2 e]) | cases h
  | lst ys => cases h; exact rIx_l e
  | _ => cases h
theorem rTup_d {x : D} {xs : List D} {O : Ow} {Q : VD} (h : deref O x = .lst xs) : rTup1 [x] O Q = Q (.tup xs) O := by
  simp only [rTup1, h]
theorem isPys_dP {qs : List Pg} (h : ∀ q ∈ qs, q.sok = true) : isPys (qs.map dP) = true := by
  rw [isPys_all, List.all_eq_true]
  intro d hd
  obtain ⟨q, hq, rfl⟩ := List.mem_map.mp hd
  rw [isPy_dP]; exact h q hq
theorem ok_with_inner (T : Tx K mg) : FO_with_inner P w base T 1 spWithInner := by
  refine fnd_with_inner T (by walk_at "len") ?_
  rintro ds O R RE ⟨p, x, qs, rfl, hx, hl, hs, hR⟩
  unfold g_with_inner
  have eqn : ∀ Q : VD, rEqD false x (.lst []) O Q = Q (.bl qs.isEmpty) O := fun Q => by
    rw [rEq_nilA hx (isPys_dP hs), Bool.false_xor]
    cases qs <;> rfl
  cases p with
  | nm y =>
    obtain rfl : qs = [] := List.length_eq_zero_iff.mp hl
    simp only [dP]
    walk_at "kf"
    walk_at "tg"
    walk_at "kf"
    walk_at "tg"
    rw [eqn]
    walk_at "kf"
    exact hR
  | thing =>
    obtain rfl : qs = [] := List.length_eq_zero_iff.mp hl
    simp only [dP]
    walk_at "kf"
    walk_at "tg"
    walk_at "kf"
    walk_at "tg"
    rw [eqn]
    walk_at "kf"
    exact hR
  | take y k b =>
    obtain ⟨c, rfl⟩ : ∃ c, qs = [c] := List.length_eq_one_iff.mp hl
    simp only [dP]
    walk_at "kf"
    walk_at "tg"
    walk_at "kf"
    rw [rIx_d hx (ixC0 _ _)]
    walk_at "tg"
    exact hR
  | first b =>
    obtain ⟨c, rfl⟩ : ∃ c, qs = [c] := List.length_eq_one_iff.mp hl
    simp only [dP]
    walk_at "kf"
    walk_at "tg"
    walk_at "kf"
    walk_at "tg"
    rw [eqn]
    walk_at "kf"
    walk_at "tg"
    rw [rTup_d hx]
    walk_at "kf"
    exact ⟨by simp, sz_small (by decide), hR⟩
  | second b =>
    obtain ⟨c, rfl⟩ : ∃ c, qs = [c] := List.length_eq_one_iff.mp hl
    simp only [dP]
    walk_at "kf"
    walk_at "tg"
    walk_at "kf"
    walk_at "tg"
    rw [eqn]
    walk_at "kf"
    walk_at "tg"
    rw [rTup_d hx]
    walk_at "kf"
    exact ⟨by simp, sz_small (by decide), hR⟩
  | give f b =>
    obtain ⟨c, d, rfl⟩ : ∃ c d, qs = [c, d] := len2 hl
    simp only [dP]
    walk_at "kf"
    walk_at "tg"
    walk_at "kf"
    walk_at "tg"
    rw [eqn]
    walk_at "kf"
    walk_at "tg"
    rw [rTup_d hx]
    walk_at "kf"
    exact ⟨by simp, sz_small (by decide), hR⟩
  | pair f b =>
    obtain ⟨c, d, rfl⟩ : ∃ c d, qs = [c, d] := len2 hl
    simp only [dP]
    walk_at "kf"
    walk_at "tg"
    walk_at "kf"
    walk_at "tg"
    rw [eqn]
    walk_at "kf"
    walk_at "tg"
    rw [rTup_d hx]
    walk_at "kf"
    exact ⟨by simp, sz_small (by decide), hR⟩
end
end Kf
namespace Kf
open PySem PySem.Spec L2
open PyProof.Rows hiding St
local macro_rules | `(tactic| walk_at "kf") => `(tactic| simp (config := { failIfUnchanged := false }) only [startD, ap_fOrL, rOrL_l, ap_fLcK, ap_gForK, ap_fMaxD, rMaxD_l, rMaxL_l, ap_fCallXD, ap_gForE, asLE_l, ap_fFrz, ap_fDicO, ap_fDGet, ap_fDGet1, ap_fDGet2, ap_gDPut, ap_fIsiT, ap_gForR, rRep_l, isT_i, isT_s, isT_b, isT_n, isT_t, isT_l, ap_gSeq, ap_gIf, ap_gRet, ap_gNext, ap_gSet, ap_gAsg, ap_gDrop, ap_gRetF, ap_gRetN, ap_gFor, ap_gSetIx, ap_gBreak, ap_fRev, ap_fiRevR, asIR_i, rRev_l, ap_fCallX, ap_gRaise, ap_gTry, ap_gTryAs, ap_gNever, ap_fEdic, ap_fTest, ap_fOp, ap_fVar, envGet_s, patGet_s, ap_fC, ap_fCB, ap_fCons, ap_fNil, ap_fCall, ap_fAnd, ap_fOr, ap_fNot, ap_fAndV, ap_fOrV, ap_fNotV, ap_fIf, ap_fTup, ap_fLst, ap_fLstO, ap_fChain, ap_fUn, ap_fBM, ap_fBM0, ap_fPool, rPool_i, ap_fSl, ap_fPart, ap_fNoPart, asI_i, rSl_l, ap_fiRng1, ap_fiRng2, ap_fiList, ap_fiTup, ap_fiStr, ap_fiEnum, ap_fiZip, ap_fiRev, asL_l, asT_t, asSg_s, asR1_i, asR2_i, asL1_l, asL2_l, ap_fLc, ap_fLcO, ap_fYes, wipeD, lcD, isi_i_int, isi_i_bool, isi_i_str, isi_i_tuple, isi_i_list, isi_i_dict, isi_b_int, isi_b_bool, isi_b_str, isi_b_tuple, isi_b_list, isi_b_dict, isi_s_int, isi_s_bool, isi_s_str, isi_s_tuple, isi_s_list, isi_s_dict, isi_t_int, isi_t_bool, isi_t_str, isi_t_tuple, isi_t_list, isi_t_dict, isi_l_int, isi_l_bool, isi_l_str, isi_l_tuple, isi_l_list, isi_l_dict, isi_n_int, isi_n_bool, isi_n_str, isi_n_tuple, isi_n_list, isi_n_dict, isi_d_int, isi_d_bool, isi_d_str, isi_d_tuple, isi_d_list, isi_d_dict,
  deref_tup, deref_lst, deref_int, deref_str, deref_bl, deref_non, deref_scr, rLt_i, rLt_s, rLe_i, rLe_s, rInts_i, rInts0_i, rAdd_i, rAdd_s, rAdd_l, rAdd_t, rCatO_l, rNeg_i, rLen_t, rLen_l, rLen_c, rLen_s, rMax_i, rMin_i, rInt_i, rInt_b, rDivmod_i, ap_gAug, rStr_i, rList_l, rList_t, rListO_l, rListO_t, rTup_l, rTup_t,
  rIx_t0, rIx_t1, rIx_t2, rIx_t3, rIx_l0, rIx_l1, rIx_l2, rIsN_x, isNon_t, isNon_n, isNon_i, isNon_s, isNon_l, rEq_i, rEq_b, rEq_i2, rEq_b2, rJoin_m, rSplit_s, tyOk_l, tyOk_s, patD_nm, patD_tp, patDs_nil, patDs_cons, Option.bind_some, notX, notX',
  List.map_cons, List.map_nil, List.length_cons, List.length_nil, List.cons_append, List.nil_append, List.append_nil, List.replicate, List.getElem?_cons_zero, List.getElem?_cons_succ, List.set_cons_zero, List.set_cons_succ, updO_same, updO_updO,
  Nat.reduceSub, Nat.reduceAdd, Nat.reduceLeDiff, Nat.zero_add, Int.cast_ofNat_Int, Int.natCast_zero, Int.natCast_one, Int.reduceLT, Int.reduceLE, Int.reduceEq, Int.reduceAdd, Int.reduceSub, Int.reduceNeg, decide_true, decide_false, if_true, if_false, Bool.false_eq_true, eq_self, reduceIte, Bool.true_eq_false, decide_eq_true_eq, Bool.not_true, Bool.not_false, Bool.not_eq_true', decide_eq_false_iff_not, exists_eq_left', exists_eq_left, D.bl.injEq, true_and, and_true, not_true_eq_false, not_false_eq_true])
local macro_rules | `(tactic| walk_at "len") => `(tactic| (intro ds O R RE h; first | (obtain ⟨e, _⟩ := h; subst e; rfl) | (obtain ⟨_, e, _⟩ := h; subst e; rfl) | (obtain ⟨_, _, e, _⟩ := h; subst e; rfl) | (obtain ⟨_, _, _, e, _⟩ := h; subst e; rfl) | (obtain ⟨_, _, _, _, e, _⟩ := h; subst e; rfl) | (obtain ⟨_, _, _, _, _, e, _⟩ := h; subst e; rfl) | (obtain ⟨_, _, _, _, _, _, e, _⟩ := h; subst e; rfl) | (obtain ⟨_, _, _, _, _, _, _, e, _⟩ := h; subst e; rfl) | (obtain ⟨_, _, _, _, _, _, _, _, e, _⟩ := h; subst e; rfl) | (obtain ⟨_, _, _, _, _, _, _, _, _, e, _⟩ := h; subst e; rfl)))
local macro_rules | `(tactic| walk_at "kf1") => `(tactic| simp (config := { failIfUnchanged := false }) only [startD, ap_fOrL, rOrL_l, ap_fLcK, ap_gForK, ap_fMaxD, rMaxD_l, rMaxL_l, ap_fCallXD, ap_gForE, asLE_l, ap_fFrz, ap_fDicO, ap_fDGet, ap_fDGet1, ap_fDGet2, ap_gDPut, ap_fIsiT, ap_gForR, rRep_l, isT_i, isT_s, isT_b, isT_n, isT_t, isT_l, ap_gIf, ap_gRet, ap_gNext, ap_gSet, ap_gAsg, ap_gDrop, ap_gRetF, ap_gRetN, ap_gFor, ap_gSetIx, ap_gBreak, ap_fRev, ap_fiRevR, asIR_i, rRev_l, ap_fCallX, ap_gRaise, ap_gTry, ap_gTryAs, ap_gNever, ap_fEdic, ap_fTest, ap_fOp, ap_fVar, envGet_s, patGet_s, ap_fC, ap_fCB, ap_fCons, ap_fNil, ap_fCall, ap_fAnd, ap_fOr, ap_fNot, ap_fAndV, ap_fOrV, ap_fNotV, ap_fIf, ap_fTup, ap_fLst, ap_fLstO, ap_fChain, ap_fUn, ap_fBM, ap_fBM0, ap_fPool, rPool_i, ap_fSl, ap_fPart, ap_fNoPart, asI_i, rSl_l, ap_fiRng1, ap_fiRng2, ap_fiList, ap_fiTup, ap_fiStr, ap_fiEnum, ap_fiZip, ap_fiRev, asL_l, asT_t, asSg_s, asR1_i, asR2_i, asL1_l, asL2_l, ap_fLc, ap_fLcO, ap_fYes, wipeD, lcD, isi_i_int, isi_i_bool, isi_i_str, isi_i_tuple, isi_i_list, isi_i_dict, isi_b_int, isi_b_bool, isi_b_str, isi_b_tuple, isi_b_list, isi_b_dict, isi_s_int, isi_s_bool, isi_s_str, isi_s_tuple, isi_s_list, isi_s_dict, isi_t_int, isi_t_bool, isi_t_str, isi_t_tuple, isi_t_list, isi_t_dict, isi_l_int, isi_l_bool, isi_l_str, isi_l_tuple, isi_l_list, isi_l_dict, isi_n_int, isi_n_bool, isi_n_str, isi_n_tuple, isi_n_list, isi_n_dict, isi_d_int, isi_d_bool, isi_d_str, isi_d_tuple, isi_d_list, isi_d_dict,
  deref_tup, deref_lst, deref_int, deref_str, deref_bl, deref_non, deref_scr, rLt_i, rLt_s, rLe_i, rLe_s, rInts_i, rInts0_i, rAdd_i, rAdd_s, rAdd_l, rAdd_t, rCatO_l, rNeg_i, rLen_t, rLen_l, rLen_c, rLen_s, rMax_i, rMin_i, rInt_i, rInt_b, rDivmod_i, ap_gAug, rStr_i, rList_l, rList_t, rListO_l, rListO_t, rTup_l, rTup_t,
  rIx_t0, rIx_t1, rIx_t2, rIx_t3, rIx_l0, rIx_l1, rIx_l2, rIsN_x, isNon_t, isNon_n, isNon_i, isNon_s, isNon_l, rEq_i, rEq_b, rEq_i2, rEq_b2, rJoin_m, rSplit_s, tyOk_l, tyOk_s, patD_nm, patD_tp, patDs_nil, patDs_cons, Option.bind_some, notX, notX',
  List.map_cons, List.map_nil, List.length_cons, List.length_nil, List.cons_append, List.nil_append, List.append_nil, List.replicate, List.getElem?_cons_zero, List.getElem?_cons_succ, List.set_cons_zero, List.set_cons_succ, updO_same, updO_updO,
  Nat.reduceSub, Nat.reduceAdd, Nat.reduceLeDiff, Nat.zero_add, Int.cast_ofNat_Int, Int.natCast_zero, Int.natCast_one, Int.reduceLT, Int.reduceLE, Int.reduceEq, Int.reduceAdd, Int.reduceSub, Int.reduceNeg, decide_true, decide_false, if_true, if_false, Bool.false_eq_true, eq_self, reduceIte, Bool.true_eq_false, decide_eq_true_eq, Bool.not_true, Bool.not_false, Bool.not_eq_true', decide_eq_false_iff_not, exists_eq_left', exists_eq_left, D.bl.injEq, true_and, and_true, not_true_eq_false, not_false_eq_true])
section
variable {P : Program} {w : World} {K : PySem.W.Frag} {mg : Str → Option Value} {base : Heap}
local macro_rules | `(tactic| walk_at "tg") => `(tactic| simp (config := { failIfUnchanged := false }) only [te_name_take, te_name_give, te_name_pair, te_name_first, te_name_second, te_name_to, te_name_both, te_name_one, te_name_mark, te_name_name, te_name_thing, te_name_at, te_thing_take, te_thing_give, te_thing_pair, te_thing_first, te_thing_second, te_thing_to, te_thing_both, te_thing_one, te_thing_mark, te_thing_name, te_thing_thing, te_thing_at, te_take_take, te_take_give, te_take_pair, te_take_first, te_take_second, te_take_to, te_take_both, te_take_one, te_take_mark, te_take_name, te_take_thing, te_take_at, te_give_take, te_give_give, te_give_pair, te_give_first, te_give_second, te_give_to, te_give_both, te_give_one, te_give_mark, te_give_name, te_give_thing, te_give_at, te_pair_take, te_pair_give, te_pair_pair, te_pair_first, te_pair_second, te_pair_to, te_pair_both, te_pair_one, te_pair_mark, te_pair_name, te_pair_thing, te_pair_at, te_first_take, te_first_give, te_first_pair, te_first_first, te_first_second, te_first_to, te_first_both, te_first_one, te_first_mark, te_first_name, te_first_thing, te_first_at, te_second_take, te_second_give, te_second_pair, te_second_first, te_second_second, te_second_to, te_second_both, te_second_one, te_second_mark, te_second_name, te_second_thing, te_second_at, te_mark_take, te_mark_give, te_mark_pair, te_mark_first, te_mark_second, te_mark_to, te_mark_both, te_mark_one, te_mark_mark, te_mark_name, te_mark_thing, te_mark_at, te_one_take, te_one_give, te_one_pair, te_one_first, te_one_second, te_one_to, te_one_both, te_one_one, te_one_mark, te_one_name, te_one_thing, te_one_at, te_to_take, te_to_give, te_to_pair, te_to_first, te_to_second, te_to_to, te_to_both, te_to_one, te_to_mark, te_to_name, te_to_thing, te_to_at, te_both_take, te_both_give, te_both_pair, te_both_first, te_both_second, te_both_to, te_both_both, te_both_one, te_both_mark, te_both_name, te_both_thing, te_both_at, te_at_take, te_at_give, te_at_pair, te_at_first, te_at_second, te_at_to, te_at_both, te_at_one, te_at_mark, te_at_name, te_at_thing, te_at_at, ti4_name, ti4_thing, ti4_take, ti4_give, ti4_pair, ti4_first, ti4_second, ti2_name, ti2_thing, ti2_take, ti2_give, ti2_pair, ti2_first, ti2_second, szT_0, szT_1, szT_2, szT_3, szT_4, szT_5, szT_6, szT_7, szT_8, szT_9, szT_10, szT_11, szT_12, Bool.not_true, Bool.not_false, true_and])
theorem xn_ok64 : ∀ k, k < 512 → PyData.strOk (xn k) = true ∧ (Str.ofString "x").length + (Str.ofString (toString (k : Int))).length ≤ 100 := by
  have h : ∀ k ∈ List.range 512, PyData.strOk (xn k) = true ∧ (Str.ofString "x").length + (Str.ofString (toString (k : Int))).length ≤ 100 := by decide +kernel
  exact fun k hk => h k (List.mem_range.mpr hk)
theorem tidy_ok : ∀ (p : Pg) (c : List Str), p.sok = true → c.length + p.hgt < 512 → (tidy p c).sok = true ∧ (tidy p c).dpt = p.dpt
  | .nm x, c, h, hl => by
    simp only [tidy]
    cases e : ri c x with
    | none => exact ⟨h, rfl⟩
    | some i => exact ⟨(xn_ok64 _ (by simp only [Pg.hgt] at hl; omega)).1, rfl⟩
  | .thing, c, h, hl => ⟨rfl, rfl⟩
  | .take x k b, c, h, hl => by
    simp only [Pg.sok, Bool.and_eq_true] at h
    simp only [Pg.hgt] at hl
    have ih := tidy_ok b (x :: c) h.2 (by rw [List.length_cons]; omega)
    simp only [tidy, Pg.sok, Pg.dpt, ih.1, ih.2, (xn_ok64 c.length (by omega)).1, h.1.2, Bool.and_self, and_self]
  | .give f a, c, h, hl => by
    simp only [Pg.sok, Bool.and_eq_true] at h
    simp only [Pg.hgt] at hl
    have h1 := tidy_ok f c h.1 (by omega)
    have h2 := tidy_ok a c h.2 (by omega)
    simp only [tidy, Pg.sok, Pg.dpt, h1.1, h1.2, h2.1, h2.2, Bool.and_self, and_self]
  | .pair f a, c, h, hl => by
    simp only [Pg.sok, Bool.and_eq_true] at h
    simp only [Pg.hgt] at hl
    have h1 := tidy_ok f c h.1 (by omega)
    have h2 := tidy_ok a c h.2 (by omega)
    simp only [tidy, Pg.sok, Pg.dpt, h1.1, h1.2, h2.1, h2.2, Bool.and_self, and_self]
  | .first f, c, h, hl => by
    simp only [Pg.hgt] at hl
    have h1 := tidy_ok f c h (by omega)
    simp only [tidy, Pg.sok, Pg.dpt, h1.1, h1.2, and_self]
  | .second f, c, h, hl => by
    simp only [Pg.hgt] at hl
    have h1 := tidy_ok f c h (by omega)
    simp only [tidy, Pg.sok, Pg.dpt, h1.1, h1.2, and_self]
theorem rangeD_rev (m : Nat) : (rangeD 0 (m + 1)).reverse = .int (m : Nat) :: (rangeD 0 m).reverse := by
  simp [rangeD_map, List.range_succ]
abbrev gbT : GS := gIf (fTest (fOp (rEqD false) (fOp rIxD (fVar 1) (fVar 2)) (fOp rIxD (fVar 0) (fC (.int 1))))) (gRet (fTup (fCons (fC (.str "name")) (fCons (fOp rAddD (fC (.str "x")) (fCB rStr1 (fCons (fVar 2) fNil))) fNil)))) gNext
theorem tidy_loop {R0 : DEnds} {x : Str} {O : Ow} (hx : PyData.strOk x = true) : ∀ (rest pre : List Str) (x2 x3 x4 : Option D), (∀ y ∈ pre ++ rest, PyData.strOk y = true) → (pre ++ rest).length ≤ 500 →
    (∀ i, ri rest x = some i → R0.rt (dP (.nm (xn (rest.length - 1 - i)))) O) → (ri rest x = none → ∀ x2, R0.nx [some (dP (.nm x)), some (.lst ((pre ++ rest).reverse.map .str)), x2, x3, x4] O) →
    forD (.nm 2) gbT R0 (rangeD 0 rest.length).reverse [some (dP (.nm x)), some (.lst ((pre ++ rest).reverse.map .str)), x2, x3, x4] O
  | [], pre, x2, x3, x4, _, _, _, hn => by
    show forD _ _ _ [] _ _
    unfold forD
    exact hn rfl x2
  | y :: rest, pre, x2, x3, x4, ho, hl, hs, hn => by
    rw [List.length_cons, rangeD_rev]
    unfold forD
    have hy : PyData.strOk y = true := ho y (by simp)
    have hlen : rest.length < 500 := by rw [List.length_append, List.length_cons] at hl; omega
    have e : atI ((pre ++ y :: rest).reverse.map D.str) (rest.length : Int) = some (.str y) := by
      refine atI_nat ?_
      rw [List.getElem?_map]
      have : (pre ++ y :: rest).reverse[rest.length]? = some y := by
        rw [List.reverse_append, List.reverse_cons, List.append_assoc, List.getElem?_append_right (by simp)]
        simp
      rw [this]; rfl
    simp only [dP]
    walk_at "kf1"
    rw [rIx_l e, rEq_s hy hx]
    walk_at "kf1"
    by_cases c : y = x
    · have z := xn_ok64 rest.length (by omega)
      have h1 := hs 0 (by unfold ri; rw [if_pos c])
      simp only [c, decide_true, Bool.false_xor]
      walk_at "kf1"
      refine ⟨?_, sz_small (by omega), ?_⟩
      · rw [Int.natAbs_natCast]
        have : Nat.log2 rest.length < 500 + 1 := by
          have h2 : Nat.log2 rest.length ≤ rest.length := Nat.log2_le_self _
          omega
        omega
      · walk_at "tg"
        rw [List.length_cons] at h1
        simpa [dP, xn] using h1
    · simp only [c, decide_false, Bool.false_xor]
      walk_at "kf1"
      have ih := tidy_loop (R0 := R0) (O := O) hx rest (pre ++ [y]) (some (.int rest.length)) x3 x4 (by simpa using ho) (by simpa using hl) (fun i hi => by
        have := hs (i + 1) (by unfold ri; rw [if_neg c, hi]; rfl)
        rw [List.length_cons, show rest.length + 1 - 1 - (i + 1) = rest.length - 1 - i by omega] at this
        exact this) (fun hi x2 => by
        have := hn (by unfold ri; rw [if_neg c, hi]; rfl) x2
        simpa using this)
      simpa [dP] using ih
def spTidy (n : Nat) : DSp := fun ds O R _ => ∃ (p : Pg) (c : List Str), ds = [dP p, .lst (c.reverse.map .str)] ∧ p.hgt < n ∧ c.length + p.hgt < 500 ∧ p.sok = true ∧ (∀ y ∈ c, PyData.strOk y = true) ∧ R (dP (tidy p c)) O
theorem tidy_ins (p : Pg) (c : List Str) (h : ∀ x k b, p ≠ .take x k b) (h2 : ∀ x, p ≠ .nm x) : tidy p c = setIns p (p.ins.map fun q => tidy q c) := by
  cases p with
  | take x k b => exact absurd rfl (h x k b)
  | nm x => exact absurd rfl (h2 x)
  | _ => rfl
theorem ok_tidied_within (T : Tx K mg) : ∀ n, FO_tidied_within P w base T (n + 2) (spTidy n)
  | 0 => none_left fun ds O R RE ⟨p, c, _, h, _⟩ => by omega
  | n + 1 => by
    refine fnd_tidied_within T (ok_tidied_within T n) (fnUp (ok_with_inner T) (by omega)) (fnUp (ok_innerO T) (by omega)) (by walk_at "len") ?_
    rintro ds O R RE ⟨p, c, rfl, hn, hc, hs, hcs, hR⟩
    unfold g_tidied_within
    have fin : ∀ (R1 : VD) (x2 x3 x4 : Option D), (∀ x k b, p ≠ .take x k b) → (∀ x, p ≠ .nm x) → R1 = R → gRet (fCall spWithInner (fCons (fVar 0) (fCons (fLc (fiList (fFrz (fCall spInnerO (fCons (fVar 0) fNil)))) (.nm 4) fYes (fCall (spTidy n) (fCons (fVar 4) (fCons (fVar 1) fNil))) [4]) fNil))) { nx := fun _ O' => R .non O', rt := R1 } [some (dP p), some (.lst (c.reverse.map .str)), x2, x3, x4] O := by
      rintro R1 x2 x3 x4 h1 h2 rfl
      walk_at "kf1"
      refine ⟨p, rfl, fun a ha => ?_⟩
      try dsimp only
      rw [rFrz_u ha]
      walk_at "kf1"
      have hln : p.ins.length ≤ 2 := by rcases ins_cases p with e | ⟨x, e⟩ | ⟨x, y, e⟩ <;> rw [e] <;> simp
      refine lcA_map dP (fun q => dP (tidy q c)) p.ins _ _ (sz_small (by simp only [List.length_nil]; omega)) ?_ ?_
      · intro q hq Q' hQ'
        have h3 := ins_ok hq hs
        have h4 := ins_hgt hq
        walk_at "kf1"
        exact ⟨q, c, rfl, by omega, by omega, h3.1, hcs, hQ'⟩
      · rw [List.nil_append]
        refine ⟨p, _, p.ins.map fun q => tidy q c, rfl, by simp only [deref_lst, List.map_map]; rfl, by rw [List.length_map], fun u hu => ?_, ?_⟩
        · obtain ⟨q, hq, rfl⟩ := List.mem_map.mp hu
          have h4 := ins_hgt hq
          exact (tidy_ok q c (ins_ok hq hs).1 (by omega)).1
        · rw [← tidy_ins p c h1 h2]
          exact hR
    cases p with
    | nm x =>
      clear fin
      simp only [dP] at hR ⊢
      refine gSeq_step ?_
      walk_at "kf1"
      walk_at "tg"
      walk_at "kf1"
      refine gSeq_step ?_
      walk_at "kf1"
      rw [List.length_map, List.length_reverse]
      refine ⟨by omega, by omega, ?_⟩
      rw [Int.toNat_natCast]
      refine tidy_loop (x := x) hs c [] _ _ _ (by simpa using hcs) (by simp only [List.nil_append]; omega) (fun i hi => ?_) (fun hi x2 => ?_)
      · simpa [tidy, hi] using hR
      · try dsimp only
        walk_at "kf1"
        simpa [tidy, hi] using hR
    | take x k b =>
      clear fin
      simp only [Pg.hgt, Pg.sok, Bool.and_eq_true] at hn hc hs
      have z := xn_ok64 c.length (by omega)
      simp only [dP] at hR ⊢
      refine gSeq_step ?_
      walk_at "kf1"
      walk_at "tg"
      walk_at "kf1"
      refine gSeq_step ?_
      walk_at "kf1"
      walk_at "tg"
      walk_at "kf1"
      refine gSeq_step ?_
      walk_at "kf1"
      walk_at "tg"
      refine ⟨sz_small (by rw [List.length_map, List.length_reverse]; omega), b, x :: c, by simp, by omega, by rw [List.length_cons]; omega, hs.2, fun y hy => ?_, ?_⟩
      · rcases List.mem_cons.mp hy with rfl | hy
        · exact hs.1.1
        · exact hcs y hy
      · walk_at "kf1"
        rw [List.length_map, List.length_reverse]
        refine ⟨?_, sz_small (by omega), ?_⟩
        · rw [Int.natAbs_natCast]
          have h2 : Nat.log2 c.length ≤ c.length := Nat.log2_le_self _
          omega
        · walk_at "tg"
          exact hR
    | _ =>
      have f1 := fin R none none none (by intros; simp) (by intros; simp) rfl
      simp only [dP] at f1 ⊢
      refine gSeq_step ?_
      walk_at "kf1"
      walk_at "tg"
      walk_at "kf1"
      refine gSeq_step ?_
      walk_at "kf1"
      walk_at "tg"
      walk_at "kf1"
      exact f1
def spTidied : DSp := fun ds O R _ => ∃ p : Pg, ds = [dP p] ∧ p.hgt ≤ 202 ∧ p.sok = true ∧ R (dP (tidy p [])) O
theorem ok_tidied (T : Tx K mg) : FO_tidied P w base T 206 spTidied := by
  refine fnd_tidied T (ok_tidied_within T 203) (by walk_at "len") ?_
  rintro ds O R RE ⟨p, rfl, hh, hs, hR⟩
  unfold g_tidied
  walk_at "kf"
  walk_at "tg"
  exact ⟨p, [], rfl, by omega, by simp only [List.length_nil]; omega, hs, (fun _ h => by cases h), hR⟩
end
end Kf
namespace Kf
open PySem PySem.Spec L2
open PyProof.Rows hiding St
local macro_rules | `(tactic| walk_at "kf") => `(tactic| simp (config := { failIfUnchanged := false }) only [startD, ap_fOrL, rOrL_l, ap_fLcK, ap_gForK, ap_fMaxD, rMaxD_l, rMaxL_l, ap_fCallXD, ap_gForE, asLE_l, ap_fFrz, ap_fDicO, ap_fDGet, ap_fDGet1, ap_fDGet2, ap_gDPut, ap_fIsiT, ap_gForR, rRep_l, isT_i, isT_s, isT_b, isT_n, isT_t, isT_l, ap_gSeq, ap_gIf, ap_gRet, ap_gNext, ap_gSet, ap_gAsg, ap_gDrop, ap_gRetF, ap_gRetN, ap_gFor, ap_gSetIx, ap_gBreak, ap_fRev, ap_fiRevR, asIR_i, rRev_l, ap_fCallX, ap_gRaise, ap_gTry, ap_gTryAs, ap_gNever, ap_fEdic, ap_fTest, ap_fOp, ap_fVar, envGet_s, patGet_s, ap_fC, ap_fCB, ap_fCons, ap_fNil, ap_fCall, ap_fAnd, ap_fOr, ap_fNot, ap_fAndV, ap_fOrV, ap_fNotV, ap_fIf, ap_fTup, ap_fLst, ap_fLstO, ap_fChain, ap_fUn, ap_fBM, ap_fBM0, ap_fPool, rPool_i, ap_fSl, ap_fPart, ap_fNoPart, asI_i, rSl_l, ap_fiRng1, ap_fiRng2, ap_fiList, ap_fiTup, ap_fiStr, ap_fiEnum, ap_fiZip, ap_fiRev, asL_l, asT_t, asSg_s, asR1_i, asR2_i, asL1_l, asL2_l, ap_fLc, ap_fLcO, ap_fYes, wipeD, lcD, isi_i_int, isi_i_bool, isi_i_str, isi_i_tuple, isi_i_list, isi_i_dict, isi_b_int, isi_b_bool, isi_b_str, isi_b_tuple, isi_b_list, isi_b_dict, isi_s_int, isi_s_bool, isi_s_str, isi_s_tuple, isi_s_list, isi_s_dict, isi_t_int, isi_t_bool, isi_t_str, isi_t_tuple, isi_t_list, isi_t_dict, isi_l_int, isi_l_bool, isi_l_str, isi_l_tuple, isi_l_list, isi_l_dict, isi_n_int, isi_n_bool, isi_n_str, isi_n_tuple, isi_n_list, isi_n_dict, isi_d_int, isi_d_bool, isi_d_str, isi_d_tuple, isi_d_list, isi_d_dict,
  deref_tup, deref_lst, deref_int, deref_str, deref_bl, deref_non, deref_scr, rLt_i, rLt_s, rLe_i, rLe_s, rInts_i, rInts0_i, rAdd_i, rAdd_s, rAdd_l, rAdd_t, rCatO_l, rNeg_i, rLen_t, rLen_l, rLen_c, rLen_s, rMax_i, rMin_i, rInt_i, rInt_b, rDivmod_i, ap_gAug, rStr_i, rList_l, rList_t, rListO_l, rListO_t, rTup_l, rTup_t,
  rIx_t0, rIx_t1, rIx_t2, rIx_t3, rIx_l0, rIx_l1, rIx_l2, rIsN_x, isNon_t, isNon_n, isNon_i, isNon_s, isNon_l, rEq_i, rEq_b, rEq_i2, rEq_b2, rJoin_m, rSplit_s, tyOk_l, tyOk_s, patD_nm, patD_tp, patDs_nil, patDs_cons, Option.bind_some, notX, notX',
  List.map_cons, List.map_nil, List.length_cons, List.length_nil, List.cons_append, List.nil_append, List.append_nil, List.replicate, List.getElem?_cons_zero, List.getElem?_cons_succ, List.set_cons_zero, List.set_cons_succ, updO_same, updO_updO,
  Nat.reduceSub, Nat.reduceAdd, Nat.reduceLeDiff, Nat.zero_add, Int.cast_ofNat_Int, Int.natCast_zero, Int.natCast_one, Int.reduceLT, Int.reduceLE, Int.reduceEq, Int.reduceAdd, Int.reduceSub, Int.reduceNeg, decide_true, decide_false, if_true, if_false, Bool.false_eq_true, eq_self, reduceIte, Bool.true_eq_false, decide_eq_true_eq, Bool.not_true, Bool.not_false, Bool.not_eq_true', decide_eq_false_iff_not, exists_eq_left', exists_eq_left, D.bl.injEq, true_and, and_true, not_true_eq_false, not_false_eq_true])
local macro_rules | `(tactic| walk_at "len") => `(tactic| (intro ds O R RE h; first | (obtain ⟨e, _⟩ := h; subst e; rfl) | (obtain ⟨_, e, _⟩ := h; subst e; rfl) | (obtain ⟨_, _, e, _⟩ := h; subst e; rfl) | (obtain ⟨_, _, _, e, _⟩ := h; subst e; rfl) | (obtain ⟨_, _, _, _, e, _⟩ := h; subst e; rfl) | (obtain ⟨_, _, _, _, _, e, _⟩ := h; subst e; rfl) | (obtain ⟨_, _, _, _, _, _, e, _⟩ := h; subst e; rfl) | (obtain ⟨_, _, _, _, _, _, _, e, _⟩ := h; subst e; rfl) | (obtain ⟨_, _, _, _, _, _, _, _, e, _⟩ := h; subst e; rfl) | (obtain ⟨_, _, _, _, _, _, _, _, _, e, _⟩ := h; subst e; rfl)))
local macro_rules | `(tactic| walk_at "kf1") => `(tactic| simp (config := { failIfUnchanged := false }) only [startD, ap_fOrL, rOrL_l, ap_fLcK, ap_gForK, ap_fMaxD, rMaxD_l, rMaxL_l, ap_fCallXD, ap_gForE, asLE_l, ap_fFrz, ap_fDicO, ap_fDGet, ap_fDGet1, ap_fDGet2, ap_gDPut, ap_fIsiT, ap_gForR, rRep_l, isT_i, isT_s, isT_b, isT_n, isT_t, isT_l, ap_gIf, ap_gRet, ap_gNext, ap_gSet, ap_gAsg, ap_gDrop, ap_gRetF, ap_gRetN, ap_gFor, ap_gSetIx, ap_gBreak, ap_fRev, ap_fiRevR, asIR_i, rRev_l, ap_fCallX, ap_gRaise, ap_gTry, ap_gTryAs, ap_gNever, ap_fEdic, ap_fTest, ap_fOp, ap_fVar, envGet_s, patGet_s, ap_fC, ap_fCB, ap_fCons, ap_fNil, ap_fCall, ap_fAnd, ap_fOr, ap_fNot, ap_fAndV, ap_fOrV, ap_fNotV, ap_fIf, ap_fTup, ap_fLst, ap_fLstO, ap_fChain, ap_fUn, ap_fBM, ap_fBM0, ap_fPool, rPool_i, ap_fSl, ap_fPart, ap_fNoPart, asI_i, rSl_l, ap_fiRng1, ap_fiRng2, ap_fiList, ap_fiTup, ap_fiStr, ap_fiEnum, ap_fiZip, ap_fiRev, asL_l, asT_t, asSg_s, asR1_i, asR2_i, asL1_l, asL2_l, ap_fLc, ap_fLcO, ap_fYes, wipeD, lcD, isi_i_int, isi_i_bool, isi_i_str, isi_i_tuple, isi_i_list, isi_i_dict, isi_b_int, isi_b_bool, isi_b_str, isi_b_tuple, isi_b_list, isi_b_dict, isi_s_int, isi_s_bool, isi_s_str, isi_s_tuple, isi_s_list, isi_s_dict, isi_t_int, isi_t_bool, isi_t_str, isi_t_tuple, isi_t_list, isi_t_dict, isi_l_int, isi_l_bool, isi_l_str, isi_l_tuple, isi_l_list, isi_l_dict, isi_n_int, isi_n_bool, isi_n_str, isi_n_tuple, isi_n_list, isi_n_dict, isi_d_int, isi_d_bool, isi_d_str, isi_d_tuple, isi_d_list, isi_d_dict,
  deref_tup, deref_lst, deref_int, deref_str, deref_bl, deref_non, deref_scr, rLt_i, rLt_s, rLe_i, rLe_s, rInts_i, rInts0_i, rAdd_i, rAdd_s, rAdd_l, rAdd_t, rCatO_l, rNeg_i, rLen_t, rLen_l, rLen_c, rLen_s, rMax_i, rMin_i, rInt_i, rInt_b, rDivmod_i, ap_gAug, rStr_i, rList_l, rList_t, rListO_l, rListO_t, rTup_l, rTup_t,
  rIx_t0, rIx_t1, rIx_t2, rIx_t3, rIx_l0, rIx_l1, rIx_l2, rIsN_x, isNon_t, isNon_n, isNon_i, isNon_s, isNon_l, rEq_i, rEq_b, rEq_i2, rEq_b2, rJoin_m, rSplit_s, tyOk_l, tyOk_s, patD_nm, patD_tp, patDs_nil, patDs_cons, Option.bind_some, notX, notX',
  List.map_cons, List.map_nil, List.length_cons, List.length_nil, List.cons_append, List.nil_append, List.append_nil, List.replicate, List.getElem?_cons_zero, List.getElem?_cons_succ, List.set_cons_zero, List.set_cons_succ, updO_same, updO_updO,
  Nat.reduceSub, Nat.reduceAdd, Nat.reduceLeDiff, Nat.zero_add, Int.cast_ofNat_Int, Int.natCast_zero, Int.natCast_one, Int.reduceLT, Int.reduceLE, Int.reduceEq, Int.reduceAdd, Int.reduceSub, Int.reduceNeg, decide_true, decide_false, if_true, if_false, Bool.false_eq_true, eq_self, reduceIte, Bool.true_eq_false, decide_eq_true_eq, Bool.not_true, Bool.not_false, Bool.not_eq_true', decide_eq_false_iff_not, exists_eq_left', exists_eq_left, D.bl.injEq, true_and, and_true, not_true_eq_false, not_false_eq_true])
section
variable {P : Program} {w : World} {K : PySem.W.Frag} {mg : Str → Option Value} {base : Heap}
local macro_rules | `(tactic| walk_at "tg") => `(tactic| simp (config := { failIfUnchanged := false }) only [te_name_take, te_name_give, te_name_pair, te_name_first, te_name_second, te_name_to, te_name_both, te_name_one, te_name_mark, te_name_name, te_name_thing, te_name_at, te_thing_take, te_thing_give, te_thing_pair, te_thing_first, te_thing_second, te_thing_to, te_thing_both, te_thing_one, te_thing_mark, te_thing_name, te_thing_thing, te_thing_at, te_take_take, te_take_give, te_take_pair, te_take_first, te_take_second, te_take_to, te_take_both, te_take_one, te_take_mark, te_take_name, te_take_thing, te_take_at, te_give_take, te_give_give, te_give_pair, te_give_first, te_give_second, te_give_to, te_give_both, te_give_one, te_give_mark, te_give_name, te_give_thing, te_give_at, te_pair_take, te_pair_give, te_pair_pair, te_pair_first, te_pair_second, te_pair_to, te_pair_both, te_pair_one, te_pair_mark, te_pair_name, te_pair_thing, te_pair_at, te_first_take, te_first_give, te_first_pair, te_first_first, te_first_second, te_first_to, te_first_both, te_first_one, te_first_mark, te_first_name, te_first_thing, te_first_at, te_second_take, te_second_give, te_second_pair, te_second_first, te_second_second, te_second_to, te_second_both, te_second_one, te_second_mark, te_second_name, te_second_thing, te_second_at, te_mark_take, te_mark_give, te_mark_pair, te_mark_first, te_mark_second, te_mark_to, te_mark_both, te_mark_one, te_mark_mark, te_mark_name, te_mark_thing, te_mark_at, te_one_take, te_one_give, te_one_pair, te_one_first, te_one_second, te_one_to, te_one_both, te_one_one, te_one_mark, te_one_name, te_one_thing, te_one_at, te_to_take, te_to_give, te_to_pair, te_to_first, te_to_second, te_to_to, te_to_both, te_to_one, te_to_mark, te_to_name, te_to_thing, te_to_at, te_both_take, te_both_give, te_both_pair, te_both_first, te_both_second, te_both_to, te_both_both, te_both_one, te_both_mark, te_both_name, te_both_thing, te_both_at, te_at_take, te_at_give, te_at_pair, te_at_first, te_at_second, te_at_to, te_at_both, te_at_one, te_at_mark, te_at_name, te_at_thing, te_at_at, ti4_name, ti4_thing, ti4_take, ti4_give, ti4_pair, ti4_first, ti4_second, ti2_name, ti2_thing, ti2_take, ti2_give, ti2_pair, ti2_first, ti2_second, szT_0, szT_1, szT_2, szT_3, szT_4, szT_5, szT_6, szT_7, szT_8, szT_9, szT_10, szT_11, szT_12, Bool.not_true, Bool.not_false, true_and])
theorem sw_gap : PyData.strOk (Str.ofString "gap") = true := by decide +kernel
theorem te_give_gap {neg : Bool} {O : Ow} {Q : VD} : rEqD neg (.str (Str.ofString "give")) (.str (Str.ofString "gap")) O Q = Q (.bl neg) O := by
  rw [rEq_s sw_give sw_gap, show decide (Str.ofString "give" = Str.ofString "gap") = false by decide +kernel]; cases neg <;> rfl
theorem te_first_gap {neg : Bool} {O : Ow} {Q : VD} : rEqD neg (.str (Str.ofString "first")) (.str (Str.ofString "gap")) O Q = Q (.bl neg) O := by
  rw [rEq_s sw_first sw_gap, show decide (Str.ofString "first" = Str.ofString "gap") = false by decide +kernel]; cases neg <;> rfl
theorem te_second_gap {neg : Bool} {O : Ow} {Q : VD} : rEqD neg (.str (Str.ofString "second")) (.str (Str.ofString "gap")) O Q = Q (.bl neg) O := by
  rw [rEq_s sw_second sw_gap, show decide (Str.ofString "second" = Str.ofString "gap") = false by decide +kernel]; cases neg <;> rfl
def spKnown : DSp := fun ds O R _ => ∃ (kn : List (Str × Kd)) (x : Str), ds = [.lst (kn.map kv), .str x] ∧ PyData.strOk x = true ∧ (∀ q ∈ kn, PyData.strOk q.1 = true) ∧ R (dKo (envOf kn x)) O
theorem known_loop {R0 : DEnds} {x : Str} {O : Ow} (a0 : Option D) (hx : PyData.strOk x = true) : ∀ (l : List (Str × Kd)) (x2 x3 : Option D), (∀ q ∈ l, PyData.strOk q.1 = true) → (∀ q, l.find? (fun q => decide (q.1 = x)) = some q → R0.rt (dK q.2) O) → (l.find? (fun q => decide (q.1 = x)) = none → ∀ x2 x3, R0.nx [a0, some (.str x), x2, x3] O) →
    forD (.tp [(.nm 2), (.nm 3)]) (gIf (fTest (fOp (rEqD false) (fVar 2) (fVar 1))) (gRet (fVar 3)) gNext) R0 (l.map kv) [a0, some (.str x), x2, x3] O
  | [], x2, x3, _, _, hn => hn rfl x2 x3
  | q :: l, x2, x3, hl, hs, hn => by
    rw [List.map_cons]
    unfold forD
    walk_at "kf1"
    rw [rEq_s (hl q List.mem_cons_self) hx]
    by_cases c : q.1 = x
    · simp only [c, decide_true, Bool.false_xor]
      walk_at "kf1"
      exact hs q (by simp [List.find?_cons, c])
    · simp only [c, decide_false, Bool.false_xor]
      walk_at "kf1"
      exact known_loop a0 hx l _ _ (fun q' h => hl q' (List.mem_cons_of_mem _ h)) (fun q' h => hs q' (by simpa [List.find?_cons, c] using h)) (fun h => hn (by simpa [List.find?_cons, c] using h))
theorem ok_known (T : Tx K mg) : FO_known_as P w base T 1 spKnown := by
  refine fnd_known_as T (by walk_at "len") ?_
  rintro ds O R RE ⟨kn, x, rfl, hx, hk, hR⟩
  unfold g_known_as
  refine gSeq_step ?_
  walk_at "kf1"
  rw [← List.map_reverse]
  refine known_loop _ hx kn.reverse _ _ (fun q h => hk q (List.mem_reverse.mp h)) (fun q h => ?_) (fun h x2 x3 => ?_)
  · unfold envOf at hR
    rw [h] at hR
    exact hR
  · unfold envOf at hR
    rw [h] at hR
    try dsimp only
    walk_at "kf1"
    exact hR
def spKHere : DSp := fun ds O R _ => ∃ (kn : List (Str × Kd)) (p : Pg) (ks : List Kd), ds = [.lst (kn.map kv), dP p, .lst (ks.map dK)] ∧ ks.length = p.ins.length ∧ p.sok = true ∧ (∀ q ∈ kn, PyData.strOk q.1 = true) ∧ (∀ k ∈ ks, k.ok = true ∧ k.depth ≤ 150) ∧ R (dKo (khere (envOf kn) p ks)) O
theorem ok_khere (T : Tx K mg) : FO_kind_here P w base T 2 spKHere := by
  refine fnd_kind_here T (ok_known T) (by walk_at "len") ?_
  rintro ds O R RE ⟨kn, p, ks, rfl, hl, hs, hk, hks, hR⟩
  unfold g_kind_here
  cases p with
  | nm x =>
    simp only [dP]
    walk_at "kf"; walk_at "tg"; walk_at "kf"
    exact ⟨kn, x, rfl, hs, hk, hR⟩
  | thing =>
    simp only [dP]
    walk_at "kf"; walk_at "tg"; walk_at "kf"; walk_at "tg"; walk_at "kf"; walk_at "tg"; walk_at "kf"; walk_at "tg"; walk_at "kf"
    exact hR
  | take x k b =>
    simp only [Pg.ins, List.length_singleton] at hl
    obtain ⟨r, rfl⟩ := List.length_eq_one_iff.mp hl
    simp only [dP]
    walk_at "kf"; walk_at "tg"; walk_at "kf"; walk_at "tg"; walk_at "kf"; walk_at "tg"
    exact hR
  | pair a b =>
    obtain ⟨r1, r2, rfl⟩ := len2 hl
    simp only [dP]
    walk_at "kf"; walk_at "tg"; walk_at "kf"; walk_at "tg"; walk_at "kf"; walk_at "tg"; walk_at "kf"; walk_at "tg"
    exact hR
  | give f a =>
    obtain ⟨r1, r2, rfl⟩ := len2 hl
    have h1 := hks r1 (by simp)
    have h2 := hks r2 (by simp)
    simp only [dP]
    walk_at "kf"; walk_at "tg"; walk_at "kf"; walk_at "tg"; walk_at "kf"; walk_at "tg"; walk_at "kf"; walk_at "tg"; walk_at "kf"; simp only [te_give_gap]; walk_at "kf"; walk_at "tg"; walk_at "kf"
    cases r1 with
    | to c k =>
      simp only [Kd.ok, Kd.depth, Bool.and_eq_true] at h1
      simp only [dK]
      walk_at "kf"; walk_at "tg"; walk_at "kf"
      rw [rEq_K h1.1.1 h2.1 (by omega)]
      by_cases e : c = r2
      · subst e
        simp only [khere, if_true] at hR
        simp only [decide_true, Bool.false_xor]
        walk_at "kf"
        exact hR
      · simp only [khere, if_neg e] at hR
        simp only [e, decide_false, Bool.false_xor]
        walk_at "kf"
        exact hR
    | _ =>
      simp only [dK]
      walk_at "kf"; walk_at "tg"; walk_at "kf"
      exact hR
  | first f =>
    simp only [Pg.ins, List.length_singleton] at hl
    obtain ⟨r, rfl⟩ := List.length_eq_one_iff.mp hl
    simp only [dP]
    walk_at "kf"; walk_at "tg"; walk_at "kf"; walk_at "tg"; walk_at "kf"; walk_at "tg"; walk_at "kf"; walk_at "tg"; walk_at "kf"; simp only [te_first_gap]; walk_at "kf"; walk_at "tg"; walk_at "kf"
    cases r <;> simp only [dK] <;> walk_at "kf" <;> walk_at "tg" <;> walk_at "kf" <;> (try walk_at "tg") <;> (try walk_at "kf") <;> exact hR
  | second f =>
    simp only [Pg.ins, List.length_singleton] at hl
    obtain ⟨r, rfl⟩ := List.length_eq_one_iff.mp hl
    simp only [dP]
    walk_at "kf"; walk_at "tg"; walk_at "kf"; walk_at "tg"; walk_at "kf"; walk_at "tg"; walk_at "kf"; walk_at "tg"; walk_at "kf"; simp only [te_second_gap]; walk_at "kf"; walk_at "tg"; walk_at "kf"
    cases r <;> simp only [dK] <;> walk_at "kf" <;> walk_at "tg" <;> walk_at "kf" <;> (try walk_at "tg") <;> (try walk_at "kf") <;> exact hR
structure KnOk (kn : List (Str × Kd)) : Prop where
  nm : ∀ q ∈ kn, PyData.strOk q.1 = true
  kd : ∀ q ∈ kn, q.2.ok = true ∧ q.2.depth ≤ 12
theorem KnOk.e {kn : List (Str × Kd)} (h : KnOk kn) : EOk (envOf kn) := fun x k q => h.kd (x, k) (envOf_mem q)
theorem KnOk.snoc {kn : List (Str × Kd)} (h : KnOk kn) {x : Str} {k : Kd} (hx : PyData.strOk x = true) (h1 : k.ok = true) (h2 : k.depth ≤ 12) : KnOk (kn ++ [(x, k)]) := by
  refine ⟨fun q hq => ?_, fun q hq => ?_⟩
  · rcases List.mem_append.mp hq with hq | hq
    · exact h.nm q hq
    · rw [List.mem_singleton.mp hq]; exact hx
  · rcases List.mem_append.mp hq with hq | hq
    · exact h.kd q hq
    · rw [List.mem_singleton.mp hq]; exact ⟨h1, h2⟩
def spKw (n : Nat) : DSp := fun ds O R _ => ∃ (kn : List (Str × Kd)) (p : Pg) (k : Kd) (pl : List Int), ds = [.lst (kn.map kv), dP p, dI pl] ∧ hasK (envOf kn) p k ∧ p.hgt < n ∧ KnOk kn ∧ p.sok = true ∧ p.ka ∧ p.hgt ≤ 120 ∧ kn.length + p.hgt ≤ 1000 ∧ pl.length + p.hgt ≤ 1000 ∧ R (dK k) O
theorem isNon_dK (k : Kd) : isNon (dK k) = false := by cases k <;> rfl
theorem ok_kw (T : Tx K mg) : ∀ n, FO_kind_within P w base T (n + 3) (spKw n)
  | 0 => fnUp (none_left fun ds O R RE ⟨kn, p, k, pl, _, _, h, _⟩ => by omega) (Nat.zero_le _)
  | n + 1 => by
    refine fnd_kind_within T (fnUp (ok_innerO T) (by omega)) (ok_kw T n) (fnUp (ok_khere T) (by omega)) (by walk_at "len") ?_
    rintro ds O R RE ⟨kn, p, k, pl, rfl, hh, hn, hkn, hs, hka, h120, hl, hpl, hR⟩
    unfold g_kind_within
    have rest : ∀ (kn' : List (Str × Kd)) (ks : List Kd), KnOk kn' → kn'.length + p.hgt ≤ 1001 → ks.length = p.ins.length → (∀ k ∈ ks, k.ok = true ∧ k.depth ≤ 150) → khere (envOf kn') p ks = some k →
        (∀ (i : Nat) (q : Pg) (r : Kd), p.ins[i]? = some q → ks[i]? = some r → hasK (envOf kn') q r) →
        (gSeq (gSet (fLc (fiEnum (fCons (fFrz (fCall spInnerO (fCons (fVar 1) fNil))) fNil)) (.tp [(.nm 5), (.nm 6)]) fYes (fCall (spKw n) (fCons (fVar 0) (fCons (fVar 6) (fCons (fOp rAddD (fVar 2) (fLst (fCons (fVar 5) fNil))) fNil)))) [5, 6]) 3) (gSeq (gSet (fCall spKHere (fCons (fVar 0) (fCons (fVar 1) (fCons (fVar 3) fNil)))) 4) (gSeq (gIf (fTest (fOp (rIsN false) (fVar 4) (fC .non))) gNever gNext) (gRet (fVar 4))))) { nx := fun _ O' => R .non O', rt := R } [some (.lst (kn'.map kv)), some (dP p), some (dI pl), none, none, none, none] O := by
      intro kn' ks hkn' hl' hks hkd hkh hsub
      refine gSeq_step ?_
      walk_at "kf1"
      refine ⟨p, rfl, fun fz hfz => ?_⟩
      dsimp only
      rw [rFrz_u hfz]
      walk_at "kf1"
      have fin : ∀ x5 x6, gSeq (gSet (fCall spKHere (fCons (fVar 0) (fCons (fVar 1) (fCons (fVar 3) fNil)))) 4) (gSeq (gIf (fTest (fOp (rIsN false) (fVar 4) (fC .non))) gNever gNext) (gRet (fVar 4))) { nx := fun _ O' => R .non O', rt := R } [some (.lst (kn'.map kv)), some (dP p), some (dI pl), some (.lst (ks.map dK)), none, x5, x6] O := by
        intro x5 x6
        refine gSeq_step ?_
        walk_at "kf1"
        refine ⟨kn', p, ks, rfl, hks, hs, hkn'.nm, hkd, ?_⟩
        rw [hkh]
        simp only [dKo]
        refine gSeq_step ?_
        walk_at "kf1"
        rw [isNon_dK]
        walk_at "kf1"
        exact hR
      have lpl : ∀ {x : Pg}, x ∈ p.ins → (pl.map D.int).length + 1 ≤ sizeLine := fun hx => sz_21 (by rw [List.length_map]; have := ins_hgt hx; omega)
      have call : ∀ (q : Pg) (r : Kd) (i : Int) (R' : VD) (RE' : XD), q ∈ p.ins → hasK (envOf kn') q r → q.ka → R' (dK r) O → spKw n [.lst (kn'.map kv), dP q, .lst (pl.map .int ++ [.int i])] O R' RE' := by
        intro q r i R' RE' hq hqr hqa h
        have h1 := ins_hgt hq
        have h2 := ins_ok hq hs
        exact ⟨kn', q, r, pl ++ [i], by simp [dI], hqr, by omega, hkn', h2.1, hqa, by omega, by omega, by rw [List.length_append, List.length_singleton]; omega, h⟩
      have ka_in : ∀ q ∈ p.ins, q.ka := fun q hq => by
        cases p <;> simp only [Pg.ins, List.mem_cons, List.not_mem_nil, or_false] at hq
        · subst hq; exact hka.2.2
        · rcases hq with rfl | rfl
          · exact hka.1
          · exact hka.2
        · rcases hq with rfl | rfl
          · exact hka.1
          · exact hka.2
        · subst hq; exact hka
        · subst hq; exact hka
      rcases ins_cases p with hi | ⟨x, hi⟩ | ⟨x, y, hi⟩ <;> rw [hi] at hks hsub ⊢ <;> simp only [List.map_cons, List.map_nil, enum0, enum1, enum2]
      · have : ks = [] := List.length_eq_zero_iff.mp hks
        subst this
        walk_at "kf1"
        exact fin _ _
      · obtain ⟨r, rfl⟩ := List.length_eq_one_iff.mp hks
        have hxi : x ∈ p.ins := by rw [hi]; exact List.mem_cons_self
        walk_at "kf1"
        walk_at "tg"
        refine ⟨lpl hxi, call x r 0 _ _ hxi (hsub 0 x r rfl rfl) (ka_in x hxi) ⟨by decide, ?_⟩⟩
        walk_at "kf1"
        exact fin _ _
      · obtain ⟨r1, r2, rfl⟩ := len2 hks
        have hxi : x ∈ p.ins := by rw [hi]; exact List.mem_cons_self
        have hyi : y ∈ p.ins := by rw [hi]; exact List.mem_cons_of_mem _ List.mem_cons_self
        walk_at "kf1"
        walk_at "tg"
        refine ⟨lpl hxi, call x r1 0 _ _ hxi (hsub 0 x r1 rfl rfl) (ka_in x hxi) ⟨by decide, ?_⟩⟩
        walk_at "kf1"
        walk_at "tg"
        refine ⟨lpl hyi, call y r2 1 _ _ hyi (hsub 1 y r2 rfl rfl) (ka_in y hyi) ⟨by decide, ?_⟩⟩
        walk_at "kf1"
        exact fin _ _
    have kdo : ∀ (q : Pg) (kn' : List (Str × Kd)) (r : Kd), KnOk kn' → q.ka → q.hgt ≤ p.hgt → hasK (envOf kn') q r → r.ok = true ∧ r.depth ≤ 150 := fun q kn' r h1 h2 h3 h4 => by
      have := kd_has q _ r h4 h1.e h2
      exact ⟨this.1, by omega⟩
    refine gSeq_step ?_
    cases p with
    | nm x =>
      simp only [dP]
      walk_at "kf1"; walk_at "tg"; walk_at "kf1"
      exact rest kn [] hkn (by omega) rfl (fun _ h => nomatch h) hh (fun i q r h => by simp [Pg.ins] at h)
    | thing =>
      simp only [dP]
      walk_at "kf1"; walk_at "tg"; walk_at "kf1"
      exact rest kn [] hkn (by omega) rfl (fun _ h => nomatch h) (by rw [show k = .one from hh]; rfl) (fun i q r h => by simp [Pg.ins] at h)
    | take x a b =>
      obtain ⟨r, e1, h1⟩ := hh
      subst e1
      simp only [Pg.sok, Bool.and_eq_true] at hs
      have hb : hasK (envOf (kn ++ [(x, a)])) b r := by rw [envOf_ext]; exact h1
      have hk2 := hkn.snoc hs.1.1 hka.1 hka.2.1
      simp only [dP]
      walk_at "kf1"; walk_at "tg"; walk_at "kf1"; walk_at "tg"
      refine ⟨sz_21 (by rw [List.length_map]; omega), ?_⟩
      have e2 : kn.map kv ++ [D.tup [.str x, dK a]] = (kn ++ [(x, a)]).map kv := by rw [List.map_append]; rfl
      rw [e2]
      refine rest _ [r] hk2 (by rw [List.length_append, List.length_singleton]; omega) rfl (fun k' h => ?_) rfl (fun i q r' h h' => ?_)
      · rw [List.mem_singleton.mp h]; exact kdo b _ r hk2 hka.2.2 (by simp only [Pg.hgt]; omega) hb
      · cases i with
        | zero => cases h; cases h'; exact hb
        | succ i => simp [Pg.ins] at h
    | give f a =>
      obtain ⟨c, h1, h2⟩ := hh
      have i1 := kdo f kn _ hkn hka.1 (by simp only [Pg.hgt]; omega) h1
      have i2 := kdo a kn _ hkn hka.2 (by simp only [Pg.hgt]; omega) h2
      simp only [dP]
      walk_at "kf1"; walk_at "tg"; walk_at "kf1"
      refine rest kn [.to c k, c] hkn (by omega) rfl (fun k' h => ?_) (by simp [khere]) (fun i q r' h h' => ?_)
      · simp only [List.mem_cons, List.not_mem_nil, or_false] at h
        rcases h with rfl | rfl
        · exact i1
        · exact i2
      · match i with
        | 0 => cases h; cases h'; exact h1
        | 1 => cases h; cases h'; exact h2
        | i + 2 => simp [Pg.ins] at h
    | pair f a =>
      obtain ⟨c, d, e1, h1, h2⟩ := hh
      subst e1
      have i1 := kdo f kn _ hkn hka.1 (by simp only [Pg.hgt]; omega) h1
      have i2 := kdo a kn _ hkn hka.2 (by simp only [Pg.hgt]; omega) h2
      simp only [dP]
      walk_at "kf1"; walk_at "tg"; walk_at "kf1"
      refine rest kn [c, d] hkn (by omega) rfl (fun k' h => ?_) rfl (fun i q r' h h' => ?_)
      · simp only [List.mem_cons, List.not_mem_nil, or_false] at h
        rcases h with rfl | rfl
        · exact i1
        · exact i2
      · match i with
        | 0 => cases h; cases h'; exact h1
        | 1 => cases h; cases h'; exact h2
        | i + 2 => simp [Pg.ins] at h
    | first f =>
      obtain ⟨d, h1⟩ := hh
      have i1 := kdo f kn _ hkn hka (by simp only [Pg.hgt]; omega) h1
      simp only [dP]
      walk_at "kf1"; walk_at "tg"; walk_at "kf1"
      refine rest kn [.both k d] hkn (by omega) rfl (fun k' h => ?_) rfl (fun i q r' h h' => ?_)
      · rw [List.mem_singleton.mp h]; exact i1
      · cases i with
        | zero => cases h; cases h'; exact h1
        | succ i => simp [Pg.ins] at h
    | second f =>
      obtain ⟨d, h1⟩ := hh
      have i1 := kdo f kn _ hkn hka (by simp only [Pg.hgt]; omega) h1
      simp only [dP]
      walk_at "kf1"; walk_at "tg"; walk_at "kf1"
      refine rest kn [.both d k] hkn (by omega) rfl (fun k' h => ?_) rfl (fun i q r' h h' => ?_)
      · rw [List.mem_singleton.mp h]; exact i1
      · cases i with
        | zero => cases h; cases h'; exact h1
        | succ i => simp [Pg.ins] at h
def spKindOf : DSp := fun ds O R _ => ∃ (kn : List (Str × Kd)) (p : Pg) (k : Kd), ds = [.lst (kn.map kv), dP p] ∧ hasK (envOf kn) p k ∧ KnOk kn ∧ p.sok = true ∧ p.ka ∧ p.hgt ≤ 110 ∧ kn.length ≤ 100 ∧ R (dK k) O
theorem ok_kind_of (T : Tx K mg) : FO_kind_of P w base T 115 spKindOf := by
  refine fnd_kind_of T (ok_kw T 111) (by walk_at "len") ?_
  rintro ds O R RE ⟨kn, p, k, rfl, hh, hkn, hs, hka, hl, hkl, hR⟩
  unfold g_kind_of
  walk_at "kf"
  walk_at "tg"
  exact ⟨kn, p, k, [], rfl, hh, by omega, hkn, hs, hka, by omega, by omega, by simp only [List.length_nil]; omega, hR⟩
end
end Kf
namespace Kf
open PySem PySem.Spec L2
open PyProof.Rows hiding St
local macro_rules | `(tactic| walk_at "kf") => `(tactic| simp (config := { failIfUnchanged := false }) only [startD, ap_fOrL, rOrL_l, ap_fLcK, ap_gForK, ap_fMaxD, rMaxD_l, rMaxL_l, ap_fCallXD, ap_gForE, asLE_l, ap_fFrz, ap_fDicO, ap_fDGet, ap_fDGet1, ap_fDGet2, ap_gDPut, ap_fIsiT, ap_gForR, rRep_l, isT_i, isT_s, isT_b, isT_n, isT_t, isT_l, ap_gSeq, ap_gIf, ap_gRet, ap_gNext, ap_gSet, ap_gAsg, ap_gDrop, ap_gRetF, ap_gRetN, ap_gFor, ap_gSetIx, ap_gBreak, ap_fRev, ap_fiRevR, asIR_i, rRev_l, ap_fCallX, ap_gRaise, ap_gTry, ap_gTryAs, ap_gNever, ap_fEdic, ap_fTest, ap_fOp, ap_fVar, envGet_s, patGet_s, ap_fC, ap_fCB, ap_fCons, ap_fNil, ap_fCall, ap_fAnd, ap_fOr, ap_fNot, ap_fAndV, ap_fOrV, ap_fNotV, ap_fIf, ap_fTup, ap_fLst, ap_fLstO, ap_fChain, ap_fUn, ap_fBM, ap_fBM0, ap_fPool, rPool_i, ap_fSl, ap_fPart, ap_fNoPart, asI_i, rSl_l, ap_fiRng1, ap_fiRng2, ap_fiList, ap_fiTup, ap_fiStr, ap_fiEnum, ap_fiZip, ap_fiRev, asL_l, asT_t, asSg_s, asR1_i, asR2_i, asL1_l, asL2_l, ap_fLc, ap_fLcO, ap_fYes, wipeD, lcD, isi_i_int, isi_i_bool, isi_i_str, isi_i_tuple, isi_i_list, isi_i_dict, isi_b_int, isi_b_bool, isi_b_str, isi_b_tuple, isi_b_list, isi_b_dict, isi_s_int, isi_s_bool, isi_s_str, isi_s_tuple, isi_s_list, isi_s_dict, isi_t_int, isi_t_bool, isi_t_str, isi_t_tuple, isi_t_list, isi_t_dict, isi_l_int, isi_l_bool, isi_l_str, isi_l_tuple, isi_l_list, isi_l_dict, isi_n_int, isi_n_bool, isi_n_str, isi_n_tuple, isi_n_list, isi_n_dict, isi_d_int, isi_d_bool, isi_d_str, isi_d_tuple, isi_d_list, isi_d_dict,
  deref_tup, deref_lst, deref_int, deref_str, deref_bl, deref_non, deref_scr, rLt_i, rLt_s, rLe_i, rLe_s, rInts_i, rInts0_i, rAdd_i, rAdd_s, rAdd_l, rAdd_t, rCatO_l, rNeg_i, rLen_t, rLen_l, rLen_c, rLen_s, rMax_i, rMin_i, rInt_i, rInt_b, rDivmod_i, ap_gAug, rStr_i, rList_l, rList_t, rListO_l, rListO_t, rTup_l, rTup_t,
  rIx_t0, rIx_t1, rIx_t2, rIx_t3, rIx_l0, rIx_l1, rIx_l2, rIsN_x, isNon_t, isNon_n, isNon_i, isNon_s, isNon_l, rEq_i, rEq_b, rEq_i2, rEq_b2, rJoin_m, rSplit_s, tyOk_l, tyOk_s, patD_nm, patD_tp, patDs_nil, patDs_cons, Option.bind_some, notX, notX',
  List.map_cons, List.map_nil, List.length_cons, List.length_nil, List.cons_append, List.nil_append, List.append_nil, List.replicate, List.getElem?_cons_zero, List.getElem?_cons_succ, List.set_cons_zero, List.set_cons_succ, updO_same, updO_updO,
  Nat.reduceSub, Nat.reduceAdd, Nat.reduceLeDiff, Nat.zero_add, Int.cast_ofNat_Int, Int.natCast_zero, Int.natCast_one, Int.reduceLT, Int.reduceLE, Int.reduceEq, Int.reduceAdd, Int.reduceSub, Int.reduceNeg, decide_true, decide_false, if_true, if_false, Bool.false_eq_true, eq_self, reduceIte, Bool.true_eq_false, decide_eq_true_eq, Bool.not_true, Bool.not_false, Bool.not_eq_true', decide_eq_false_iff_not, exists_eq_left', exists_eq_left, D.bl.injEq, true_and, and_true, not_true_eq_false, not_false_eq_true])
local macro_rules | `(tactic| walk_at "len") => `(tactic| (intro ds O R RE h; first | (obtain ⟨e, _⟩ := h; subst e; rfl) | (obtain ⟨_, e, _⟩ := h; subst e; rfl) | (obtain ⟨_, _, e, _⟩ := h; subst e; rfl) | (obtain ⟨_, _, _, e, _⟩ := h; subst e; rfl) | (obtain ⟨_, _, _, _, e, _⟩ := h; subst e; rfl) | (obtain ⟨_, _, _, _, _, e, _⟩ := h; subst e; rfl) | (obtain ⟨_, _, _, _, _, _, e, _⟩ := h; subst e; rfl) | (obtain ⟨_, _, _, _, _, _, _, e, _⟩ := h; subst e; rfl) | (obtain ⟨_, _, _, _, _, _, _, _, e, _⟩ := h; subst e; rfl) | (obtain ⟨_, _, _, _, _, _, _, _, _, e, _⟩ := h; subst e; rfl)))
local macro_rules | `(tactic| walk_at "kf1") => `(tactic| simp (config := { failIfUnchanged := false }) only [startD, ap_fOrL, rOrL_l, ap_fLcK, ap_gForK, ap_fMaxD, rMaxD_l, rMaxL_l, ap_fCallXD, ap_gForE, asLE_l, ap_fFrz, ap_fDicO, ap_fDGet, ap_fDGet1, ap_fDGet2, ap_gDPut, ap_fIsiT, ap_gForR, rRep_l, isT_i, isT_s, isT_b, isT_n, isT_t, isT_l, ap_gIf, ap_gRet, ap_gNext, ap_gSet, ap_gAsg, ap_gDrop, ap_gRetF, ap_gRetN, ap_gFor, ap_gSetIx, ap_gBreak, ap_fRev, ap_fiRevR, asIR_i, rRev_l, ap_fCallX, ap_gRaise, ap_gTry, ap_gTryAs, ap_gNever, ap_fEdic, ap_fTest, ap_fOp, ap_fVar, envGet_s, patGet_s, ap_fC, ap_fCB, ap_fCons, ap_fNil, ap_fCall, ap_fAnd, ap_fOr, ap_fNot, ap_fAndV, ap_fOrV, ap_fNotV, ap_fIf, ap_fTup, ap_fLst, ap_fLstO, ap_fChain, ap_fUn, ap_fBM, ap_fBM0, ap_fPool, rPool_i, ap_fSl, ap_fPart, ap_fNoPart, asI_i, rSl_l, ap_fiRng1, ap_fiRng2, ap_fiList, ap_fiTup, ap_fiStr, ap_fiEnum, ap_fiZip, ap_fiRev, asL_l, asT_t, asSg_s, asR1_i, asR2_i, asL1_l, asL2_l, ap_fLc, ap_fLcO, ap_fYes, wipeD, lcD, isi_i_int, isi_i_bool, isi_i_str, isi_i_tuple, isi_i_list, isi_i_dict, isi_b_int, isi_b_bool, isi_b_str, isi_b_tuple, isi_b_list, isi_b_dict, isi_s_int, isi_s_bool, isi_s_str, isi_s_tuple, isi_s_list, isi_s_dict, isi_t_int, isi_t_bool, isi_t_str, isi_t_tuple, isi_t_list, isi_t_dict, isi_l_int, isi_l_bool, isi_l_str, isi_l_tuple, isi_l_list, isi_l_dict, isi_n_int, isi_n_bool, isi_n_str, isi_n_tuple, isi_n_list, isi_n_dict, isi_d_int, isi_d_bool, isi_d_str, isi_d_tuple, isi_d_list, isi_d_dict,
  deref_tup, deref_lst, deref_int, deref_str, deref_bl, deref_non, deref_scr, rLt_i, rLt_s, rLe_i, rLe_s, rInts_i, rInts0_i, rAdd_i, rAdd_s, rAdd_l, rAdd_t, rCatO_l, rNeg_i, rLen_t, rLen_l, rLen_c, rLen_s, rMax_i, rMin_i, rInt_i, rInt_b, rDivmod_i, ap_gAug, rStr_i, rList_l, rList_t, rListO_l, rListO_t, rTup_l, rTup_t,
  rIx_t0, rIx_t1, rIx_t2, rIx_t3, rIx_l0, rIx_l1, rIx_l2, rIsN_x, isNon_t, isNon_n, isNon_i, isNon_s, isNon_l, rEq_i, rEq_b, rEq_i2, rEq_b2, rJoin_m, rSplit_s, tyOk_l, tyOk_s, patD_nm, patD_tp, patDs_nil, patDs_cons, Option.bind_some, notX, notX',
  List.map_cons, List.map_nil, List.length_cons, List.length_nil, List.cons_append, List.nil_append, List.append_nil, List.replicate, List.getElem?_cons_zero, List.getElem?_cons_succ, List.set_cons_zero, List.set_cons_succ, updO_same, updO_updO,
  Nat.reduceSub, Nat.reduceAdd, Nat.reduceLeDiff, Nat.zero_add, Int.cast_ofNat_Int, Int.natCast_zero, Int.natCast_one, Int.reduceLT, Int.reduceLE, Int.reduceEq, Int.reduceAdd, Int.reduceSub, Int.reduceNeg, decide_true, decide_false, if_true, if_false, Bool.false_eq_true, eq_self, reduceIte, Bool.true_eq_false, decide_eq_true_eq, Bool.not_true, Bool.not_false, Bool.not_eq_true', decide_eq_false_iff_not, exists_eq_left', exists_eq_left, D.bl.injEq, true_and, and_true, not_true_eq_false, not_false_eq_true])
section
variable {P : Program} {w : World} {K : PySem.W.Frag} {mg : Str → Option Value} {base : Heap}
local macro_rules | `(tactic| walk_at "tg") => `(tactic| simp (config := { failIfUnchanged := false }) only [te_name_take, te_name_give, te_name_pair, te_name_first, te_name_second, te_name_to, te_name_both, te_name_one, te_name_mark, te_name_name, te_name_thing, te_name_at, te_thing_take, te_thing_give, te_thing_pair, te_thing_first, te_thing_second, te_thing_to, te_thing_both, te_thing_one, te_thing_mark, te_thing_name, te_thing_thing, te_thing_at, te_take_take, te_take_give, te_take_pair, te_take_first, te_take_second, te_take_to, te_take_both, te_take_one, te_take_mark, te_take_name, te_take_thing, te_take_at, te_give_take, te_give_give, te_give_pair, te_give_first, te_give_second, te_give_to, te_give_both, te_give_one, te_give_mark, te_give_name, te_give_thing, te_give_at, te_pair_take, te_pair_give, te_pair_pair, te_pair_first, te_pair_second, te_pair_to, te_pair_both, te_pair_one, te_pair_mark, te_pair_name, te_pair_thing, te_pair_at, te_first_take, te_first_give, te_first_pair, te_first_first, te_first_second, te_first_to, te_first_both, te_first_one, te_first_mark, te_first_name, te_first_thing, te_first_at, te_second_take, te_second_give, te_second_pair, te_second_first, te_second_second, te_second_to, te_second_both, te_second_one, te_second_mark, te_second_name, te_second_thing, te_second_at, te_mark_take, te_mark_give, te_mark_pair, te_mark_first, te_mark_second, te_mark_to, te_mark_both, te_mark_one, te_mark_mark, te_mark_name, te_mark_thing, te_mark_at, te_one_take, te_one_give, te_one_pair, te_one_first, te_one_second, te_one_to, te_one_both, te_one_one, te_one_mark, te_one_name, te_one_thing, te_one_at, te_to_take, te_to_give, te_to_pair, te_to_first, te_to_second, te_to_to, te_to_both, te_to_one, te_to_mark, te_to_name, te_to_thing, te_to_at, te_both_take, te_both_give, te_both_pair, te_both_first, te_both_second, te_both_to, te_both_both, te_both_one, te_both_mark, te_both_name, te_both_thing, te_both_at, te_at_take, te_at_give, te_at_pair, te_at_first, te_at_second, te_at_to, te_at_both, te_at_one, te_at_mark, te_at_name, te_at_thing, te_at_at, ti4_name, ti4_thing, ti4_take, ti4_give, ti4_pair, ti4_first, ti4_second, ti2_name, ti2_thing, ti2_take, ti2_give, ti2_pair, ti2_first, ti2_second, szT_0, szT_1, szT_2, szT_3, szT_4, szT_5, szT_6, szT_7, szT_8, szT_9, szT_10, szT_11, szT_12, Bool.not_true, Bool.not_false, true_and])
theorem cut1_1 (a : D) : cut [a] (some 1) none = [] := by simp [cut, HT.sIx]
theorem sl1_1 {a : D} {O : Ow} {Q : VD} : rSlD (.tup [a]) (some 1) none O Q = Q (.tup []) O := by
  rw [rSl_t (by simp [HT.sIx]), cut1_1]
theorem xn_log {m : Nat} (h : m < 1000) : (m : Int).natAbs.log2 < 1920 := by
  rw [Int.natAbs_natCast]
  have h2 : Nat.log2 m ≤ m := Nat.log2_le_self _
  omega
theorem atI_neg1 {α : Type} (r : List α) (x : α) : atI (r ++ [x]) (-1) = some x := by
  have h1 : ¬ (0 : Int) ≤ -1 := by decide
  have h2 : -(((r ++ [x]).length : Nat) : Int) ≤ -1 := by rw [List.length_append, List.length_singleton]; omega
  have h3 : ((-1 : Int) + (((r ++ [x]).length : Nat) : Int)).toNat = r.length := by rw [List.length_append, List.length_singleton]; omega
  unfold atI ixN
  rw [if_neg h1, if_pos h2, h3]
  show (r ++ [x])[r.length]? = some x
  rw [List.getElem?_append_right (Nat.le_refl _), Nat.sub_self, List.getElem?_cons_zero]
def spLTidy (n : Nat) : DSp := fun ds O R _ => ∃ (p : Pg) (c : List Str), ds = [dP p, .lst (c.reverse.map .str)] ∧ p.hgt < n ∧ c.length + p.hgt < 500 ∧ p.sok = true ∧ (∀ y ∈ c, PyData.strOk y = true) ∧ R (dP (tidy p c)) O
theorem ok_ltidy (T : Tx K mg) : ∀ n, FO__law_tidied P w base T (n + 1) (spLTidy n)
  | 0 => none_left fun ds O R RE ⟨b, m, _, h, _⟩ => by omega
  | n + 1 => by
    refine fnd__law_tidied T (ok_ltidy T n) (by walk_at "len") ?_
    rintro ds O R RE ⟨p, c, rfl, hn, hl, hs, hc, hR⟩
    unfold g__law_tidied
    cases p with
    | nm x =>
      simp only [Pg.sok] at hs
      simp only [tidy] at hR
      have hxx := xn_ok64
      refine gSeq_step ?_
      simp only [dP]
      walk_at "kf1"
      refine gSeq_step ?_
      walk_at "kf1"
      walk_at "tg"
      walk_at "kf1"
      refine gSeq_step ?_
      walk_at "kf1"
      rw [List.length_map, List.length_reverse]
      refine ⟨by omega, by omega, ?_⟩
      rw [rangeD_map]
      have el : ((c.length : Nat) : Int).toNat = c.reverse.length := by simp
      rw [el]
      refine lcA_filter (fun k : Nat => decide (c.reverse[k]? = some x)) (fun i : Nat => D.int (0 + (i : Int))) (fun i : Nat => D.int (0 + (i : Int))) (List.range c.reverse.length) _ _ (sz_21 (by simp only [List.length_nil, List.length_range, List.length_reverse]; omega)) ?_ ?_
      · intro k hk Q1 Q2 h1 h2
        have hk' := List.mem_range.mp hk
        have eg : c.reverse[k]? = some c.reverse[k] := List.getElem?_eq_getElem hk'
        walk_at "kf1"
        rw [rIx_l (show atI (c.reverse.map D.str) (0 + (k : Int)) = some (.str c.reverse[k]) by rw [Int.zero_add]; exact atI_nat (by rw [List.getElem?_map, eg]; rfl))]
        rw [rEq_s (hc _ (List.mem_reverse.mp (List.getElem_mem hk'))) hs]
        rw [eg] at h1 h2
        by_cases e : c.reverse[k] = x
        · simp only [e, decide_true, Bool.false_xor] at h1 ⊢
          walk_at "kf1"
          exact h1 trivial
        · have e' : ¬ (some c.reverse[k] = some x) := fun z => e (Option.some.inj z)
          simp only [e, e', decide_false, Bool.false_xor] at h2 ⊢
          walk_at "kf1"
          exact h2 trivial
      rw [List.nil_append]
      have ef : (List.range c.reverse.length).filter (fun k : Nat => decide (c.reverse[k]? = some x)) = lastIx c.reverse x := rfl
      rw [ef]
      obtain ⟨l1, l2⟩ := lastIx_ri x c
      have szx : ∀ m : Nat, m < 500 → (Str.ofString "x").length + (Str.ofString (toString (m : Int))).length ≤ sizeLine := fun m hm => sz_small (by have := (xn_ok64 m (by omega)).2; omega)
      cases hr : ri c x with
      | none =>
        rw [hr] at hR
        rw [l1 hr]
        simp only [List.map_nil]
        walk_at "kf1"
        simp only [List.isEmpty_nil, if_true]
        walk_at "kf1"
        walk_at "tg"
        rw [rIx_l (show atI [D.int 0] (-1) = some (.int 0) from atI_neg1 [] _)]
        walk_at "kf1"
        refine ⟨by decide, szx 0 (by omega), ?_⟩
        walk_at "tg"
        rw [rEq_nilA (xs := []) rfl (by simp [isPys])]
        walk_at "kf1"
        simp only [List.isEmpty_nil, Bool.xor_self]
        walk_at "kf1"
        exact hR
      | some i =>
        rw [hr] at hR
        obtain ⟨r, er⟩ := l2 i hr
        have hi := ri_lt hr
        rw [er, List.map_append, List.map_singleton]
        have ne : (r.map (fun i : Nat => D.int (0 + (i : Int))) ++ [D.int (0 + ((c.length - 1 - i : Nat) : Int))]).isEmpty = false := by simp
        have hpy : isPys (r.map (fun i : Nat => D.int (0 + (i : Int))) ++ [D.int (0 + ((c.length - 1 - i : Nat) : Int))]) = true := by
          rw [isPys_all, List.all_eq_true]
          intro d hd
          rcases List.mem_append.mp hd with hd | hd
          · obtain ⟨z, _, rfl⟩ := List.mem_map.mp hd; simp [isPy]
          · rw [List.mem_singleton.mp hd]; simp [isPy]
        walk_at "kf1"
        rw [ne]
        walk_at "kf1"
        rw [rIx_l (atI_neg1 _ _), Int.zero_add]
        walk_at "kf1"
        refine ⟨xn_log (by omega), szx _ (by omega), ?_⟩
        walk_at "tg"
        rw [Int.zero_add] at hpy ne
        rw [rEq_nilA rfl hpy, ne]
        walk_at "kf1"
        exact hR
    | take x k b =>
      simp only [Pg.sok, Pg.hgt, Bool.and_eq_true] at hs hl hn
      simp only [dP, tidy] at hR ⊢
      refine gSeq_step ?_
      walk_at "kf1"
      refine gSeq_step ?_
      walk_at "kf1"
      walk_at "tg"
      walk_at "kf1"
      refine gSeq_step ?_
      walk_at "kf1"
      walk_at "tg"
      walk_at "kf1"
      walk_at "tg"
      rw [List.length_map, List.length_reverse]
      refine ⟨xn_log (by omega), sz_small (by have := (xn_ok64 c.length (by omega)).2; omega), ?_⟩
      refine ⟨sz_21 (by omega), b, x :: c, by simp, by omega, by rw [List.length_cons]; omega, hs.2, fun y hy => ?_, ?_⟩
      · rcases List.mem_cons.mp hy with rfl | hy
        · exact hs.1.1
        · exact hc y hy
      · walk_at "tg"
        exact hR
    | _ =>
      simp only [Pg.sok, Pg.hgt, Bool.and_eq_true] at hs hl hn
      simp only [dP, tidy] at hR ⊢
      refine gSeq_step ?_
      walk_at "kf1"
      refine gSeq_step ?_
      walk_at "kf1"
      walk_at "tg"
      walk_at "kf1"
      refine gSeq_step ?_
      walk_at "kf1"
      walk_at "tg"
      walk_at "kf1"
      walk_at "tg"
      simp only [sl1_1, sl1_2, sl1_3]
      walk_at "kf1"
      first
        | exact ⟨by simp, sz_small (by decide), hR⟩
        | (refine ⟨_, c, rfl, by omega, by omega, hs, hc, ?_⟩
           walk_at "kf1"
           refine ⟨by decide, ?_⟩
           walk_at "kf1"
           exact ⟨by simp, sz_small (by decide), hR⟩)
        | (refine ⟨_, c, rfl, by omega, by omega, hs.1, hc, ?_⟩
           walk_at "kf1"
           refine ⟨by decide, ?_⟩
           walk_at "kf1"
           refine ⟨_, c, rfl, by omega, by omega, hs.2, hc, ?_⟩
           walk_at "kf1"
           refine ⟨by decide, ?_⟩
           walk_at "kf1"
           exact ⟨by simp, sz_small (by decide), hR⟩)
/-! ### names within, called otherwise -/
def spFar (n : Nat) : DSp := fun ds O R _ => ∃ (p : Pg) (c : List Str), ds = [dP p, .lst (c.map .str)] ∧ p.hgt < n ∧ c.length + p.hgt < 500 ∧ p.sok = true ∧ p.psz ≤ 4194304 ∧ (∀ y ∈ c, PyData.strOk y = true) ∧ ∀ ts : List Str, (∀ t ∈ ts, PyData.strOk t = true) → ts.length ≤ p.psz → R (.lst (ts.map .str)) O
theorem ok_far (T : Tx K mg) : ∀ n, FO__law_farther P w base T (n + 1) (spFar n)
  | 0 => none_left fun ds O R RE ⟨b, m, _, h, _⟩ => by omega
  | n + 1 => by
    refine fnd__law_farther T (ok_far T n) (by walk_at "len") ?_
    rintro ds O R RE ⟨p, c, rfl, hn, hl, hs, hz, hc, hR⟩
    unfold g__law_farther
    cases p with
    | nm x =>
      simp only [Pg.sok] at hs
      simp only [dP]
      refine gSeq_step ?_
      walk_at "kf1"
      refine gSeq_step ?_
      walk_at "kf1"
      walk_at "tg"
      walk_at "kf1"
      walk_at "tg"
      rw [rIn_strs hs hc]
      walk_at "kf1"
      by_cases e : x ∈ c
      · simp only [e, decide_true, Bool.xor_self, Bool.false_eq_true, if_false]
        refine ⟨⟨by decide, by decide, sz_small (by simp)⟩, ?_⟩
        exact hR [] (fun _ h => nomatch h) (Nat.zero_le _)
      · simp only [e, decide_false, Bool.xor_false, if_true]
        refine ⟨⟨by decide, by decide, sz_small (by simp)⟩, ?_⟩
        exact hR [x] (fun t h => by rw [List.mem_singleton.mp h]; exact hs) (by simp [Pg.psz])
    | take x k b =>
      simp only [Pg.sok, Pg.hgt, Pg.psz, Bool.and_eq_true] at hs hl hn hz hR
      simp only [dP]
      refine gSeq_step ?_
      walk_at "kf1"
      refine gSeq_step ?_
      walk_at "kf1"
      walk_at "tg"
      walk_at "kf1"
      refine gSeq_step ?_
      walk_at "kf1"
      walk_at "tg"
      walk_at "kf1"
      walk_at "tg"
      refine ⟨sz_21 (by rw [List.length_map]; omega), b, c ++ [x], by simp, by omega, by rw [List.length_append, List.length_singleton]; omega, hs.2, by omega, fun y hy => ?_, fun ts h1 h2 => hR ts h1 (by omega)⟩
      rcases List.mem_append.mp hy with hy | hy
      · exact hc y hy
      · rw [List.mem_singleton.mp hy]; exact hs.1.1
    | _ =>
      simp only [Pg.sok, Pg.hgt, Pg.psz, Bool.and_eq_true] at hs hl hn hz hR
      simp only [dP]
      refine gSeq_step ?_
      walk_at "kf1"
      refine gSeq_step ?_
      walk_at "kf1"
      walk_at "tg"
      walk_at "kf1"
      refine gSeq_step ?_
      walk_at "kf1"
      walk_at "tg"
      walk_at "kf1"
      refine gSeq_step ?_
      walk_at "kf1"
      walk_at "tg"
      refine gSeq_step ?_
      walk_at "kf1"
      simp only [sl1_1, sl1_2, sl1_3]
      walk_at "kf1"
      simp only [forD]
      try dsimp only
      walk_at "kf1"
      first
        | exact hR [] (fun _ h => nomatch h) (Nat.zero_le _)
        | (refine ⟨_, c, rfl, by omega, by omega, hs, by omega, hc, fun ts h1 h2 => ?_⟩
           walk_at "kf1"
           refine ⟨sz_21 (by simp only [List.length_map, Nat.zero_add]; omega), ?_⟩
           exact hR ts h1 (by omega))
        | (refine ⟨_, c, rfl, by omega, by omega, hs.1, by omega, hc, fun ts h1 h2 => ?_⟩
           walk_at "kf1"
           refine ⟨sz_21 (by simp only [List.length_map, Nat.zero_add]; omega), ?_⟩
           refine ⟨_, c, rfl, by omega, by omega, hs.2, by omega, hc, fun us h3 h4 => ?_⟩
           walk_at "kf1"
           refine ⟨sz_21 (by simp only [List.length_map]; omega), ?_⟩
           rw [← List.map_append]
           exact hR (ts ++ us) (fun t h => (List.mem_append.mp h).elim (h1 t) (h3 t)) (by rw [List.length_append]; omega))
abbrev nv (q : Str × Str) : D := .tup [.str q.1, .str q.2]
theorem pairs_nv : ∀ nm : List (Str × Str), asPairs (nm.map nv) = some (nm.map fun q => ((Sum.inr q.1 : Key), D.str q.2))
  | [] => rfl
  | q :: nm => by simp [asPairs, asPair, keyOf, pairs_nv nm]
theorem merge_val (x : Str) : ∀ (nm : List (Str × Str)) (kvs : List (Key × D)), valD (mergeD kvs (nm.map fun q => ((Sum.inr q.1 : Key), D.str q.2))) (.inr x) = ((nm.reverse.find? fun q => decide (q.1 = x)).map fun q => D.str q.2).or (valD kvs (.inr x))
  | [], kvs => by simp [mergeD]
  | q :: nm, kvs => by
    have ih := merge_val x nm (putD kvs (.inr q.1) (.str q.2))
    simp only [mergeD, List.map_cons, List.foldl_cons] at ih ⊢
    rw [ih, valD_put, List.reverse_cons, List.find?_append]
    cases hf : nm.reverse.find? (fun q => decide (q.1 = x)) with
    | some z => simp
    | none =>
      simp only [Option.map_none, Option.none_or]
      by_cases c : q.1 = x
      · subst c; simp
      · have c' : ¬ (Sum.inr x : Key) = Sum.inr q.1 := fun z => c (Sum.inr.inj z).symm
        simp [c, c', List.find?_cons]
theorem merge_ren (nm : List (Str × Str)) (x : Str) : (valD (mergeD [] (nm.map fun q => ((Sum.inr q.1 : Key), D.str q.2))) (.inr x)).getD (.str x) = .str (ren nm x) := by
  rw [merge_val]
  unfold ren
  cases nm.reverse.find? (fun q => decide (q.1 = x)) <;> simp [valD]
def spCalled (n : Nat) : DSp := fun ds O R _ => ∃ (pa : Addr) (p : Pg) (nm : List (Str × Str)), ds = [.ref pa, dP p, .lst (nm.map nv)] ∧ O pa = some .pool ∧ p.hgt < n ∧ nm.length + p.hgt < 450 ∧ p.sok = true ∧ p.psz ≤ 4194304 ∧ (∀ q ∈ nm, PyData.strOk q.1 = true ∧ PyData.strOk q.2 = true) ∧ ∀ q : Pg, Ren nm p q → R (dP q) O
def SN : List Str := ["u", "w", "x1", "x99", "zz", "x0"]
theorem sn_ok : ∀ t ∈ SN, PyData.strOk t = true := by decide +kernel
theorem ok_called (T : Tx K mg) : ∀ n, FO__law_called P w base T (n + 2) (spCalled n)
  | 0 => fnUp (none_left fun ds O R RE ⟨a, b, m, _, _, h, _⟩ => by omega) (Nat.zero_le _)
  | n + 1 => by
    refine fndG__law_called T (fnUp (ok_far T n) (by omega)) (ok_take T.n__law_take) (ok_called T n) (by walk_at "len") ?_
    rintro ds O R RE ⟨pa, p, nm, rfl, hp, hn, hl, hs, hz, hnm, hR⟩
    unfold g__law_called
    cases p with
    | nm x =>
      simp only [Pg.sok] at hs
      simp only [dP]
      refine gSeq_step ?_
      walk_at "kf1"
      refine gSeq_step ?_
      walk_at "kf1"
      walk_at "tg"
      walk_at "kf1"
      rw [rDictP_l (pairs_nv nm)]
      intro d hd
      try dsimp only
      refine ⟨isDc_r updO_same, ?_⟩
      walk_at "kf1"
      rw [rKey_s updO_same, merge_ren]
      walk_at "tg"
      exact VG.up hd (hR _ rfl)
    | take x k b =>
      simp only [Pg.sok, Pg.hgt, Pg.psz, Bool.and_eq_true] at hs hl hn hz
      simp only [dP]
      refine gSeq_step ?_
      walk_at "kf1"
      refine gSeq_step ?_
      walk_at "kf1"
      walk_at "tg"
      walk_at "kf1"
      refine gSeq_step ?_
      rw [gIf_T (fun Q => by walk_at "kf1"; walk_at "tg"; walk_at "kf1")]
      refine gSeq_step ?_
      walk_at "kf1"
      rw [rDictP_l (pairs_nv nm)]
      intro d hd
      have hpd : ∀ c, updO O d c pa = some .pool := fun c => by
        have hne : pa ≠ d := fun z => by rw [z, hd] at hp; cases hp
        rw [updO_ne hne, hp]
      try dsimp only
      refine gSeq_step ?_
      walk_at "kf1"
      walk_at "tg"
      refine ⟨b, [x], rfl, by omega, by simp only [List.length_singleton]; omega, hs.2, by omega, fun y hy => by rw [List.mem_singleton.mp hy]; exact hs.1.1, fun ts h1 h2 => ?_⟩
      try dsimp only
      walk_at "kf1"
      refine lcA_map D.str (fun t => D.str (ren nm t)) ts _ _ (sz_21 (by simp only [List.length_nil]; omega)) ?_ ?_
      · intro t ht Q' hQ'
        walk_at "kf1"
        refine ⟨isDc_r updO_same, ?_⟩
        walk_at "kf1"
        rw [rKey_s updO_same, merge_ren]
        exact hQ'
      rw [List.nil_append]
      have e1 : ts.map (fun t => D.str (ren nm t)) = (ts.map (ren nm)).map D.str := by rw [List.map_map]; rfl
      rw [e1]
      have hus : ∀ t ∈ ts.map (ren nm), PyData.strOk t = true := fun t ht => by
        obtain ⟨y, hy, rfl⟩ := List.mem_map.mp ht
        exact ren_ok (fun q hq => (hnm q hq).2) (h1 y hy)
      generalize ts.map (ren nm) = us at hus
      try dsimp only
      refine gSeq_step ?_
      rw [ap_gSet, ap_fLc, ap_fiList]
      change (6 : Nat) ≤ sizeLine ∧ _
      refine ⟨by decide, ?_⟩
      change asL (.lst (SN.map D.str)) _ _
      rw [asL_l]
      simp only [wipeD, List.set_cons_succ, List.set_cons_zero]
      refine lcA_filter (fun t : Str => !decide (t ∈ us)) D.str D.str SN [] _ (by decide) ?_ ?_
      · intro t ht Q1 Q2 g1 g2
        walk_at "kf1"
        rw [rIn_strs (sn_ok t ht) hus]
        by_cases c : t ∈ us
        · simp only [c, decide_true, Bool.not_true, Bool.xor_self] at g2 ⊢
          walk_at "kf1"
          exact g2 trivial
        · simp only [c, decide_false, Bool.not_false, Bool.xor_false] at g1 ⊢
          walk_at "kf1"
          exact g1 trivial
      rw [List.nil_append]
      generalize hfs : SN.filter (fun t : Str => !decide (t ∈ us)) = fs
      have hfl : fs.length ≤ 6 := by rw [← hfs]; exact List.length_filter_le _ SN
      have hfo : ∀ t ∈ fs, PyData.strOk t = true := fun t ht => by rw [← hfs] at ht; exact sn_ok t (List.mem_filter.mp ht).1
      try dsimp only
      refine gSeq_step ?_
      walk_at "kf1"
      rw [List.length_map]
      have hx5 := xn_ok64 (50 + nm.length) (by omega)
      have ex5 : (50 : Int) + ((nm.length : Nat) : Int) = ((50 + nm.length : Nat) : Int) := by omega
      rw [ex5]
      refine ⟨xn_log (by omega), sz_small (by omega), ?_⟩
      walk_at "tg"
      refine ⟨sz_small (by rw [List.length_map]; omega), ?_⟩
      rw [List.length_map]
      refine take_of (hpd _) (by omega) (by omega) fun j hj0 hj1 => ?_
      have e3 : fs.map D.str ++ [D.str (Str.ofString "x" ++ Str.ofString (toString ((50 + nm.length : Nat) : Int)))] = (fs ++ [xn (50 + nm.length)]).map D.str := by rw [List.map_append]; rfl
      rw [e3]
      refine rIx_any hj0 (by rw [List.length_map, List.length_append, List.length_singleton]; omega) fun v hv => ?_
      obtain ⟨z0, hz0, rfl⟩ := List.mem_map.mp hv
      have hzo : PyData.strOk z0 = true := by
        rcases List.mem_append.mp hz0 with h | h
        · exact hfo _ h
        · rw [List.mem_singleton.mp h]; exact hx5.1
      try dsimp only
      have rest : ∀ (z : Str) (x9 x10 x11 x12 : Option D), PyData.strOk z = true → (gSeq (gSet (fOp rAddD (fLc (fiList (fVar 2)) (.tp [(.nm 10), (.nm 11)]) (fTest (fOp (rEqD true) (fVar 10) (fOp rIxD (fVar 1) (fC (.int 1))))) (fTup (fCons (fVar 10) (fCons (fVar 11) fNil))) [10, 11]) (fLst (fCons (fTup (fCons (fOp rIxD (fVar 1) (fC (.int 1))) (fCons (fVar 7) fNil))) fNil))) 8) (gRet (fTup (fCons (fC (.str "take")) (fCons (fVar 7) (fCons (fOp rIxD (fVar 1) (fC (.int 2))) (fCons (fCall (spCalled n) (fCons (fVar 0) (fCons (fOp rIxD (fVar 1) (fC (.int 3))) (fCons (fVar 8) fNil)))) fNil))))))) { nx := fun _ O' => VG R .non O', rt := VG R } [some (.ref pa), some (.tup [.str "take", .str x, dK k, dP b]), some (.lst (nm.map nv)), some (.str "take"), some (.ref d), some (.lst (us.map .str)), some (.lst (fs.map .str)), some (.str z), none, x9, x10, x11, x12] (updO O d (.dic (mergeD [] (nm.map fun q => ((Sum.inr q.1 : Key), D.str q.2))))) := by
        intro z x9 x10 x11 x12 hz'
        refine gSeq_step ?_
        walk_at "kf1"
        refine lcA_filter (fun q : Str × Str => !decide (q.1 = x)) nv nv nm _ _ (sz_21 (by simp only [List.length_nil]; omega)) ?_ ?_
        · intro q hq Q1 Q2 g1 g2
          walk_at "kf1"
          rw [rEq_s (hnm q hq).1 hs.1.1]
          by_cases c : q.1 = x
          · simp only [c, decide_true, Bool.not_true, Bool.xor_self] at g2 ⊢
            walk_at "kf1"
            exact g2 trivial
          · simp only [c, decide_false, Bool.not_false, Bool.xor_false] at g1 ⊢
            walk_at "kf1"
            walk_at "tg"
            exact g1 trivial
        rw [List.nil_append]
        have hfl2 := List.length_filter_le (fun q : Str × Str => !decide (q.1 = x)) nm
        walk_at "kf1"
        walk_at "tg"
        refine ⟨sz_21 (by rw [List.length_map]; omega), ?_⟩
        have e4 : (nm.filter (fun q : Str × Str => !decide (q.1 = x))).map nv ++ [D.tup [.str x, .str z]] = (nm.filter (fun q : Str × Str => !decide (q.1 = x)) ++ [(x, z)]).map nv := by rw [List.map_append]; rfl
        rw [e4]
        try dsimp only
        walk_at "kf1"
        refine ⟨pa, b, _, rfl, hpd _, by omega, by rw [List.length_append, List.length_singleton]; omega, hs.2, by omega, later_ok hnm hs.1.1 hz', fun b' hb' => ?_⟩
        walk_at "tg"
        exact VG.up hd (hR (.take z k b') ⟨z, b', rfl, hz', hb'⟩)
      refine gSeq_step ?_
      walk_at "kf1"
      rw [rIn_strs hzo hus]
      by_cases c : z0 ∈ us
      · simp only [c, decide_true, Bool.false_xor]
        walk_at "kf1"
        exact rest x _ _ _ _ hs.1.1
      · simp only [c, decide_false, Bool.false_xor]
        walk_at "kf1"
        exact rest z0 _ _ _ _ hzo
    | _ =>
      simp only [Pg.sok, Pg.hgt, Pg.psz, Bool.and_eq_true] at hs hl hn hz
      simp only [dP]
      refine gSeq_step ?_
      walk_at "kf1"
      refine gSeq_step ?_
      walk_at "kf1"
      walk_at "tg"
      walk_at "kf1"
      refine gSeq_step ?_
      walk_at "kf1"
      walk_at "tg"
      walk_at "kf1"
      walk_at "tg"
      simp only [sl1_1, sl1_2, sl1_3]
      walk_at "kf1"
      first
        | exact ⟨by simp, sz_small (by decide), .at (hR .thing rfl)⟩
        | (refine ⟨pa, _, nm, rfl, hp, by omega, by omega, hs, by omega, hnm, fun q1 h1 => ?_⟩
           walk_at "kf1"
           refine ⟨by decide, ?_⟩
           walk_at "kf1"
           refine ⟨by simp, sz_small (by decide), .at ?_⟩
           first
             | exact hR (.first q1) ⟨q1, rfl, h1⟩
             | exact hR (.second q1) ⟨q1, rfl, h1⟩)
        | (refine ⟨pa, _, nm, rfl, hp, by omega, by omega, hs.1, by omega, hnm, fun q1 h1 => ?_⟩
           walk_at "kf1"
           refine ⟨by decide, ?_⟩
           walk_at "kf1"
           refine ⟨pa, _, nm, rfl, hp, by omega, by omega, hs.2, by omega, hnm, fun q2 h2 => ?_⟩
           walk_at "kf1"
           refine ⟨by decide, ?_⟩
           walk_at "kf1"
           refine ⟨by simp, sz_small (by decide), .at ?_⟩
           first
             | exact hR (.give q1 q2) ⟨q1, q2, rfl, h1, h2⟩
             | exact hR (.pair q1 q2) ⟨q1, q2, rfl, h1, h2⟩)
end
end Kf
namespace Kf
open PySem PySem.Spec L2
open PyProof.Rows hiding St
local macro_rules | `(tactic| walk_at "kf") => `(tactic| simp (config := { failIfUnchanged := false }) only [startD, ap_fOrL, rOrL_l, ap_fLcK, ap_gForK, ap_fMaxD, rMaxD_l, rMaxL_l, ap_fCallXD, ap_gForE, asLE_l, ap_fFrz, ap_fDicO, ap_fDGet, ap_fDGet1, ap_fDGet2, ap_gDPut, ap_fIsiT, ap_gForR, rRep_l, isT_i, isT_s, isT_b, isT_n, isT_t, isT_l, ap_gSeq, ap_gIf, ap_gRet, ap_gNext, ap_gSet, ap_gAsg, ap_gDrop, ap_gRetF, ap_gRetN, ap_gFor, ap_gSetIx, ap_gBreak, ap_fRev, ap_fiRevR, asIR_i, rRev_l, ap_fCallX, ap_gRaise, ap_gTry, ap_gTryAs, ap_gNever, ap_fEdic, ap_fTest, ap_fOp, ap_fVar, envGet_s, patGet_s, ap_fC, ap_fCB, ap_fCons, ap_fNil, ap_fCall, ap_fAnd, ap_fOr, ap_fNot, ap_fAndV, ap_fOrV, ap_fNotV, ap_fIf, ap_fTup, ap_fLst, ap_fLstO, ap_fChain, ap_fUn, ap_fBM, ap_fBM0, ap_fPool, rPool_i, ap_fSl, ap_fPart, ap_fNoPart, asI_i, rSl_l, ap_fiRng1, ap_fiRng2, ap_fiList, ap_fiTup, ap_fiStr, ap_fiEnum, ap_fiZip, ap_fiRev, asL_l, asT_t, asSg_s, asR1_i, asR2_i, asL1_l, asL2_l, ap_fLc, ap_fLcO, ap_fYes, wipeD, lcD, isi_i_int, isi_i_bool, isi_i_str, isi_i_tuple, isi_i_list, isi_i_dict, isi_b_int, isi_b_bool, isi_b_str, isi_b_tuple, isi_b_list, isi_b_dict, isi_s_int, isi_s_bool, isi_s_str, isi_s_tuple, isi_s_list, isi_s_dict, isi_t_int, isi_t_bool, isi_t_str, isi_t_tuple, isi_t_list, isi_t_dict, isi_l_int, isi_l_bool, isi_l_str, isi_l_tuple, isi_l_list, isi_l_dict, isi_n_int, isi_n_bool, isi_n_str, isi_n_tuple, isi_n_list, isi_n_dict, isi_d_int, isi_d_bool, isi_d_str, isi_d_tuple, isi_d_list, isi_d_dict,
  deref_tup, deref_lst, deref_int, deref_str, deref_bl, deref_non, deref_scr, rLt_i, rLt_s, rLe_i, rLe_s, rInts_i, rInts0_i, rAdd_i, rAdd_s, rAdd_l, rAdd_t, rCatO_l, rNeg_i, rLen_t, rLen_l, rLen_c, rLen_s, rMax_i, rMin_i, rInt_i, rInt_b, rDivmod_i, ap_gAug, rStr_i, rList_l, rList_t, rListO_l, rListO_t, rTup_l, rTup_t,
  rIx_t0, rIx_t1, rIx_t2, rIx_t3, rIx_l0, rIx_l1, rIx_l2, rIsN_x, isNon_t, isNon_n, isNon_i, isNon_s, isNon_l, rEq_i, rEq_b, rEq_i2, rEq_b2, rJoin_m, rSplit_s, tyOk_l, tyOk_s, patD_nm, patD_tp, patDs_nil, patDs_cons, Option.bind_some, notX, notX',
  List.map_cons, List.map_nil, List.length_cons, List.length_nil, List.cons_append, List.nil_append, List.append_nil, List.replicate, List.getElem?_cons_zero, List.getElem?_cons_succ, List.set_cons_zero, List.set_cons_succ, updO_same, updO_updO,
  Nat.reduceSub, Nat.reduceAdd, Nat.reduceLeDiff, Nat.zero_add, Int.cast_ofNat_Int, Int.natCast_zero, Int.natCast_one, Int.reduceLT, Int.reduceLE, Int.reduceEq, Int.reduceAdd, Int.reduceSub, Int.reduceNeg, decide_true, decide_false, if_true, if_false, Bool.false_eq_true, eq_self, reduceIte, Bool.true_eq_false, decide_eq_true_eq, Bool.not_true, Bool.not_false, Bool.not_eq_true', decide_eq_false_iff_not, exists_eq_left', exists_eq_left, D.bl.injEq, true_and, and_true, not_true_eq_false, not_false_eq_true])
local macro_rules | `(tactic| walk_at "len") => `(tactic| (intro ds O R RE h; first | (obtain ⟨e, _⟩ := h; subst e; rfl) | (obtain ⟨_, e, _⟩ := h; subst e; rfl) | (obtain ⟨_, _, e, _⟩ := h; subst e; rfl) | (obtain ⟨_, _, _, e, _⟩ := h; subst e; rfl) | (obtain ⟨_, _, _, _, e, _⟩ := h; subst e; rfl) | (obtain ⟨_, _, _, _, _, e, _⟩ := h; subst e; rfl) | (obtain ⟨_, _, _, _, _, _, e, _⟩ := h; subst e; rfl) | (obtain ⟨_, _, _, _, _, _, _, e, _⟩ := h; subst e; rfl) | (obtain ⟨_, _, _, _, _, _, _, _, e, _⟩ := h; subst e; rfl) | (obtain ⟨_, _, _, _, _, _, _, _, _, e, _⟩ := h; subst e; rfl)))
local macro_rules | `(tactic| walk_at "kf1") => `(tactic| simp (config := { failIfUnchanged := false }) only [startD, ap_fOrL, rOrL_l, ap_fLcK, ap_gForK, ap_fMaxD, rMaxD_l, rMaxL_l, ap_fCallXD, ap_gForE, asLE_l, ap_fFrz, ap_fDicO, ap_fDGet, ap_fDGet1, ap_fDGet2, ap_gDPut, ap_fIsiT, ap_gForR, rRep_l, isT_i, isT_s, isT_b, isT_n, isT_t, isT_l, ap_gIf, ap_gRet, ap_gNext, ap_gSet, ap_gAsg, ap_gDrop, ap_gRetF, ap_gRetN, ap_gFor, ap_gSetIx, ap_gBreak, ap_fRev, ap_fiRevR, asIR_i, rRev_l, ap_fCallX, ap_gRaise, ap_gTry, ap_gTryAs, ap_gNever, ap_fEdic, ap_fTest, ap_fOp, ap_fVar, envGet_s, patGet_s, ap_fC, ap_fCB, ap_fCons, ap_fNil, ap_fCall, ap_fAnd, ap_fOr, ap_fNot, ap_fAndV, ap_fOrV, ap_fNotV, ap_fIf, ap_fTup, ap_fLst, ap_fLstO, ap_fChain, ap_fUn, ap_fBM, ap_fBM0, ap_fPool, rPool_i, ap_fSl, ap_fPart, ap_fNoPart, asI_i, rSl_l, ap_fiRng1, ap_fiRng2, ap_fiList, ap_fiTup, ap_fiStr, ap_fiEnum, ap_fiZip, ap_fiRev, asL_l, asT_t, asSg_s, asR1_i, asR2_i, asL1_l, asL2_l, ap_fLc, ap_fLcO, ap_fYes, wipeD, lcD, isi_i_int, isi_i_bool, isi_i_str, isi_i_tuple, isi_i_list, isi_i_dict, isi_b_int, isi_b_bool, isi_b_str, isi_b_tuple, isi_b_list, isi_b_dict, isi_s_int, isi_s_bool, isi_s_str, isi_s_tuple, isi_s_list, isi_s_dict, isi_t_int, isi_t_bool, isi_t_str, isi_t_tuple, isi_t_list, isi_t_dict, isi_l_int, isi_l_bool, isi_l_str, isi_l_tuple, isi_l_list, isi_l_dict, isi_n_int, isi_n_bool, isi_n_str, isi_n_tuple, isi_n_list, isi_n_dict, isi_d_int, isi_d_bool, isi_d_str, isi_d_tuple, isi_d_list, isi_d_dict,
  deref_tup, deref_lst, deref_int, deref_str, deref_bl, deref_non, deref_scr, rLt_i, rLt_s, rLe_i, rLe_s, rInts_i, rInts0_i, rAdd_i, rAdd_s, rAdd_l, rAdd_t, rCatO_l, rNeg_i, rLen_t, rLen_l, rLen_c, rLen_s, rMax_i, rMin_i, rInt_i, rInt_b, rDivmod_i, ap_gAug, rStr_i, rList_l, rList_t, rListO_l, rListO_t, rTup_l, rTup_t,
  rIx_t0, rIx_t1, rIx_t2, rIx_t3, rIx_l0, rIx_l1, rIx_l2, rIsN_x, isNon_t, isNon_n, isNon_i, isNon_s, isNon_l, rEq_i, rEq_b, rEq_i2, rEq_b2, rJoin_m, rSplit_s, tyOk_l, tyOk_s, patD_nm, patD_tp, patDs_nil, patDs_cons, Option.bind_some, notX, notX',
  List.map_cons, List.map_nil, List.length_cons, List.length_nil, List.cons_append, List.nil_append, List.append_nil, List.replicate, List.getElem?_cons_zero, List.getElem?_cons_succ, List.set_cons_zero, List.set_cons_succ, updO_same, updO_updO,
  Nat.reduceSub, Nat.reduceAdd, Nat.reduceLeDiff, Nat.zero_add, Int.cast_ofNat_Int, Int.natCast_zero, Int.natCast_one, Int.reduceLT, Int.reduceLE, Int.reduceEq, Int.reduceAdd, Int.reduceSub, Int.reduceNeg, decide_true, decide_false, if_true, if_false, Bool.false_eq_true, eq_self, reduceIte, Bool.true_eq_false, decide_eq_true_eq, Bool.not_true, Bool.not_false, Bool.not_eq_true', decide_eq_false_iff_not, exists_eq_left', exists_eq_left, D.bl.injEq, true_and, and_true, not_true_eq_false, not_false_eq_true])
section
variable {P : Program} {w : World} {K : PySem.W.Frag} {mg : Str → Option Value} {base : Heap}
local macro_rules | `(tactic| walk_at "tg") => `(tactic| simp (config := { failIfUnchanged := false }) only [te_name_take, te_name_give, te_name_pair, te_name_first, te_name_second, te_name_to, te_name_both, te_name_one, te_name_mark, te_name_name, te_name_thing, te_name_at, te_thing_take, te_thing_give, te_thing_pair, te_thing_first, te_thing_second, te_thing_to, te_thing_both, te_thing_one, te_thing_mark, te_thing_name, te_thing_thing, te_thing_at, te_take_take, te_take_give, te_take_pair, te_take_first, te_take_second, te_take_to, te_take_both, te_take_one, te_take_mark, te_take_name, te_take_thing, te_take_at, te_give_take, te_give_give, te_give_pair, te_give_first, te_give_second, te_give_to, te_give_both, te_give_one, te_give_mark, te_give_name, te_give_thing, te_give_at, te_pair_take, te_pair_give, te_pair_pair, te_pair_first, te_pair_second, te_pair_to, te_pair_both, te_pair_one, te_pair_mark, te_pair_name, te_pair_thing, te_pair_at, te_first_take, te_first_give, te_first_pair, te_first_first, te_first_second, te_first_to, te_first_both, te_first_one, te_first_mark, te_first_name, te_first_thing, te_first_at, te_second_take, te_second_give, te_second_pair, te_second_first, te_second_second, te_second_to, te_second_both, te_second_one, te_second_mark, te_second_name, te_second_thing, te_second_at, te_mark_take, te_mark_give, te_mark_pair, te_mark_first, te_mark_second, te_mark_to, te_mark_both, te_mark_one, te_mark_mark, te_mark_name, te_mark_thing, te_mark_at, te_one_take, te_one_give, te_one_pair, te_one_first, te_one_second, te_one_to, te_one_both, te_one_one, te_one_mark, te_one_name, te_one_thing, te_one_at, te_to_take, te_to_give, te_to_pair, te_to_first, te_to_second, te_to_to, te_to_both, te_to_one, te_to_mark, te_to_name, te_to_thing, te_to_at, te_both_take, te_both_give, te_both_pair, te_both_first, te_both_second, te_both_to, te_both_both, te_both_one, te_both_mark, te_both_name, te_both_thing, te_both_at, te_at_take, te_at_give, te_at_pair, te_at_first, te_at_second, te_at_to, te_at_both, te_at_one, te_at_mark, te_at_name, te_at_thing, te_at_at, ti4_name, ti4_thing, ti4_take, ti4_give, ti4_pair, ti4_first, ti4_second, ti2_name, ti2_thing, ti2_take, ti2_give, ti2_pair, ti2_first, ti2_second, szT_0, szT_1, szT_2, szT_3, szT_4, szT_5, szT_6, szT_7, szT_8, szT_9, szT_10, szT_11, szT_12, Bool.not_true, Bool.not_false, true_and])
theorem bare_okU : ∀ (p : Pg) (c : List Str), pgu p → (bare p c).ok
  | .nm x, c, h => by
    simp only [bare]
    cases ri c x with
    | some i => trivial
    | none => exact un_ok x h
  | .thing, _, _ => trivial
  | .take x k b, c, h => by
    obtain ⟨h1, h2, h3, h4⟩ := h
    have := k.depth_lt
    exact ⟨over_ok ab_ok k h2, by omega, bare_okU b _ h4⟩
  | .give f a, c, h => ⟨bare_okU f c h.1, bare_okU a c h.2⟩
  | .pair f a, c, h => ⟨bare_okU f c h.1, bare_okU a c h.2⟩
  | .first p, c, h => bare_okU p c h
  | .second p, c, h => bare_okU p c h
theorem RowU.kn {kn : List (Str × Kd)} (h : RowU kn) : KnOk kn := by
  refine ⟨fun q hq => un_ok _ (h.nm q hq).1, fun q hq => ?_⟩
  obtain ⟨_, h2, h3⟩ := h.nm q hq
  have := q.2.depth_lt
  exact ⟨over_k h2, by omega⟩
theorem ok_law (T : Tx K mg) : FO_law P w base T 215 (lawSp 63) := by
  refine fnd_law T (ok_pool T.n__law_pool T.m_len) (fnUp (ok_rowU T) (by omega)) (fnUp (ok_drawnU T) (by omega)) (fnUp (ok_ltidy T 100) (by omega)) (fnUp (ok_called T 100) (by omega)) (fnUp (ok_tidied T) (by omega)) (fnUp (ok_kind_of T) (by omega)) (by walk_at "len") ?_
  rintro ds O R RE ⟨ns, rfl, hl, hR⟩
  unfold g_law
  refine gSeq_step ?_
  walk_at "kf1"
  obtain ⟨b1, b2, b3⟩ := rngBound ns.length 16 (by decide) (by decide)
  refine ⟨b1, b2, forD_inv (fun ρ O => ∃ x1 x2 x3 x4 x5 x6 x7, ρ = [some (.scr ns), x1, x2, x3, x4, x5, x6, x7]) _ _ _ ⟨_, _, _, _, _, _, _, rfl⟩ (fun ρ O _ => hR O) ?_⟩
  rintro d hd ρ O' ⟨x1, x2, x3, x4, x5, x6, x7, rfl⟩ Nx hN
  obtain ⟨i, hi, rfl⟩ := mem_rangeD hd
  walk_at "kf1"
  refine gSeq_step ?_
  walk_at "kf1"
  refine ⟨ns, _, rfl, by omega, by omega, fun pa hpa => ?_⟩
  refine gSeq_step ?_
  walk_at "kf1"
  refine ⟨pa, rfl, updO_same, fun kn hkn hknl hfr => ?_⟩
  try dsimp only
  refine gSeq_step ?_
  walk_at "kf1"
  refine ⟨pa, kn, 150, rfl, updO_same, hkn, hknl, by omega, fun k p hko hkl hph hpz hpk => ?_⟩
  have hps := pgu_ok p hpk.2
  have hpa2 := pgu_ka p hpk.2
  have hefr : ∀ x, envOf kn x ≠ none → x ∈ ([] : List Str) ∨ Fr x := fun x hx => by
    cases e : envOf kn x with
    | none => exact absurd e hx
    | some k' => exact .inr (frU x (hfr _ (envOf_mem e)))
  have hwf : Wf (bare p []) 0 := wf_of p _ k [] hpk.1 hefr
  have htd : tidy (tidy p []) [] = tidy p [] := by
    rw [tidy_eq p [], tidy_eq, show ([] : List Str).length = 0 from rfl, bare_dress0 hwf (by rw [bare_hgt]; omega)]
  have hto := tidy_ok p [] hps.1 (by simp only [List.length_nil]; omega)
  have hdk : hasK (envOf kn) (tidy p []) k := by
    rw [tidy_eq]
    have := bd_hgt p []
    exact dress_has (bare p []) 0 [] k hwf (by omega) (bare_has p [] [] k hpk.1)
  have hda : (tidy p []).ka := by
    rw [tidy_eq]
    refine dress_ka _ _ (bare_okU p [] hpk.2)
  have hth := tidy_hgt p []
  have hkd : k.ok = true ∧ k.depth ≤ 100 := ⟨over_k hko, by have := k.depth_lt; omega⟩
  try dsimp only
  walk_at "kf1"
  refine gSeq_step ?_
  walk_at "kf1"
  walk_at "tg"
  refine ⟨p, [], rfl, by omega, by simp only [List.length_nil]; omega, hps.1, (fun _ h => nomatch h), ?_⟩
  try dsimp only
  refine gSeq_step ?_
  walk_at "kf1"
  walk_at "tg"
  refine ⟨pa, p, [], rfl, updO_same, by omega, by simp only [List.length_nil]; omega, hps.1, by omega, (fun _ h => nomatch h), fun q hq => ?_⟩
  have hqh := ren_hgt p [] q hq
  have hqs := ren_sok p [] q hq (fun _ h => nomatch h) hps.1 hpa2
  have hqw : Wf (bare q []) 0 := ren_wf p [] q _ k [] [] hq hpk.1 hefr (fun _ h => nomatch h) (fun x _ => rfl)
  have hqt := tidy_ok q [] hqs.1 (by simp only [List.length_nil]; omega)
  -- what is asked of the other one
  have rest : ∀ o : Pg, o.hgt ≤ 20 → o.sok = true → o.ka → tidy o [] = tidy p [] → hasK (envOf kn) o k → ∀ (x1 : Option D) (bk : DEnv → Ow → Prop),
      (gSeq (gIf (fOr (fTest (fOp (rEqD true) (fCall spTidied (fCons (fVar 5) fNil)) (fVar 6))) (fOr (fTest (fOp (rEqD true) (fCall spTidied (fCons (fVar 7) fNil)) (fVar 6))) (fTest (fOp (rEqD true) (fCall spTidied (fCons (fVar 6) fNil)) (fVar 6))))) (gRet (fC (.bl false))) gNext) (gIf (fOr (fTest (fOp (rEqD true) (fCall spKindOf (fCons (fVar 3) (fCons (fVar 5) fNil))) (fVar 4))) (fOr (fTest (fOp (rEqD true) (fCall spKindOf (fCons (fVar 3) (fCons (fVar 7) fNil))) (fVar 4))) (fTest (fOp (rEqD true) (fCall spKindOf (fCons (fVar 3) (fCons (fVar 6) fNil))) (fVar 4))))) (gRet (fC (.bl false))) gNext)) { nx := Nx, rt := R, bk := bk, ct := Nx } [some (.scr ns), x1, some (.ref pa), some (.lst (kn.map kv)), some (dK k), some (dP p), some (dP (tidy p [])), some (dP o)] (updO O' pa .pool) := by
    intro o ho1 ho2 ho3 hot hok x1 bk
    refine gSeq_step ?_
    walk_at "kf1"
    refine ⟨p, rfl, by omega, hps.1, ?_⟩
    try dsimp only
    rw [rEq_P hto.1 hto.1 (by omega)]
    walk_at "kf1"
    (try simp only [decide_true, Bool.xor_self])
    walk_at "kf1"
    refine ⟨o, rfl, by omega, ho2, ?_⟩
    try dsimp only
    rw [hot, rEq_P hto.1 hto.1 (by omega)]
    walk_at "kf1"
    (try simp only [decide_true, Bool.xor_self])
    walk_at "kf1"
    refine ⟨tidy p [], rfl, by omega, hto.1, ?_⟩
    try dsimp only
    rw [htd, rEq_P hto.1 hto.1 (by omega)]
    walk_at "kf1"
    (try simp only [decide_true, Bool.xor_self])
    walk_at "kf1"
    refine ⟨kn, p, k, rfl, hpk.1, hkn.kn, hps.1, hpa2, by omega, by omega, ?_⟩
    try dsimp only
    rw [rEq_K hkd.1 hkd.1 (by omega)]
    walk_at "kf1"
    (try simp only [decide_true, Bool.xor_self])
    walk_at "kf1"
    refine ⟨kn, o, k, rfl, hok, hkn.kn, ho2, ho3, by omega, by omega, ?_⟩
    try dsimp only
    rw [rEq_K hkd.1 hkd.1 (by omega)]
    walk_at "kf1"
    (try simp only [decide_true, Bool.xor_self])
    walk_at "kf1"
    refine ⟨kn, tidy p [], k, rfl, hdk, hkn.kn, hto.1, hda, by omega, by omega, ?_⟩
    try dsimp only
    rw [rEq_K hkd.1 hkd.1 (by omega)]
    walk_at "kf1"
    (try simp only [decide_true, Bool.xor_self])
    walk_at "kf1"
    exact hN _ _ ⟨_, _, _, _, _, _, _, rfl⟩
  try dsimp only
  refine gSeq_step ?_
  walk_at "kf1"
  walk_at "tg"
  refine ⟨q, [], rfl, by omega, by simp only [List.length_nil]; omega, hqs.1, (fun _ h => nomatch h), ?_⟩
  try dsimp only
  rw [rEq_P hqt.1 hto.1 (by omega)]
  by_cases c : tidy q [] = tidy p []
  · simp only [c, decide_true, Bool.xor_self]
    walk_at "kf1"
    exact rest q (by omega) hqs.1 hqs.2.1 c (alike hwf hqw (by omega) (by omega) c hpk.1) _ _
  · simp only [c, decide_false, Bool.xor_false]
    walk_at "kf1"
    exact rest p hph hps.1 hpa2 rfl hpk.1 _ _
end
end Kf
namespace Kf
open PySem PySem.Spec L2
open PyProof.Rows hiding St
local macro_rules | `(tactic| walk_at "kf") => `(tactic| simp (config := { failIfUnchanged := false }) only [startD, ap_fOrL, rOrL_l, ap_fLcK, ap_gForK, ap_fMaxD, rMaxD_l, rMaxL_l, ap_fCallXD, ap_gForE, asLE_l, ap_fFrz, ap_fDicO, ap_fDGet, ap_fDGet1, ap_fDGet2, ap_gDPut, ap_fIsiT, ap_gForR, rRep_l, isT_i, isT_s, isT_b, isT_n, isT_t, isT_l, ap_gSeq, ap_gIf, ap_gRet, ap_gNext, ap_gSet, ap_gAsg, ap_gDrop, ap_gRetF, ap_gRetN, ap_gFor, ap_gSetIx, ap_gBreak, ap_fRev, ap_fiRevR, asIR_i, rRev_l, ap_fCallX, ap_gRaise, ap_gTry, ap_gTryAs, ap_gNever, ap_fEdic, ap_fTest, ap_fOp, ap_fVar, envGet_s, patGet_s, ap_fC, ap_fCB, ap_fCons, ap_fNil, ap_fCall, ap_fAnd, ap_fOr, ap_fNot, ap_fAndV, ap_fOrV, ap_fNotV, ap_fIf, ap_fTup, ap_fLst, ap_fLstO, ap_fChain, ap_fUn, ap_fBM, ap_fBM0, ap_fPool, rPool_i, ap_fSl, ap_fPart, ap_fNoPart, asI_i, rSl_l, ap_fiRng1, ap_fiRng2, ap_fiList, ap_fiTup, ap_fiStr, ap_fiEnum, ap_fiZip, ap_fiRev, asL_l, asT_t, asSg_s, asR1_i, asR2_i, asL1_l, asL2_l, ap_fLc, ap_fLcO, ap_fYes, wipeD, lcD, isi_i_int, isi_i_bool, isi_i_str, isi_i_tuple, isi_i_list, isi_i_dict, isi_b_int, isi_b_bool, isi_b_str, isi_b_tuple, isi_b_list, isi_b_dict, isi_s_int, isi_s_bool, isi_s_str, isi_s_tuple, isi_s_list, isi_s_dict, isi_t_int, isi_t_bool, isi_t_str, isi_t_tuple, isi_t_list, isi_t_dict, isi_l_int, isi_l_bool, isi_l_str, isi_l_tuple, isi_l_list, isi_l_dict, isi_n_int, isi_n_bool, isi_n_str, isi_n_tuple, isi_n_list, isi_n_dict, isi_d_int, isi_d_bool, isi_d_str, isi_d_tuple, isi_d_list, isi_d_dict,
  deref_tup, deref_lst, deref_int, deref_str, deref_bl, deref_non, deref_scr, rLt_i, rLt_s, rLe_i, rLe_s, rInts_i, rInts0_i, rAdd_i, rAdd_s, rAdd_l, rAdd_t, rCatO_l, rNeg_i, rLen_t, rLen_l, rLen_c, rLen_s, rMax_i, rMin_i, rInt_i, rInt_b, rDivmod_i, ap_gAug, rStr_i, rList_l, rList_t, rListO_l, rListO_t, rTup_l, rTup_t,
  rIx_t0, rIx_t1, rIx_t2, rIx_t3, rIx_l0, rIx_l1, rIx_l2, rIsN_x, isNon_t, isNon_n, isNon_i, isNon_s, isNon_l, rEq_i, rEq_b, rEq_i2, rEq_b2, rJoin_m, rSplit_s, tyOk_l, tyOk_s, patD_nm, patD_tp, patDs_nil, patDs_cons, Option.bind_some, notX, notX',
  List.map_cons, List.map_nil, List.length_cons, List.length_nil, List.cons_append, List.nil_append, List.append_nil, List.replicate, List.getElem?_cons_zero, List.getElem?_cons_succ, List.set_cons_zero, List.set_cons_succ, updO_same, updO_updO,
  Nat.reduceSub, Nat.reduceAdd, Nat.reduceLeDiff, Nat.zero_add, Int.cast_ofNat_Int, Int.natCast_zero, Int.natCast_one, Int.reduceLT, Int.reduceLE, Int.reduceEq, Int.reduceAdd, Int.reduceSub, Int.reduceNeg, decide_true, decide_false, if_true, if_false, Bool.false_eq_true, eq_self, reduceIte, Bool.true_eq_false, decide_eq_true_eq, Bool.not_true, Bool.not_false, Bool.not_eq_true', decide_eq_false_iff_not, exists_eq_left', exists_eq_left, D.bl.injEq, true_and, and_true, not_true_eq_false, not_false_eq_true])
local macro_rules | `(tactic| walk_at "len") => `(tactic| (intro ds O R RE h; first | (obtain ⟨e, _⟩ := h; subst e; rfl) | (obtain ⟨_, e, _⟩ := h; subst e; rfl) | (obtain ⟨_, _, e, _⟩ := h; subst e; rfl) | (obtain ⟨_, _, _, e, _⟩ := h; subst e; rfl) | (obtain ⟨_, _, _, _, e, _⟩ := h; subst e; rfl) | (obtain ⟨_, _, _, _, _, e, _⟩ := h; subst e; rfl) | (obtain ⟨_, _, _, _, _, _, e, _⟩ := h; subst e; rfl) | (obtain ⟨_, _, _, _, _, _, _, e, _⟩ := h; subst e; rfl) | (obtain ⟨_, _, _, _, _, _, _, _, e, _⟩ := h; subst e; rfl) | (obtain ⟨_, _, _, _, _, _, _, _, _, e, _⟩ := h; subst e; rfl)))
local macro_rules | `(tactic| walk_at "kf1") => `(tactic| simp (config := { failIfUnchanged := false }) only [startD, ap_fOrL, rOrL_l, ap_fLcK, ap_gForK, ap_fMaxD, rMaxD_l, rMaxL_l, ap_fCallXD, ap_gForE, asLE_l, ap_fFrz, ap_fDicO, ap_fDGet, ap_fDGet1, ap_fDGet2, ap_gDPut, ap_fIsiT, ap_gForR, rRep_l, isT_i, isT_s, isT_b, isT_n, isT_t, isT_l, ap_gIf, ap_gRet, ap_gNext, ap_gSet, ap_gAsg, ap_gDrop, ap_gRetF, ap_gRetN, ap_gFor, ap_gSetIx, ap_gBreak, ap_fRev, ap_fiRevR, asIR_i, rRev_l, ap_fCallX, ap_gRaise, ap_gTry, ap_gTryAs, ap_gNever, ap_fEdic, ap_fTest, ap_fOp, ap_fVar, envGet_s, patGet_s, ap_fC, ap_fCB, ap_fCons, ap_fNil, ap_fCall, ap_fAnd, ap_fOr, ap_fNot, ap_fAndV, ap_fOrV, ap_fNotV, ap_fIf, ap_fTup, ap_fLst, ap_fLstO, ap_fChain, ap_fUn, ap_fBM, ap_fBM0, ap_fPool, rPool_i, ap_fSl, ap_fPart, ap_fNoPart, asI_i, rSl_l, ap_fiRng1, ap_fiRng2, ap_fiList, ap_fiTup, ap_fiStr, ap_fiEnum, ap_fiZip, ap_fiRev, asL_l, asT_t, asSg_s, asR1_i, asR2_i, asL1_l, asL2_l, ap_fLc, ap_fLcO, ap_fYes, wipeD, lcD, isi_i_int, isi_i_bool, isi_i_str, isi_i_tuple, isi_i_list, isi_i_dict, isi_b_int, isi_b_bool, isi_b_str, isi_b_tuple, isi_b_list, isi_b_dict, isi_s_int, isi_s_bool, isi_s_str, isi_s_tuple, isi_s_list, isi_s_dict, isi_t_int, isi_t_bool, isi_t_str, isi_t_tuple, isi_t_list, isi_t_dict, isi_l_int, isi_l_bool, isi_l_str, isi_l_tuple, isi_l_list, isi_l_dict, isi_n_int, isi_n_bool, isi_n_str, isi_n_tuple, isi_n_list, isi_n_dict, isi_d_int, isi_d_bool, isi_d_str, isi_d_tuple, isi_d_list, isi_d_dict,
  deref_tup, deref_lst, deref_int, deref_str, deref_bl, deref_non, deref_scr, rLt_i, rLt_s, rLe_i, rLe_s, rInts_i, rInts0_i, rAdd_i, rAdd_s, rAdd_l, rAdd_t, rCatO_l, rNeg_i, rLen_t, rLen_l, rLen_c, rLen_s, rMax_i, rMin_i, rInt_i, rInt_b, rDivmod_i, ap_gAug, rStr_i, rList_l, rList_t, rListO_l, rListO_t, rTup_l, rTup_t,
  rIx_t0, rIx_t1, rIx_t2, rIx_t3, rIx_l0, rIx_l1, rIx_l2, rIsN_x, isNon_t, isNon_n, isNon_i, isNon_s, isNon_l, rEq_i, rEq_b, rEq_i2, rEq_b2, rJoin_m, rSplit_s, tyOk_l, tyOk_s, patD_nm, patD_tp, patDs_nil, patDs_cons, Option.bind_some, notX, notX',
  List.map_cons, List.map_nil, List.length_cons, List.length_nil, List.cons_append, List.nil_append, List.append_nil, List.replicate, List.getElem?_cons_zero, List.getElem?_cons_succ, List.set_cons_zero, List.set_cons_succ, updO_same, updO_updO,
  Nat.reduceSub, Nat.reduceAdd, Nat.reduceLeDiff, Nat.zero_add, Int.cast_ofNat_Int, Int.natCast_zero, Int.natCast_one, Int.reduceLT, Int.reduceLE, Int.reduceEq, Int.reduceAdd, Int.reduceSub, Int.reduceNeg, decide_true, decide_false, if_true, if_false, Bool.false_eq_true, eq_self, reduceIte, Bool.true_eq_false, decide_eq_true_eq, Bool.not_true, Bool.not_false, Bool.not_eq_true', decide_eq_false_iff_not, exists_eq_left', exists_eq_left, D.bl.injEq, true_and, and_true, not_true_eq_false, not_false_eq_true])
section
variable {P : Program} {w : World} {K : PySem.W.Frag} {mg : Str → Option Value} {base : Heap}
local macro_rules | `(tactic| walk_at "tg") => `(tactic| simp (config := { failIfUnchanged := false }) only [te_name_take, te_name_give, te_name_pair, te_name_first, te_name_second, te_name_to, te_name_both, te_name_one, te_name_mark, te_name_name, te_name_thing, te_name_at, te_thing_take, te_thing_give, te_thing_pair, te_thing_first, te_thing_second, te_thing_to, te_thing_both, te_thing_one, te_thing_mark, te_thing_name, te_thing_thing, te_thing_at, te_take_take, te_take_give, te_take_pair, te_take_first, te_take_second, te_take_to, te_take_both, te_take_one, te_take_mark, te_take_name, te_take_thing, te_take_at, te_give_take, te_give_give, te_give_pair, te_give_first, te_give_second, te_give_to, te_give_both, te_give_one, te_give_mark, te_give_name, te_give_thing, te_give_at, te_pair_take, te_pair_give, te_pair_pair, te_pair_first, te_pair_second, te_pair_to, te_pair_both, te_pair_one, te_pair_mark, te_pair_name, te_pair_thing, te_pair_at, te_first_take, te_first_give, te_first_pair, te_first_first, te_first_second, te_first_to, te_first_both, te_first_one, te_first_mark, te_first_name, te_first_thing, te_first_at, te_second_take, te_second_give, te_second_pair, te_second_first, te_second_second, te_second_to, te_second_both, te_second_one, te_second_mark, te_second_name, te_second_thing, te_second_at, te_mark_take, te_mark_give, te_mark_pair, te_mark_first, te_mark_second, te_mark_to, te_mark_both, te_mark_one, te_mark_mark, te_mark_name, te_mark_thing, te_mark_at, te_one_take, te_one_give, te_one_pair, te_one_first, te_one_second, te_one_to, te_one_both, te_one_one, te_one_mark, te_one_name, te_one_thing, te_one_at, te_to_take, te_to_give, te_to_pair, te_to_first, te_to_second, te_to_to, te_to_both, te_to_one, te_to_mark, te_to_name, te_to_thing, te_to_at, te_both_take, te_both_give, te_both_pair, te_both_first, te_both_second, te_both_to, te_both_both, te_both_one, te_both_mark, te_both_name, te_both_thing, te_both_at, te_at_take, te_at_give, te_at_pair, te_at_first, te_at_second, te_at_to, te_at_both, te_at_one, te_at_mark, te_at_name, te_at_thing, te_at_at, ti4_name, ti4_thing, ti4_take, ti4_give, ti4_pair, ti4_first, ti4_second, ti2_name, ti2_thing, ti2_take, ti2_give, ti2_pair, ti2_first, ti2_second, szT_0, szT_1, szT_2, szT_3, szT_4, szT_5, szT_6, szT_7, szT_8, szT_9, szT_10, szT_11, szT_12, Bool.not_true, Bool.not_false, true_and])
end
theorem fn_mk {K : PySem.W.Frag} {h : Heap} {mg : Str → Option Value} {x : Str} {st : Stmt} {ps : List Str} {f : Addr} {oc : Value} {od an : Option Addr} {osl : Array (Option Value)} {kV doc pm cdv ct : Value} (X : K.In h) (G : h.Ns mainGlobals mg)
    (a : PySem.W.nsIn K mainGlobals x = some (some (.ref f))) (l : K.lookup f = some ⟨oc, od, .func (PySem.W.fnOf x x (defArgs st) (defBody st) (defScope st) .none kV doc pm an cdv ct), osl⟩) (c : PySem.W.codeIn K cdv x = true) (k : PySem.W.keepIn K (.ref f) = true)
    (b : ∀ (kV doc pm : Value) (an : Option Addr) (cdv ct : Value) (us : List Value), us.length = ps.length → bindArgs (PySem.W.fnOf x x (defArgs st) (defBody st) (defScope st) .none kV doc pm an cdv ct) ⟨us, []⟩ = pure (ps.zip us)) :
    Fn K mg x st ps f (PySem.W.fnOf x x (defArgs st) (defBody st) (defScope st) .none kV doc pm an cdv ct) := ⟨fun_mk l c k, PySem.W.mg_of X G a, (fun_mk l c k).binds b⟩
set_option maxHeartbeats 0 in
theorem all_mk {l : PySem.W.OpenLaw} {w : World} {K : PySem.W.Frag} {h : Heap} {mg : Str → Option Value} {fa : Addr} (X : K.In h) (G : h.Ns mainGlobals mg) (hfa : mg "law" = some (.ref fa))
    {f_inner : Addr} {oc_inner kV_inner dc_inner pm_inner cd_inner ct_inner : Value} {od_inner an_inner : Option Addr} {sl_inner : Array (Option Value)}
    (a_inner : PySem.W.nsIn K mainGlobals "inner" = some (some (.ref f_inner)))
    (l_inner : K.lookup f_inner = some ⟨oc_inner, od_inner, .func (PySem.W.fnOf "inner" "inner" (defArgs s_inner) (defBody s_inner) (defScope s_inner) .none kV_inner dc_inner pm_inner an_inner cd_inner ct_inner), sl_inner⟩)
    (c_inner : PySem.W.codeIn K cd_inner "inner" = true) (k_inner : PySem.W.keepIn K (.ref f_inner) = true)
    {f_with_inner : Addr} {oc_with_inner kV_with_inner dc_with_inner pm_with_inner cd_with_inner ct_with_inner : Value} {od_with_inner an_with_inner : Option Addr} {sl_with_inner : Array (Option Value)}
    (a_with_inner : PySem.W.nsIn K mainGlobals "with_inner" = some (some (.ref f_with_inner)))
    (l_with_inner : K.lookup f_with_inner = some ⟨oc_with_inner, od_with_inner, .func (PySem.W.fnOf "with_inner" "with_inner" (defArgs s_with_inner) (defBody s_with_inner) (defScope s_with_inner) .none kV_with_inner dc_with_inner pm_with_inner an_with_inner cd_with_inner ct_with_inner), sl_with_inner⟩)
    (c_with_inner : PySem.W.codeIn K cd_with_inner "with_inner" = true) (k_with_inner : PySem.W.keepIn K (.ref f_with_inner) = true)
    {f_known_as : Addr} {oc_known_as kV_known_as dc_known_as pm_known_as cd_known_as ct_known_as : Value} {od_known_as an_known_as : Option Addr} {sl_known_as : Array (Option Value)}
    (a_known_as : PySem.W.nsIn K mainGlobals "known_as" = some (some (.ref f_known_as)))
    (l_known_as : K.lookup f_known_as = some ⟨oc_known_as, od_known_as, .func (PySem.W.fnOf "known_as" "known_as" (defArgs s_known_as) (defBody s_known_as) (defScope s_known_as) .none kV_known_as dc_known_as pm_known_as an_known_as cd_known_as ct_known_as), sl_known_as⟩)
    (c_known_as : PySem.W.codeIn K cd_known_as "known_as" = true) (k_known_as : PySem.W.keepIn K (.ref f_known_as) = true)
    {f_kind_here : Addr} {oc_kind_here kV_kind_here dc_kind_here pm_kind_here cd_kind_here ct_kind_here : Value} {od_kind_here an_kind_here : Option Addr} {sl_kind_here : Array (Option Value)}
    (a_kind_here : PySem.W.nsIn K mainGlobals "kind_here" = some (some (.ref f_kind_here)))
    (l_kind_here : K.lookup f_kind_here = some ⟨oc_kind_here, od_kind_here, .func (PySem.W.fnOf "kind_here" "kind_here" (defArgs s_kind_here) (defBody s_kind_here) (defScope s_kind_here) .none kV_kind_here dc_kind_here pm_kind_here an_kind_here cd_kind_here ct_kind_here), sl_kind_here⟩)
    (c_kind_here : PySem.W.codeIn K cd_kind_here "kind_here" = true) (k_kind_here : PySem.W.keepIn K (.ref f_kind_here) = true)
    {f_kind_within : Addr} {oc_kind_within kV_kind_within dc_kind_within pm_kind_within cd_kind_within ct_kind_within : Value} {od_kind_within an_kind_within : Option Addr} {sl_kind_within : Array (Option Value)}
    (a_kind_within : PySem.W.nsIn K mainGlobals "kind_within" = some (some (.ref f_kind_within)))
    (l_kind_within : K.lookup f_kind_within = some ⟨oc_kind_within, od_kind_within, .func (PySem.W.fnOf "kind_within" "kind_within" (defArgs s_kind_within) (defBody s_kind_within) (defScope s_kind_within) .none kV_kind_within dc_kind_within pm_kind_within an_kind_within cd_kind_within ct_kind_within), sl_kind_within⟩)
    (c_kind_within : PySem.W.codeIn K cd_kind_within "kind_within" = true) (k_kind_within : PySem.W.keepIn K (.ref f_kind_within) = true)
    {f_kind_of : Addr} {oc_kind_of kV_kind_of dc_kind_of pm_kind_of cd_kind_of ct_kind_of : Value} {od_kind_of an_kind_of : Option Addr} {sl_kind_of : Array (Option Value)}
    (a_kind_of : PySem.W.nsIn K mainGlobals "kind_of" = some (some (.ref f_kind_of)))
    (l_kind_of : K.lookup f_kind_of = some ⟨oc_kind_of, od_kind_of, .func (PySem.W.fnOf "kind_of" "kind_of" (defArgs s_kind_of) (defBody s_kind_of) (defScope s_kind_of) .none kV_kind_of dc_kind_of pm_kind_of an_kind_of cd_kind_of ct_kind_of), sl_kind_of⟩)
    (c_kind_of : PySem.W.codeIn K cd_kind_of "kind_of" = true) (k_kind_of : PySem.W.keepIn K (.ref f_kind_of) = true)
    {f_tidied_within : Addr} {oc_tidied_within kV_tidied_within dc_tidied_within pm_tidied_within cd_tidied_within ct_tidied_within : Value} {od_tidied_within an_tidied_within : Option Addr} {sl_tidied_within : Array (Option Value)}
    (a_tidied_within : PySem.W.nsIn K mainGlobals "tidied_within" = some (some (.ref f_tidied_within)))
    (l_tidied_within : K.lookup f_tidied_within = some ⟨oc_tidied_within, od_tidied_within, .func (PySem.W.fnOf "tidied_within" "tidied_within" (defArgs s_tidied_within) (defBody s_tidied_within) (defScope s_tidied_within) .none kV_tidied_within dc_tidied_within pm_tidied_within an_tidied_within cd_tidied_within ct_tidied_within), sl_tidied_within⟩)
    (c_tidied_within : PySem.W.codeIn K cd_tidied_within "tidied_within" = true) (k_tidied_within : PySem.W.keepIn K (.ref f_tidied_within) = true)
    {f_tidied : Addr} {oc_tidied kV_tidied dc_tidied pm_tidied cd_tidied ct_tidied : Value} {od_tidied an_tidied : Option Addr} {sl_tidied : Array (Option Value)}
    (a_tidied : PySem.W.nsIn K mainGlobals "tidied" = some (some (.ref f_tidied)))
    (l_tidied : K.lookup f_tidied = some ⟨oc_tidied, od_tidied, .func (PySem.W.fnOf "tidied" "tidied" (defArgs s_tidied) (defBody s_tidied) (defScope s_tidied) .none kV_tidied dc_tidied pm_tidied an_tidied cd_tidied ct_tidied), sl_tidied⟩)
    (c_tidied : PySem.W.codeIn K cd_tidied "tidied" = true) (k_tidied : PySem.W.keepIn K (.ref f_tidied) = true)
    {f__law_pool : Addr} {oc__law_pool kV__law_pool dc__law_pool pm__law_pool cd__law_pool ct__law_pool : Value} {od__law_pool an__law_pool : Option Addr} {sl__law_pool : Array (Option Value)}
    (a__law_pool : PySem.W.nsIn K mainGlobals "_law_pool" = some (some (.ref f__law_pool)))
    (l__law_pool : K.lookup f__law_pool = some ⟨oc__law_pool, od__law_pool, .func (PySem.W.fnOf "_law_pool" "_law_pool" (defArgs s__law_pool) (defBody s__law_pool) (defScope s__law_pool) .none kV__law_pool dc__law_pool pm__law_pool an__law_pool cd__law_pool ct__law_pool), sl__law_pool⟩)
    (c__law_pool : PySem.W.codeIn K cd__law_pool "_law_pool" = true) (k__law_pool : PySem.W.keepIn K (.ref f__law_pool) = true)
    {f__law_take : Addr} {oc__law_take kV__law_take dc__law_take pm__law_take cd__law_take ct__law_take : Value} {od__law_take an__law_take : Option Addr} {sl__law_take : Array (Option Value)}
    (a__law_take : PySem.W.nsIn K mainGlobals "_law_take" = some (some (.ref f__law_take)))
    (l__law_take : K.lookup f__law_take = some ⟨oc__law_take, od__law_take, .func (PySem.W.fnOf "_law_take" "_law_take" (defArgs s__law_take) (defBody s__law_take) (defScope s__law_take) .none kV__law_take dc__law_take pm__law_take an__law_take cd__law_take ct__law_take), sl__law_take⟩)
    (c__law_take : PySem.W.codeIn K cd__law_take "_law_take" = true) (k__law_take : PySem.W.keepIn K (.ref f__law_take) = true)
    {f__law_kind : Addr} {oc__law_kind kV__law_kind dc__law_kind pm__law_kind cd__law_kind ct__law_kind : Value} {od__law_kind an__law_kind : Option Addr} {sl__law_kind : Array (Option Value)}
    (a__law_kind : PySem.W.nsIn K mainGlobals "_law_kind" = some (some (.ref f__law_kind)))
    (l__law_kind : K.lookup f__law_kind = some ⟨oc__law_kind, od__law_kind, .func (PySem.W.fnOf "_law_kind" "_law_kind" (defArgs s__law_kind) (defBody s__law_kind) (defScope s__law_kind) .none kV__law_kind dc__law_kind pm__law_kind an__law_kind cd__law_kind ct__law_kind), sl__law_kind⟩)
    (c__law_kind : PySem.W.codeIn K cd__law_kind "_law_kind" = true) (k__law_kind : PySem.W.keepIn K (.ref f__law_kind) = true)
    {f__law_seen : Addr} {oc__law_seen kV__law_seen dc__law_seen pm__law_seen cd__law_seen ct__law_seen : Value} {od__law_seen an__law_seen : Option Addr} {sl__law_seen : Array (Option Value)}
    (a__law_seen : PySem.W.nsIn K mainGlobals "_law_seen" = some (some (.ref f__law_seen)))
    (l__law_seen : K.lookup f__law_seen = some ⟨oc__law_seen, od__law_seen, .func (PySem.W.fnOf "_law_seen" "_law_seen" (defArgs s__law_seen) (defBody s__law_seen) (defScope s__law_seen) .none kV__law_seen dc__law_seen pm__law_seen an__law_seen cd__law_seen ct__law_seen), sl__law_seen⟩)
    (c__law_seen : PySem.W.codeIn K cd__law_seen "_law_seen" = true) (k__law_seen : PySem.W.keepIn K (.ref f__law_seen) = true)
    {f__law_uses : Addr} {oc__law_uses kV__law_uses dc__law_uses pm__law_uses cd__law_uses ct__law_uses : Value} {od__law_uses an__law_uses : Option Addr} {sl__law_uses : Array (Option Value)}
    (a__law_uses : PySem.W.nsIn K mainGlobals "_law_uses" = some (some (.ref f__law_uses)))
    (l__law_uses : K.lookup f__law_uses = some ⟨oc__law_uses, od__law_uses, .func (PySem.W.fnOf "_law_uses" "_law_uses" (defArgs s__law_uses) (defBody s__law_uses) (defScope s__law_uses) .none kV__law_uses dc__law_uses pm__law_uses an__law_uses cd__law_uses ct__law_uses), sl__law_uses⟩)
    (c__law_uses : PySem.W.codeIn K cd__law_uses "_law_uses" = true) (k__law_uses : PySem.W.keepIn K (.ref f__law_uses) = true)
    {f__law_used : Addr} {oc__law_used kV__law_used dc__law_used pm__law_used cd__law_used ct__law_used : Value} {od__law_used an__law_used : Option Addr} {sl__law_used : Array (Option Value)}
    (a__law_used : PySem.W.nsIn K mainGlobals "_law_used" = some (some (.ref f__law_used)))
    (l__law_used : K.lookup f__law_used = some ⟨oc__law_used, od__law_used, .func (PySem.W.fnOf "_law_used" "_law_used" (defArgs s__law_used) (defBody s__law_used) (defScope s__law_used) .none kV__law_used dc__law_used pm__law_used an__law_used cd__law_used ct__law_used), sl__law_used⟩)
    (c__law_used : PySem.W.codeIn K cd__law_used "_law_used" = true) (k__law_used : PySem.W.keepIn K (.ref f__law_used) = true)
    {f__law_made : Addr} {oc__law_made kV__law_made dc__law_made pm__law_made cd__law_made ct__law_made : Value} {od__law_made an__law_made : Option Addr} {sl__law_made : Array (Option Value)}
    (a__law_made : PySem.W.nsIn K mainGlobals "_law_made" = some (some (.ref f__law_made)))
    (l__law_made : K.lookup f__law_made = some ⟨oc__law_made, od__law_made, .func (PySem.W.fnOf "_law_made" "_law_made" (defArgs s__law_made) (defBody s__law_made) (defScope s__law_made) .none kV__law_made dc__law_made pm__law_made an__law_made cd__law_made ct__law_made), sl__law_made⟩)
    (c__law_made : PySem.W.codeIn K cd__law_made "_law_made" = true) (k__law_made : PySem.W.keepIn K (.ref f__law_made) = true)
    {f__law_program : Addr} {oc__law_program kV__law_program dc__law_program pm__law_program cd__law_program ct__law_program : Value} {od__law_program an__law_program : Option Addr} {sl__law_program : Array (Option Value)}
    (a__law_program : PySem.W.nsIn K mainGlobals "_law_program" = some (some (.ref f__law_program)))
    (l__law_program : K.lookup f__law_program = some ⟨oc__law_program, od__law_program, .func (PySem.W.fnOf "_law_program" "_law_program" (defArgs s__law_program) (defBody s__law_program) (defScope s__law_program) .none kV__law_program dc__law_program pm__law_program an__law_program cd__law_program ct__law_program), sl__law_program⟩)
    (c__law_program : PySem.W.codeIn K cd__law_program "_law_program" = true) (k__law_program : PySem.W.keepIn K (.ref f__law_program) = true)
    {f__law_row : Addr} {oc__law_row kV__law_row dc__law_row pm__law_row cd__law_row ct__law_row : Value} {od__law_row an__law_row : Option Addr} {sl__law_row : Array (Option Value)}
    (a__law_row : PySem.W.nsIn K mainGlobals "_law_row" = some (some (.ref f__law_row)))
    (l__law_row : K.lookup f__law_row = some ⟨oc__law_row, od__law_row, .func (PySem.W.fnOf "_law_row" "_law_row" (defArgs s__law_row) (defBody s__law_row) (defScope s__law_row) .none kV__law_row dc__law_row pm__law_row an__law_row cd__law_row ct__law_row), sl__law_row⟩)
    (c__law_row : PySem.W.codeIn K cd__law_row "_law_row" = true) (k__law_row : PySem.W.keepIn K (.ref f__law_row) = true)
    {f__law_many : Addr} {oc__law_many kV__law_many dc__law_many pm__law_many cd__law_many ct__law_many : Value} {od__law_many an__law_many : Option Addr} {sl__law_many : Array (Option Value)}
    (a__law_many : PySem.W.nsIn K mainGlobals "_law_many" = some (some (.ref f__law_many)))
    (l__law_many : K.lookup f__law_many = some ⟨oc__law_many, od__law_many, .func (PySem.W.fnOf "_law_many" "_law_many" (defArgs s__law_many) (defBody s__law_many) (defScope s__law_many) .none kV__law_many dc__law_many pm__law_many an__law_many cd__law_many ct__law_many), sl__law_many⟩)
    (c__law_many : PySem.W.codeIn K cd__law_many "_law_many" = true) (k__law_many : PySem.W.keepIn K (.ref f__law_many) = true)
    {f__law_words : Addr} {oc__law_words kV__law_words dc__law_words pm__law_words cd__law_words ct__law_words : Value} {od__law_words an__law_words : Option Addr} {sl__law_words : Array (Option Value)}
    (a__law_words : PySem.W.nsIn K mainGlobals "_law_words" = some (some (.ref f__law_words)))
    (l__law_words : K.lookup f__law_words = some ⟨oc__law_words, od__law_words, .func (PySem.W.fnOf "_law_words" "_law_words" (defArgs s__law_words) (defBody s__law_words) (defScope s__law_words) .none kV__law_words dc__law_words pm__law_words an__law_words cd__law_words ct__law_words), sl__law_words⟩)
    (c__law_words : PySem.W.codeIn K cd__law_words "_law_words" = true) (k__law_words : PySem.W.keepIn K (.ref f__law_words) = true)
    {f__law_drawn : Addr} {oc__law_drawn kV__law_drawn dc__law_drawn pm__law_drawn cd__law_drawn ct__law_drawn : Value} {od__law_drawn an__law_drawn : Option Addr} {sl__law_drawn : Array (Option Value)}
    (a__law_drawn : PySem.W.nsIn K mainGlobals "_law_drawn" = some (some (.ref f__law_drawn)))
    (l__law_drawn : K.lookup f__law_drawn = some ⟨oc__law_drawn, od__law_drawn, .func (PySem.W.fnOf "_law_drawn" "_law_drawn" (defArgs s__law_drawn) (defBody s__law_drawn) (defScope s__law_drawn) .none kV__law_drawn dc__law_drawn pm__law_drawn an__law_drawn cd__law_drawn ct__law_drawn), sl__law_drawn⟩)
    (c__law_drawn : PySem.W.codeIn K cd__law_drawn "_law_drawn" = true) (k__law_drawn : PySem.W.keepIn K (.ref f__law_drawn) = true)
    {f__law_tidied : Addr} {oc__law_tidied kV__law_tidied dc__law_tidied pm__law_tidied cd__law_tidied ct__law_tidied : Value} {od__law_tidied an__law_tidied : Option Addr} {sl__law_tidied : Array (Option Value)}
    (a__law_tidied : PySem.W.nsIn K mainGlobals "_law_tidied" = some (some (.ref f__law_tidied)))
    (l__law_tidied : K.lookup f__law_tidied = some ⟨oc__law_tidied, od__law_tidied, .func (PySem.W.fnOf "_law_tidied" "_law_tidied" (defArgs s__law_tidied) (defBody s__law_tidied) (defScope s__law_tidied) .none kV__law_tidied dc__law_tidied pm__law_tidied an__law_tidied cd__law_tidied ct__law_tidied), sl__law_tidied⟩)
    (c__law_tidied : PySem.W.codeIn K cd__law_tidied "_law_tidied" = true) (k__law_tidied : PySem.W.keepIn K (.ref f__law_tidied) = true)
    {f__law_farther : Addr} {oc__law_farther kV__law_farther dc__law_farther pm__law_farther cd__law_farther ct__law_farther : Value} {od__law_farther an__law_farther : Option Addr} {sl__law_farther : Array (Option Value)}
    (a__law_farther : PySem.W.nsIn K mainGlobals "_law_farther" = some (some (.ref f__law_farther)))
    (l__law_farther : K.lookup f__law_farther = some ⟨oc__law_farther, od__law_farther, .func (PySem.W.fnOf "_law_farther" "_law_farther" (defArgs s__law_farther) (defBody s__law_farther) (defScope s__law_farther) .none kV__law_farther dc__law_farther pm__law_farther an__law_farther cd__law_farther ct__law_farther), sl__law_farther⟩)
    (c__law_farther : PySem.W.codeIn K cd__law_farther "_law_farther" = true) (k__law_farther : PySem.W.keepIn K (.ref f__law_farther) = true)
    {f__law_called : Addr} {oc__law_called kV__law_called dc__law_called pm__law_called cd__law_called ct__law_called : Value} {od__law_called an__law_called : Option Addr} {sl__law_called : Array (Option Value)}
    (a__law_called : PySem.W.nsIn K mainGlobals "_law_called" = some (some (.ref f__law_called)))
    (l__law_called : K.lookup f__law_called = some ⟨oc__law_called, od__law_called, .func (PySem.W.fnOf "_law_called" "_law_called" (defArgs s__law_called) (defBody s__law_called) (defScope s__law_called) .none kV__law_called dc__law_called pm__law_called an__law_called cd__law_called ct__law_called), sl__law_called⟩)
    (c__law_called : PySem.W.codeIn K cd__law_called "_law_called" = true) (k__law_called : PySem.W.keepIn K (.ref f__law_called) = true)
    {f_law : Addr} {oc_law kV_law dc_law pm_law cd_law ct_law : Value} {od_law an_law : Option Addr} {sl_law : Array (Option Value)}
    (a_law : PySem.W.nsIn K mainGlobals "law" = some (some (.ref f_law)))
    (l_law : K.lookup f_law = some ⟨oc_law, od_law, .func (PySem.W.fnOf "law" "law" (defArgs s_law) (defBody s_law) (defScope s_law) .none kV_law dc_law pm_law an_law cd_law ct_law), sl_law⟩)
    (c_law : PySem.W.codeIn K cd_law "law" = true) (k_law : PySem.W.keepIn K (.ref f_law) = true)
    (z_list : PySem.W.nsIn K mainGlobals "list" = some none)
    (z_tuple : PySem.W.nsIn K mainGlobals "tuple" = some none)
    (z_reversed : PySem.W.nsIn K mainGlobals "reversed" = some none)
    (z_int : PySem.W.nsIn K mainGlobals "int" = some none)
    (z_enumerate : PySem.W.nsIn K mainGlobals "enumerate" = some none)
    (z_range : PySem.W.nsIn K mainGlobals "range" = some none)
    (z_len : PySem.W.nsIn K mainGlobals "len" = some none)
    (z_str : PySem.W.nsIn K mainGlobals "str" = some none)
    (z_isinstance : PySem.W.nsIn K mainGlobals "isinstance" = some none)
    (z_dict : PySem.W.nsIn K mainGlobals "dict" = some none)
    (z_min : PySem.W.nsIn K mainGlobals "min" = some none)
    (z_max : PySem.W.nsIn K mainGlobals "max" = some none)
    {p_ONE : Addr} {dd_ONE : Option Addr} {n_ONE : Nat} {sl_ONE : Array (Option Value)} {t_ONE : Tok} (e_ONE : PySem.W.nsIn K mainGlobals "ONE" = some (some (.ref p_ONE))) (q_ONE : K.lookup p_ONE = some ⟨.type "tuple", dd_ONE, .seq #[.str "one" t_ONE] n_ONE, sl_ONE⟩) :
    ∃ fd : FuncData, (∀ (s : Shared) (v : Value), BindsTo s fd ⟨[v], []⟩ [("_law_script", v)]) ∧ ∀ base : Heap, K.In base → base.Ns mainGlobals mg → FnOk l.prog w K mg base CX0 215 fa fd ["_law_script"] (liftSp K (lawSp 63)) := by
  have e := hfa.symm.trans (PySem.W.mg_of X G a_law)
  cases e
  have N_inner' := fn_mk (ps := P_inner) X G a_inner l_inner c_inner k_inner fun _ _ _ _ _ _ us hl => match us, hl with | [_], _ => rfl
  have N_with_inner' := fn_mk (ps := P_with_inner) X G a_with_inner l_with_inner c_with_inner k_with_inner fun _ _ _ _ _ _ us hl => match us, hl with | [_, _], _ => rfl
  have N_known_as' := fn_mk (ps := P_known_as) X G a_known_as l_known_as c_known_as k_known_as fun _ _ _ _ _ _ us hl => match us, hl with | [_, _], _ => rfl
  have N_kind_here' := fn_mk (ps := P_kind_here) X G a_kind_here l_kind_here c_kind_here k_kind_here fun _ _ _ _ _ _ us hl => match us, hl with | [_, _, _], _ => rfl
  have N_kind_within' := fn_mk (ps := P_kind_within) X G a_kind_within l_kind_within c_kind_within k_kind_within fun _ _ _ _ _ _ us hl => match us, hl with | [_, _, _], _ => rfl
  have N_kind_of' := fn_mk (ps := P_kind_of) X G a_kind_of l_kind_of c_kind_of k_kind_of fun _ _ _ _ _ _ us hl => match us, hl with | [_, _], _ => rfl
  have N_tidied_within' := fn_mk (ps := P_tidied_within) X G a_tidied_within l_tidied_within c_tidied_within k_tidied_within fun _ _ _ _ _ _ us hl => match us, hl with | [_, _], _ => rfl
  have N_tidied' := fn_mk (ps := P_tidied) X G a_tidied l_tidied c_tidied k_tidied fun _ _ _ _ _ _ us hl => match us, hl with | [_], _ => rfl
  have N__law_pool' := fn_mk (ps := P__law_pool) X G a__law_pool l__law_pool c__law_pool k__law_pool fun _ _ _ _ _ _ us hl => match us, hl with | [_, _], _ => rfl
  have N__law_take' := fn_mk (ps := P__law_take) X G a__law_take l__law_take c__law_take k__law_take fun _ _ _ _ _ _ us hl => match us, hl with | [_, _], _ => rfl
  have N__law_kind' := fn_mk (ps := P__law_kind) X G a__law_kind l__law_kind c__law_kind k__law_kind fun _ _ _ _ _ _ us hl => match us, hl with | [_, _, _], _ => rfl
  have N__law_seen' := fn_mk (ps := P__law_seen) X G a__law_seen l__law_seen c__law_seen k__law_seen fun _ _ _ _ _ _ us hl => match us, hl with | [_], _ => rfl
  have N__law_uses' := fn_mk (ps := P__law_uses) X G a__law_uses l__law_uses c__law_uses k__law_uses fun _ _ _ _ _ _ us hl => match us, hl with | [_, _, _], _ => rfl
  have N__law_used' := fn_mk (ps := P__law_used) X G a__law_used l__law_used c__law_used k__law_used fun _ _ _ _ _ _ us hl => match us, hl with | [_, _, _, _], _ => rfl
  have N__law_made' := fn_mk (ps := P__law_made) X G a__law_made l__law_made c__law_made k__law_made fun _ _ _ _ _ _ us hl => match us, hl with | [_, _, _, _], _ => rfl
  have N__law_program' := fn_mk (ps := P__law_program) X G a__law_program l__law_program c__law_program k__law_program fun _ _ _ _ _ _ us hl => match us, hl with | [_, _, _, _], _ => rfl
  have N__law_row' := fn_mk (ps := P__law_row) X G a__law_row l__law_row c__law_row k__law_row fun _ _ _ _ _ _ us hl => match us, hl with | [_], _ => rfl
  have N__law_many' := fn_mk (ps := P__law_many) X G a__law_many l__law_many c__law_many k__law_many fun _ _ _ _ _ _ us hl => match us, hl with | [_], _ => rfl
  have N__law_words' := fn_mk (ps := P__law_words) X G a__law_words l__law_words c__law_words k__law_words fun _ _ _ _ _ _ us hl => match us, hl with | [], _ => rfl
  have N__law_drawn' := fn_mk (ps := P__law_drawn) X G a__law_drawn l__law_drawn c__law_drawn k__law_drawn fun _ _ _ _ _ _ us hl => match us, hl with | [_, _, _], _ => rfl
  have N__law_tidied' := fn_mk (ps := P__law_tidied) X G a__law_tidied l__law_tidied c__law_tidied k__law_tidied fun _ _ _ _ _ _ us hl => match us, hl with | [_, _], _ => rfl
  have N__law_farther' := fn_mk (ps := P__law_farther) X G a__law_farther l__law_farther c__law_farther k__law_farther fun _ _ _ _ _ _ us hl => match us, hl with | [_, _], _ => rfl
  have N__law_called' := fn_mk (ps := P__law_called) X G a__law_called l__law_called c__law_called k__law_called fun _ _ _ _ _ _ us hl => match us, hl with | [_, _, _], _ => rfl
  have N_law' := fn_mk (ps := P_law) X G a_law l_law c_law k_law fun _ _ _ _ _ _ us hl => match us, hl with | [_], _ => rfl
  have m_list : mg "list" = none := PySem.W.mg_none_of X G z_list
  have m_tuple : mg "tuple" = none := PySem.W.mg_none_of X G z_tuple
  have m_reversed : mg "reversed" = none := PySem.W.mg_none_of X G z_reversed
  have m_int : mg "int" = none := PySem.W.mg_none_of X G z_int
  have m_enumerate : mg "enumerate" = none := PySem.W.mg_none_of X G z_enumerate
  have m_range : mg "range" = none := PySem.W.mg_none_of X G z_range
  have m_len : mg "len" = none := PySem.W.mg_none_of X G z_len
  have m_str : mg "str" = none := PySem.W.mg_none_of X G z_str
  have m_isinstance : mg "isinstance" = none := PySem.W.mg_none_of X G z_isinstance
  have m_dict : mg "dict" = none := PySem.W.mg_none_of X G z_dict
  have m_min : mg "min" = none := PySem.W.mg_none_of X G z_min
  have m_max : mg "max" = none := PySem.W.mg_none_of X G z_max
  have c_ONE : Cst K mg "ONE" (.tup [.str "one"]) := cst_strs (ys := ["one"]) (PySem.W.mg_of X G e_ONE) q_ONE rfl rfl (.cons ⟨_, rfl⟩ .nil) (by decide)
  let T : Tx K mg := { a_inner := _, fd_inner := _, n_inner := N_inner', a_with_inner := _, fd_with_inner := _, n_with_inner := N_with_inner', a_known_as := _, fd_known_as := _, n_known_as := N_known_as', a_kind_here := _, fd_kind_here := _, n_kind_here := N_kind_here', a_kind_within := _, fd_kind_within := _, n_kind_within := N_kind_within', a_kind_of := _, fd_kind_of := _, n_kind_of := N_kind_of', a_tidied_within := _, fd_tidied_within := _, n_tidied_within := N_tidied_within', a_tidied := _, fd_tidied := _, n_tidied := N_tidied', a__law_pool := _, fd__law_pool := _, n__law_pool := N__law_pool', a__law_take := _, fd__law_take := _, n__law_take := N__law_take', a__law_kind := _, fd__law_kind := _, n__law_kind := N__law_kind', a__law_seen := _, fd__law_seen := _, n__law_seen := N__law_seen', a__law_uses := _, fd__law_uses := _, n__law_uses := N__law_uses', a__law_used := _, fd__law_used := _, n__law_used := N__law_used', a__law_made := _, fd__law_made := _, n__law_made := N__law_made', a__law_program := _, fd__law_program := _, n__law_program := N__law_program', a__law_row := _, fd__law_row := _, n__law_row := N__law_row', a__law_many := _, fd__law_many := _, n__law_many := N__law_many', a__law_words := _, fd__law_words := _, n__law_words := N__law_words', a__law_drawn := _, fd__law_drawn := _, n__law_drawn := N__law_drawn', a__law_tidied := _, fd__law_tidied := _, n__law_tidied := N__law_tidied', a__law_farther := _, fd__law_farther := _, n__law_farther := N__law_farther', a__law_called := _, fd__law_called := _, n__law_called := N__law_called', a_law := _, fd_law := _, n_law := N_law', m_list := m_list, m_tuple := m_tuple, m_reversed := m_reversed, m_int := m_int, m_enumerate := m_enumerate, m_range := m_range, m_len := m_len, m_str := m_str, m_isinstance := m_isinstance, m_dict := m_dict, m_min := m_min, m_max := m_max, c_ONE := c_ONE }
  exact ⟨_, fun s v => .of_eq rfl, fun base _ _ => ok_law T⟩
end Kf
open PySem PySem.W PyProof.Rows
set_option maxHeartbeats 0 in
theorem PySem.Challenge.cw_kindfill_k09_tidied_holds : PySem.Challenge.rw_kindfill_k09_tidied.Holds := by
  w_on; o_law; k_head; (case hw => w_witness2)
  k_fill
  refine L2.walk_of (l := PySem.Challenge.rw_kindfill_k09_tidied) (n := 63) (k := 215) (x := "_law_script") (CX := fun _ => L2.CX0) (sp := fun w => Kf.liftSp _ (Kf.lawSp 63)) rfl (by decide) rfl ⟨rfl, by decide, by decide⟩ (fun w h Y => PySem.W.kIn_of Y) ?F (fun _ _ a ns hl _ hS => Kf.law_start hl hS) (fun _ _ _ _ _ h => h)
  case F =>
    intro w mg fa h KX G hmg
    refine' Kf.all_mk KX G hmg ?a_inner ?l_inner ?c_inner ?k_inner ?a_with_inner ?l_with_inner ?c_with_inner ?k_with_inner ?a_known_as ?l_known_as ?c_known_as ?k_known_as ?a_kind_here ?l_kind_here ?c_kind_here ?k_kind_here ?a_kind_within ?l_kind_within ?c_kind_within ?k_kind_within ?a_kind_of ?l_kind_of ?c_kind_of ?k_kind_of ?a_tidied_within ?l_tidied_within ?c_tidied_within ?k_tidied_within ?a_tidied ?l_tidied ?c_tidied ?k_tidied ?a__law_pool ?l__law_pool ?c__law_pool ?k__law_pool ?a__law_take ?l__law_take ?c__law_take ?k__law_take ?a__law_kind ?l__law_kind ?c__law_kind ?k__law_kind ?a__law_seen ?l__law_seen ?c__law_seen ?k__law_seen ?a__law_uses ?l__law_uses ?c__law_uses ?k__law_uses ?a__law_used ?l__law_used ?c__law_used ?k__law_used ?a__law_made ?l__law_made ?c__law_made ?k__law_made ?a__law_program ?l__law_program ?c__law_program ?k__law_program ?a__law_row ?l__law_row ?c__law_row ?k__law_row ?a__law_many ?l__law_many ?c__law_many ?k__law_many ?a__law_words ?l__law_words ?c__law_words ?k__law_words ?a__law_drawn ?l__law_drawn ?c__law_drawn ?k__law_drawn ?a__law_tidied ?l__law_tidied ?c__law_tidied ?k__law_tidied ?a__law_farther ?l__law_farther ?c__law_farther ?k__law_farther ?a__law_called ?l__law_called ?c__law_called ?k__law_called ?a_law ?l_law ?c_law ?k_law ?z_list ?z_tuple ?z_reversed ?z_int ?z_enumerate ?z_range ?z_len ?z_str ?z_isinstance ?z_dict ?z_min ?z_max ?e_ONE ?q_ONE
    (case a_inner => k_is)
    (case l_inner => k_is)
    (case c_inner => k_is)
    (case k_inner => k_is)
    (case a_with_inner => k_is)
    (case l_with_inner => k_is)
    (case c_with_inner => k_is)
    (case k_with_inner => k_is)
    (case a_known_as => k_is)
    (case l_known_as => k_is)
    (case c_known_as => k_is)
    (case k_known_as => k_is)
    (case a_kind_here => k_is)
    (case l_kind_here => k_is)
    (case c_kind_here => k_is)
    (case k_kind_here => k_is)
    (case a_kind_within => k_is)
    (case l_kind_within => k_is)
    (case c_kind_within => k_is)
    (case k_kind_within => k_is)
    (case a_kind_of => k_is)
    (case l_kind_of => k_is)
    (case c_kind_of => k_is)
    (case k_kind_of => k_is)
    (case a_tidied_within => k_is)
    (case l_tidied_within => k_is)
    (case c_tidied_within => k_is)
    (case k_tidied_within => k_is)
    (case a_tidied => k_is)
    (case l_tidied => k_is)
    (case c_tidied => k_is)
    (case k_tidied => k_is)
    (case a__law_pool => k_is)
    (case l__law_pool => k_is)
    (case c__law_pool => k_is)
    (case k__law_pool => k_is)
    (case a__law_take => k_is)
    (case l__law_take => k_is)
    (case c__law_take => k_is)
    (case k__law_take => k_is)
    (case a__law_kind => k_is)
    (case l__law_kind => k_is)
    (case c__law_kind => k_is)
    (case k__law_kind => k_is)
    (case a__law_seen => k_is)
    (case l__law_seen => k_is)
    (case c__law_seen => k_is)
    (case k__law_seen => k_is)
    (case a__law_uses => k_is)
    (case l__law_uses => k_is)
    (case c__law_uses => k_is)
    (case k__law_uses => k_is)
    (case a__law_used => k_is)
    (case l__law_used => k_is)
    (case c__law_used => k_is)
    (case k__law_used => k_is)
    (case a__law_made => k_is)
    (case l__law_made => k_is)
    (case c__law_made => k_is)
    (case k__law_made => k_is)
    (case a__law_program => k_is)
    (case l__law_program => k_is)
    (case c__law_program => k_is)
    (case k__law_program => k_is)
    (case a__law_row => k_is)
    (case l__law_row => k_is)
    (case c__law_row => k_is)
    (case k__law_row => k_is)
    (case a__law_many => k_is)
    (case l__law_many => k_is)
    (case c__law_many => k_is)
    (case k__law_many => k_is)
    (case a__law_words => k_is)
    (case l__law_words => k_is)
    (case c__law_words => k_is)
    (case k__law_words => k_is)
    (case a__law_drawn => k_is)
    (case l__law_drawn => k_is)
    (case c__law_drawn => k_is)
    (case k__law_drawn => k_is)
    (case a__law_tidied => k_is)
    (case l__law_tidied => k_is)
    (case c__law_tidied => k_is)
    (case k__law_tidied => k_is)
    (case a__law_farther => k_is)
    (case l__law_farther => k_is)
    (case c__law_farther => k_is)
    (case k__law_farther => k_is)
    (case a__law_called => k_is)
    (case l__law_called => k_is)
    (case c__law_called => k_is)
    (case k__law_called => k_is)
    (case a_law => k_is)
    (case l_law => k_is)
    (case c_law => k_is)
    (case k_law => k_is)
    (case z_list => k_is)
    (case z_tuple => k_is)
    (case z_reversed => k_is)
    (case z_int => k_is)
    (case z_enumerate => k_is)
    (case z_range => k_is)
    (case z_len => k_is)
    (case z_str => k_is)
    (case z_isinstance => k_is)
    (case z_dict => k_is)
    (case z_min => k_is)
    (case z_max => k_is)
    (case e_ONE => k_is)
    (case q_ONE => k_is)
