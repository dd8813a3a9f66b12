import PyProof.Rows.All
import Wide.All
import OpenK.AllK
import Wide.FinOn
import HandS.ForMost
import HandS.ForExc
import HandS.IsInst
import HandS.Deep
import HandS.Wide
import HandS.RevRange
import HandS.More
import HandS.TupLe
import HandS.ExcIs
import HandS.RaiseMore
import KE.KRevSl
import HandS.SortKw
import KE.KMinKey
import HandS.CallSlots
import HandS.Defaults
import HandS.Flow
import HandS.NoneIn
import KE.GoesMore
import KE.KExcIs
import HandS.Finally
import HandS.DictComp
import KE.DataMinMax
import KE.KEqDict
import HandS.ExcInit
import HandS.ExcValue
import KE.SortData
import HandS.Replace
import HandS.ReplaceLit
import HandS.SetFor
import HandS.SetTxt0
import HandS.TupAny
import KE.DataMinKey
import KE.KDictCopyH
import HandS.WordsDict
import KE.KAssignIn
import HandS.Ends
import HandS.Text
import PyProof.ReprReads
import PySem.Challenge.RW_kindfill_k52_counts_by_hand
set_option Elab.async false
set_option maxRecDepth 100000
set_option linter.all false
/-! Kf: a layer of readings over plain data. -/
namespace Kf
open PySem PySem.Spec L2
open PyProof.Rows hiding St

/-- plain data; scr is the script, ref an owned cell -/
inductive D where
  | non | bl (b : Bool) | int (i : Int) | str (x : Str) | tup (ds : List D) | lst (ds : List D) | ref (a : Addr) | ty (n : String) | scr (ns : List Int) | edic | tupK (ks : List Key)
  deriving Inhabited

/-- what an owned address holds -/
inductive Cell where
  | lst (ds : List D)
  | pool
  | dic (kvs : List (Key × D))
  | dicL (kvs : List (Key × D)) (o : HO)
  | exc (cls : Value) (fs : Option (List (Str × D)))
  | ins (C : Addr) (fs : List (Str × D))
  | dicT (kvs : List (List Key × D))

abbrev Ow := Addr → Option Cell
def updO (O : Ow) (a : Addr) (c : Cell) : Ow := fun b => if b = a then some c else O b
theorem updO_same {O : Ow} {a : Addr} {c : Cell} : updO O a c a = some c := if_pos rfl
theorem updO_ne {O : Ow} {a b : Addr} {c : Cell} (h : b ≠ a) : updO O a c b = O b := if_neg h
theorem updO_updO {O : Ow} {a : Addr} {c d : Cell} : updO (updO O a c) a d = updO O a d := by
  funext b; unfold updO; split <;> rfl
theorem updO_self {O : Ow} {a : Addr} {c : Cell} (h : O a = some c) : updO O a c = O := by
  funext b; unfold updO; split
  · rename_i e; rw [e, h]
  · rfl
/-- without a cell -/
def delO (O : Ow) (a : Addr) : Ow := fun b => if b = a then none else O b
theorem delO_updO {O : Ow} {a : Addr} {c : Cell} (h : O a = none) : delO (updO O a c) a = O := by
  funext b; unfold delO updO; split
  · rename_i e; rw [e, h]
  · rfl

abbrev DEnv := List (Option D)
abbrev VD := D → Ow → Prop
abbrev FE := DEnv → Ow → VD → Prop
abbrev FT := DEnv → Ow → (Bool → Ow → Prop) → Prop
abbrev FA := DEnv → Ow → (List D → Ow → Prop) → Prop

section
variable (K : PySem.W.Frag) (F : Hp)
mutual
def Rep : D → V → Prop
  | .non, v => v = .non
  | .bl b, v => v = .bl b
  | .int i, v => v = .int i
  | .str x, v => v = .str x
  | .tup ds, v => ∃ a xs, v = .ref a ∧ SqT K F a xs ∧ RepAll ds xs
  | .lst ds, v => ∃ a xs, v = .ref a ∧ F a = some (.lst xs) ∧ RepAll ds xs
  | .ref a, v => v = .ref a
  | .ty n, v => v = .ty n
  | .scr ns, v => ∃ a, v = .ref a ∧ SqL K F a (ns.map V.int)
  | .edic, v => ∃ a, v = .ref a ∧ F a = some (.dK [])
  | .tupK ks, v => ∃ a, v = .ref a ∧ F a = some (.tup (ks.map kV))
def RepAll : List D → List V → Prop
  | [], vs => vs = []
  | d :: ds, vs => ∃ v r, vs = v :: r ∧ Rep d v ∧ RepAll ds r
end
end

theorem Same.seqT {K : PySem.W.Frag} {H H' : Hp} {a : Addr} {xs : List V} (e : Same H H') (h : SqT K H a xs) : SqT K H' a xs := by
  rcases h with (h | ⟨o, h⟩) | h
  · exact .inl (.inl (e _ _ h))
  · exact .inl (.inr ⟨o, e _ _ h⟩)
  · exact .inr h

section
variable {K : PySem.W.Frag} {F F' : Hp}
mutual
theorem Rep.mono (s : Same F F') : ∀ (d : D) (v : V), Rep K F d v → Rep K F' d v
  | .non, _, h => by simpa only [Rep] using h
  | .bl _, _, h => by simpa only [Rep] using h
  | .int _, _, h => by simpa only [Rep] using h
  | .str _, _, h => by simpa only [Rep] using h
  | .ref _, _, h => by simpa only [Rep] using h
  | .ty _, _, h => by simpa only [Rep] using h
  | .tup ds, _, h => by
    simp only [Rep] at h ⊢
    obtain ⟨a, xs, e, h1, h2⟩ := h
    exact ⟨a, xs, e, Same.seqT s h1, RepAll.mono s ds xs h2⟩
  | .lst ds, _, h => by
    simp only [Rep] at h ⊢
    obtain ⟨a, xs, e, h1, h2⟩ := h
    exact ⟨a, xs, e, s _ _ h1, RepAll.mono s ds xs h2⟩
  | .scr ns, _, h => by
    simp only [Rep] at h ⊢
    obtain ⟨a, e, h1⟩ := h
    exact ⟨a, e, s.seq h1⟩
  | .edic, _, h => by
    simp only [Rep] at h ⊢
    obtain ⟨a, e, h1⟩ := h
    exact ⟨a, e, s _ _ h1⟩
  | .tupK _, _, h => by
    simp only [Rep] at h ⊢
    obtain ⟨a, e, h1⟩ := h
    exact ⟨a, e, s _ _ h1⟩
theorem RepAll.mono (s : Same F F') : ∀ (ds : List D) (vs : List V), RepAll K F ds vs → RepAll K F' ds vs
  | [], _, h => by simpa only [RepAll] using h
  | d :: ds, _, h => by
    simp only [RepAll] at h ⊢
    obtain ⟨v, r, e, h1, h2⟩ := h
    exact ⟨v, r, e, Rep.mono s d v h1, RepAll.mono s ds r h2⟩
end
theorem RepAll.length : ∀ {ds : List D} {vs : List V}, RepAll K F ds vs → ds.length = vs.length
  | [], _, h => by simp only [RepAll] at h; rw [h]; rfl
  | d :: ds, _, h => by
    simp only [RepAll] at h
    obtain ⟨v, r, rfl, _, h2⟩ := h
    rw [List.length_cons, List.length_cons, RepAll.length h2]
theorem RepAll.get : ∀ {ds : List D} {vs : List V} {i : Nat} {d : D}, RepAll K F ds vs → ds[i]? = some d → ∃ v, vs[i]? = some v ∧ Rep K F d v
  | [], _, _, _, h, e => by simp at e
  | d :: ds, _, i, _, h, e => by
    simp only [RepAll] at h
    obtain ⟨v, r, rfl, h1, h2⟩ := h
    cases i with
    | zero => simp at e; subst e; exact ⟨v, rfl, h1⟩
    | succ i => simp at e ⊢; exact RepAll.get h2 e
theorem RepAll.append : ∀ {ds es : List D} {vs ws : List V}, RepAll K F ds vs → RepAll K F es ws → RepAll K F (ds ++ es) (vs ++ ws)
  | [], _, _, _, h, q => by simp only [RepAll] at h; subst h; exact q
  | d :: ds, es, _, ws, h, q => by
    simp only [RepAll] at h
    obtain ⟨v, r, rfl, h1, h2⟩ := h
    rw [List.cons_append, List.cons_append]
    simp only [RepAll]
    exact ⟨v, r ++ ws, rfl, h1, RepAll.append h2 q⟩
theorem RepAll.nil : RepAll K F [] [] := by simp only [RepAll]
theorem RepAll.cons {d : D} {ds : List D} {v : V} {vs : List V} (h : Rep K F d v) (q : RepAll K F ds vs) : RepAll K F (d :: ds) (v :: vs) := by
  simp only [RepAll]; exact ⟨v, vs, rfl, h, q⟩
theorem RepAll.one {d : D} {v : V} (h : Rep K F d v) : RepAll K F [d] [v] := .cons h .nil
theorem RepAll.set {x : D} {y : V} (hx : Rep K F x y) : ∀ {ds : List D} {vs : List V} (i : Nat), RepAll K F ds vs → RepAll K F (ds.set i x) (vs.set i y)
  | [], _, _, h => by simp only [RepAll] at h; subst h; exact .nil
  | d :: ds, _, i, h => by
    simp only [RepAll] at h
    obtain ⟨v, r, rfl, h1, h2⟩ := h
    cases i with
    | zero => exact .cons hx h2
    | succ i => exact .cons h1 (RepAll.set hx i h2)
theorem RepAll.drop : ∀ {ds : List D} {vs : List V} (n : Nat), RepAll K F ds vs → RepAll K F (ds.drop n) (vs.drop n)
  | _, _, 0, h => h
  | [], _, n + 1, h => by simp only [RepAll] at h; subst h; exact .nil
  | d :: ds, _, n + 1, h => by
    simp only [RepAll] at h
    obtain ⟨v, r, rfl, h1, h2⟩ := h
    exact RepAll.drop n h2
theorem RepAll.take : ∀ {ds : List D} {vs : List V} (n : Nat), RepAll K F ds vs → RepAll K F (ds.take n) (vs.take n)
  | _, _, 0, h => .nil
  | [], _, n + 1, h => by simp only [RepAll] at h; subst h; exact .nil
  | d :: ds, _, n + 1, h => by
    simp only [RepAll] at h
    obtain ⟨v, r, rfl, h1, h2⟩ := h
    exact .cons h1 (RepAll.take n h2)
theorem RepAll.reverse {ds : List D} {vs : List V} (h : RepAll K F ds vs) : RepAll K F ds.reverse vs.reverse := by
  induction ds generalizing vs with
  | nil => simp only [RepAll] at h; subst h; exact .nil
  | cons d ds ih =>
    simp only [RepAll] at h
    obtain ⟨v, r, rfl, h1, h2⟩ := h
    rw [List.reverse_cons, List.reverse_cons]
    exact .append (ih h2) (.one h1)
theorem RepAll.ints {vs : List V} : ∀ {ns : List Int}, RepAll K F (ns.map D.int) vs → vs = ns.map V.int := by
  intro ns h
  induction ns generalizing vs with
  | nil => rw [List.map_nil] at h; simpa only [RepAll, List.map_nil] using h
  | cons n ns ih =>
    rw [List.map_cons] at h
    simp only [RepAll, Rep] at h
    obtain ⟨v, r, rfl, rfl, h2⟩ := h
    rw [ih h2]; rfl
theorem RepAll.strs {vs : List V} : ∀ {ns : List Str}, RepAll K F (ns.map D.str) vs → vs = ns.map V.str := by
  intro ns h
  induction ns generalizing vs with
  | nil => rw [List.map_nil] at h; simpa only [RepAll, List.map_nil] using h
  | cons n ns ih =>
    rw [List.map_cons] at h
    simp only [RepAll, Rep] at h
    obtain ⟨v, r, rfl, rfl, h2⟩ := h
    rw [ih h2]; rfl
theorem RepAll.of_strs : ∀ {ns : List Str}, RepAll K F (ns.map D.str) (ns.map V.str)
  | [] => .nil
  | n :: ns => .cons (by simp only [Rep]) RepAll.of_strs
end

/-! ### the ghost state -/
/-- the entries of a dict -/
def KvOk {κ : Type} (K : PySem.W.Frag) (F : Hp) : List (κ × D) → List (κ × V) → Prop := Paired fun p q => p.1 = q.1 ∧ Rep K F p.2 q.2
theorem KvOk.mono {κ : Type} {K : PySem.W.Frag} {F F' : Hp} (s : Same F F') {kvs : List (κ × D)} {vs : List (κ × V)} (h : KvOk K F kvs vs) : KvOk K F' kvs vs := Paired.mapP h fun _ _ z => ⟨z.1, z.2.mono s⟩
/-- the fields of an instance -/
def FsOk (K : PySem.W.Frag) (F : Hp) : List (Str × D) → List (Str × V) → Prop := Paired fun p q => p.1 = q.1 ∧ Rep K F p.2 q.2
theorem FsOk.mono {K : PySem.W.Frag} {F F' : Hp} (s : Same F F') {fs : List (Str × D)} {fv : List (Str × V)} (h : FsOk K F fs fv) : FsOk K F' fs fv := Paired.mapP h fun _ _ z => ⟨z.1, z.2.mono s⟩
/-- an exception's object, held as a value -/
def IsX (a : Addr) (cls : Value) (d : Option Addr) (o : HO) : Prop := ∃ φ, o = .ext φ ∧ ∀ h, φ h → ∃ oe vs, h.get? a = some oe ∧ Zc cls d oe ∧ oe.data = .fields vs
def XdR (K : PySem.W.Frag) (F : Hp) : Option (List (Str × D)) → Option Addr → Prop
  | none, dd => dd = none
  | some fs, dd => ∃ dx fv, dd = some dx ∧ F dx = some (.xd fv) ∧ FsOk K F fs fv
theorem XdR.mono {K : PySem.W.Frag} {F F' : Hp} (s : Same F F') {fs : Option (List (Str × D))} {dd : Option Addr} (h : XdR K F fs dd) : XdR K F' fs dd := by
  cases fs with
  | none => exact h
  | some fs => obtain ⟨dx, fv, e, h1, h2⟩ := h; exact ⟨dx, fv, e, s _ _ h1, h2.mono s⟩
def CellOk (K : PySem.W.Frag) (F H : Hp) (a : Addr) : Cell → Prop
  | .lst ds => ∃ vs, H a = some (.lst vs) ∧ RepAll K F ds vs
  | .pool => ∃ x y : Int, H a = some (.lst [.int x, .int y]) ∧ 0 ≤ x ∧ 0 ≤ y ∧ y < 2147483647
  | .dic kvs => ∃ vs : List (Key × V), H a = some (.dK vs) ∧ KvOk K F kvs vs
  | .dicL kvs o => H a = some o ∧ ∃ (od : Obj) (vs : List (Key × V)), o = .frz od (.dK vs) ∧ KvOk K F kvs vs
  | .exc cls fs => ∃ o d, H a = some o ∧ IsX a cls d o ∧ XdR K F fs d
  | .ins C fs => ∃ dx vs, H a = some (.ins C dx vs) ∧ FsOk K F fs vs
  | .dicT kvs => ∃ vs : List (List Key × V), H a = some (.dT vs) ∧ KvOk K F kvs vs
/-- what is known of F and P all the while: it bears more of both -/
structure MX where
  rel : Hp → Hp → Prop
  mono : ∀ {F F' P P' : Hp}, rel F P → Same F F' → Same P P' → rel F' P'
def MT : MX := ⟨fun _ _ => True, fun _ _ _ => trivial⟩
variable {M : MX}
/-- F: what never changes; O: what is owned; P: what stands aside -/
def NT (o : HO) : Prop := ∀ xs, o ≠ .tup xs
structure Gd (M : MX) (K : PySem.W.Frag) (F : Hp) (O : Ow) (P : Hp) (H : Hp) : Prop where
  fz : Same F H
  ow : ∀ a c, O a = some c → F a = none ∧ P a = none ∧ CellOk K F H a c
  as : ∀ a o, P a = some o → F a = none ∧ H a = some o
  rl : M.rel F P
  nt : ∀ a o, P a = some o → NT o

theorem CellOk.some {K : PySem.W.Frag} {F H : Hp} {a : Addr} {c : Cell} (h : CellOk K F H a c) : ∃ o, H a = some o := by
  cases c with
  | lst ds => obtain ⟨vs, h, _⟩ := h; exact ⟨_, h⟩
  | pool => obtain ⟨x, y, h, _⟩ := h; exact ⟨_, h⟩
  | dic kvs => obtain ⟨vs, h, _⟩ := h; exact ⟨_, h⟩
  | dicL kvs o => exact ⟨_, h.1⟩
  | exc cls fs => obtain ⟨o, d, h, _⟩ := h; exact ⟨_, h⟩
  | ins C fs => obtain ⟨dx, vs, h, _⟩ := h; exact ⟨_, h⟩
  | dicT kvs => obtain ⟨vs, h, _⟩ := h; exact ⟨_, h⟩
theorem CellOk.mono {K : PySem.W.Frag} {F F' H H' : Hp} {a : Addr} {c : Cell} (h : CellOk K F H a c) (s : Same F F') (e : H' a = H a) : CellOk K F' H' a c := by
  cases c with
  | lst ds => obtain ⟨vs, h, r⟩ := h; exact ⟨vs, e.trans h, r.mono s⟩
  | pool => obtain ⟨x, y, h, r⟩ := h; exact ⟨x, y, e.trans h, r⟩
  | dic kvs => obtain ⟨vs, h, r⟩ := h; exact ⟨vs, e.trans h, r.mono s⟩
  | dicL kvs o => obtain ⟨h, od, vs, r1, r2⟩ := h; exact ⟨e.trans h, od, vs, r1, r2.mono s⟩
  | exc cls fs => obtain ⟨o, d, h, r1, r2⟩ := h; exact ⟨o, d, e.trans h, r1, r2.mono s⟩
  | ins C fs => obtain ⟨dx, vs, h, r⟩ := h; exact ⟨dx, vs, e.trans h, r.mono s⟩
  | dicT kvs => obtain ⟨vs, h, r⟩ := h; exact ⟨vs, e.trans h, r.mono s⟩

section
variable {K : PySem.W.Frag} {F P H : Hp} {O : Ow} {p : Addr} {o : HO}
theorem Gd.freeF (g : Gd M K F O P H) (h : H p = none) : F p = none := g.fz.free h
theorem Gd.freeO (g : Gd M K F O P H) (h : H p = none) : O p = none := by
  cases e : O p with
  | none => rfl
  | some c =>
    obtain ⟨u, q⟩ := (g.ow p c e).2.2.some
    rw [h] at q; cases q
theorem Gd.freeP (g : Gd M K F O P H) (h : H p = none) : P p = none := by
  cases e : P p with
  | none => rfl
  | some c =>
    have q := (g.as p c e).2
    rw [h] at q; cases q
theorem same_upd {H : Hp} {p : Addr} {o : HO} (h : H p = none) : Same H (upd H p o) := fun b x e => by
  rw [upd_ne (ne_of_none e h)]; exact e
theorem Same.upd2 {F H : Hp} {p : Addr} {o : HO} (s : Same F H) : Same (upd F p o) (upd H p o) := fun b x e => by
  unfold upd at e ⊢
  split
  · rename_i q; rw [if_pos q] at e; exact e
  · rename_i q; rw [if_neg q] at e; exact s b x e
/-- a new thing that never changes -/
theorem Gd.new (g : Gd M K F O P H) (h : H p = none) : Gd M K (upd F p o) O P (upd H p o) := by
  have hF := g.freeF h
  have hO := g.freeO h
  have hP := g.freeP h
  refine ⟨Same.upd2 g.fz, fun a c e => ?_, fun a u e => ?_, M.mono g.rl (same_upd hF) (Same.refl _), g.nt⟩
  · have ne : a ≠ p := fun q => by rw [q, hO] at e; cases e
    obtain ⟨h1, h2, h3⟩ := g.ow a c e
    exact ⟨(upd_ne ne).trans h1, h2, h3.mono (same_upd hF) (upd_ne ne)⟩
  · have ne : a ≠ p := fun q => by rw [q, hP] at e; cases e
    obtain ⟨h1, h2⟩ := g.as a u e
    exact ⟨(upd_ne ne).trans h1, (upd_ne ne).trans h2⟩
/-- a thing of the heap that nothing speaks of -/
theorem Gd.skip (g : Gd M K F O P H) (h : H p = none) : Gd M K F O P (upd H p o) := by
  have hO := g.freeO h
  have hP := g.freeP h
  refine ⟨fun b x e => (same_upd h) b x (g.fz b x e), fun a c e => ?_, fun a u e => ?_, g.rl, g.nt⟩
  · have ne : a ≠ p := fun q => by rw [q, hO] at e; cases e
    obtain ⟨h1, h2, h3⟩ := g.ow a c e
    exact ⟨h1, h2, h3.mono (Same.refl _) (upd_ne ne)⟩
  · have ne : a ≠ p := fun q => by rw [q, hP] at e; cases e
    obtain ⟨h1, h2⟩ := g.as a u e
    exact ⟨h1, (upd_ne ne).trans h2⟩
/-- a new owned cell -/
theorem Gd.newO (g : Gd M K F O P H) (h : H p = none) {c : Cell} (hc : CellOk K F (upd H p o) p c) : Gd M K F (updO O p c) P (upd H p o) := by
  have hF := g.freeF h
  have g' := g.skip (o := o) h
  refine ⟨g'.fz, fun a d e => ?_, g'.as, g'.rl, g'.nt⟩
  by_cases q : a = p
  · subst q
    rw [updO_same] at e; cases e
    exact ⟨hF, g.freeP h, hc⟩
  · rw [updO_ne q] at e
    exact g'.ow a d e
/-- an owned cell changes -/
theorem Gd.setO (g : Gd M K F O P H) {c0 : Cell} (h : O p = some c0) {c : Cell} (hc : CellOk K F (upd H p o) p c) : Gd M K F (updO O p c) P (upd H p o) := by
  obtain ⟨hF, hP, _⟩ := g.ow p c0 h
  refine ⟨fun b x e => ?_, fun a d e => ?_, fun a u e => ?_, g.rl, g.nt⟩
  · have ne : b ≠ p := fun q => by rw [q, hF] at e; cases e
    rw [upd_ne ne]; exact g.fz b x e
  · by_cases q : a = p
    · subst q
      rw [updO_same] at e; cases e
      exact ⟨hF, hP, hc⟩
    · rw [updO_ne q] at e
      obtain ⟨h1, h2, h3⟩ := g.ow a d e
      exact ⟨h1, h2, h3.mono (Same.refl _) (upd_ne q)⟩
  · have ne : a ≠ p := fun q => by rw [q, hP] at e; cases e
    obtain ⟨h1, h2⟩ := g.as a u e
    exact ⟨h1, (upd_ne ne).trans h2⟩
/-- an owned list is owned no more: it never changes from now on -/
theorem Gd.freeze (g : Gd M K F O P H) {ds : List D} (h : O p = some (.lst ds)) : ∃ F', Same F F' ∧ Gd M K F' (delO O p) P H ∧ Rep K F' (.lst ds) (.ref p) := by
  obtain ⟨hF, hP, vs, hH, hr⟩ := g.ow p _ h
  have s : Same F (upd F p (.lst vs)) := same_upd hF
  refine ⟨upd F p (.lst vs), s, ⟨fun b x e => ?_, fun a c e => ?_, fun a u e => ?_, M.mono g.rl s (Same.refl _), g.nt⟩, ?_⟩
  · by_cases q : b = p
    · subst q; rw [upd_same] at e; cases e; exact hH
    · rw [upd_ne q] at e; exact g.fz b x e
  · unfold delO at e
    by_cases q : a = p
    · rw [if_pos q] at e; cases e
    · rw [if_neg q] at e
      obtain ⟨h1, h2, h3⟩ := g.ow a c e
      exact ⟨(upd_ne q).trans h1, h2, h3.mono s rfl⟩
  · have q : a ≠ p := fun z => by rw [z, hP] at e; cases e
    obtain ⟨h1, h2⟩ := g.as a u e
    exact ⟨(upd_ne q).trans h1, h2⟩
  · simp only [Rep]
    exact ⟨p, vs, rfl, upd_same, hr.mono s⟩
/-- an owned cell is forgotten -/
theorem Gd.drop (g : Gd M K F O P H) : Gd M K F (delO O p) P H := by
  refine ⟨g.fz, fun a c e => ?_, g.as, g.rl, g.nt⟩
  unfold delO at e
  by_cases q : a = p
  · rw [if_pos q] at e; cases e
  · rw [if_neg q] at e; exact g.ow a c e
end

/-! ### environments -/
def EnvOk (K : PySem.W.Frag) (F : Hp) (ρ : DEnv) (σ : St) : Prop := ρ.length = σ.length ∧ ∀ (i : Nat) (d : D), ρ[i]? = some (some d) → ∃ v, σ[i]? = some (some v) ∧ Rep K F d v
section
variable {K : PySem.W.Frag} {F F' : Hp} {ρ : DEnv} {σ : St}
theorem EnvOk.mono (h : EnvOk K F ρ σ) (s : Same F F') : EnvOk K F' ρ σ := ⟨h.1, fun i d e => let ⟨v, q, r⟩ := h.2 i d e; ⟨v, q, r.mono s⟩⟩
theorem EnvOk.set (h : EnvOk K F ρ σ) {d : D} {v : V} (r : Rep K F d v) (i : Nat) : EnvOk K F (ρ.set i (some d)) (σ.set i (some v)) := by
  refine ⟨by rw [List.length_set, List.length_set, h.1], fun j e q => ?_⟩
  by_cases c : i = j
  · subst c
    by_cases hl : i < ρ.length
    · rw [List.getElem?_set_self hl] at q
      cases q
      exact ⟨v, by rw [List.getElem?_set_self (h.1 ▸ hl)], r⟩
    · rw [List.getElem?_eq_none (by rw [List.length_set]; omega)] at q; cases q
  · rw [List.getElem?_set_ne c] at q ⊢
    exact h.2 j e q
theorem EnvOk.wipe (h : EnvOk K F ρ σ) (i : Nat) : EnvOk K F (ρ.set i none) (σ.set i none) := by
  refine ⟨by rw [List.length_set, List.length_set, h.1], fun j e q => ?_⟩
  by_cases c : i = j
  · subst c
    by_cases hl : i < ρ.length
    · rw [List.getElem?_set_self hl] at q; cases q
    · rw [List.getElem?_eq_none (by rw [List.length_set]; omega)] at q; cases q
  · rw [List.getElem?_set_ne c] at q ⊢
    exact h.2 j e q
theorem envOk_start : ∀ {ds : List D} {vs : List V} (n : Nat), RepAll K F ds vs → EnvOk K F (ds.map some ++ List.replicate n none) (vs.map some ++ List.replicate n none) := by
  intro ds vs n h
  have hl := h.length
  refine ⟨by simp [hl], fun i d e => ?_⟩
  by_cases c : i < ds.length
  · rw [List.getElem?_append_left (by simpa using c), List.getElem?_map] at e
    obtain ⟨d', e1, e2⟩ := Option.map_eq_some_iff.mp e
    cases e2
    obtain ⟨v, h1, h2⟩ := h.get e1
    refine ⟨v, ?_, h2⟩
    rw [List.getElem?_append_left (by simpa [← hl] using c), List.getElem?_map, h1]; rfl
  · rw [List.getElem?_append_right (by simpa using c)] at e
    rw [List.getElem?_replicate] at e
    split at e <;> cases e
end

/-! ### readings over data, lifted -/
def PostE (M : MX) (K : PySem.W.Frag) (F P : Hp) (R : VD) (Q : VK) : Prop := ∀ d O' F' H' v, R d O' → Same F F' → Gd M K F' O' P H' → Rep K F' d v → Q v H'
def PostT (M : MX) (K : PySem.W.Frag) (F P : Hp) (R : Bool → Ow → Prop) (Q : Bool → Hp → Prop) : Prop := ∀ b O' F' H', R b O' → Same F F' → Gd M K F' O' P H' → Q b H'
def PostA (M : MX) (K : PySem.W.Frag) (F P : Hp) (R : List D → Ow → Prop) (Q : List V → Hp → Prop) : Prop := ∀ ds O' F' H' vs, R ds O' → Same F F' → Gd M K F' O' P H' → RepAll K F' ds vs → Q vs H'
def liftE (M : MX) (K : PySem.W.Frag) (f : FE) : TE := fun σ H Q => ∃ F O P ρ R, Gd M K F O P H ∧ EnvOk K F ρ σ ∧ f ρ O R ∧ PostE M K F P R Q
def liftT (M : MX) (K : PySem.W.Frag) (f : FT) : TT := fun σ H Q => ∃ F O P ρ R, Gd M K F O P H ∧ EnvOk K F ρ σ ∧ f ρ O R ∧ PostT M K F P R Q
def liftA (M : MX) (K : PySem.W.Frag) (f : FA) : TA := fun σ H Q => ∃ F O P ρ R, Gd M K F O P H ∧ EnvOk K F ρ σ ∧ f ρ O R ∧ PostA M K F P R Q
abbrev DE (M : MX) (X : Cx) (e : Expr) (f : FE) : Prop := PE X e (liftE M X.K f)
abbrev DT (M : MX) (X : Cx) (e : Expr) (f : FT) : Prop := PT X e (liftT M X.K f)
abbrev DA (M : MX) (X : Cx) (es : List Expr) (f : FA) : Prop := PA X es (liftA M X.K f)

theorem peMono {X : Cx} {e : Expr} {t t' : TE} (h : PE X e t) (imp : ∀ σ H Q, t' σ H Q → t σ H Q) : PE X e t' := ⟨fun pins s σ H Q I q => h.run pins s σ H Q I (imp σ H Q q)⟩
theorem ptMono {X : Cx} {e : Expr} {t t' : TT} (h : PT X e t) (imp : ∀ σ H Q, t' σ H Q → t σ H Q) : PT X e t' := ⟨fun pins s σ H Q I q => h.run pins s σ H Q I (imp σ H Q q)⟩
theorem pwMono {X : Cx} {e : Expr} {t t' : TT} (h : PW X e t) (imp : ∀ σ H Q, t' σ H Q → t σ H Q) : PW X e t' := ⟨fun whole pins s σ H Q I q => h.run whole pins s σ H Q I (imp σ H Q q)⟩
theorem paMono {X : Cx} {es : List Expr} {t t' : TA} (h : PA X es t) (imp : ∀ σ H Q, t' σ H Q → t σ H Q) : PA X es t' := ⟨fun pos pins s σ H Q I q => h.run pos pins s σ H Q I (imp σ H Q q)⟩
theorem psMono {X : Cx} {st : Stmt} {t t' : TS} (h : PS X st t) (imp : ∀ D σ H, t' D σ H → t D σ H) : PS X st t' := ⟨fun pins s σ H D I q => h.run pins s σ H D I (imp D σ H q)⟩
theorem pssMono {X : Cx} {st : List Stmt} {t t' : TS} (h : PSs X st t) (imp : ∀ D σ H, t' D σ H → t D σ H) : PSs X st t' := ⟨fun pins s σ H D I q => h.run pins s σ H D I (imp D σ H q)⟩

section
variable {X : Cx} {a b c e : Expr} {es : List Expr} {fa fb fc : FE} {pos : Pos}

/-! ### names and constants -/
def envGet (o : Option (Option D)) (O : Ow) (Q : VD) : Prop := match o with
  | some (some d) => Q d O
  | _ => False
theorem envGet_s {d : D} {O : Ow} {Q : VD} : envGet (some (some d)) O Q = Q d O := rfl
def fVar (i : Nat) : FE := fun ρ O Q => envGet ρ[i]? O Q
def fC (d : D) : FE := fun _ O Q => Q d O
theorem de_var (i : Nat) {x : Str} (hN : X.N[i]? = some x := by rfl) (hv : Vis X.env.scope x := by first | exact Or.inl rfl | exact Or.inr (Or.inl rfl) | exact Or.inr (Or.inr rfl)) (hd : (x == ("__debug__" : Str)) = false := by decide)
    (hcd : (x == ("__classdict__" : Str)) = false := by decide) : DE M X (.Name x pos) (fVar i) := by
  refine peMono (pe_var hN hv hd hcd) fun σ H Q h => ?_
  obtain ⟨F, O, P, ρ, R, g, en, q, po⟩ := h
  unfold fVar envGet at q
  split at q
  · rename_i d e
    obtain ⟨v, e', r⟩ := en.2 i d e
    exact ⟨v, e', po d O F H v q (Same.refl _) g r⟩
  · exact q.elim
/-- a constant: what is the same everywhere -/
theorem de_const {t : TE} {d : D} {v : V} (h : PE X e t) (ht : ∀ σ H Q, Q v H → t σ H Q) (hr : ∀ F, Rep X.K F d v) : DE M X e (fC d) := by
  refine peMono h fun σ H Q h => ?_
  obtain ⟨F, O, P, ρ, R, g, en, q, po⟩ := h
  exact ht σ H Q (po d O F H v q (Same.refl _) g (hr F))
theorem de_int {i : Int} {j : Nat} : DE M X (.Constant (.int i) j pos) (fC (.int i)) := de_const pe_int (fun _ _ _ q => q) fun _ => by simp only [Rep]
theorem de_bl {i : Bool} {j : Nat} : DE M X (.Constant (.bool i) j pos) (fC (.bl i)) := de_const pe_bl (fun _ _ _ q => q) fun _ => by simp only [Rep]
theorem de_non {j : Nat} : DE M X (.Constant .none j pos) (fC .non) := de_const pe_non (fun _ _ _ q => q) fun _ => by simp only [Rep]
theorem de_str {x : Str} {j : Nat} : DE M X (.Constant (.str x) j pos) (fC (.str x)) := de_const pe_str (fun _ _ _ q => q) fun _ => by simp only [Rep]
theorem de_glob {x : Str} {d : D} {v : V} {u : Value} (hg : Gl X x) (hm : X.mg x = some u) (r : RelV v u) (hr : ∀ F, Rep X.K F d v) (hd : (x == ("__debug__" : Str)) = false := by decide) : DE M X (.Name x pos) (fC d) :=
  de_const (pe_glob hg hm r hd) (fun _ _ _ q => q) hr
theorem de_bltn {x : Str} {d : D} {v : V} {u : Value} (hg : Gl X x) (hm : X.mg x = none) (hv : bootBuiltins x = some u) (r : RelV v u) (hr : ∀ F, Rep X.K F d v) (hn : x ≠ "__name__" := by decide) (hd : (x == ("__debug__" : Str)) = false := by decide) : DE M X (.Name x pos) (fC d) :=
  de_const (pe_bltn hg hm hv r hn hd) (fun _ _ _ q => q) hr

/-! ### operators -/
abbrev R2D := D → D → Ow → VD → Prop
abbrev R1D := D → Ow → VD → Prop
def liftR2 (M : MX) (K : PySem.W.Frag) (r : R2D) : R2 := fun x y H Q => ∃ F O P dx dy R, Gd M K F O P H ∧ Rep K F dx x ∧ Rep K F dy y ∧ r dx dy O R ∧ PostE M K F P R Q
def liftRA (M : MX) (K : PySem.W.Frag) (r : List D → Ow → VD → Prop) : List V → Hp → VK → Prop := fun xs H Q => ∃ F O P ds R, Gd M K F O P H ∧ RepAll K F ds xs ∧ r ds O R ∧ PostE M K F P R Q
def fOp (r : R2D) (fa fb : FE) : FE := fun ρ O Q => fa ρ O fun x O1 => fb ρ O1 fun y O2 => r x y O2 Q
theorem fOp_lift {r : R2D} : ∀ σ H Q, liftE M X.K (fOp r fa fb) σ H Q → tOp (liftR2 M X.K r) (liftE M X.K fa) (liftE M X.K fb) σ H Q := by
  intro σ H Q h
  obtain ⟨F, O, P, ρ, R, g, en, q, po⟩ := h
  refine ⟨F, O, P, ρ, _, g, en, q, fun x O1 F1 H1 v q1 s1 g1 r1 => ?_⟩
  refine ⟨F1, O1, P, ρ, _, g1, en.mono s1, q1, fun y O2 F2 H2 w q2 s2 g2 r2 => ?_⟩
  exact ⟨F2, O2, P, x, y, R, g2, r1.mono s2, r2, q2, fun d O' F' H' z q3 s3 g3 r3 => po d O' F' H' z q3 (s1.trans (s2.trans s3)) g3 r3⟩
abbrev OpD (M : MX) (X : Cx) (f : Value → Value → Sem Value) (r : R2D) : Prop := OpR X f (liftR2 M X.K r)
theorem de_op {op : Operator} {r : R2D} (ho : OpD M X (binaryOp op) r) (ha : DE M X a fa) (hb : DE M X b fb) : DE M X (.BinOp a op b pos) (fOp r fa fb) := peMono (pe_op ho ha hb) fOp_lift
theorem de_cmp {op : CmpOp} {r : R2D} (ho : OpD M X (compareOp op) r) (ha : DE M X a fa) (hb : DE M X b fb) (hm : behindInMarks op b = false) : DE M X (.Compare a [op] [b] pos) (fOp r fa fb) := peMono (pe_cmpR ho ha hb hm) fOp_lift
/-- a value as a test: it must be a bool -/
def fTest (f : FE) : FT := fun ρ O Q => f ρ O fun d O1 => ∃ k, d = .bl k ∧ Q k O1
theorem tTest_lift {f : FE} {t : TE} (hl : ∀ σ H Q, liftE M X.K f σ H Q → t σ H Q) : ∀ σ H Q, liftT M X.K (fTest f) σ H Q → tTest t σ H Q := by
  intro σ H Q h
  obtain ⟨F, O, P, ρ, R, g, en, q, po⟩ := h
  refine hl σ H _ ⟨F, O, P, ρ, _, g, en, q, fun d O' F' H' v q1 s1 g1 r1 => ?_⟩
  obtain ⟨k, rfl, q2⟩ := q1
  simp only [Rep] at r1
  exact ⟨k, r1, po k O' F' H' q2 s1 g1⟩
theorem dt_cmp {op : CmpOp} {r : R2D} (ho : OpD M X (compareOp op) r) (ha : DE M X a fa) (hb : DE M X b fb) (hm : behindInMarks op b = false) : DT M X (.Compare a [op] [b] pos) (fTest (fOp r fa fb)) :=
  ptMono (pt_cmpR ho ha hb hm) (tTest_lift fOp_lift)
theorem dt_val (h : DE M X e fa) (he : ∀ whole, isTrue e X.env whole = (do let v ← whole; standAt e.pos; holding [v] (truthy v)) := by intro _; rfl) : DT M X e (fTest fa) :=
  ptMono (pt_val h he) (tTest_lift fun _ _ _ q => q)
/-- a op1 b op2 c -/
def fChain (r r' : R2D) (fa fb fc : FE) : FE := fun ρ O Q => fa ρ O fun x O1 => fb ρ O1 fun y O2 => r x y O2 fun z O3 => ∃ k, z = .bl k ∧ (if k = true then fc ρ O3 fun w O4 => r' y w O4 Q else Q (.bl false) O3)
theorem fChain_lift {r r' : R2D} : ∀ σ H Q, liftE M X.K (fChain r r' fa fb fc) σ H Q → tChain (liftR2 M X.K r) (liftR2 M X.K r') (liftE M X.K fa) (liftE M X.K fb) (liftE M X.K fc) σ H Q := by
  intro σ H Q h
  obtain ⟨F, O, P, ρ, R, g, en, q, po⟩ := h
  refine ⟨F, O, P, ρ, _, g, en, q, fun x O1 F1 H1 v q1 s1 g1 r1 => ?_⟩
  refine ⟨F1, O1, P, ρ, _, g1, en.mono s1, q1, fun y O2 F2 H2 w q2 s2 g2 r2 => ?_⟩
  refine ⟨F2, O2, P, x, y, _, g2, r1.mono s2, r2, q2, fun d O3 F3 H3 z q3 s3 g3 r3 => ?_⟩
  obtain ⟨k, rfl, q4⟩ := q3
  simp only [Rep] at r3
  refine ⟨k, r3, ?_⟩
  cases k with
  | true =>
    rw [if_pos rfl] at q4 ⊢
    refine ⟨F3, O3, P, ρ, _, g3, en.mono (s1.trans (s2.trans s3)), q4, fun w2 O4 F4 H4 z q5 s4 g4 r4 => ?_⟩
    exact ⟨F4, O4, P, y, w2, R, g4, r2.mono (s3.trans s4), r4, q5, fun d O' F' H' z q6 s5 g5 r5 => po d O' F' H' z q6 (s1.trans (s2.trans (s3.trans (s4.trans s5)))) g5 r5⟩
  | false =>
    rw [if_neg Bool.false_ne_true] at q4 ⊢
    exact po _ O3 F3 H3 _ q4 (s1.trans (s2.trans s3)) g3 (by simp only [Rep])
theorem de_chain {op op' : CmpOp} {r r' : R2D} (ho : OpD M X (compareOp op) r) (ho' : OpD M X (compareOp op') r') (ha : DE M X a fa) (hb : DE M X b fb) (hc : DE M X c fc)
    (hm : lastMarks [op, op'] [b, c] = false := by with_unfolding_all rfl) : DE M X (.Compare a [op, op'] [b, c] pos) (fChain r r' fa fb fc) := peMono (pe_chain ho ho' ha hb hc hm) fChain_lift
/-! ### and, or, not -/
variable {tA tB' : FT} {rest : List Expr}
def fAnd (t u : FT) : FT := fun ρ O Q => t ρ O fun c O1 => if c = true then u ρ O1 Q else Q false O1
def fOr (t u : FT) : FT := fun ρ O Q => t ρ O fun c O1 => if c = true then Q true O1 else u ρ O1 Q
def fNot (t : FT) : FT := fun ρ O Q => t ρ O fun c O1 => Q (!c) O1
abbrev DW (M : MX) (X : Cx) (e : Expr) (f : FT) : Prop := PW X e (liftT M X.K f)
theorem fAnd_lift : ∀ σ H Q, liftT M X.K (fAnd tA tB') σ H Q → tAnd (liftT M X.K tA) (liftT M X.K tB') σ H Q := by
  intro σ H Q h
  obtain ⟨F, O, P, ρ, R, g, en, q, po⟩ := h
  refine ⟨F, O, P, ρ, _, g, en, q, fun k O1 F1 H1 q1 s1 g1 => ?_⟩
  cases k with
  | true =>
    rw [if_pos rfl] at q1 ⊢
    exact ⟨F1, O1, P, ρ, R, g1, en.mono s1, q1, fun b O' F' H' q2 s2 g2 => po b O' F' H' q2 (s1.trans s2) g2⟩
  | false =>
    rw [if_neg Bool.false_ne_true] at q1 ⊢
    exact po _ O1 F1 H1 q1 s1 g1
theorem fOr_lift : ∀ σ H Q, liftT M X.K (fOr tA tB') σ H Q → tOr (liftT M X.K tA) (liftT M X.K tB') σ H Q := by
  intro σ H Q h
  obtain ⟨F, O, P, ρ, R, g, en, q, po⟩ := h
  refine ⟨F, O, P, ρ, _, g, en, q, fun k O1 F1 H1 q1 s1 g1 => ?_⟩
  cases k with
  | false =>
    rw [if_neg Bool.false_ne_true] at q1 ⊢
    exact ⟨F1, O1, P, ρ, R, g1, en.mono s1, q1, fun b O' F' H' q2 s2 g2 => po b O' F' H' q2 (s1.trans s2) g2⟩
  | true =>
    rw [if_pos rfl] at q1 ⊢
    exact po _ O1 F1 H1 q1 s1 g1
theorem dw_and1 (ha : DT M X a tA) : DW M X (.BoolOp .And [a] pos) tA := pw_and1 ha
theorem dw_or1 (ha : DT M X a tA) : DW M X (.BoolOp .Or [a] pos) tA := pw_or1 ha
theorem dw_and (ha : DT M X a tA) (hb : DW M X (.BoolOp .And (b :: rest) pos) tB') : DW M X (.BoolOp .And (a :: b :: rest) pos) (fAnd tA tB') := pwMono (pw_and ha hb) fAnd_lift
theorem dw_or (ha : DT M X a tA) (hb : DW M X (.BoolOp .Or (b :: rest) pos) tB') : DW M X (.BoolOp .Or (a :: b :: rest) pos) (fOr tA tB') := pwMono (pw_or ha hb) fOr_lift
theorem dt_of (h : DW M X e tA) : DT M X e tA := h.pt
theorem dt_not (ha : DT M X a tA) : DT M X (.UnaryOp .Not a pos) (fNot tA) := by
  refine ptMono (pt_not ha) fun σ H Q h => ?_
  obtain ⟨F, O, P, ρ, R, g, en, q, po⟩ := h
  exact ⟨F, O, P, ρ, _, g, en, q, fun k O1 F1 H1 q1 s1 g1 => po _ O1 F1 H1 q1 s1 g1⟩
/-- .. as values (bools) -/
def fAndV (fa fb : FE) : FE := fun ρ O Q => fa ρ O fun x O1 => ∃ c, x = .bl c ∧ if c = true then fb ρ O1 Q else Q (.bl false) O1
def fOrV (fa fb : FE) : FE := fun ρ O Q => fa ρ O fun x O1 => ∃ c, x = .bl c ∧ if c = true then Q (.bl true) O1 else fb ρ O1 Q
def fNotV (fa : FE) : FE := fun ρ O Q => fa ρ O fun x O1 => ∃ c, x = .bl c ∧ Q (.bl (!c)) O1
theorem de_one {op} (h : DE M X a fa) : DE M X (.BoolOp op [a] pos) fa := pe_one h
theorem de_and (ha : DE M X a fa) (hb : DE M X (.BoolOp .And (b :: rest) pos) fb) : DE M X (.BoolOp .And (a :: b :: rest) pos) (fAndV fa fb) := by
  refine peMono (pe_and ha hb) fun σ H Q h => ?_
  obtain ⟨F, O, P, ρ, R, g, en, q, po⟩ := h
  refine ⟨F, O, P, ρ, _, g, en, q, fun k O1 F1 H1 v q1 s1 g1 r1 => ?_⟩
  obtain ⟨c, rfl, q1⟩ := q1
  simp only [Rep] at r1
  refine ⟨c, r1, ?_⟩
  cases c with
  | true =>
    rw [if_pos rfl] at q1 ⊢
    exact ⟨F1, O1, P, ρ, R, g1, en.mono s1, q1, fun b O' F' H' v q2 s2 g2 => po b O' F' H' v q2 (s1.trans s2) g2⟩
  | false =>
    rw [if_neg Bool.false_ne_true] at q1 ⊢
    exact po _ O1 F1 H1 _ q1 s1 g1 (by simp only [Rep])
/-- a if t else b -/
def fIf (t : FT) (fa fb : FE) : FE := fun ρ O Q => t ρ O fun c O1 => if c = true then fa ρ O1 Q else fb ρ O1 Q
/-! ### argument lists, displays -/
def fNil : FA := fun _ O Q => Q [] O
def fCons (fa : FE) (fr : FA) : FA := fun ρ O Q => fa ρ O fun x O1 => fr ρ O1 fun xs O2 => Q (x :: xs) O2
variable {fr : FA}
theorem da_nil : DA M X [] fNil := paMono pa_nil fun σ H Q h => by
  obtain ⟨F, O, P, ρ, R, g, en, q, po⟩ := h
  exact po [] O F H [] q (Same.refl _) g .nil
theorem da_cons (ha : DE M X e fa) (hr : DA M X es fr) (hs : starEach (e :: es) X.env = (false, eval e X.env) :: starEach es X.env := by rfl) : DA M X (e :: es) (fCons fa fr) := by
  refine paMono (pa_cons ha hr hs) fun σ H Q h => ?_
  obtain ⟨F, O, P, ρ, R, g, en, q, po⟩ := h
  refine ⟨F, O, P, ρ, _, g, en, q, fun x O1 F1 H1 v q1 s1 g1 r1 => ?_⟩
  exact ⟨F1, O1, P, ρ, _, g1, en.mono s1, q1, fun xs O2 F2 H2 vs q2 s2 g2 r2 => po _ O2 F2 H2 _ q2 (s1.trans s2) g2 (.cons (r1.mono s2) r2)⟩
def fTup (fr : FA) : FE := fun ρ O Q => fr ρ O fun xs O1 => xs.length ≤ sizeLine ∧ Q (.tup xs) O1
theorem de_tup {x1} (h : DA M X es fr) : DE M X (.Tuple es x1 pos) (fTup fr) := by
  refine peMono (pe_tup h) fun σ H Q h => ?_
  obtain ⟨F, O, P, ρ, R, g, en, q, po⟩ := h
  refine ⟨F, O, P, ρ, _, g, en, q, fun xs O1 F1 H1 vs q1 s1 g1 r1 => ?_⟩
  refine ⟨by rw [← r1.length]; exact q1.1, fun p hp => ?_⟩
  have hF := g1.freeF hp
  refine po (.tup xs) O1 (upd F1 p (.tup vs)) _ _ q1.2 (s1.trans (same_upd hF)) (g1.new hp) ?_
  simp only [Rep]
  exact ⟨p, vs, rfl, .inl (.inl upd_same), r1.mono (same_upd hF)⟩
/-- a list that never changes -/
def fLst (fr : FA) : FE := fun ρ O Q => fr ρ O fun xs O1 => xs.length ≤ sizeLine ∧ Q (.lst xs) O1
theorem de_lst (h : DA M X es fr) : DE M X (.List es pos) (fLst fr) := by
  refine peMono (pe_lst h) fun σ H Q h => ?_
  obtain ⟨F, O, P, ρ, R, g, en, q, po⟩ := h
  refine ⟨F, O, P, ρ, _, g, en, q, fun xs O1 F1 H1 vs q1 s1 g1 r1 => ?_⟩
  refine ⟨by rw [← r1.length]; exact q1.1, fun p hp => ?_⟩
  have hF := g1.freeF hp
  refine po (.lst xs) O1 (upd F1 p (.lst vs)) _ _ q1.2 (s1.trans (same_upd hF)) (g1.new hp) ?_
  simp only [Rep]
  exact ⟨p, vs, rfl, upd_same, r1.mono (same_upd hF)⟩
/-- a list that is owned -/
def fLstO (fr : FA) : FE := fun ρ O Q => fr ρ O fun xs O1 => xs.length ≤ sizeLine ∧ ∀ p, O1 p = none → Q (.ref p) (updO O1 p (.lst xs))
theorem de_lstO (h : DA M X es fr) : DE M X (.List es pos) (fLstO fr) := by
  refine peMono (pe_lst h) fun σ H Q h => ?_
  obtain ⟨F, O, P, ρ, R, g, en, q, po⟩ := h
  refine ⟨F, O, P, ρ, _, g, en, q, fun xs O1 F1 H1 vs q1 s1 g1 r1 => ?_⟩
  refine ⟨by rw [← r1.length]; exact q1.1, fun p hp => ?_⟩
  exact po (.ref p) _ F1 _ _ (q1.2 p (g1.freeO hp)) s1 (g1.newO hp ⟨vs, upd_same, r1⟩) (by simp only [Rep])
/-- the law's pool: two numbers that are not negative -/
def rPool (xs : List D) (O : Ow) (Q : VD) : Prop := match xs with
  | [.int x, .int y] => 0 ≤ x ∧ 0 ≤ y ∧ y < 2147483647 ∧ ∀ p, O p = none → Q (.ref p) (updO O p .pool)
  | _ => False
def fPool (fr : FA) : FE := fun ρ O Q => fr ρ O fun xs O1 => rPool xs O1 Q
theorem de_pool (h : DA M X es fr) : DE M X (.List es pos) (fPool fr) := by
  refine peMono (pe_lst h) fun σ H Q h => ?_
  obtain ⟨F, O, P, ρ, R, g, en, q, po⟩ := h
  refine ⟨F, O, P, ρ, _, g, en, q, fun xs O1 F1 H1 vs q1 s1 g1 r1 => ?_⟩
  unfold rPool at q1
  split at q1
  · simp only [RepAll, Rep] at r1
    obtain ⟨_, _, rfl, rfl, _, _, rfl, rfl, rfl⟩ := r1
    refine ⟨show 2 ≤ sizeLine by decide, fun p hp => ?_⟩
    exact po (.ref p) _ F1 _ _ (q1.2.2.2 p (g1.freeO hp)) s1 (g1.newO hp ⟨_, _, upd_same, q1.1, q1.2.1, q1.2.2.1⟩) (by simp only [Rep])
  · exact q1.elim
end
end Kf
namespace Kf
open PySem PySem.Spec L2
open PyProof.Rows hiding St
variable {M : MX}

/-! ### data that is told apart by == -/
mutual
def toPy : D → PyData
  | .non => .none
  | .bl b => .bool b
  | .int i => .int i
  | .str x => .str x
  | .tup ds => .tuple (toPys ds)
  | .lst ds => .list (toPys ds)
  | .ref _ => .dict []
  | .ty _ => .dict []
  | .scr ns => .list (ns.map .int)
  | .edic => .dict []
  | .tupK _ => .dict []
def toPys : List D → List PyData
  | [] => []
  | d :: ds => toPy d :: toPys ds
end
mutual
def isPy : D → Bool
  | .non => true
  | .bl _ => true
  | .int _ => true
  | .str x => PyData.strOk x
  | .tup ds => isPys ds
  | .lst ds => isPys ds
  | .ref _ => false
  | .ty _ => false
  | .scr _ => false
  | .edic => false
  | .tupK _ => false
def isPys : List D → Bool
  | [] => true
  | d :: ds => isPy d && isPys ds
end
theorem isPys_all : ∀ ds : List D, isPys ds = ds.all isPy
  | [] => rfl
  | d :: ds => by rw [isPys, isPys_all ds, List.all_cons]
mutual
theorem isPy_lay : ∀ d : D, isPy d = true → (toPy d).canLay0 = true
  | .non, _ => by simp only [toPy, PyData.canLay0]
  | .bl _, _ => by simp only [toPy, PyData.canLay0]
  | .int _, _ => by simp only [toPy, PyData.canLay0]
  | .str x, h => by simp only [isPy] at h; simp only [toPy, PyData.canLay0]; exact h
  | .tup ds, h => by simp only [isPy] at h; simp only [toPy, PyData.canLay0]; exact isPys_lay ds h
  | .lst ds, h => by simp only [isPy] at h; simp only [toPy, PyData.canLay0]; exact isPys_lay ds h
  | .ref _, h => by simp only [isPy] at h; cases h
  | .ty _, h => by simp only [isPy] at h; cases h
  | .scr _, h => by simp only [isPy] at h; cases h
  | .edic, h => by simp only [isPy] at h; cases h
  | .tupK _, h => by simp only [isPy] at h; cases h
theorem isPys_lay : ∀ ds : List D, isPys ds = true → PyData.canLayAll0 (toPys ds) = true
  | [], _ => by simp only [toPys, PyData.canLayAll0]
  | d :: ds, h => by
    simp only [isPys, Bool.and_eq_true] at h
    simp only [toPys, PyData.canLayAll0, Bool.and_eq_true]
    exact ⟨isPy_lay d h.1, isPys_lay ds h.2⟩
end
/-- how deep a datum is -/
def dp (d : D) : Nat := (toPy d).depth
section
variable {K : PySem.W.Frag} {F H : Hp}
mutual
theorem Rep.dp (s : Same F H) : ∀ (d : D) (v : V), isPy d = true → Rep K F d v → Dp K H v (toPy d)
  | .non, v, _, r => by simp only [Rep] at r; subst r; simp only [toPy]; exact .non
  | .bl b, v, _, r => by simp only [Rep] at r; subst r; simp only [toPy]; exact .bl b
  | .int b, v, _, r => by simp only [Rep] at r; subst r; simp only [toPy]; exact .int b
  | .str b, v, _, r => by simp only [Rep] at r; subst r; simp only [toPy]; exact .str b
  | .tup ds, v, h, r => by
    simp only [isPy] at h
    simp only [Rep] at r
    obtain ⟨a, xs, rfl, r1, r2⟩ := r
    simp only [toPy]
    exact .tup (Same.seqT s r1) (RepAll.dp s ds xs h r2)
  | .lst ds, v, h, r => by
    simp only [isPy] at h
    simp only [Rep] at r
    obtain ⟨a, xs, rfl, r1, r2⟩ := r
    simp only [toPy]
    exact .lst (SqL.of (s _ _ r1)) (RepAll.dp s ds xs h r2)
  | .ref _, _, h, _ => by simp only [isPy] at h; cases h
  | .ty _, _, h, _ => by simp only [isPy] at h; cases h
  | .scr _, _, h, _ => by simp only [isPy] at h; cases h
  | .edic, _, h, _ => by simp only [isPy] at h; cases h
  | .tupK _, _, h, _ => by simp only [isPy] at h; cases h
theorem RepAll.dp (s : Same F H) : ∀ (ds : List D) (vs : List V), isPys ds = true → RepAll K F ds vs → DpAll K H vs (toPys ds)
  | [], vs, _, r => by simp only [RepAll] at r; subst r; simp only [toPys]; exact .nil
  | d :: ds, vs, h, r => by
    simp only [isPys, Bool.and_eq_true] at h
    simp only [RepAll] at r
    obtain ⟨v, q, rfl, r1, r2⟩ := r
    simp only [toPys]
    exact .cons (Rep.dp s d v h.1 r1) (RepAll.dp s ds q h.2 r2)
end
end

/-! ### an owned list read -/
def deref (O : Ow) : D → D
  | .ref a => match O a with
    | some (.lst ds) => .lst ds
    | _ => .ref a
  | d => d
/-- as Rep, but a list may be owned -/
def RepH (K : PySem.W.Frag) (F H : Hp) (d : D) (v : V) : Prop := match d with
  | .lst ds => ∃ a xs, v = .ref a ∧ H a = some (.lst xs) ∧ RepAll K F ds xs
  | d => Rep K F d v
section
variable {K : PySem.W.Frag} {F P H : Hp} {O : Ow}
theorem Gd.deref (g : Gd M K F O P H) {d : D} {v : V} (r : Rep K F d v) : RepH K F H (deref O d) v := by
  cases d with
  | lst ds =>
    simp only [Rep] at r
    obtain ⟨a, xs, e, h1, h2⟩ := r
    exact ⟨a, xs, e, g.fz _ _ h1, h2⟩
  | ref a =>
    cases e : O a with
    | none =>
      have z : Kf.deref O (.ref a) = .ref a := by simp only [Kf.deref, e]
      rw [z]; exact r
    | some c =>
      cases c with
      | pool =>
        have z : Kf.deref O (.ref a) = .ref a := by simp only [Kf.deref, e]
        rw [z]; exact r
      | dic kvs =>
        have z : Kf.deref O (.ref a) = .ref a := by simp only [Kf.deref, e]
        rw [z]; exact r
      | dicL kvs o =>
        have z : Kf.deref O (.ref a) = .ref a := by simp only [Kf.deref, e]
        rw [z]; exact r
      | exc _ _ =>
        have z : Kf.deref O (.ref a) = .ref a := by simp only [Kf.deref, e]
        rw [z]; exact r
      | ins _ _ =>
        have z : Kf.deref O (.ref a) = .ref a := by simp only [Kf.deref, e]
        rw [z]; exact r
      | dicT _ =>
        have z : Kf.deref O (.ref a) = .ref a := by simp only [Kf.deref, e]
        rw [z]; exact r
      | lst ds =>
        have z : Kf.deref O (.ref a) = .lst ds := by simp only [Kf.deref, e]
        rw [z]
        obtain ⟨_, _, vs, h1, h2⟩ := g.ow a _ e
        simp only [Rep] at r
        exact ⟨a, vs, r, h1, h2⟩
  | _ => exact r
theorem RepH.dp (s : Same F H) {d : D} {v : V} (h : isPy d = true) (r : RepH K F H d v) : Dp K H v (toPy d) := by
  cases d with
  | lst ds =>
    obtain ⟨a, xs, rfl, h1, h2⟩ := r
    simp only [isPy] at h
    simp only [toPy]
    exact .lst (SqL.of h1) (RepAll.dp s ds xs h h2)
  | _ => exact Rep.dp s _ v h r

/-- read through owned lists at any depth -/
def ddf (O : Ow) : Nat → D → D
  | 0, d => d
  | n + 1, .ref a => match O a with
    | some (.lst ds) => .lst (ds.map (ddf O n))
    | _ => .ref a
  | n + 1, .tup ds => .tup (ds.map (ddf O n))
  | n + 1, .lst ds => .lst (ds.map (ddf O n))
  | _ + 1, d => d
theorem repAll_map {f : D → D} {F' : Hp} (h : ∀ d v, Rep K F d v → Rep K F' (f d) v) : ∀ {ds : List D} {vs : List V}, RepAll K F ds vs → RepAll K F' (ds.map f) vs
  | [], _, r => by simp only [RepAll] at r; subst r; exact .nil
  | d :: ds, _, r => by
    simp only [RepAll] at r
    obtain ⟨v, w, rfl, r1, r2⟩ := r
    rw [List.map_cons]
    exact .cons (h d v r1) (repAll_map h r2)
theorem Gd.ddf (g : Gd M K F O P H) : ∀ (n : Nat) (d : D) (v : V), Rep K F d v → Rep K H (ddf O n d) v
  | 0, d, v, r => r.mono g.fz
  | n + 1, d, v, r => by
    cases d with
    | tup ds =>
      simp only [Rep] at r
      obtain ⟨a, xs, e, h1, h2⟩ := r
      simp only [Kf.ddf, Rep]
      exact ⟨a, xs, e, Same.seqT g.fz h1, repAll_map (Gd.ddf g n) h2⟩
    | lst ds =>
      simp only [Rep] at r
      obtain ⟨a, xs, e, h1, h2⟩ := r
      simp only [Kf.ddf, Rep]
      exact ⟨a, xs, e, g.fz _ _ h1, repAll_map (Gd.ddf g n) h2⟩
    | ref a =>
      cases e : O a with
      | none =>
        have z : Kf.ddf O (n + 1) (.ref a) = .ref a := by simp only [Kf.ddf, e]
        rw [z]; exact r.mono g.fz
      | some c =>
        cases c with
        | lst ds =>
          have z : Kf.ddf O (n + 1) (.ref a) = .lst (ds.map (Kf.ddf O n)) := by simp only [Kf.ddf, e]
          rw [z]
          obtain ⟨_, _, vs, h1, h2⟩ := g.ow a _ e
          simp only [Rep] at r ⊢
          exact ⟨a, vs, r, h1, repAll_map (Gd.ddf g n) h2⟩
        | _ =>
          have z : Kf.ddf O (n + 1) (.ref a) = .ref a := by simp only [Kf.ddf, e]
          rw [z]; exact r.mono g.fz
    | _ => simp only [Kf.ddf]; exact r.mono g.fz
/-! what holds no owned list is read as it is -/
theorem ddf_py {O : Ow} : ∀ (n : Nat) (d : D), isPy d = true → ddf O n d = d
  | 0, d, h => rfl
  | n + 1, d, h => by
    have hm : ∀ ds : List D, isPys ds = true → ds.map (ddf O n) = ds := fun ds hd => by
      rw [isPys_all, List.all_eq_true] at hd
      exact (List.map_congr_left fun x hx => ddf_py n x (hd x hx)).trans (List.map_id' ds)
    cases d with
    | tup ds => simp only [isPy] at h; simp only [ddf, hm ds h]
    | lst ds => simp only [isPy] at h; simp only [ddf, hm ds h]
    | ref a => simp [isPy] at h
    | _ => rfl
theorem ddf_deref {O : Ow} {n : Nat} {d : D} (h : isPy (deref O d) = true) : ddf O (n + 1) d = deref O d := by
  cases d with
  | ref a =>
    cases e : O a with
    | none =>
      have z : deref O (.ref a) = .ref a := by simp only [deref, e]
      rw [z] at h; simp [isPy] at h
    | some c =>
      cases c with
      | lst ds =>
        have z : deref O (.ref a) = .lst ds := by simp only [deref, e]
        have z2 : ddf O (n + 1) (.ref a) = .lst (ds.map (ddf O n)) := by simp only [ddf, e]
        rw [z] at h ⊢
        rw [z2]
        simp only [isPy] at h
        rw [isPys_all, List.all_eq_true] at h
        rw [(List.map_congr_left fun x hx => ddf_py n x (h x hx)).trans (List.map_id' ds)]
      | _ =>
        have z : deref O (.ref a) = .ref a := by simp only [deref, e]
        rw [z] at h; simp [isPy] at h
  | _ => exact ddf_py (n + 1) _ h
/-! ### ends -/
theorem PostE.at {R : VD} {Q : VK} {d : D} {v : V} (po : PostE M K F P R Q) (g : Gd M K F O P H) (h : R d O) (r : Rep K F d v) : Q v H := po d O F H v h (Same.refl _) g r
theorem PostE.lst {R : VD} {Q : VK} {ds : List D} {vs : List V} {p : Addr} (po : PostE M K F P R Q) (g : Gd M K F O P H) (h : R (.lst ds) O) (r : RepAll K F ds vs) (hp : H p = none) : Q (.ref p) (upd H p (.lst vs)) := by
  have hF := g.freeF hp
  refine po (.lst ds) O (upd F p (.lst vs)) _ _ h (same_upd hF) (g.new hp) ?_
  simp only [Rep]
  exact ⟨p, vs, rfl, upd_same, r.mono (same_upd hF)⟩
theorem PostE.tup {R : VD} {Q : VK} {ds : List D} {vs : List V} {p : Addr} (po : PostE M K F P R Q) (g : Gd M K F O P H) (h : R (.tup ds) O) (r : RepAll K F ds vs) (hp : H p = none) : Q (.ref p) (upd H p (.tup vs)) := by
  have hF := g.freeF hp
  refine po (.tup ds) O (upd F p (.tup vs)) _ _ h (same_upd hF) (g.new hp) ?_
  simp only [Rep]
  exact ⟨p, vs, rfl, .inl (.inl upd_same), r.mono (same_upd hF)⟩
theorem PostE.lstO {R : VD} {Q : VK} {ds : List D} {vs : List V} {p : Addr} (po : PostE M K F P R Q) (g : Gd M K F O P H) (h : ∀ p, O p = none → R (.ref p) (updO O p (.lst ds))) (r : RepAll K F ds vs) (hp : H p = none) : Q (.ref p) (upd H p (.lst vs)) :=
  po (.ref p) _ F _ _ (h p (g.freeO hp)) (Same.refl _) (g.newO hp ⟨vs, upd_same, r⟩) (by simp only [Rep])
theorem PostE.more {R : VD} {Q : VK} {F' : Hp} (po : PostE M K F P R Q) (s : Same F F') : PostE M K F' P R Q := fun d O' F2 H' v q s2 g r => po d O' F2 H' v q (s.trans s2) g r
end

section
variable {X : Cx}
theorem opD_of {f : Value → Value → Sem Value} {r : R2D}
    (h : ∀ (pins : List (Addr × Obj)) (s : Shared) (σ : St) (F P H : Hp) (O : Ow) (x y : V) (dx dy : D) (v u : Value) (R : VD) (Q : VK), Inv X pins σ H s → RelV x v → RelV y u → Gd M X.K F O P H → Rep X.K F dx x → Rep X.K F dy y → r dx dy O R → PostE M X.K F P R Q →
      ∃ r0, OpR X f r0 ∧ r0 x y H Q) : OpD M X f r := by
  intro pins s σ H x y v u Q I rx ry q
  obtain ⟨F, O, P, dx, dy, R, g, r1, r2, q, po⟩ := q
  obtain ⟨r0, o, z⟩ := h pins s σ F P H O x y dx dy v u R Q I rx ry g r1 r2 q po
  exact o pins s σ H x y v u Q I rx ry z

/-! ### + - * // % ** -/
def rAddD : R2D := fun x y O Q => match deref O x, deref O y with
  | .int i, .int j => Q (.int (i + j)) O
  | .int i, .bl k => Q (.int (i + b2i k)) O
  | .str i, .str j => i.length + j.length ≤ sizeLine ∧ Q (.str (i ++ j)) O
  | .lst xs, .lst ys => xs.length + ys.length ≤ sizeLine ∧ Q (.lst (xs ++ ys)) O
  | .tup xs, .tup ys => xs ≠ [] ∧ xs.length + ys.length ≤ sizeLine ∧ Q (.tup (xs ++ ys)) O
  | _, _ => False
/-- .. of two lists, the new one owned -/
def rCatO : R2D := fun x y O Q => match deref O x, deref O y with
  | .lst xs, .lst ys => xs.length + ys.length ≤ sizeLine ∧ ∀ p, O p = none → Q (.ref p) (updO O p (.lst (xs ++ ys)))
  | _, _ => False
theorem od_add : OpD M X (binaryOp .Add) rAddD := by
  refine opD_of fun pins s σ F P H O x y dx dy v u R Q I rx ry g r1 r2 q po => ?_
  have h1 := g.deref r1
  have h2 := g.deref r2
  unfold rAddD at q
  revert q h1 h2
  generalize Kf.deref O dx = ex
  generalize Kf.deref O dy = ey
  intro q h1 h2
  cases ex <;> cases ey <;> first | exact q.elim | skip
  · simp only [RepH, Rep] at h1 h2
    exact ⟨_, op_add_ib, _, _, h1, h2, po.at g q (by simp only [Rep])⟩
  · simp only [RepH, Rep] at h1 h2
    exact ⟨_, op_add, _, _, h1, h2, po.at g q (by simp only [Rep])⟩
  · simp only [RepH, Rep] at h1 h2
    exact ⟨_, op_add_str, _, _, h1, h2, q.1, po.at g q.2 (by simp only [Rep])⟩
  · simp only [RepH, Rep] at h1 h2
    obtain ⟨a, xs, rfl, a1, a2⟩ := h1
    obtain ⟨b, ys, rfl, b1, b2⟩ := h2
    obtain ⟨q1, q2, q3⟩ := q
    refine ⟨_, op_catT, a, b, xs, ys, rfl, rfl, Same.seqT g.fz a1, Same.seqT g.fz b1, ?_, by rw [← a2.length, ← b2.length]; exact q2, fun e => ?_, fun e p hp => ?_⟩
    · intro e; rw [e] at a2; have := a2.length; exact q1 (List.eq_nil_of_length_eq_zero (by simpa using this))
    · rw [e] at b2
      have l0 := b2.length
      rename_i ex ey
      have e0 : ey = [] := List.eq_nil_of_length_eq_zero (by simpa using l0)
      rw [e0, List.append_nil] at q3
      refine po.at g q3 ?_
      simp only [Rep]
      exact ⟨a, xs, rfl, a1, a2⟩
    · exact po.tup g q3 (a2.append b2) hp
  · obtain ⟨a, xs, rfl, a1, a2⟩ := h1
    obtain ⟨b, ys, rfl, b1, b2⟩ := h2
    exact ⟨_, op_cat, a, b, xs, ys, rfl, rfl, a1, b1, by rw [← a2.length, ← b2.length]; exact q.1, fun p hp => po.lst g q.2 (a2.append b2) hp⟩
theorem od_catO : OpD M X (binaryOp .Add) rCatO := by
  refine opD_of fun pins s σ F P H O x y dx dy v u R Q I rx ry g r1 r2 q po => ?_
  have h1 := g.deref r1
  have h2 := g.deref r2
  unfold rCatO at q
  revert q h1 h2
  generalize Kf.deref O dx = ex
  generalize Kf.deref O dy = ey
  intro q h1 h2
  cases ex <;> cases ey <;> first | exact q.elim | skip
  obtain ⟨a, xs, rfl, a1, a2⟩ := h1
  obtain ⟨b, ys, rfl, b1, b2⟩ := h2
  exact ⟨_, op_cat, a, b, xs, ys, rfl, rfl, a1, b1, by rw [← a2.length, ← b2.length]; exact q.1, fun p hp => po.lstO g q.2 (a2.append b2) hp⟩
def rInts (C : Int → Int → Prop) (f : Int → Int → D) : R2D := fun x y O Q => match x, y with
  | .int i, .int j => C i j ∧ Q (f i j) O
  | _, _ => False
theorem od_ints {f : Value → Value → Sem Value} {C : Int → Int → Prop} {g : Int → Int → V} {k : Int → Int → D} (h : OpR X f (rI C g)) (hk : ∀ F i j, Rep X.K F (k i j) (g i j)) : OpD M X f (rInts C k) := by
  refine opD_of fun pins s σ F P H O x y dx dy v u R Q I rx ry gd r1 r2 q po => ?_
  unfold rInts at q
  cases dx <;> first | exact q.elim | skip
  cases dy <;> first | exact q.elim | skip
  simp only [Rep] at r1 r2
  exact ⟨_, h, _, _, r1, r2, q.1, po.at gd q.2 (hk F _ _)⟩
def rInts0 (f : Int → Int → D) : R2D := fun x y O Q => match x, y with
  | .int i, .int j => Q (f i j) O
  | _, _ => False
theorem od_ints0 {f : Value → Value → Sem Value} {g : Int → Int → V} {k : Int → Int → D} (h : OpR X f (rI0 g)) (hk : ∀ F i j, Rep X.K F (k i j) (g i j)) : OpD M X f (rInts0 k) := by
  refine opD_of fun pins s σ F P H O x y dx dy v u R Q I rx ry gd r1 r2 q po => ?_
  unfold rInts0 at q
  cases dx <;> first | exact q.elim | skip
  cases dy <;> first | exact q.elim | skip
  simp only [Rep] at r1 r2
  exact ⟨_, h, _, _, r1, r2, po.at gd q (hk F _ _)⟩
theorem od_sub : OpD M X (binaryOp .Sub) (rInts0 fun i j => .int (i - j)) := od_ints0 op_sub fun _ _ _ => by simp only [Rep]
theorem od_mul : OpD M X (binaryOp .Mult) (rInts CMul fun i j => .int (i * j)) := od_ints op_mul fun _ _ _ => by simp only [Rep]
/-- // and divmod by a positive divisor below 2 ^ 60 -/
def CDv (i j : Int) : Prop := 0 < j ∧ j < 1329227995784915872903807060280344576
theorem CDv.w {i j : Int} (h : CDv i j) : CDivW i j := by
  obtain ⟨h1, h2⟩ := h
  exact wide_div h1 (b := 120) (by omega) (by decide) (by decide)
theorem op_fdivV : OpR X (binaryOp .FloorDiv) (rI CDv fun i j => .int (i / j)) := fun pins s σ H x y v u Q I rx ry ⟨i, j, e1, e2, c, q⟩ => op_fdivW pins s σ H x y v u Q I rx ry ⟨i, j, e1, e2, c.w, q⟩
theorem od_div : OpD M X (binaryOp .FloorDiv) (rInts CDv fun i j => .int (i / j)) := od_ints op_fdivV fun _ _ _ => by simp only [Rep]
theorem od_mod : OpD M X (binaryOp .Mod) (rInts (fun _ j => 0 < j) fun i j => .int (i % j)) := od_ints op_mod fun _ _ _ => by simp only [Rep]
theorem od_pow : OpD M X (binaryOp .Pow) (rInts CPow fun i j => .int (i ^ j.toNat)) := od_ints op_pow fun _ _ _ => by simp only [Rep]
/-! ### comparisons -/
/-- < of ints, of texts -/
def rLtD : R2D := fun x y O Q => match x, y with
  | .int i, .int j => Q (.bl (decide (i < j))) O
  | .str i, .str j => Q (.bl (decide (i.cps.toList < j.cps.toList))) O
  | _, _ => False
theorem od_lt : OpD M X (compareOp .Lt) rLtD := by
  refine opD_of fun pins s σ F P H O x y dx dy v u R Q I rx ry gd r1 r2 q po => ?_
  unfold rLtD at q
  cases dx <;> first | exact q.elim | skip
  all_goals cases dy <;> first | exact q.elim | skip
  · simp only [Rep] at r1 r2
    exact ⟨_, op_lt, _, _, r1, r2, po.at gd q (by simp only [Rep])⟩
  · simp only [Rep] at r1 r2
    exact ⟨_, op_lt_str, _, _, r1, r2, po.at gd q (by simp only [Rep])⟩
def rLeD : R2D := fun x y O Q => match x, y with
  | .int i, .int j => Q (.bl (decide (i ≤ j))) O
  | .str i, .str j => Q (.bl (!decide (j.cps.toList < i.cps.toList))) O
  | _, _ => False
theorem od_le : OpD M X (compareOp .LtE) rLeD := by
  refine opD_of fun pins s σ F P H O x y dx dy v u R Q I rx ry gd r1 r2 q po => ?_
  unfold rLeD at q
  cases dx <;> first | exact q.elim | skip
  all_goals cases dy <;> first | exact q.elim | skip
  · simp only [Rep] at r1 r2
    exact ⟨_, op_le, _, _, r1, r2, po.at gd q (by simp only [Rep])⟩
  · simp only [Rep] at r1 r2
    exact ⟨_, op_le_str, _, _, r1, r2, po.at gd q (by simp only [Rep])⟩
theorem od_gt : OpD M X (compareOp .Gt) (rInts0 fun i j => .bl (decide (j < i))) := od_ints0 op_gt fun _ _ _ => by simp only [Rep]
/-- == of data; the answer by eqv -/
def rEqD (neg : Bool) : R2D := fun x y O Q => isPy (ddf O 192 x) = true ∧ isPy (ddf O 192 y) = true ∧ min (dp (ddf O 192 x)) (dp (ddf O 192 y)) ≤ 190 ∧ Q (.bl (neg ^^ PyData.eqv (toPy (ddf O 192 x)) (toPy (ddf O 192 y)))) O
theorem od_eq (hu : X.A.units + 200 < cLine) : OpD M X (compareOp .Eq) (rEqD false) := by
  intro pins s σ H x y v u Q I rx ry q
  obtain ⟨F, O, P, dx, dy, R, g, r1, r2, ⟨q1, q2, q3, q4⟩, po⟩ := q
  obtain ⟨as, w1⟩ := Dp.reads I _ x v (Rep.dp (Same.refl _) _ _ q1 (g.ddf 192 _ _ r1)) rx
  obtain ⟨bs, w2⟩ := Dp.reads I _ y u (Rep.dp (Same.refl _) _ _ q2 (g.ddf 192 _ _ r2)) ry
  have hroom : X.A.units + min (toPy (ddf O 192 dx)).depth (toPy (ddf O 192 dy)).depth < cLine := by
    have : min (toPy (ddf O 192 dx)).depth (toPy (ddf O 192 dy)).depth ≤ 190 := q3
    omega
  refine SeqAt.compareEq_reads w1 w2 (isPy_lay _ q1) (isPy_lay _ q2) hroom ⟨.bl _, H, I, rfl, ?_⟩
  rw [Bool.false_xor] at q4
  exact po.at g q4 (by simp only [Rep])
theorem od_ne (hu : X.A.units + 200 < cLine) : OpD M X (compareOp .NotEq) (rEqD true) := by
  intro pins s σ H x y v u Q I rx ry q
  obtain ⟨F, O, P, dx, dy, R, g, r1, r2, ⟨q1, q2, q3, q4⟩, po⟩ := q
  obtain ⟨as, w1⟩ := Dp.reads I _ x v (Rep.dp (Same.refl _) _ _ q1 (g.ddf 192 _ _ r1)) rx
  obtain ⟨bs, w2⟩ := Dp.reads I _ y u (Rep.dp (Same.refl _) _ _ q2 (g.ddf 192 _ _ r2)) ry
  have hroom : X.A.units + min (toPy (ddf O 192 dx)).depth (toPy (ddf O 192 dy)).depth < cLine := by
    have : min (toPy (ddf O 192 dx)).depth (toPy (ddf O 192 dy)).depth ≤ 190 := q3
    omega
  refine SeqAt.compareNe_reads w1 w2 (isPy_lay _ q1) (isPy_lay _ q2) hroom ⟨.bl _, H, I, rfl, ?_⟩
  rw [Bool.true_xor] at q4
  exact po.at g q4 (by simp only [Rep])
/-- is None, is not None -/
def isNon : D → Bool
  | .non => true
  | _ => false
theorem Rep.isNon {K : PySem.W.Frag} {F : Hp} {d : D} {v : V} (r : Rep K F d v) : decide (v = .non) = isNon d := by
  cases d <;> simp only [Rep] at r <;> first | (subst r; rfl) | (obtain ⟨a, xs, rfl, _⟩ := r; rfl) | (obtain ⟨a, rfl, _⟩ := r; rfl)
def rIsN (neg : Bool) : R2D := fun x y O Q => match y with
  | .non => Q (.bl (neg ^^ isNon x)) O
  | _ => False
theorem od_is : OpD M X (compareOp .Is) (rIsN false) := by
  refine opD_of fun pins s σ F P H O x y dx dy v u R Q I rx ry g r1 r2 q po => ?_
  unfold rIsN at q
  cases dy <;> first | exact q.elim | skip
  simp only [Rep] at r2
  refine ⟨_, op_isN, r2, ?_⟩
  rw [Bool.false_xor] at q
  rw [r1.isNon]
  exact po.at g q (by simp only [Rep])
def rInD (neg : Bool) : R2D := fun x y O Q => match deref O y with
  | .str z => match x with
    | .str i => ∃ c, i = ⟨#[c]⟩ ∧ Q (.bl (neg ^^ decide (c ∈ z.cps.toList))) O
    | _ => False
  | .lst ds => isPy (deref O x) = true ∧ isPys ds = true ∧ dp (deref O x) ≤ 190 ∧ Q (.bl (neg ^^ ds.any fun z => PyData.eqv (toPy z) (toPy (deref O x)))) O
  | .tup ds => isPy (deref O x) = true ∧ isPys ds = true ∧ dp (deref O x) ≤ 190 ∧ Q (.bl (neg ^^ ds.any fun z => PyData.eqv (toPy z) (toPy (deref O x)))) O
  | _ => False
theorem any_toPys (d : PyData) : ∀ ds : List D, (toPys ds).any (fun z => PyData.eqv z d) = ds.any fun z => PyData.eqv (toPy z) d
  | [] => rfl
  | x :: ds => by rw [toPys, List.any_cons, List.any_cons, any_toPys d ds]
theorem od_in_gen {op : CmpOp} {neg : Bool} (hu : X.A.units + 200 < cLine)
    (h1 : OpR X (compareOp op) (fun x y H Q => ∃ (c : Nat) (z : Str), x = .str ⟨#[c]⟩ ∧ y = .str z ∧ Q (.bl (neg ^^ decide (c ∈ z.cps.toList))) H))
    (h2 : ∀ (pins : List (Addr × Obj)) (s : Shared) (σ : St) (H : Hp) (x y : V) (v u : Value) (Q : VK) (d : PyData) (ds : List PyData), Inv X pins σ H s → RelV x v → RelV y u → Dp X.K H x d → Dp X.K H y (.list ds) → d.canLay0 = true → PyData.canLayAll0 ds = true → d.depth ≤ 190 →
      Q (.bl (neg ^^ ds.any fun z => PyData.eqv z d)) H → wpAny (model X.prog X.w) X.A (compareOp op v u) (EP X pins σ Q) X.xe s)
    (h3 : ∀ (pins : List (Addr × Obj)) (s : Shared) (σ : St) (H : Hp) (x y : V) (v u : Value) (Q : VK) (d : PyData) (ds : List PyData), Inv X pins σ H s → RelV x v → RelV y u → Dp X.K H x d → Dp X.K H y (.tuple ds) → d.canLay0 = true → PyData.canLayAll0 ds = true → d.depth ≤ 190 →
      Q (.bl (neg ^^ ds.any fun z => PyData.eqv z d)) H → wpAny (model X.prog X.w) X.A (compareOp op v u) (EP X pins σ Q) X.xe s) : OpD M X (compareOp op) (rInD neg) := by
  intro pins s σ H x y v u Q I rx ry q
  obtain ⟨F, O, P, dx, dy, R, g, r1, r2, q, po⟩ := q
  have e2 := g.deref r2
  unfold rInD at q
  revert q e2
  generalize hey : Kf.deref O dy = ey
  intro q e2
  cases ey <;> first | exact q.elim | skip
  · cases dx <;> first | exact q.elim | skip
    simp only [RepH, Rep] at e2 r1
    obtain ⟨c, rfl, q⟩ := q
    exact h1 pins s σ H x y v u Q I rx ry ⟨c, _, r1, e2, po.at g q (by simp only [Rep])⟩
  · simp only [RepH, Rep] at e2
    obtain ⟨b, ys, rfl, b1, b2⟩ := e2
    obtain ⟨q1, q2, q3, q4⟩ := q
    refine h3 pins s σ H x _ v u Q _ _ I rx ry ((g.deref r1).dp g.fz q1) (.tup (Same.seqT g.fz b1) (RepAll.dp g.fz _ ys q2 b2)) (isPy_lay _ q1) (isPys_lay _ q2) q3 ?_
    rw [any_toPys]
    exact po.at g q4 (by simp only [Rep])
  · obtain ⟨q1, q2, q3, q4⟩ := q
    obtain ⟨b, ys, rfl, b1, b2⟩ := e2
    refine h2 pins s σ H x _ v u Q _ _ I rx ry ((g.deref r1).dp g.fz q1) (.lst (SqL.of b1) (RepAll.dp g.fz _ ys q2 b2)) (isPy_lay _ q1) (isPys_lay _ q2) q3 ?_
    rw [any_toPys]
    exact po.at g q4 (by simp only [Rep])
theorem od_notin (hu : X.A.units + 200 < cLine) : OpD M X (compareOp .NotIn) (rInD true) := by
  refine od_in_gen hu (fun pins s σ H x y v u Q I rx ry q => ?_) (fun pins s σ H x y v u Q d ds I rx ry hd he c1 c2 c3 q => ?_) (fun pins s σ H x y v u Q d ds I rx ry hd he c1 c2 c3 q => ?_)
  · obtain ⟨c, z, e1, e2, q⟩ := q
    rw [Bool.true_xor] at q
    exact op_notIn_sign pins s σ H x y v u Q I rx ry ⟨c, z, e1, e2, q⟩
  · obtain ⟨as, r1⟩ := Dp.reads I d x v hd rx
    obtain ⟨bs, r2⟩ := Dp.reads I (.list ds) y u he ry
    rw [Bool.true_xor] at q
    exact SeqAt.notIn_list_reads r2 r1 c2 c1 (by omega) ⟨.bl _, H, I, rfl, q⟩
  · obtain ⟨as, r1⟩ := Dp.reads I d x v hd rx
    obtain ⟨bs, r2⟩ := Dp.reads I (.tuple ds) y u he ry
    rw [Bool.true_xor] at q
    exact SeqAt.notIn_tuple_reads r2 r1 c2 c1 (by omega) ⟨.bl _, H, I, rfl, q⟩
end
end Kf
namespace Kf
open PySem PySem.Spec L2
open PyProof.Rows hiding St
variable {M : MX}

section
variable {X : Cx} {a b e : Expr} {es : List Expr} {fa fb : FE} {fr : FA} {pos p2 : Pos}

/-! ### subscripts -/
def rIxD : R2D := fun x y O Q => match deref O x, y with
  | .lst ds, .int i => match atI ds i with
    | some d => Q d O
    | none => False
  | .tup ds, .int i => match atI ds i with
    | some d => Q d O
    | none => False
  | .str z, .int i => z.length ≤ sizeLine ∧ match atI z.cps.toList i with
    | some c => Q (.str ⟨#[c]⟩) O
    | none => False
  | .scr ns, .int i => match atI ns i with
    | some n => Q (.int n) O
    | none => False
  | .ref a, .int i => match O a with
    | some .pool => (i = 0 ∧ ∀ x : Int, 0 ≤ x → Q (.int x) O) ∨ (i = 1 ∧ ∀ x : Int, 0 ≤ x → x < 2147483647 → Q (.int x) O)
    | _ => False
  | _, _ => False
theorem RepAll.atI {K : PySem.W.Frag} {F : Hp} {ds : List D} {vs : List V} {i : Int} {d : D} (r : RepAll K F ds vs) (h : atI ds i = some d) : ∃ v, L2.atI vs i = some v ∧ Rep K F d v := by
  unfold L2.atI at h ⊢
  rw [← r.length]
  obtain ⟨j, h1, h2⟩ := Option.bind_eq_some_iff.mp h
  obtain ⟨v, e, q⟩ := r.get h2
  exact ⟨v, Option.bind_eq_some_iff.mpr ⟨j, h1, e⟩, q⟩
theorem atI_map {α β : Type} (f : α → β) (xs : List α) (i : Int) : L2.atI (xs.map f) i = (L2.atI xs i).map f := by
  unfold L2.atI
  rw [List.length_map]
  cases ixN xs.length i with
  | none => rfl
  | some j => simp
theorem id_ix : IxR X (liftR2 M X.K rIxD) := by
  intro value slice pins s σ H x y v u Q I rx ry q hp
  obtain ⟨F, O, P, dx, dy, R, g, r1, r2, q, po⟩ := q
  have h1 := g.deref r1
  unfold rIxD at q
  revert q h1
  generalize Kf.deref O dx = ex
  intro q h1
  cases ex <;> first | exact q.elim | skip
  all_goals cases dy <;> first | exact q.elim | skip
  all_goals simp only [Rep] at r2; subst r2
  · rename_i z i
    simp only [RepH, Rep] at h1; subst h1
    dsimp only at q
    obtain ⟨q0, q⟩ := q
    cases e : L2.atI z.cps.toList i with
    | none => rw [e] at q; exact q.elim
    | some c =>
      rw [e] at q
      exact ix_str value slice pins s σ H _ _ v u Q I rx ry ⟨z, i, c, rfl, rfl, q0, e, po.at g q (by simp only [Rep])⟩ hp
  · rename_i ds i
    simp only [RepH, Rep] at h1
    obtain ⟨c, xs, rfl, h1, h2⟩ := h1
    dsimp only at q
    cases e : L2.atI ds i with
    | none => rw [e] at q; exact q.elim
    | some d =>
      rw [e] at q
      obtain ⟨w, e2, rw'⟩ := h2.atI e
      exact ix_tup value slice pins s σ H _ _ v u Q I rx ry ⟨c, xs, i, w, rfl, rfl, Same.seqT g.fz h1, e2, po.at g q rw'⟩ hp
  · rename_i ds i
    obtain ⟨c, xs, rfl, h1, h2⟩ := h1
    dsimp only at q
    cases e : L2.atI ds i with
    | none => rw [e] at q; exact q.elim
    | some d =>
      rw [e] at q
      obtain ⟨w, e2, rw'⟩ := h2.atI e
      exact ix_list value slice pins s σ H _ _ v u Q I rx ry ⟨c, xs, i, w, rfl, rfl, SqL.of h1, e2, po.at g q rw'⟩ hp
  · rename_i c i
    simp only [RepH, Rep] at h1
    subst h1
    dsimp only at q
    cases e : O c with
    | none => rw [e] at q; exact q.elim
    | some cl =>
      rw [e] at q
      cases cl with
      | lst _ => exact q.elim
      | dic _ => exact q.elim
      | dicL _ _ => exact q.elim
      | exc _ _ => exact q.elim
      | ins _ _ => exact q.elim
      | dicT _ => exact q.elim
      | pool =>
        obtain ⟨_, _, z, y, hH, h2, h3, h4⟩ := g.ow c _ e
        rcases q with ⟨rfl, q⟩ | ⟨rfl, q⟩
        · exact ix_list value slice pins s σ H _ _ v u Q I rx ry ⟨c, _, 0, .int z, rfl, rfl, SqL.of hH, rfl, po.at g (q z h2) (by simp only [Rep])⟩ hp
        · exact ix_list value slice pins s σ H _ _ v u Q I rx ry ⟨c, _, 1, .int y, rfl, rfl, SqL.of hH, rfl, po.at g (q y h3 h4) (by simp only [Rep])⟩ hp
  · rename_i ns i
    simp only [RepH, Rep] at h1
    obtain ⟨c, rfl, h1⟩ := h1
    dsimp only at q
    cases e : L2.atI ns i with
    | none => rw [e] at q; exact q.elim
    | some n =>
      rw [e] at q
      have e2 : L2.atI (ns.map V.int) i = some (.int n) := by rw [atI_map, e]; rfl
      exact ix_list value slice pins s σ H _ _ v u Q I rx ry ⟨c, _, i, _, rfl, rfl, g.fz.seq h1, e2, po.at g q (by simp only [Rep])⟩ hp
theorem de_ix (ha : DE M X a fa) (hb : DE M X b fb) (hs : PlainIx b := by intro _ _; rfl) : DE M X (.Subscript a b pos) (fOp rIxD fa fb) := peMono (pe_ix id_ix ha hb hs) fOp_lift
/-! ### slices -/
abbrev FO := DEnv → Ow → (Option Int → Ow → Prop) → Prop
def liftO (M : MX) (K : PySem.W.Frag) (f : FO) : TO := fun σ H Q => ∃ F O P ρ R, Gd M K F O P H ∧ EnvOk K F ρ σ ∧ f ρ O R ∧ ∀ o O' F' H', R o O' → Same F F' → Gd M K F' O' P H' → Q o H'
abbrev DO (M : MX) (X : Cx) (e : Option Expr) (f : FO) : Prop := PO X e (liftO M X.K f)
theorem poMono {X : Cx} {e : Option Expr} {t t' : TO} (h : PO X e t) (imp : ∀ σ H Q, t' σ H Q → t σ H Q) : PO X e t' := ⟨fun pins s σ H Q I q => h.run pins s σ H Q I (imp σ H Q q)⟩
def fNoPart : FO := fun _ O Q => Q none O
def asI (d : D) (O : Ow) (Q : Option Int → Ow → Prop) : Prop := match d with
  | .int i => Q (some i) O
  | _ => False
theorem asI_i {i : Int} {O : Ow} {Q : Option Int → Ow → Prop} : asI (.int i) O Q = Q (some i) O := rfl
def fPart (f : FE) : FO := fun ρ O Q => f ρ O fun d O1 => asI d O1 Q
theorem do_none : DO M X none fNoPart := poMono po_none fun σ H Q h => by
  obtain ⟨F, O, P, ρ, R, g, en, q, po⟩ := h
  exact po none O F H q (Same.refl _) g
theorem do_some (h : DE M X e fa) : DO M X (some e) (fPart fa) := poMono (po_some h) fun σ H Q h => by
  obtain ⟨F, O, P, ρ, R, g, en, q, po⟩ := h
  refine ⟨F, O, P, ρ, _, g, en, q, fun d O' F' H' v q1 s1 g1 r1 => ?_⟩
  unfold asI at q1
  cases d <;> first | exact q1.elim | skip
  simp only [Rep] at r1
  exact ⟨_, r1, po _ O' F' H' q1 s1 g1⟩
def cut {α : Type} (xs : List α) (lo hi : Option Int) : List α := (xs.drop (HT.sIx xs.length 0 lo)).take (HT.sIx xs.length xs.length hi - HT.sIx xs.length 0 lo)
theorem RepAll.cut {K : PySem.W.Frag} {F : Hp} {ds : List D} {vs : List V} (r : RepAll K F ds vs) (lo hi : Option Int) : RepAll K F (Kf.cut ds lo hi) (cutV vs lo hi) := by
  unfold Kf.cut cutV
  rw [r.length]
  exact (r.drop _).take _
abbrev R3D := D → Option Int → Option Int → Ow → VD → Prop
def rSlD : R3D := fun x lo hi O Q => match deref O x with
  | .lst ds => Q (.lst (cut ds lo hi)) O
  | .tup ds => ¬ (HT.sIx ds.length 0 lo = 0 ∧ HT.sIx ds.length ds.length hi = ds.length) ∧ Q (.tup (cut ds lo hi)) O
  | .str z => z.length ≤ sizeLine ∧ Q (.str (cutS z lo hi)) O
  | _ => False
def liftR3 (M : MX) (K : PySem.W.Frag) (r : R3D) : V → Option Int → Option Int → Hp → VK → Prop := fun x lo hi H Q => ∃ F O P dx R, Gd M K F O P H ∧ Rep K F dx x ∧ r dx lo hi O R ∧ PostE M K F P R Q
theorem sd_sl : SlR X (liftR3 M X.K rSlD) := by
  intro pins s σ H x v vl vu lo hi sl Q I rx hs pl pu q
  obtain ⟨F, O, P, dx, R, g, r1, q, po⟩ := q
  have h1 := g.deref r1
  unfold rSlD at q
  revert q h1
  generalize Kf.deref O dx = ex
  intro q h1
  cases ex <;> first | exact q.elim | skip
  · simp only [RepH, Rep] at h1
    exact sl_str pins s σ H x v vl vu lo hi sl Q I rx hs pl pu ⟨_, h1, q.1, po.at g q.2 (by simp only [Rep])⟩
  · simp only [RepH, Rep] at h1
    obtain ⟨c, xs, rfl, h1, h2⟩ := h1
    refine sl_tup pins s σ H _ v vl vu lo hi sl Q I rx hs pl pu ⟨c, xs, rfl, Same.seqT g.fz h1, by rw [← h2.length]; exact q.1, fun p hp => po.tup g q.2 (h2.cut lo hi) hp⟩
  · obtain ⟨c, xs, rfl, h1, h2⟩ := h1
    exact sl_list pins s σ H _ v vl vu lo hi sl Q I rx hs pl pu ⟨c, xs, rfl, SqL.of h1, fun p hp => po.lst g q (h2.cut lo hi) hp⟩
def fSl (r : R3D) (fe : FE) (fl fh : FO) : FE := fun ρ O Q => fe ρ O fun x O1 => fl ρ O1 fun l O2 => fh ρ O2 fun u O3 => r x l u O3 Q
theorem de_sliceR {r : R3D} {lo hi : Option Expr} {fl fh : FO} (hr : SlR X (liftR3 M X.K r)) (he : DE M X e fa) (hl : DO M X lo fl) (hu : DO M X hi fh) : DE M X (.Subscript e (.Slice lo hi none p2) pos) (fSl r fa fl fh) := by
  refine peMono (pe_slice hr he hl hu) fun σ H Q h => ?_
  obtain ⟨F, O, P, ρ, R, g, en, q, po⟩ := h
  refine ⟨F, O, P, ρ, _, g, en, q, fun x O1 F1 H1 v q1 s1 g1 r1 => ?_⟩
  refine ⟨F1, O1, P, ρ, _, g1, en.mono s1, q1, fun l O2 F2 H2 q2 s2 g2 => ?_⟩
  refine ⟨F2, O2, P, ρ, _, g2, en.mono (s1.trans s2), q2, fun u O3 F3 H3 q3 s3 g3 => ?_⟩
  exact ⟨F3, O3, P, x, R, g3, r1.mono (s2.trans s3), q3, po.more (s1.trans (s2.trans s3))⟩
theorem de_slice {lo hi : Option Expr} {fl fh : FO} (he : DE M X e fa) (hl : DO M X lo fl) (hu : DO M X hi fh) : DE M X (.Subscript e (.Slice lo hi none p2) pos) (fSl rSlD fa fl fh) := de_sliceR sd_sl he hl hu
/-! ### -a -/
def rNeg : R1D := fun x O Q => match x with
  | .int i => Q (.int (-i)) O
  | _ => False
def fUn (r : R1D) (f : FE) : FE := fun ρ O Q => f ρ O fun x O1 => r x O1 Q
/-! ### calls of built-ins -/
abbrev RAD := List D → Ow → VD → Prop
abbrev CallD (M : MX) (X : Cx) (f : Value) (r : RAD) : Prop := CallR X f (liftRA M X.K r)
def fCB (r : RAD) (fr : FA) : FE := fun ρ O Q => fr ρ O fun ds O1 => r ds O1 Q
theorem fCB_lift {r : RAD} : ∀ σ H Q, liftE M X.K (fCB r fr) σ H Q → tCB (liftRA M X.K r) (liftA M X.K fr) σ H Q := by
  intro σ H Q h
  obtain ⟨F, O, P, ρ, R, g, en, q, po⟩ := h
  refine ⟨F, O, P, ρ, _, g, en, q, fun ds O1 F1 H1 vs q1 s1 g1 r1 => ?_⟩
  exact ⟨F1, O1, P, ds, R, g1, r1, q1, po.more s1⟩
theorem de_callB {id : String} {r : RAD} {x : Str} {p : Pos} (hc : CallD M X (.builtin id) r) (hg : Gl X x) (hm : X.mg x = none) (hv : bootBuiltins x = some (.builtin id)) (ha : DA M X (e :: es) fr) (hn : x ≠ "__name__" := by decide) (hdb : (x == ("__debug__" : Str)) = false := by decide)
    (he : starEach (e :: es) X.env = (false, eval e X.env) :: starEach es X.env := by rfl) (hpl : (backTo pos (starEach es X.env)).any (·.1) = false := by rfl) : DE M X (.Call (.Name x p) (e :: es) [] pos) (fCB r fr) :=
  peMono (pe_callB hc hg hm hv ha hn hdb he hpl) fCB_lift
theorem de_callTy {T : String} {r : RAD} {x : Str} {p : Pos} (hc : CallD M X (.type T) r) (hg : Gl X x) (hm : X.mg x = none) (hv : bootBuiltins x = some (.type T)) (ha : DA M X (e :: es) fr) (hn : x ≠ "__name__" := by decide) (hdb : (x == ("__debug__" : Str)) = false := by decide)
    (he : starEach (e :: es) X.env = (false, eval e X.env) :: starEach es X.env := by rfl) (hpl : (backTo pos (starEach es X.env)).any (·.1) = false := by rfl) : DE M X (.Call (.Name x p) (e :: es) [] pos) (fCB r fr) :=
  peMono (pe_callTy hc hg hm hv ha hn hdb he hpl) fCB_lift
theorem callD_of {f : Value} {r : RAD}
    (h : ∀ (F P H : Hp) (O : Ow) (xs : List V) (ds : List D) (R : VD) (Q : VK), Gd M X.K F O P H → RepAll X.K F ds xs → r ds O R → PostE M X.K F P R Q → ∃ r0, CallR X f r0 ∧ r0 xs H Q) : CallD M X f r := by
  intro pins s σ H xs us Q I rx q
  obtain ⟨F, O, P, ds, R, g, r1, q, po⟩ := q
  obtain ⟨r0, o, z⟩ := h F P H O xs ds R Q g r1 q po
  exact o pins s σ H xs us Q I rx z
/-- len -/
def rLenD : RAD := fun ds O Q => match ds with
  | [x] => match deref O x with
    | .lst ds => Q (.int ds.length) O
    | .tup ds => Q (.int ds.length) O
    | .str z => z.length ≤ sizeLine ∧ Q (.int z.length) O
    | .scr ns => Q (.int ns.length) O
    | _ => False
  | _ => False
theorem RepAll.one' {K : PySem.W.Frag} {F : Hp} {d : D} {vs : List V} (h : RepAll K F [d] vs) : ∃ v, vs = [v] ∧ Rep K F d v := by
  simp only [RepAll] at h
  obtain ⟨v, r, rfl, h1, rfl⟩ := h
  exact ⟨v, rfl, h1⟩
theorem RepAll.two' {K : PySem.W.Frag} {F : Hp} {d e : D} {vs : List V} (h : RepAll K F [d, e] vs) : ∃ v w, vs = [v, w] ∧ Rep K F d v ∧ Rep K F e w := by
  simp only [RepAll] at h
  obtain ⟨v, r, rfl, h1, w, r2, rfl, h2, rfl⟩ := h
  exact ⟨v, w, rfl, h1, h2⟩
theorem cd_len : CallD M X (.builtin "len") rLenD := by
  refine callD_of fun F P H O xs ds R Q g r1 q po => ?_
  match ds, q with
  | [x], q =>
    obtain ⟨v, rfl, r1'⟩ := r1.one'
    have h1 := g.deref r1'
    unfold rLenD at q
    dsimp only at q
    revert q h1
    generalize Kf.deref O x = ex
    intro q h1
    cases ex <;> first | exact q.elim | skip
    · simp only [RepH, Rep] at h1
      exact ⟨_, call_len_str, _, by rw [h1], q.1, po.at g q.2 (by simp only [Rep])⟩
    · simp only [RepH, Rep] at h1
      obtain ⟨c, xs, rfl, h1, h2⟩ := h1
      exact ⟨_, call_len_seq, c, xs, rfl, .inr (Same.seqT g.fz h1), po.at g q (by simp only [Rep]; rw [h2.length])⟩
    · obtain ⟨c, xs, rfl, h1, h2⟩ := h1
      exact ⟨_, call_len_seq, c, xs, rfl, .inl (SqL.of h1), po.at g q (by simp only [Rep]; rw [h2.length])⟩
    · simp only [RepH, Rep] at h1
      obtain ⟨c, rfl, h1⟩ := h1
      exact ⟨_, call_len_seq, c, _, rfl, .inl (g.fz.seq h1), po.at g q (by simp only [Rep]; rw [List.length_map])⟩
/-- max, min of two ints -/
def rMax2 : RAD := fun ds O Q => match ds with
  | [.int i, .int j] => Q (.int (if j > i then j else i)) O
  | _ => False
def rMin2 : RAD := fun ds O Q => match ds with
  | [.int i, .int j] => Q (.int (if j < i then j else i)) O
  | _ => False
theorem cd_max2 (hc : X.calm = true) : CallD M X (.builtin "max") rMax2 := by
  refine callD_of fun F P H O xs ds R Q g r1 q po => ?_
  unfold rMax2 at q
  split at q
  · obtain ⟨v, w, rfl, h1, h2⟩ := r1.two'
    simp only [Rep] at h1 h2
    exact ⟨_, call_max2 hc, _, _, by rw [h1, h2], po.at g q (by simp only [Rep])⟩
  · exact q.elim
theorem cd_min2 (hc : X.calm = true) : CallD M X (.builtin "min") rMin2 := by
  refine callD_of fun F P H O xs ds R Q g r1 q po => ?_
  unfold rMin2 at q
  split at q
  · obtain ⟨v, w, rfl, h1, h2⟩ := r1.two'
    simp only [Rep] at h1 h2
    exact ⟨_, call_min2 hc, _, _, by rw [h1, h2], po.at g q (by simp only [Rep])⟩
  · exact q.elim
/-- int(i), int(b); str(i) -/
def rInt1 : RAD := fun ds O Q => match ds with
  | [.int i] => Q (.int i) O
  | [.bl k] => Q (.int (if k then 1 else 0)) O
  | _ => False
theorem cd_int1 : CallD M X (.type "int") rInt1 := by
  refine callD_of fun F P H O xs ds R Q g r1 q po => ?_
  unfold rInt1 at q
  split at q
  · obtain ⟨v, rfl, h1⟩ := r1.one'
    simp only [Rep] at h1
    exact ⟨_, call_int1, .inl ⟨_, by rw [h1], po.at g q (by simp only [Rep])⟩⟩
  · obtain ⟨v, rfl, h1⟩ := r1.one'
    simp only [Rep] at h1
    exact ⟨_, call_int1, .inr ⟨_, by rw [h1], po.at g q (by simp only [Rep])⟩⟩
  · exact q.elim
def rStr1 : RAD := fun ds O Q => match ds with
  | [.int i] => i.natAbs.log2 < 1920 ∧ Q (.str (toString i)) O
  | _ => False
theorem cd_str1 : CallD M X (.type "str") rStr1 := by
  refine callD_of fun F P H O xs ds R Q g r1 q po => ?_
  unfold rStr1 at q
  split at q
  · obtain ⟨v, rfl, h1⟩ := r1.one'
    simp only [Rep] at h1
    exact ⟨_, call_str_int, _, by rw [h1], q.1, po.at g q.2 (by simp only [Rep])⟩
  · exact q.elim
/-- list(x): a new list; tuple(x) -/
def rList1 : RAD := fun ds O Q => match ds with
  | [x] => match deref O x with
    | .lst ds => Q (.lst ds) O
    | .tup ds => Q (.lst ds) O
    | _ => False
  | _ => False
def rList1O : RAD := fun ds O Q => match ds with
  | [x] => match deref O x with
    | .lst ds => ∀ p, O p = none → Q (.ref p) (updO O p (.lst ds))
    | .tup ds => ∀ p, O p = none → Q (.ref p) (updO O p (.lst ds))
    | _ => False
  | _ => False
def rTup1 : RAD := fun ds O Q => match ds with
  | [x] => match deref O x with
    | .lst ds => Q (.tup ds) O
    | .tup ds => Q (.tup ds) O
    | _ => False
  | _ => False
theorem cd_list1 : CallD M X (.type "list") rList1 := by
  refine callD_of fun F P H O xs ds R Q g r1 q po => ?_
  match ds, q with
  | [x], q =>
    obtain ⟨v, rfl, r1'⟩ := r1.one'
    have h1 := g.deref r1'
    unfold rList1 at q
    dsimp only at q
    revert q h1
    generalize Kf.deref O x = ex
    intro q h1
    cases ex <;> first | exact q.elim | skip
    · simp only [RepH, Rep] at h1
      obtain ⟨c, xs, rfl, h1, h2⟩ := h1
      exact ⟨_, call_list_of, c, xs, rfl, .inr (Same.seqT g.fz h1), fun p hp => po.lst g q h2 hp⟩
    · obtain ⟨c, xs, rfl, h1, h2⟩ := h1
      exact ⟨_, call_list_of, c, xs, rfl, .inl (SqL.of h1), fun p hp => po.lst g q h2 hp⟩
/-- sum of a list of ints -/
def asInts : List D → Option (List Int)
  | [] => some []
  | .int i :: ds => (asInts ds).map (i :: ·)
  | _ :: _ => none
theorem asInts_map (ns : List Int) : asInts (ns.map D.int) = some ns := by
  induction ns with
  | nil => rfl
  | cons n ns ih => rw [List.map_cons, asInts, ih]; rfl
theorem of_asInts : ∀ {ds : List D} {ns : List Int}, asInts ds = some ns → ds = ns.map D.int
  | [], ns, h => by cases h; rfl
  | d :: ds, ns, h => by
    cases d <;> simp only [asInts] at h <;> first | cases h | skip
    obtain ⟨m, h1, rfl⟩ := Option.map_eq_some_iff.mp h
    rw [of_asInts h1]; rfl
/-- divmod: a new tuple -/
def rDivmod : RAD := fun ds O Q => match ds with
  | [.int i, .int j] => CDv i j ∧ Q (.tup [.int (i / j), .int (i % j)]) O
  | _ => False
/-! ### isinstance -/
def tyNm (O : Ow) : D → String
  | .non => "NoneType"
  | .bl _ => "bool"
  | .int _ => "int"
  | .str _ => "str"
  | .tup _ => "tuple"
  | .lst _ => "list"
  | .edic => "dict"
  | .ref a => match O a with
    | some (.lst _) => "list"
    | some .pool => "list"
    | some (.dic _) => "dict"
    | _ => ""
  | _ => ""
def insOf (t n : String) : Bool := t == n || (t == "bool" && n == "int")
def insTy : List String := ["NoneType", "bool", "int", "str", "tuple", "list", "dict"]
def insCl : List String := ["bool", "int", "str", "tuple", "list", "dict"]
theorem ins_kit : (insTy.all fun t => insCl.all fun n => decide (kitB t n = some (insOf t n))) = true := by decide +kernel
theorem ins_kit' {t n : String} (ht : t ∈ insTy) (hn : n ∈ insCl) : kitB t n = some (insOf t n) := by
  have h := List.all_eq_true.mp (List.all_eq_true.mp ins_kit t ht) n hn
  exact of_decide_eq_true h
def rIsiD : RAD := fun ds O Q => match ds with
  | [x, .ty n] => insCl.contains n = true ∧ insTy.contains (tyNm O x) = true ∧ Q (.bl (insOf (tyNm O x) n)) O
  | _ => False
theorem tyX_of {K : PySem.W.Frag} {F P H : Hp} {O : Ow} {d : D} {v : V} (g : Gd M K F O P H) (r : Rep K F d v) (h : insTy.contains (tyNm O d) = true) : TyX K H v (.type (tyNm O d)) := by
  cases d with
  | non => simp only [Rep] at r; subst r; exact .base .non
  | bl b => simp only [Rep] at r; subst r; exact .base (.bl b)
  | int i => simp only [Rep] at r; subst r; exact .base (.int i)
  | str x => simp only [Rep] at r; subst r; exact .base (.str x)
  | tup ds =>
    simp only [Rep] at r
    obtain ⟨a, xs, rfl, h1, _⟩ := r
    rcases h1 with (h1 | ⟨o, h1⟩) | ⟨o, its, n, h1, h2, _⟩
    · exact .base (.tup (g.fz _ _ h1))
    · exact .fTuple (g.fz _ _ h1)
    · exact .kTuple h1 h2
  | lst ds =>
    simp only [Rep] at r
    obtain ⟨a, xs, rfl, h1, _⟩ := r
    exact .base (.lst (g.fz _ _ h1))
  | tupK ks =>
    have z : tyNm O (.tupK ks) = "" := rfl
    rw [z] at h; exact absurd h (by decide)
  | edic =>
    simp only [Rep] at r
    obtain ⟨a, rfl, h1⟩ := r
    exact .base (.dK (g.fz _ _ h1))
  | ref a =>
    simp only [Rep] at r
    subst r
    cases e : O a with
    | none =>
      have z : tyNm O (.ref a) = "" := by simp only [tyNm, e]
      rw [z] at h; exact absurd h (by decide)
    | some c =>
      have q := (g.ow a c e).2.2
      cases c with
      | lst ds =>
        have z : tyNm O (.ref a) = "list" := by simp only [tyNm, e]
        rw [z]; obtain ⟨vs, q, _⟩ := q; exact .base (.lst q)
      | pool =>
        have z : tyNm O (.ref a) = "list" := by simp only [tyNm, e]
        rw [z]; obtain ⟨x, y, q, _⟩ := q; exact .base (.lst q)
      | dic kvs =>
        have z : tyNm O (.ref a) = "dict" := by simp only [tyNm, e]
        rw [z]; obtain ⟨vs, q, _⟩ := q; exact .base (.dK q)
      | dicL kvs o =>
        have z : tyNm O (.ref a) = "" := by simp only [tyNm, e]
        rw [z] at h; exact absurd h (by decide)
      | exc _ _ =>
        have z : tyNm O (.ref a) = "" := by simp only [tyNm, e]
        rw [z] at h; exact absurd h (by decide)
      | ins _ _ =>
        have z : tyNm O (.ref a) = "" := by simp only [tyNm, e]
        rw [z] at h; exact absurd h (by decide)
      | dicT _ =>
        have z : tyNm O (.ref a) = "" := by simp only [tyNm, e]
        rw [z] at h; exact absurd h (by decide)
  | ty n => simp [tyNm, insTy] at h
  | scr ns => simp [tyNm, insTy] at h
theorem cd_isi : CallD M X (.builtin "isinstance") rIsiD := by
  refine callD_of fun F P H O xs ds R Q g r1 q po => ?_
  unfold rIsiD at q
  split at q
  · obtain ⟨v, w, rfl, h1, h2⟩ := r1.two'
    simp only [Rep] at h2
    subst h2
    obtain ⟨q1, q2, q3⟩ := q
    exact ⟨_, call_isi, _, _, _, _, _, rfl, .ty _, tyX_of g h1 q2, kit_ty (ins_kit' (by simpa using q2) (by simpa using q1)), po.at g q3 (by simp only [Rep])⟩
  · exact q.elim
/-! ### methods of built-in types -/
abbrev RMD := D → List D → Ow → VD → Prop
def liftRM (M : MX) (K : PySem.W.Frag) (r : RMD) : V → List V → Hp → VK → Prop := fun x xs H Q => ∃ F O P dx ds R, Gd M K F O P H ∧ Rep K F dx x ∧ RepAll K F ds xs ∧ r dx ds O R ∧ PostE M K F P R Q
abbrev MtD (M : MX) (X : Cx) (id : String) (r : RMD) : Prop := MtR X id (liftRM M X.K r)
def tyOk (T : String) (O : Ow) (d : D) : Bool := T == "list" && tyNm O d == "list" || T == "str" && tyNm O d == "str"
theorem tyV_of {K : PySem.W.Frag} {F P H : Hp} {O : Ow} {d : D} {v : V} {T : String} (g : Gd M K F O P H) (r : Rep K F d v) (h : tyOk T O d = true) : tyV K T v H := by
  unfold tyOk at h
  rw [Bool.or_eq_true, Bool.and_eq_true, Bool.and_eq_true] at h
  rcases h with ⟨h1, h2⟩ | ⟨h1, h2⟩
  · have e1 : T = "list" := by simpa using h1
    have e2 : tyNm O d = "list" := by simpa using h2
    subst e1
    cases d <;> first | (simp [tyNm] at e2; done) | skip
    · simp only [Rep] at r
      obtain ⟨a, xs, rfl, q, _⟩ := r
      exact Or.inl ⟨rfl, xs, SqL.of (g.fz _ _ q)⟩
    · rename_i a
      simp only [Rep] at r
      subst r
      cases e : O a with
      | none => simp [tyNm, e] at e2
      | some c =>
        have q := (g.ow a c e).2.2
        cases c with
        | lst ds => obtain ⟨vs, q, _⟩ := q; exact Or.inl ⟨rfl, vs, SqL.of q⟩
        | pool => obtain ⟨x, y, q, _⟩ := q; exact Or.inl ⟨rfl, _, SqL.of q⟩
        | dic _ => simp [tyNm, e] at e2
        | dicL _ _ => simp [tyNm, e] at e2
        | exc _ _ => simp [tyNm, e] at e2
        | ins _ _ => simp [tyNm, e] at e2
        | dicT _ => simp [tyNm, e] at e2
  · have e1 : T = "str" := by simpa using h1
    have e2 : tyNm O d = "str" := by simpa using h2
    subst e1
    cases d <;> first | (simp [tyNm] at e2; done) | skip
    · simp only [Rep] at r; subst r; rfl
    · rename_i a
      cases e : O a with
      | none => simp [tyNm, e] at e2
      | some c => cases c <;> simp [tyNm, e] at e2
def fBM (T : String) (r : RMD) (fo : FE) (fr : FA) : FE := fun ρ O Q => fo ρ O fun x O1 => tyOk T O1 x = true ∧ fr ρ O1 fun ds O2 => r x ds O2 Q
def fBM0 (T : String) (r : RMD) (fo : FE) : FE := fun ρ O Q => fo ρ O fun x O1 => tyOk T O1 x = true ∧ r x [] O1 Q
variable {o : Expr} {fo : FE} {name : Str} {apos cpos : Pos} {T id : String} {r : RMD}
theorem de_bm (pa : PlainAttrs T) (slot : Slot T name id) (hty : typeOf (.builtin id) = pure (.type "method_descriptor")) (hm : MtD M X id r) (ho : DE M X o fo) (ha : DA M X (e :: es) fr)
    (hbase : attributeBase o name X.env (eval o X.env) = eval o X.env := by rfl)
    (hfew : ((backTo cpos (starEach (e :: es) X.env)).all (fun x => !x.1) && (backToKw cpos (keywordEach [] X.env)).all (fun x => x.1.isSome)
      && decide ((e :: es).length + ([] : List Keyword).length + (if ([] : List Keyword).isEmpty then 0 else 1) < 30)) = true := by rfl)
    (hline : (apos.endLine == cpos.line) = true := by rfl) (hs : starEach (e :: es) X.env = (false, eval e X.env) :: starEach es X.env := by rfl) (hplain : (backTo cpos (starEach es X.env)).any (·.1) = false := by rfl) :
    DE M X (.Call (.Attribute o name apos) (e :: es) [] cpos) (fBM T r fo fr) := by
  refine peMono (pe_bm pa slot hty hm ho ha hbase hfew hline hs hplain) fun σ H Q h => ?_
  obtain ⟨F, O, P, ρ, R, g, en, q, po⟩ := h
  refine ⟨F, O, P, ρ, _, g, en, q, fun x O1 F1 H1 v q1 s1 g1 r1 => ⟨tyV_of g1 r1 q1.1, ?_⟩⟩
  refine ⟨F1, O1, P, ρ, _, g1, en.mono s1, q1.2, fun ds O2 F2 H2 vs q2 s2 g2 r2 => ?_⟩
  exact ⟨F2, O2, P, x, ds, R, g2, r1.mono s2, r2, q2, po.more (s1.trans s2)⟩
theorem de_bm0 (pa : PlainAttrs T) (slot : Slot T name id) (hty : typeOf (.builtin id) = pure (.type "method_descriptor")) (hm : MtD M X id r) (ho : DE M X o fo)
    (hbase : attributeBase o name X.env (eval o X.env) = eval o X.env := by rfl) (hline : (apos.endLine == cpos.line) = true := by rfl) : DE M X (.Call (.Attribute o name apos) [] [] cpos) (fBM0 T r fo) := by
  refine peMono (pe_bm0 pa slot hty hm ho hbase hline) fun σ H Q h => ?_
  obtain ⟨F, O, P, ρ, R, g, en, q, po⟩ := h
  refine ⟨F, O, P, ρ, _, g, en, q, fun x O1 F1 H1 v q1 s1 g1 r1 => ⟨tyV_of g1 r1 q1.1, ?_⟩⟩
  exact ⟨F1, O1, P, x, [], R, g1, r1, .nil, q1.2, po.more s1⟩
theorem mtD_of {id : String} {r : RMD}
    (h : ∀ (F P H : Hp) (O : Ow) (x : V) (xs : List V) (dx : D) (ds : List D) (R : VD) (Q : VK), Gd M X.K F O P H → Rep X.K F dx x → RepAll X.K F ds xs → r dx ds O R → PostE M X.K F P R Q → ∃ r0, MtR X id r0 ∧ r0 x xs H Q) : MtD M X id r := by
  intro pins s σ H x xs v us Q I rx rxs q
  obtain ⟨F, O, P, dx, ds, R, g, r1, r2, q, po⟩ := q
  obtain ⟨r0, o, z⟩ := h F P H O x xs dx ds R Q g r1 r2 q po
  exact o pins s σ H x xs v us Q I rx rxs z
/-- xs.append(y), an owned list -/
def rAppendD : RMD := fun x ds O Q => match x, ds with
  | .ref a, [y] => match O a with
    | some (.lst xs) => xs.length < sizeLine ∧ Q .non (updO O a (.lst (xs ++ [y])))
    | _ => False
  | _, _ => False
theorem md_append : MtD M X "list.append" rAppendD := by
  refine mtD_of fun F P H O x xs dx ds R Q g r1 r2 q po => ?_
  unfold rAppendD at q
  split at q
  · rename_i a y
    obtain ⟨v, rfl, r2'⟩ := r2.one'
    simp only [Rep] at r1
    subst r1
    cases e : O a with
    | none => rw [e] at q; exact q.elim
    | some c =>
      rw [e] at q
      cases c with
      | pool => exact q.elim
      | dic _ => exact q.elim
      | dicL _ _ => exact q.elim
      | exc _ _ => exact q.elim
      | ins _ _ => exact q.elim
      | dicT _ => exact q.elim
      | lst zs =>
        obtain ⟨_, _, vs, h1, h2⟩ := g.ow a _ e
        refine ⟨_, mt_append, a, vs, v, rfl, rfl, h1, by rw [← h2.length]; exact q.1, ?_⟩
        exact po .non _ F _ _ q.2 (Same.refl _) (g.setO e ⟨_, upd_same, h2.append (.one r2')⟩) (by simp only [Rep])
  · exact q.elim
/-- xs.extend(ys) -/
def rExtendD : RMD := fun x ds O Q => match x, ds with
  | .ref a, [y] => match O a, deref O y with
    | some (.lst xs), .lst ys => xs.length + ys.length ≤ sizeLine ∧ Q .non (updO O a (.lst (xs ++ ys)))
    | _, _ => False
  | _, _ => False
theorem md_extend : MtD M X "list.extend" rExtendD := by
  refine mtD_of fun F P H O x xs dx ds R Q g r1 r2 q po => ?_
  unfold rExtendD at q
  split at q
  · rename_i a y
    obtain ⟨v, rfl, r2'⟩ := r2.one'
    simp only [Rep] at r1
    subst r1
    have h2 := g.deref r2'
    revert q h2
    generalize Kf.deref O y = ey
    intro q h2
    cases e : O a with
    | none => rw [e] at q; exact q.elim
    | some c =>
      rw [e] at q
      cases c with
      | pool => exact q.elim
      | dic _ => exact q.elim
      | dicL _ _ => exact q.elim
      | exc _ _ => exact q.elim
      | ins _ _ => exact q.elim
      | dicT _ => exact q.elim
      | lst zs =>
        cases ey <;> first | exact q.elim | skip
        obtain ⟨b, ws, rfl, h3, h4⟩ := h2
        obtain ⟨_, _, vs, h5, h6⟩ := g.ow a _ e
        refine ⟨_, mt_extend, a, b, vs, ws, rfl, rfl, h5, h3, by rw [← h6.length, ← h4.length]; exact q.1, ?_⟩
        exact po .non _ F _ _ q.2 (Same.refl _) (g.setO e ⟨_, upd_same, h6.append h4⟩) (by simp only [Rep])
  · exact q.elim
/-- sep.join(xs) -/
def asStrs : List D → Option (List Str)
  | [] => some []
  | .str i :: ds => (asStrs ds).map (i :: ·)
  | _ :: _ => none
theorem asStrs_map (ns : List Str) : asStrs (ns.map D.str) = some ns := by
  induction ns with
  | nil => rfl
  | cons n ns ih => rw [List.map_cons, asStrs, ih]; rfl
theorem of_asStrs : ∀ {ds : List D} {ns : List Str}, asStrs ds = some ns → ds = ns.map D.str
  | [], ns, h => by cases h; rfl
  | d :: ds, ns, h => by
    cases d <;> simp only [asStrs] at h <;> first | cases h | skip
    obtain ⟨m, h1, rfl⟩ := Option.map_eq_some_iff.mp h
    rw [of_asStrs h1]; rfl
end
end Kf
namespace Kf
open PySem PySem.Spec L2
open PyProof.Rows hiding St
variable {M : MX}

/-! ### statements -/
structure DEnds where
  nx : DEnv → Ow → Prop
  rt : VD
  bk : DEnv → Ow → Prop := fun _ _ => False
  ct : DEnv → Ow → Prop := fun _ _ => False
abbrev GS := DEnds → DEnv → Ow → Prop
def PostN (M : MX) (K : PySem.W.Frag) (F P : Hp) (R : DEnv → Ow → Prop) (Q : L2.St → Hp → Prop) : Prop := ∀ ρ O' F' H' σ, R ρ O' → Same F F' → Gd M K F' O' P H' → EnvOk K F' ρ σ → Q σ H'
structure PostS (M : MX) (K : PySem.W.Frag) (F P : Hp) (R : DEnds) (D : Ends) : Prop where
  nx : PostN M K F P R.nx D.nx
  rt : PostE M K F P R.rt D.rt
  bk : PostN M K F P R.bk D.bk
  ct : PostN M K F P R.ct D.ct
theorem PostN.more {K : PySem.W.Frag} {F F' P : Hp} {R : DEnv → Ow → Prop} {Q : L2.St → Hp → Prop} (po : PostN M K F P R Q) (s : Same F F') : PostN M K F' P R Q := fun ρ O' F2 H' σ q s2 g en => po ρ O' F2 H' σ q (s.trans s2) g en
theorem PostS.more {K : PySem.W.Frag} {F F' P : Hp} {R : DEnds} {D : Ends} (po : PostS M K F P R D) (s : Same F F') : PostS M K F' P R D := ⟨po.nx.more s, po.rt.more s, po.bk.more s, po.ct.more s⟩
def liftS (M : MX) (K : PySem.W.Frag) (g : GS) : TS := fun D σ H => ∃ F O P ρ R, Gd M K F O P H ∧ EnvOk K F ρ σ ∧ g R ρ O ∧ PostS M K F P R D
abbrev DS (M : MX) (X : Cx) (st : Stmt) (g : GS) : Prop := PS X st (liftS M X.K g)
abbrev DSs (M : MX) (X : Cx) (st : List Stmt) (g : GS) : Prop := PSs X st (liftS M X.K g)

section
variable {X : Cx} {st : Stmt} {rest : List Stmt} {g u : GS} {e c : Expr} {fe : FE} {ft : FT} {pos : Pos}
def gNext : GS := fun R ρ O => R.nx ρ O
def gSeq (g u : GS) : GS := fun R ρ O => g { R with nx := u R } ρ O
theorem dss_nil : DSs M X [] gNext := pssMono pss_nil fun D σ H h => by
  obtain ⟨F, O, P, ρ, R, g, en, q, po⟩ := h
  exact po.nx ρ O F H σ q (Same.refl _) g en
theorem dss_cons (h1 : DS M X st g) (h2 : DSs M X rest u) : DSs M X (st :: rest) (gSeq g u) := pssMono (pss_cons h1 h2) fun D σ H h => by
  obtain ⟨F, O, P, ρ, R, g, en, q, po⟩ := h
  exact ⟨F, O, P, ρ, { R with nx := u R }, g, en, q, fun ρ' O' F' H' σ' q' s g' en' => ⟨F', O', P, ρ', R, g', en', q', po.more s⟩, po.rt, po.bk, po.ct⟩
theorem dss_one (h1 : DS M X st g) : DSs M X [st] g := pss_one h1
/-- what is never come to -/
def gNever : GS := fun _ _ _ => False
def gBreak : GS := fun R ρ O => R.bk ρ O
def gDrop (fe : FE) : GS := fun R ρ O => fe ρ O fun _ O1 => R.nx ρ O1
theorem ds_expr (he : DE M X e fe) (hs : swapsWith e none pos.line X.env = pure false := by rfl) : DS M X (.Expr e pos) (gDrop fe) := psMono (ps_expr he hs) fun D σ H h => by
  obtain ⟨F, O, P, ρ, R, g, en, q, po⟩ := h
  exact ⟨F, O, P, ρ, _, g, en, q, fun d O1 F1 H1 v q1 s1 g1 _ => po.nx ρ O1 F1 H1 σ q1 s1 g1 (en.mono s1)⟩
def gRet (fe : FE) : GS := fun R ρ O => fe ρ O R.rt
theorem ds_ret (he : DE M X e fe) : DS M X (.Return (some e) pos) (gRet fe) := psMono (ps_ret he) fun D σ H h => by
  obtain ⟨F, O, P, ρ, R, g, en, q, po⟩ := h
  exact ⟨F, O, P, ρ, R.rt, g, en, q, po.rt⟩
/-- an owned list is handed back: from now on it never changes -/
def gRetF (fe : FE) : GS := fun R ρ O => fe ρ O fun d O1 => match d with
  | .ref a => match O1 a with
    | some (.lst ds) => R.rt (.lst ds) (delO O1 a)
    | _ => False
  | _ => False
theorem ds_retF (he : DE M X e fe) : DS M X (.Return (some e) pos) (gRetF fe) := psMono (ps_ret he) fun D σ H h => by
  obtain ⟨F, O, P, ρ, R, g, en, q, po⟩ := h
  refine ⟨F, O, P, ρ, _, g, en, q, fun d O1 F1 H1 v q1 s1 g1 r1 => ?_⟩
  split at q1 <;> first | exact q1.elim | skip
  rename_i a
  split at q1 <;> first | exact q1.elim | skip
  rename_i ds e1
  simp only [Rep] at r1
  subst r1
  obtain ⟨F2, s2, g2, r2⟩ := g1.freeze e1
  exact po.rt (.lst ds) (delO O1 a) F2 H1 (.ref a) q1 (s1.trans s2) g2 r2
def gRetN : GS := fun R _ O => R.rt .non O
def gIf (c : FT) (g u : GS) : GS := fun R ρ O => c ρ O fun b O1 => if b = true then g R ρ O1 else u R ρ O1
theorem ds_if {a b : List Stmt} (hc : DT M X c ft) (ha : DSs M X a g) (hb : DSs M X b u) : DS M X (.If c a b pos) (gIf ft g u) := psMono (ps_if hc ha hb) fun D σ H h => by
  obtain ⟨F, O, P, ρ, R, g, en, q, po⟩ := h
  refine ⟨F, O, P, ρ, _, g, en, q, fun k O1 F1 H1 q1 s1 g1 => ?_⟩
  cases k with
  | true => rw [if_pos rfl] at q1 ⊢; exact ⟨F1, O1, P, ρ, R, g1, en.mono s1, q1, po.more s1⟩
  | false => rw [if_neg Bool.false_ne_true] at q1 ⊢; exact ⟨F1, O1, P, ρ, R, g1, en.mono s1, q1, po.more s1⟩
/-- an owned list in slot i never changes from now on -/
def gFrz (i : Nat) (g : GS) : GS := fun R ρ O => match ρ[i]? with
  | some (some (.ref a)) => match O a with
    | some (.lst ds) => g R (ρ.set i (some (.lst ds))) (delO O a)
    | _ => False
  | _ => False
theorem EnvOk.frz {K : PySem.W.Frag} {F F' : Hp} {ρ : DEnv} {σ : L2.St} {i : Nat} {a : Addr} {d : D} (h : EnvOk K F ρ σ) (s : Same F F') (e : ρ[i]? = some (some (.ref a))) (r : Rep K F' d (.ref a)) : EnvOk K F' (ρ.set i (some d)) σ := by
  obtain ⟨v, e1, r1⟩ := h.2 i _ e
  simp only [Rep] at r1
  subst r1
  refine ⟨by rw [List.length_set]; exact h.1, fun j d' q => ?_⟩
  by_cases c : i = j
  · subst c
    by_cases hl : i < ρ.length
    · rw [List.getElem?_set_self hl] at q
      cases q
      exact ⟨.ref a, e1, r⟩
    · rw [List.getElem?_eq_none (by rw [List.length_set]; omega)] at q; cases q
  · rw [List.getElem?_set_ne c] at q
    exact (h.mono s).2 j d' q
theorem liftS_frz {i : Nat} : ∀ D σ H, liftS M X.K (gFrz i g) D σ H → liftS M X.K g D σ H := fun D σ H h => by
  obtain ⟨F, O, P, ρ, R, gd, en, q, po⟩ := h
  unfold gFrz at q
  split at q
  · rename_i a e1
    split at q
    · rename_i ds e2
      obtain ⟨F2, s2, g2, r2⟩ := gd.freeze e2
      exact ⟨F2, delO O a, P, _, R, g2, en.frz s2 e1 r2, q, po.more s2⟩
    · exact q.elim
  · exact q.elim
theorem dss_frz (i : Nat) (h : DSs M X rest g) : DSs M X rest (gFrz i g) := pssMono h liftS_frz

/-! ### targets -/
inductive Pat where
  | nm (i : Nat)
  | tp (ps : List Pat)
mutual
def patT (K : PySem.W.Frag) : Pat → TG
  | .nm i => gName i
  | .tp ps => gTup K ps.length (patTs K ps)
def patTs (K : PySem.W.Frag) : List Pat → TGs
  | [] => gNil
  | p :: ps => gCons (patT K p) (patTs K ps)
end
mutual
def patD : Pat → D → DEnv → Option DEnv
  | .nm i, d, ρ => some (ρ.set i (some d))
  | .tp ps, .tup ds, ρ => patDs ps ds ρ
  | .tp _, _, _ => none
def patDs : List Pat → List D → DEnv → Option DEnv
  | [], [], ρ => some ρ
  | p :: ps, d :: ds, ρ => (patD p d ρ).bind (patDs ps ds)
  | _, _, _ => none
end
mutual
def patI : Pat → List Nat
  | .nm i => [i]
  | .tp ps => patIs ps
def patIs : List Pat → List Nat
  | [] => []
  | p :: ps => patI p ++ patIs ps
end
/-- the two states are alike but at some slots -/
def Off (vs : List Nat) (σ σ' : L2.St) : Prop := σ.length = σ'.length ∧ ∀ i, i ∉ vs → σ'[i]? = σ[i]?
theorem patDs_length : ∀ {ps : List Pat} {ds : List D} {ρ ρ' : DEnv}, patDs ps ds ρ = some ρ' → ps.length = ds.length
  | [], [], _, _, _ => rfl
  | [], _ :: _, _, _, h => by simp only [patDs] at h; cases h
  | _ :: _, [], _, _, h => by simp only [patDs] at h; cases h
  | p :: ps, d :: ds, ρ, ρ', h => by
    simp only [patDs] at h
    obtain ⟨ρ1, h1, h2⟩ := Option.bind_eq_some_iff.mp h
    rw [List.length_cons, List.length_cons, patDs_length h2]
mutual
theorem pat_ok {K : PySem.W.Frag} {F P H : Hp} {O : Ow} (gd : Gd M K F O P H) : ∀ (p : Pat) (d : D) (v : V) (ρ ρ' : DEnv) (σ : L2.St) (Q : L2.St → Hp → Prop), patD p d ρ = some ρ' → Rep K F d v → EnvOk K F ρ σ →
    (∀ σ', EnvOk K F ρ' σ' → Off (patI p) σ σ' → Q σ' H) → patT K p v σ H Q
  | .nm i, d, v, ρ, ρ', σ, Q, h, r, en, q => by
    simp only [patD] at h
    cases h
    simp only [patT]
    refine q _ (en.set r i) ⟨by rw [List.length_set], fun j hj => ?_⟩
    simp only [patI, List.mem_singleton] at hj
    rw [List.getElem?_set_ne (fun e => hj e.symm)]
  | .tp ps, d, v, ρ, ρ', σ, Q, h, r, en, q => by
    cases d <;> simp only [patD] at h <;> first | cases h | skip
    simp only [Rep] at r
    obtain ⟨a, xs, rfl, r1, r2⟩ := r
    simp only [patT]
    refine ⟨a, xs, rfl, Same.seqT gd.fz r1, ?_, ?_⟩
    · rw [← r2.length, patDs_length h]
    · exact pats_ok gd ps _ xs ρ ρ' σ Q h r2 en fun σ' en' off => q σ' en' (by simpa only [patI] using off)
theorem pats_ok {K : PySem.W.Frag} {F P H : Hp} {O : Ow} (gd : Gd M K F O P H) : ∀ (ps : List Pat) (ds : List D) (vs : List V) (ρ ρ' : DEnv) (σ : L2.St) (Q : L2.St → Hp → Prop), patDs ps ds ρ = some ρ' → RepAll K F ds vs → EnvOk K F ρ σ →
    (∀ σ', EnvOk K F ρ' σ' → Off (patIs ps) σ σ' → Q σ' H) → patTs K ps vs σ H Q
  | [], [], vs, ρ, ρ', σ, Q, h, r, en, q => by
    simp only [patDs] at h
    cases h
    simp only [RepAll] at r
    subst r
    simp only [patTs]
    exact ⟨rfl, q σ en ⟨rfl, fun _ _ => rfl⟩⟩
  | [], _ :: _, _, _, _, _, _, h, _, _, _ => by simp only [patDs] at h; cases h
  | _ :: _, [], _, _, _, _, _, h, _, _, _ => by simp only [patDs] at h; cases h
  | p :: ps, d :: ds, vs, ρ, ρ', σ, Q, h, r, en, q => by
    simp only [patDs] at h
    obtain ⟨ρ1, h1, h2⟩ := Option.bind_eq_some_iff.mp h
    simp only [RepAll] at r
    obtain ⟨v, ws, rfl, r1, r2⟩ := r
    simp only [patTs]
    refine ⟨v, ws, rfl, ?_⟩
    refine pat_ok gd p d v ρ ρ1 σ _ h1 r1 en fun σ1 en1 off1 => ?_
    refine pats_ok gd ps ds ws ρ1 ρ' σ1 Q h2 r2 en1 fun σ2 en2 off2 => q σ2 en2 ⟨off1.1.trans off2.1, fun i hi => ?_⟩
    simp only [patIs, List.mem_append, not_or] at hi
    rw [off2.2 i hi.2, off1.2 i hi.1]
end
abbrev DP (X : Cx) (tg : Expr) (p : Pat) : Prop := PG X tg (patT X.K p)
abbrev DPs (X : Cx) (tgs : List Expr) (ps : List Pat) : Prop := PGs X tgs (patTs X.K ps)
theorem dp_name {i : Nat} {x : Str} (hN : X.N.Nodup) (hi : X.N[i]? = some x) (hx : Loc X.env.scope x) (hf : X.fn x = true ∨ X.env.scope.names.lookup x = some .local := by first | exact .inl rfl | exact .inr rfl | assumption) : DP X (.Name x pos) (.nm i) := by
  show PG X _ (patT X.K (.nm i))
  rw [show patT X.K (.nm i) = gName i by simp only [patT]]
  exact pg_name hN hi hx hf
theorem dps_nil : DPs X [] [] := by
  show PGs X _ (patTs X.K [])
  rw [show patTs X.K [] = gNil by simp only [patTs]]
  exact pgs_nil
theorem dps_cons {e : Expr} {es : List Expr} {p : Pat} {ps : List Pat} (h1 : DP X e p) (h2 : DPs X es ps)
    (hs : (assignEach (e :: es) X.env).map (·.2) = assign e X.env :: (assignEach es X.env).map (·.2) := by rfl) : DPs X (e :: es) (p :: ps) := by
  show PGs X _ (patTs X.K (p :: ps))
  rw [show patTs X.K (p :: ps) = gCons (patT X.K p) (patTs X.K ps) by simp only [patTs]]
  exact pgs_cons h1 h2 hs
theorem dp_tup {es : List Expr} {k : Nat} {ps : List Pat} (hc : X.calm = true) (h : DPs X es ps)
    (hn : (assignEach es X.env).length = ps.length := by rfl) (hst : (assignEach es X.env).findIdx? (·.1) = none := by rfl) : DP X (.Tuple es k pos) (.tp ps) := by
  show PG X _ (patT X.K (.tp ps))
  rw [show patT X.K (.tp ps) = gTup X.K ps.length (patTs X.K ps) by simp only [patT]]
  exact pg_tup hc h hn hst
def patGet (o : Option DEnv) (N : DEnv → Prop) : Prop := match o with
  | some ρ => N ρ
  | none => False
theorem patGet_s {ρ : DEnv} {N : DEnv → Prop} : patGet (some ρ) N = N ρ := rfl
/-- target = value -/
def gAsg (fe : FE) (p : Pat) : GS := fun R ρ O => fe ρ O fun d O1 => patGet (patD p d ρ) fun ρ' => R.nx ρ' O1
theorem ds_asg {tg e : Expr} {p : Pat} (he : DE M X e fe) (hg : DP X tg p) (hs : swapsWithSole [tg] e pos.line X.env = pure false := by rfl) (hw : swappedStores [tg] e X.env = pure none := by rfl) (h1 : (assignEach [tg] X.env).map (·.2) = [assign tg X.env] := by rfl) : DS M X (.Assign [tg] e pos) (gAsg fe p) :=
  psMono (ps_asg he hg hs hw h1) fun D σ H h => by
    obtain ⟨F, O, P, ρ, R, g, en, q, po⟩ := h
    refine ⟨F, O, P, ρ, _, g, en, q, fun d O1 F1 H1 v q1 s1 g1 r1 => ?_⟩
    cases e1 : patD p d ρ with
    | none => rw [e1] at q1; exact q1.elim
    | some ρ' =>
      rw [e1] at q1
      exact pat_ok g1 p d v ρ ρ' σ _ e1 r1 (en.mono s1) fun σ' en' _ => po.nx ρ' O1 F1 H1 σ' q1 s1 g1 en'
/-- name = value -/
def gSet (fe : FE) (i : Nat) : GS := fun R ρ O => fe ρ O fun d O1 => R.nx (ρ.set i (some d)) O1
theorem gSet_lift {te : TE} {i : Nat} (hl : ∀ σ H Q, liftE M X.K fe σ H Q → te σ H Q) : ∀ D σ H, liftS M X.K (gSet fe i) D σ H → tAsg te (gName i) D σ H := fun D σ H h => by
  obtain ⟨F, O, P, ρ, R, g, en, q, po⟩ := h
  exact hl _ _ _ ⟨F, O, P, ρ, _, g, en, q, fun d O1 F1 H1 v q1 s1 g1 r1 => po.nx _ O1 F1 H1 _ q1 s1 g1 ((en.mono s1).set r1 i)⟩
theorem ds_set {i : Nat} {x : Str} {e : Expr} {pos' : Pos} (hN : X.N.Nodup) (hi : X.N[i]? = some x) (hx : Loc X.env.scope x) (he : DE M X e fe) (hs : swapsWith e (some (.Name x pos')) pos.line X.env = pure false := by rfl) (hf : X.fn x = true ∨ X.env.scope.names.lookup x = some .local := by first | exact .inl rfl | exact .inr rfl | assumption) :
    DS M X (.Assign [.Name x pos'] e pos) (gSet fe i) := psMono (ps_set hN hi hx he hs hf) (gSet_lift fun _ _ _ q => q)
/-- name op= e -/
def gAug (i : Nat) (fe : FE) (r : R2D) : GS := fun R ρ O => match ρ[i]? with
  | some (some x) => fe ρ O fun y O1 => r x y O1 fun z O2 => R.nx (ρ.set i (some z)) O2
  | _ => False
/-- o[i] = v, an owned list -/
def rSetD (x y d : D) (O : Ow) (N : Ow → Prop) : Prop := match x, y with
  | .ref a, .int k => match O a with
    | some (.lst ds) => match ixN ds.length k with
      | some j => N (updO O a (.lst (ds.set j d)))
      | none => False
    | some .pool => match d with
      | .int z => ((k = 0 ∧ 0 ≤ z) ∨ (k = 1 ∧ 0 ≤ z ∧ z < 2147483647)) ∧ N O
      | _ => False
    | _ => False
  | _, _ => False
def gSetIx (fo fi fe : FE) : GS := fun R ρ O => fe ρ O fun d O1 => fo ρ O1 fun x O2 => fi ρ O2 fun y O3 => rSetD x y d O3 (R.nx ρ)
theorem ds_setIx {o i e : Expr} {fo fi : FE} {p1 : Pos} (ho : DE M X o fo) (hi : DE M X i fi) (he : DE M X e fe)
    (ha : ∀ v, assign (.Subscript o i p1) X.env v = (do
      let ov ← holding [v] (eval o X.env)
      let iv ← holding [v, ov] (eval i X.env)
      standAt p1
      holding [v, ov, iv] (setItem ov iv v)
      release [v, ov, iv] []) := by intro _; rfl)
    (hs : swapsWithSole [.Subscript o i p1] e pos.line X.env = pure false := by rfl) (hw : swappedStores [.Subscript o i p1] e X.env = pure none := by rfl) : DS M X (.Assign [.Subscript o i p1] e pos) (gSetIx fo fi fe) :=
  psMono (ps_asg he (pg_sub ho hi set_list ha) hs hw) fun D σ H h => by
    obtain ⟨F, O, P, ρ, R, g, en, q, po⟩ := h
    refine ⟨F, O, P, ρ, _, g, en, q, fun d O1 F1 H1 v q1 s1 g1 r1 => ?_⟩
    refine ⟨F1, O1, P, ρ, _, g1, en.mono s1, q1, fun x O2 F2 H2 w q2 s2 g2 r2 => ?_⟩
    refine ⟨F2, O2, P, ρ, _, g2, en.mono (s1.trans s2), q2, fun y O3 F3 H3 z q3 s3 g3 r3 => ?_⟩
    unfold rSetD at q3
    cases x <;> first | exact q3.elim | skip
    cases y <;> first | exact q3.elim | skip
    rename_i a k
    simp only [Rep] at r2 r3
    subst r2 r3
    dsimp only at q3
    cases e1 : O3 a with
    | none => rw [e1] at q3; exact q3.elim
    | some c =>
      rw [e1] at q3
      cases c with
      | dic kvs => exact q3.elim
      | dicL _ _ => exact q3.elim
      | exc _ _ => exact q3.elim
      | ins _ _ => exact q3.elim
      | dicT _ => exact q3.elim
      | pool =>
        dsimp only at q3
        cases d <;> first | exact q3.elim | skip
        simp only [Rep] at r1
        subst r1
        obtain ⟨_, _, z, y, hH, h2, h3, h4⟩ := g3.ow a _ e1
        obtain ⟨q4, q5⟩ := q3
        have s4 := s1.trans (s2.trans s3)
        rcases q4 with ⟨rfl, h5⟩ | ⟨rfl, h5, h6⟩
        · refine ⟨a, _, 0, 0, rfl, rfl, hH, rfl, ?_⟩
          have g4 := g3.setO e1 (o := .lst [.int _, .int y]) (c := .pool) ⟨_, y, upd_same, h5, h3, h4⟩
          rw [updO_self e1] at g4
          exact po.nx ρ _ F3 _ σ q5 s4 g4 (en.mono s4)
        · refine ⟨a, _, 1, 1, rfl, rfl, hH, rfl, ?_⟩
          have g4 := g3.setO e1 (o := .lst [.int z, .int _]) (c := .pool) ⟨z, _, upd_same, h2, h5, h6⟩
          rw [updO_self e1] at g4
          exact po.nx ρ _ F3 _ σ q5 s4 g4 (en.mono s4)
      | lst ds =>
        dsimp only at q3
        cases e2 : ixN ds.length k with
        | none => rw [e2] at q3; exact q3.elim
        | some j =>
          rw [e2] at q3
          obtain ⟨_, _, vs, h1, h2⟩ := g3.ow a _ e1
          refine ⟨a, vs, k, j, rfl, rfl, h1, by rw [← h2.length]; exact e2, ?_⟩
          exact po.nx ρ _ F3 _ σ q3 (s1.trans (s2.trans s3)) (g3.setO e1 ⟨_, upd_same, h2.set (r1.mono (s2.trans s3)) j⟩) (en.mono (s1.trans (s2.trans s3)))

/-! ### what is walked -/
/-- the walk yields just these, whatever comes meanwhile -/
def ItOk (M : MX) (K : PySem.W.Frag) (F : Hp) (J : It) (ds : List D) : Prop := ∀ F' O' P' H', Same F F' → Gd M K F' O' P' H' → ∀ i : Nat,
  (∀ d, ds[i]? = some d → J.go i H' ∧ ∀ x H'', J.yld i H' x H'' → ∃ F'', Same F' F'' ∧ Gd M K F'' O' P' H'' ∧ Rep K F'' d x) ∧ (ds.length ≤ i → J.stop i H')
abbrev FI := DEnv → Ow → (List D → Ow → Prop) → Prop
def liftI (M : MX) (K : PySem.W.Frag) (f : FI) : TI := fun σ H Q => ∃ F O P ρ R, Gd M K F O P H ∧ EnvOk K F ρ σ ∧ f ρ O R ∧ ∀ ds O' F' H' J, R ds O' → Same F F' → Gd M K F' O' P H' → ItOk M K F' J ds → Q J H'
abbrev DI (M : MX) (X : Cx) (tg iter : Expr) (f : FI) : Prop := PI X tg iter (liftI M X.K f)
theorem piMono {X : Cx} {tg iter : Expr} {t t' : TI} (h : PI X tg iter t) (imp : ∀ σ H Q, t' σ H Q → t σ H Q) : PI X tg iter t' := ⟨fun pins s σ H Q I q => h.run pins s σ H Q I (imp σ H Q q)⟩
variable {tg iter l : Expr} {fl : FE} {fr : FA}
def asL (d : D) (O : Ow) (Q : List D → Ow → Prop) : Prop := match d with
  | .lst ds => Q ds O
  | _ => False
def asT (d : D) (O : Ow) (Q : List D → Ow → Prop) : Prop := match d with
  | .tup ds => Q ds O
  | _ => False
def asSg (d : D) (O : Ow) (Q : List D → Ow → Prop) : Prop := match d with
  | .str x => Q (x.cps.toList.map fun c => .str ⟨#[c]⟩) O
  | _ => False
def asR1 (ds : List D) (O : Ow) (Q : Int → Nat → Ow → Prop) : Prop := match ds with
  | [.int j] => -(2 ^ 62) ≤ j ∧ j < 2 ^ 62 ∧ Q 0 j.toNat O
  | _ => False
def asR2 (ds : List D) (O : Ow) (Q : Int → Nat → Ow → Prop) : Prop := match ds with
  | [.int i, .int j] => (-(2 ^ 62) ≤ i ∧ i < 2 ^ 62 ∧ -(2 ^ 62) ≤ j ∧ j < 2 ^ 62) ∧ Q i (j - i).toNat O
  | _ => False
def asL1 (ds : List D) (O : Ow) (Q : List D → Ow → Prop) : Prop := match ds with
  | [.lst ds] => Q ds O
  | _ => False
def asL2 (ds : List D) (O : Ow) (Q : List D → List D → Ow → Prop) : Prop := match ds with
  | [.lst ds, .lst es] => Q ds es O
  | _ => False
section
variable {O : Ow} {xs ys : List D} {i j : Int}
theorem asL_l {Q : List D → Ow → Prop} : asL (.lst xs) O Q = Q xs O := rfl
theorem asT_t {Q : List D → Ow → Prop} : asT (.tup xs) O Q = Q xs O := rfl
theorem asSg_s {Q : List D → Ow → Prop} {x : Str} : asSg (.str x) O Q = Q (x.cps.toList.map fun c => .str ⟨#[c]⟩) O := rfl
theorem asR1_i {Q : Int → Nat → Ow → Prop} : asR1 [.int j] O Q = (-(2 ^ 62) ≤ j ∧ j < 2 ^ 62 ∧ Q 0 j.toNat O) := rfl
theorem asR2_i {Q : Int → Nat → Ow → Prop} : asR2 [.int i, .int j] O Q = ((-(2 ^ 62) ≤ i ∧ i < 2 ^ 62 ∧ -(2 ^ 62) ≤ j ∧ j < 2 ^ 62) ∧ Q i (j - i).toNat O) := rfl
theorem asL1_l {Q : List D → Ow → Prop} : asL1 [.lst xs] O Q = Q xs O := rfl
theorem asL2_l {Q : List D → List D → Ow → Prop} : asL2 [.lst xs, .lst ys] O Q = Q xs ys O := rfl
end
/-- a list -/
def fiList (fl : FE) : FI := fun ρ O Q => fl ρ O fun d O1 => asL d O1 Q
theorem di_list (hl : DE M X l fl) : DI M X tg l (fiList fl) := piMono (pi_list hl) fun σ H Q h => by
  obtain ⟨F, O, P, ρ, R, g, en, q, po⟩ := h
  refine ⟨F, O, P, ρ, _, g, en, q, fun d O1 F1 H1 v q1 s1 g1 r1 => ?_⟩
  unfold asL at q1
  cases d <;> first | exact q1.elim | skip
  rename_i ds
  simp only [Rep] at r1
  obtain ⟨a, xs, rfl, h1, h2⟩ := r1
  refine ⟨a, rfl, ⟨xs, SqL.of (g1.fz _ _ h1)⟩, po ds O1 F1 H1 _ q1 s1 g1 fun F2 O2 P2 H2 s2 g2 i => ⟨fun d e => ?_, fun hi => ?_⟩⟩
  · have sq : SqL X.K H2 a xs := SqL.of (g2.fz _ _ (s2 _ _ h1))
    obtain ⟨w, e1, r1⟩ := h2.get e
    refine ⟨⟨xs, w, sq, e1⟩, fun x H3 hy => ?_⟩
    obtain ⟨rfl, hx⟩ := hy
    have := hx xs sq
    rw [e1] at this
    cases this
    exact ⟨F2, Same.refl _, g2, r1.mono s2⟩
  · exact ⟨xs, SqL.of (g2.fz _ _ (s2 _ _ h1)), by rw [← h2.length]; exact hi⟩
/-- a tuple -/
def fiTup (fl : FE) : FI := fun ρ O Q => fl ρ O fun d O1 => asT d O1 Q
/-- range(n), range(a, b) -/
def rangeD (lo : Int) (n : Nat) : List D := (List.range n).map fun i => .int (lo + (i : Nat))
theorem itOk_range {K : PySem.W.Frag} {F : Hp} (lo : Int) (n : Nat) : ItOk M K F (Itr lo n) (rangeD lo n) := fun F2 O2 P2 H2 s2 g2 i => by
  refine ⟨fun d e => ?_, fun hi => ?_⟩
  · unfold rangeD at e
    rw [List.getElem?_map] at e
    obtain ⟨j, e1, e2⟩ := Option.map_eq_some_iff.mp e
    have hi : i < n := by
      have := List.getElem?_eq_some_iff.mp e1
      obtain ⟨h, _⟩ := this
      simpa using h
    have hj : j = i := by
      rw [List.getElem?_range hi] at e1
      exact (Option.some.inj e1).symm
    subst hj
    subst e2
    refine ⟨hi, fun x H3 hy => ?_⟩
    obtain ⟨rfl, rfl⟩ := hy
    exact ⟨F2, Same.refl _, g2, by simp only [Rep]⟩
  · unfold rangeD at hi
    rw [List.length_map, List.length_range] at hi
    exact hi
def fiRng1 (fr : FA) : FI := fun ρ O Q => fr ρ O fun ds O1 => asR1 ds O1 fun i n O2 => Q (rangeD i n) O2
theorem di_range1 {a : Expr} {p : Pos} (hg : Gl X "range") (hm : X.mg "range" = none) (ha : DA M X [a] fr) (hs : starEach [a] X.env = [(false, eval a X.env)] := by rfl) : DI M X tg (.Call (.Name "range" p) [a] [] pos) (fiRng1 fr) :=
  piMono (pi_range1 hg hm ha hs) fun σ H Q h => by
    obtain ⟨F, O, P, ρ, R, g, en, q, po⟩ := h
    refine ⟨F, O, P, ρ, _, g, en, q, fun ds O1 F1 H1 vs q1 s1 g1 r1 => ?_⟩
    unfold asR1 at q1
    split at q1
    · obtain ⟨v, rfl, r1'⟩ := r1.one'
      simp only [Rep] at r1'
      exact ⟨_, by rw [r1'], q1.1, q1.2.1, po _ O1 F1 H1 _ q1.2.2 s1 g1 (itOk_range 0 _)⟩
    · exact q1.elim
def fiRng2 (fr : FA) : FI := fun ρ O Q => fr ρ O fun ds O1 => asR2 ds O1 fun i n O2 => Q (rangeD i n) O2
theorem di_range2 {a b : Expr} {p : Pos} (hg : Gl X "range") (hm : X.mg "range" = none) (ha : DA M X [a, b] fr) (hs : starEach [a, b] X.env = [(false, eval a X.env), (false, eval b X.env)] := by rfl) (hs2 : starEach [b] X.env = [(false, eval b X.env)] := by rfl) : DI M X tg (.Call (.Name "range" p) [a, b] [] pos) (fiRng2 fr) :=
  piMono (pi_range2 hg hm ha hs hs2) fun σ H Q h => by
    obtain ⟨F, O, P, ρ, R, g, en, q, po⟩ := h
    refine ⟨F, O, P, ρ, _, g, en, q, fun ds O1 F1 H1 vs q1 s1 g1 r1 => ?_⟩
    unfold asR2 at q1
    split at q1
    · obtain ⟨v, w, rfl, r1', r2'⟩ := r1.two'
      simp only [Rep] at r1' r2'
      exact ⟨_, _, by rw [r1', r2'], q1.1, po _ O1 F1 H1 _ q1.2 s1 g1 (itOk_range _ _)⟩
    · exact q1.elim
/-- a text, sign by sign -/
def signsD (x : Str) : List D := x.cps.toList.map fun c => .str ⟨#[c]⟩
def fiStr (fl : FE) : FI := fun ρ O Q => fl ρ O fun d O1 => asSg d O1 Q
theorem di_str (hl : DE M X l fl) : DI M X tg l (fiStr fl) := piMono (pi_str hl) fun σ H Q h => by
  obtain ⟨F, O, P, ρ, R, g, en, q, po⟩ := h
  refine ⟨F, O, P, ρ, _, g, en, q, fun d O1 F1 H1 v q1 s1 g1 r1 => ?_⟩
  unfold asSg at q1
  cases d <;> first | exact q1.elim | skip
  rename_i x
  simp only [Rep] at r1
  refine ⟨x, r1, po _ O1 F1 H1 _ q1 s1 g1 fun F2 O2 P2 H2 s2 g2 i => ⟨fun d e => ?_, fun hi => ?_⟩⟩
  · unfold signsD at e
    rw [List.getElem?_map] at e
    obtain ⟨c, e1, rfl⟩ := Option.map_eq_some_iff.mp e
    have hi : i < x.cps.size := by
      obtain ⟨h, _⟩ := List.getElem?_eq_some_iff.mp e1
      simpa using h
    refine ⟨hi, fun y H3 hy => ?_⟩
    obtain ⟨rfl, c', e2, rfl⟩ := hy
    rw [Array.getElem?_toList] at e1
    rw [e1] at e2
    cases e2
    exact ⟨F2, Same.refl _, g2, by simp only [Rep]⟩
  · unfold signsD at hi
    rw [List.length_map, Array.length_toList] at hi
    exact hi
/-- enumerate(xs) -/
def enumD (ds : List D) : List D := ds.zipIdx.map fun p => .tup [.int (p.2 : Nat), p.1]
def fiEnum (fr : FA) : FI := fun ρ O Q => fr ρ O fun ds O1 => asL1 ds O1 fun ds O2 => Q (enumD ds) O2
/-- zip(xs, ys) -/
def zipD (ds es : List D) : List D := (ds.zip es).map fun p => .tup [p.1, p.2]
def fiZip (fr : FA) : FI := fun ρ O Q => fr ρ O fun ds O1 => asL2 ds O1 fun ds es O2 => Q (zipD ds es) O2
/-- reversed(xs) -/
def fiRev (fr : FA) : FI := fun ρ O Q => fr ρ O fun ds O1 => asL1 ds O1 fun ds O2 => Q ds.reverse O2
/-! ### for -/
def forD (p : Pat) (gb : GS) (R : DEnds) : List D → DEnv → Ow → Prop
  | [], ρ, O => R.nx ρ O
  | d :: ds, ρ, O => patGet (patD p d ρ) fun ρ1 => gb { R with nx := forD p gb R ds, ct := forD p gb R ds, bk := R.nx } ρ1 O
def gFor (fi : FI) (p : Pat) (gb : GS) : GS := fun R ρ O => fi ρ O fun ds O1 => forD p gb R ds ρ O1
theorem ds_for {body : List Stmt} {fi : FI} {p : Pat} {gb : GS} (hp : PassesOwn (model X.prog X.w) X.A X.env X.xe) (hc : X.calm = true) (hi : DI M X tg iter fi) (hg : DP X tg p) (hb : DSs M X body gb)
    (hs : ∀ x, foldedSetIterable iter X.env x = pure x := by intro _; rfl) : DS M X (.For tg iter body [] pos) (gFor fi p gb) := psMono (ps_for hp hc hi hg hb hs) fun D σ H h => by
  obtain ⟨F, O, P, ρ, R, g, en, q, po⟩ := h
  refine ⟨F, O, P, ρ, _, g, en, q, fun ds O1 F1 H1 J q1 s1 g1 it => ?_⟩
  refine ⟨fun i m σ H => ∃ F2 O2 ρ2, i + m = ds.length ∧ Same F1 F2 ∧ Gd M X.K F2 O2 P H ∧ EnvOk X.K F2 ρ2 σ ∧ forD p gb R (ds.drop i) ρ2 O2,
    ⟨ds.length, F1, O1, ρ, by omega, Same.refl _, g1, en.mono s1, by rw [List.drop_zero]; exact q1⟩, fun i m σ2 H2 hW => ?_⟩
  obtain ⟨F2, O2, ρ2, hm, s2, g2, en2, q2⟩ := hW
  obtain ⟨it1, it2⟩ := it F2 O2 P H2 s2 g2 i
  by_cases hi : i < ds.length
  · obtain ⟨hgo, hy⟩ := it1 ds[i] (List.getElem?_eq_getElem hi)
    rw [List.drop_eq_getElem_cons hi] at q2
    unfold forD at q2
    refine .inr ⟨hgo, fun σ' H' => ∃ F3 O3 ρ3, Same F1 F3 ∧ Gd M X.K F3 O3 P H' ∧ EnvOk X.K F3 ρ3 σ' ∧ forD p gb R (ds.drop (i + 1)) ρ3 O3, fun σ' H' hN => ?_, fun x H' hyy => ?_⟩
    · obtain ⟨F3, O3, ρ3, s3, g3, en3, q3⟩ := hN
      exact ⟨m - 1, by omega, F3, O3, ρ3, by omega, s3, g3, en3, q3⟩
    · obtain ⟨F3, s3, g3, r3⟩ := hy x H' hyy
      cases e1 : patD p ds[i] ρ2 with
      | none => rw [e1] at q2; exact q2.elim
      | some ρ3 =>
        rw [e1] at q2
        refine pat_ok g3 p ds[i] x ρ2 ρ3 σ2 _ e1 r3 (en2.mono s3) fun σ4 en4 _ => ?_
        refine ⟨F3, O2, P, ρ3, _, g3, en4, q2, ⟨fun ρ5 O5 F5 H5 σ5 q5 s5 g5 en5 => ?_, ?_, ?_, fun ρ5 O5 F5 H5 σ5 q5 s5 g5 en5 => ?_⟩⟩
        · exact ⟨F5, O5, ρ5, s2.trans (s3.trans s5), g5, en5, q5⟩
        · exact po.rt.more (s1.trans (s2.trans s3))
        · exact po.nx.more (s1.trans (s2.trans s3))
        · exact ⟨F5, O5, ρ5, s2.trans (s3.trans s5), g5, en5, q5⟩
  · refine .inl ⟨it2 (by omega), ?_⟩
    rw [List.drop_eq_nil_of_le (by omega)] at q2
    exact po.nx ρ2 O2 F2 H2 σ2 q2 (s1.trans s2) g2 en2
/-! ### while -/
end
end Kf
namespace Kf
open PySem PySem.Spec L2
open PyProof.Rows hiding St
variable {M : MX}

/-! ### a thing that stands aside -/
section
variable {K : PySem.W.Frag} {F P H : Hp} {O : Ow} {p : Addr} {o o' : HO}
theorem Gd.aside (g : Gd M K F O P H) (h : H p = none) (nt : NT o := by intro _ e; cases e) : Gd M K F O (upd P p o) (upd H p o) := by
  have hF := g.freeF h
  have hO := g.freeO h
  have g' := g.skip (o := o) h
  refine ⟨g'.fz, fun a c e => ?_, fun a u e => ?_, M.mono g.rl (Same.refl _) (same_upd (g.freeP h)), fun a u e => by
    by_cases q : a = p
    · subst q; rw [upd_same] at e; cases e; exact nt
    · rw [upd_ne q] at e; exact g.nt a u e⟩
  · have ne : a ≠ p := fun q => by rw [q, hO] at e; cases e
    obtain ⟨h1, h2, h3⟩ := g'.ow a c e
    exact ⟨h1, (upd_ne ne).trans h2, h3⟩
  · by_cases q : a = p
    · subst q; rw [upd_same] at e; cases e; exact ⟨hF, upd_same⟩
    · rw [upd_ne q] at e; exact g'.as a u e
theorem Gd.asideSet (g : Gd M K F O (upd P p o) H) (mk : M.rel F (upd P p o')) (nt : NT o' := by intro _ e; cases e) : Gd M K F O (upd P p o') (upd H p o') := by
  obtain ⟨hF, hH⟩ := g.as p o upd_same
  refine ⟨fun b x e => ?_, fun a c e => ?_, fun a u e => ?_, mk, fun a u e => by
    by_cases q : a = p
    · subst q; rw [upd_same] at e; cases e; exact nt
    · rw [upd_ne q] at e; exact g.nt a u ((upd_ne q).trans e)⟩
  · have ne : b ≠ p := fun q => by rw [q, hF] at e; cases e
    rw [upd_ne ne]; exact g.fz b x e
  · obtain ⟨h1, h2, h3⟩ := g.ow a c e
    have ne : a ≠ p := fun q => by rw [q, upd_same] at h2; cases h2
    rw [upd_ne ne] at h2
    exact ⟨h1, (upd_ne ne).trans h2, h3.mono (Same.refl _) (upd_ne ne)⟩
  · by_cases q : a = p
    · subst q; rw [upd_same] at e; cases e; exact ⟨hF, upd_same⟩
    · rw [upd_ne q] at e
      obtain ⟨h1, h2⟩ := g.as a u ((upd_ne q).trans e)
      exact ⟨h1, (upd_ne q).trans h2⟩
theorem Gd.asideFz (g : Gd M K F O (upd P p o) H) (hP : P p = none) (mk : M.rel F P) : Same F (upd F p o) ∧ Gd M K (upd F p o) O P H := by
  obtain ⟨hF, hH⟩ := g.as p o upd_same
  have s : Same F (upd F p o) := same_upd hF
  refine ⟨s, fun b x e => ?_, fun a c e => ?_, fun a u e => ?_, M.mono mk s (Same.refl _), fun a u e => g.nt a u ((upd_ne (fun q => by rw [q, hP] at e; cases e)).trans e)⟩
  · by_cases q : b = p
    · subst q; rw [upd_same] at e; cases e; exact hH
    · rw [upd_ne q] at e; exact g.fz b x e
  · obtain ⟨h1, h2, h3⟩ := g.ow a c e
    have ne : a ≠ p := fun q => by rw [q, upd_same] at h2; cases h2
    rw [upd_ne ne] at h2
    exact ⟨(upd_ne ne).trans h1, h2, h3.mono s rfl⟩
  · have ne : a ≠ p := fun q => by rw [q, hP] at e; cases e
    obtain ⟨h1, h2⟩ := g.as a u ((upd_ne ne).trans e)
    exact ⟨(upd_ne ne).trans h1, h2⟩
theorem Gd.asideOw (g : Gd M K F O (upd P p o) H) (hP : P p = none) (mk : M.rel F P) {c : Cell} (hc : CellOk K F H p c) : O p = none ∧ Gd M K F (updO O p c) P H := by
  obtain ⟨hF, hH⟩ := g.as p o upd_same
  have hO : O p = none := by
    cases e : O p with
    | none => rfl
    | some c =>
      have q := (g.ow p c e).2.1
      rw [upd_same] at q; cases q
  refine ⟨hO, g.fz, fun a d e => ?_, fun a u e => ?_, mk, fun a u e => g.nt a u ((upd_ne (fun q => by rw [q, hP] at e; cases e)).trans e)⟩
  · by_cases q : a = p
    · subst q; rw [updO_same] at e; cases e; exact ⟨hF, hP, hc⟩
    · rw [updO_ne q] at e
      obtain ⟨h1, h2, h3⟩ := g.ow a d e
      rw [upd_ne q] at h2
      exact ⟨h1, h2, h3⟩
  · have ne : a ≠ p := fun q => by rw [q, hP] at e; cases e
    exact g.as a u ((upd_ne ne).trans e)
end

/-! ### list comprehensions -/
def wipeD (ρ : DEnv) : List Nat → DEnv
  | [] => ρ
  | v :: vs => (wipeD ρ vs).set v none
theorem EnvOk.wipes {K : PySem.W.Frag} {F : Hp} {ρ : DEnv} {σ : L2.St} (h : EnvOk K F ρ σ) : ∀ vs : List Nat, EnvOk K F (wipeD ρ vs) (L2.wipe σ vs)
  | [] => h
  | v :: vs => by unfold wipeD L2.wipe; exact (EnvOk.wipes h vs).wipe v
theorem wipe_in {σ : L2.St} {i : Nat} : ∀ {vs : List Nat}, i ∈ vs → (wipe σ vs)[i]? = if i < σ.length then some none else none
  | [], h => by cases h
  | v :: vs, h => by
    unfold L2.wipe
    by_cases e : v = i
    · subst e
      by_cases c : v < σ.length
      · rw [if_pos c, List.getElem?_set_self (by rw [wipe_length]; exact c)]
      · rw [if_neg c, List.getElem?_eq_none (by rw [List.length_set, wipe_length]; omega)]
    · rw [List.getElem?_set_ne e]
      exact wipe_in ((List.mem_cons.mp h).resolve_left fun q => e q.symm)
theorem wipe_off {σ τ : L2.St} {vs ws : List Nat} (h : Off ws (wipe σ vs) τ) (hs : ∀ i ∈ ws, i ∈ vs) : wipe τ vs = wipe σ vs := by
  refine List.ext_getElem? fun i => ?_
  have hl : τ.length = σ.length := by rw [← h.1, wipe_length]
  by_cases c : i ∈ vs
  · rw [wipe_in c, wipe_in c, hl]
  · rw [wipe_out c]
    exact h.2 i fun q => c (hs i q)
def lcD (p : Pat) (ft : FT) (fe : FE) (ρ : DEnv) : List D → List D → Ow → (List D → Ow → Prop) → Prop
  | [], acc, O, Q => Q acc O
  | d :: ds, acc, O, Q => patGet (patD p d ρ) fun ρ1 => ft ρ1 O fun b O1 => if b = true then fe ρ1 O1 fun e O2 => acc.length < sizeLine ∧ lcD p ft fe ρ ds (acc ++ [e]) O2 Q else lcD p ft fe ρ ds acc O1 Q
def fLc (fi : FI) (p : Pat) (ft : FT) (fe : FE) (vs : List Nat) : FE := fun ρ O Q => fi ρ O fun ds O1 => lcD p ft fe (wipeD ρ vs) ds [] O1 fun acc O2 => Q (.lst acc) O2
def fLcO (fi : FI) (p : Pat) (ft : FT) (fe : FE) (vs : List Nat) : FE := fun ρ O Q => fi ρ O fun ds O1 => lcD p ft fe (wipeD ρ vs) ds [] O1 fun acc O2 => ∀ q, O2 q = none → Q (.ref q) (updO O2 q (.lst acc))
def fYes : FT := fun _ O Q => Q true O
section
variable {X : Cx} {elt tg iter : Expr} {ifs : List Expr} {scope : Scope} {own : List (Str × Nat)} {pos : Pos} {fi : FI} {p : Pat} {ft : FT} {fe : FE}
theorem dts_nil : PTs X [] (liftT M X.K fYes) := ⟨fun pins s σ H Q I h => by
  obtain ⟨F, O, P, ρ, R, g, en, q, po⟩ := h
  exact pts_nil.run pins s σ H Q I (po true O F H q (Same.refl _) g)⟩
theorem dts_one {c : Expr} (h : DT M X c ft) : PTs X [c] (liftT M X.K ft) := pts_one h
theorem fLc_core {vs : List Nat} {K : PySem.W.Frag} (hv : ∀ i ∈ patI p, i ∈ vs) {σ : L2.St} {H : Hp} {Q : VK} {F P : Hp} {O : Ow} {ρ : DEnv} {R : List D → Ow → Prop} (g : Gd M K F O P H) (en : EnvOk K F ρ σ)
    (q : fi ρ O fun ds O1 => lcD p ft fe (wipeD ρ vs) ds [] O1 R)
    (po : ∀ acc O' F' H' q vacc, R acc O' → Same F F' → P q = none → M.rel F' P → Gd M K F' O' (upd P q (.lst vacc)) H' → RepAll K F' acc vacc → Q (.ref q) H') :
    tLc (liftI M K fi) (patT K p) (liftT M K ft) (liftE M K fe) vs σ H Q := by
  refine ⟨F, O, P, ρ, _, g, en, q, fun ds O1 F1 H1 J q1 s1 g1 it D hD => ?_⟩
  have hP := g1.freeP hD
  refine ⟨fun i m H => ∃ F2 O2 acc vacc, i + m = ds.length ∧ Same F1 F2 ∧ Gd M K F2 O2 (upd P D (.lst vacc)) H ∧ RepAll K F2 acc vacc ∧ lcD p ft fe (wipeD ρ vs) (ds.drop i) acc O2 R,
    ⟨ds.length, F1, O1, [], [], by omega, Same.refl _, g1.aside hD, .nil, by rw [List.drop_zero]; exact q1⟩, fun i m H2 hW => ?_⟩
  obtain ⟨F2, O2, acc, vacc, hm, s2, g2, ra, q2⟩ := hW
  obtain ⟨it1, it2⟩ := it F2 O2 (upd P D (.lst vacc)) H2 s2 g2 i
  by_cases hi : i < ds.length
  · obtain ⟨hgo, hy⟩ := it1 ds[i] (List.getElem?_eq_getElem hi)
    rw [List.drop_eq_getElem_cons hi] at q2
    unfold lcD at q2
    refine .inr ⟨hgo, fun H' => ∃ F3 O3 acc vacc, Same F1 F3 ∧ Gd M K F3 O3 (upd P D (.lst vacc)) H' ∧ RepAll K F3 acc vacc ∧ lcD p ft fe (wipeD ρ vs) (ds.drop (i + 1)) acc O3 R, fun H' hN => ?_, fun x H' hyy => ?_⟩
    · obtain ⟨F3, O3, acc3, vacc3, s3, g3, r3, q3⟩ := hN
      exact ⟨m - 1, by omega, F3, O3, acc3, vacc3, by omega, s3, g3, r3, q3⟩
    · obtain ⟨F3, s3, g3, r3⟩ := hy x H' hyy
      cases e1 : patD p ds[i] (wipeD ρ vs) with
      | none => rw [e1] at q2; exact q2.elim
      | some ρ3 =>
        rw [e1] at q2
        refine pat_ok g3 p ds[i] x (wipeD ρ vs) ρ3 (wipe σ vs) _ e1 r3 ((en.mono (s1.trans (s2.trans s3))).wipes vs) fun σ4 en4 off => ?_
        refine ⟨wipe_off off hv, F3, O2, upd P D (.lst vacc), ρ3, _, g3, en4, q2, fun b O5 F5 H5 q5 s5 g5 => ?_⟩
        cases b with
        | true =>
          rw [if_pos rfl] at q5 ⊢
          refine ⟨F5, O5, upd P D (.lst vacc), ρ3, _, g5, en4.mono s5, q5, fun y O6 F6 H6 w q6 s6 g6 r6 => ?_⟩
          refine ⟨vacc, (g6.as D _ upd_same).2, by rw [← ra.length]; exact q6.1, F6, O6, acc ++ [y], vacc ++ [w], s2.trans (s3.trans (s5.trans s6)), g6.asideSet (M.mono g1.rl (s2.trans (s3.trans (s5.trans s6))) (same_upd hP)), (ra.mono (s3.trans (s5.trans s6))).append (.one r6), q6.2⟩
        | false =>
          rw [if_neg Bool.false_ne_true] at q5 ⊢
          exact ⟨F5, O5, acc, vacc, s2.trans (s3.trans s5), g5, ra.mono (s3.trans s5), q5⟩
  · rw [List.drop_eq_nil_of_le (by omega)] at q2
    exact .inl ⟨it2 (by omega), po acc O2 F2 H2 D vacc q2 (s1.trans s2) hP (M.mono g1.rl s2 (Same.refl _)) g2 ra⟩
theorem fLc_lift {vs : List Nat} {K : PySem.W.Frag} (hv : ∀ i ∈ patI p, i ∈ vs) : ∀ σ H Q, liftE M K (fLc fi p ft fe vs) σ H Q → tLc (liftI M K fi) (patT K p) (liftT M K ft) (liftE M K fe) vs σ H Q := fun σ H Q h => by
  obtain ⟨F, O, P, ρ, R, g, en, q, po⟩ := h
  refine fLc_core hv g en q fun acc O' F' H' a vacc q1 s1 hP mk g1 r1 => ?_
  obtain ⟨s2, g2⟩ := g1.asideFz hP mk
  refine po (.lst acc) O' _ H' _ q1 (s1.trans s2) g2 ?_
  simp only [Rep]
  exact ⟨a, vacc, rfl, upd_same, r1.mono s2⟩
theorem fLcO_lift {vs : List Nat} {K : PySem.W.Frag} (hv : ∀ i ∈ patI p, i ∈ vs) : ∀ σ H Q, liftE M K (fLcO fi p ft fe vs) σ H Q → tLc (liftI M K fi) (patT K p) (liftT M K ft) (liftE M K fe) vs σ H Q := fun σ H Q h => by
  obtain ⟨F, O, P, ρ, R, g, en, q, po⟩ := h
  refine fLc_core hv g en q fun acc O' F' H' a vacc q1 s1 hP mk g1 r1 => ?_
  obtain ⟨hO, g2⟩ := g1.asideOw hP mk (c := .lst acc) ⟨vacc, (g1.as a _ upd_same).2, r1⟩
  exact po (.ref a) _ F' H' _ (q1 a hO) s1 g2 (by simp only [Rep])
theorem pat_in {vs : List Nat} (h : ((patI p).all fun i => vs.contains i) = true) : ∀ i ∈ patI p, i ∈ vs := fun i hi => by
  have := List.all_eq_true.mp h i hi
  simpa using this
theorem de_lc {vs : List Nat} (hc : X.calm = true) (hN : X.N.Nodup) (hi : DI M X tg iter fi) (ok : BlkOk X.N X.env.scope scope own)
    (hg : ∀ (s : Shared) (H : Hp) (C : Addr) (cl : List (Str × Addr)) (fp : List Addr), DP (X.blk s H scope (compEnvC scope cl C X.env) fp) tg p) (ht : ∀ (s : Shared) (H : Hp) (C : Addr) (cl : List (Str × Addr)) (fp : List Addr), PTs (X.blk s H scope (compEnvC scope cl C X.env) fp) ifs (liftT M X.K ft))
    (he : ∀ (s : Shared) (H : Hp) (C : Addr) (cl : List (Str × Addr)) (fp : List Addr), DE M (X.blk s H scope (compEnvC scope cl C X.env) fp) elt fe) (hvs : own.map (·.2) = vs := by rfl) (hv : ((patI p).all fun i => vs.contains i) = true := by decide) (hs : ∀ x, foldedSetIterable iter X.env x = pure x := by intro _; rfl) :
    DE M X (.ListComp elt [⟨tg, iter, ifs, 0⟩] scope pos) (fLc fi p ft fe vs) := by
  subst hvs
  exact peMono (pe_lc (te := liftE M X.K fe) (g := patT X.K p) hc hN hi ok hg ht he hs) (fLc_lift (pat_in hv))
theorem de_lcO {vs : List Nat} (hc : X.calm = true) (hN : X.N.Nodup) (hi : DI M X tg iter fi) (ok : BlkOk X.N X.env.scope scope own)
    (hg : ∀ (s : Shared) (H : Hp) (C : Addr) (cl : List (Str × Addr)) (fp : List Addr), DP (X.blk s H scope (compEnvC scope cl C X.env) fp) tg p) (ht : ∀ (s : Shared) (H : Hp) (C : Addr) (cl : List (Str × Addr)) (fp : List Addr), PTs (X.blk s H scope (compEnvC scope cl C X.env) fp) ifs (liftT M X.K ft))
    (he : ∀ (s : Shared) (H : Hp) (C : Addr) (cl : List (Str × Addr)) (fp : List Addr), DE M (X.blk s H scope (compEnvC scope cl C X.env) fp) elt fe) (hvs : own.map (·.2) = vs := by rfl) (hv : ((patI p).all fun i => vs.contains i) = true := by decide) (hs : ∀ x, foldedSetIterable iter X.env x = pure x := by intro _; rfl) :
    DE M X (.ListComp elt [⟨tg, iter, ifs, 0⟩] scope pos) (fLcO fi p ft fe vs) := by
  subst hvs
  exact peMono (pe_lc (te := liftE M X.K fe) (g := patT X.K p) hc hN hi ok hg ht he hs) (fLcO_lift (pat_in hv))
/-- name = [..] on one line, the name a local -/
theorem ds_setLc {i : Nat} {vs : List Nat} {y : Str} {py spos : Pos} (hc : X.calm = true) (hN : X.N.Nodup) (hy : X.N[i]? = some y) (hyl : X.env.scope.names.lookup y = some .local)
    (hsw : swapsWith (.ListComp elt [⟨tg, iter, ifs, 0⟩] scope pos) (some (.Name y py)) spos.line X.env = pure true) (hi : DI M X tg iter fi) (ok : BlkOk X.N X.env.scope scope own)
    (hg : ∀ (s : Shared) (H : Hp) (C : Addr) (cl : List (Str × Addr)) (fp : List Addr), DP (X.blk s H scope (compEnvC scope cl C X.env) fp) tg p) (ht : ∀ (s : Shared) (H : Hp) (C : Addr) (cl : List (Str × Addr)) (fp : List Addr), PTs (X.blk s H scope (compEnvC scope cl C X.env) fp) ifs (liftT M X.K ft))
    (he : ∀ (s : Shared) (H : Hp) (C : Addr) (cl : List (Str × Addr)) (fp : List Addr), DE M (X.blk s H scope (compEnvC scope cl C X.env) fp) elt fe) (hvs : own.map (·.2) = vs := by rfl) (hv : ((patI p).all fun i => vs.contains i) = true := by decide) (hs : ∀ x, foldedSetIterable iter X.env x = pure x := by intro _; rfl) :
    DS M X (.Assign [.Name y py] (.ListComp elt [⟨tg, iter, ifs, 0⟩] scope pos) spos) (gSet (fLc fi p ft fe vs) i) := by
  subst hvs
  exact psMono (ps_setLc (te := liftE M X.K fe) (g := patT X.K p) hc hN hy hyl hsw hi ok hg ht he hs) (gSet_lift (fLc_lift (pat_in hv)))
end

/-! ### what a def promises, over data -/
theorem Gd.re {M' : MX} {K : PySem.W.Frag} {F P H : Hp} {O : Ow} (g : Gd M K F O P H) (mk : M'.rel F P) : Gd M' K F O P H := ⟨g.fz, g.ow, g.as, mk, g.nt⟩
theorem Gd.mt {K : PySem.W.Frag} {F P H : Hp} {O : Ow} (g : Gd M K F O P H) : Gd MT K F O P H := g.re trivial
theorem Gd.less {K : PySem.W.Frag} {F P P0 H : Hp} {O : Ow} (g : Gd MT K F O P H) (s : Same P0 P) : Gd MT K F O P0 H := by
  refine ⟨g.fz, fun a c e => ?_, fun a o e => g.as a o (s a o e), trivial, fun a o e => g.nt a o (s a o e)⟩
  obtain ⟨h1, h2, h3⟩ := g.ow a c e
  exact ⟨h1, s.free h2, h3⟩
theorem PostE.mt {K : PySem.W.Frag} {F F1 P H : Hp} {O : Ow} {R : VD} {Q : VK} (po : PostE M K F P R Q) (g : Gd M K F1 O P H) (s1 : Same F F1) : PostE MT K F1 P R Q := fun d O' F' H' v q s g' r => po d O' F' H' v q (s1.trans s) (g'.re (M.mono g.rl s (Same.refl _))) r
abbrev XD := Value → Option (List (Str × D)) → Ow → Prop
abbrev DSp := List D → Ow → VD → XD → Prop
def XdOk (K : PySem.W.Frag) (F _H : Hp) : Option (List (Str × D)) → Option Addr → Prop := XdR K F
def PostX (K : PySem.W.Frag) (F P : Hp) (RE : XD) (E : XK) : Prop := ∀ cls fs O' F' H' dd, RE cls fs O' → Same F F' → Gd MT K F' O' P H' → XdOk K F' H' fs dd → E cls dd H'
theorem PostX.more {K : PySem.W.Frag} {F F' P : Hp} {RE : XD} {E : XK} (po : PostX K F P RE E) (s : Same F F') : PostX K F' P RE E := fun cls fs O' F2 H' dd q s2 g x => po cls fs O' F2 H' dd q (s.trans s2) g x
def liftSp (K : PySem.W.Frag) (dsp : DSp) : Sp := fun vs H Q E => ∃ F O P ds R RE, Gd MT K F O P H ∧ RepAll K F ds vs ∧ dsp ds O R RE ∧ PostE MT K F P R Q ∧ PostX K F P RE E
abbrev X0 : XD := fun _ _ _ => False
section
variable {X : Cx} {e : Expr} {es : List Expr} {fr : FA} {CX : CXT} {k : Nat} {f : Addr} {fd : FuncData} {ps : List Str} {dsp : DSp} {x : Str} {p pos : Pos}
def fCall (dsp : DSp) (fr : FA) : FE := fun ρ O Q => fr ρ O fun ds O1 => dsp ds O1 Q X0
theorem de_call (G : FnOk X.prog X.w X.K X.mg X.base CX0 k f fd ps (liftSp X.K dsp)) (hr : Room k X.A) (hg : Gl X x) (hm : X.mg x = some (.ref f)) (hk : PySem.W.keepIn X.K (.ref f) = true) (hb : Binds X.K fd ps [])
    (ha : DA M X (e :: es) fr) (hdb : (x == ("__debug__" : Str)) = false := by decide) (he : starEach (e :: es) X.env = (false, eval e X.env) :: starEach es X.env := by rfl) (hpl : (backTo pos (starEach es X.env)).any (·.1) = false := by rfl) :
    DE M X (.Call (.Name x p) (e :: es) [] pos) (fCall dsp fr) := peMono (pe_call G hr hg hm hk hb .nil pass0 ha hdb he hpl) fun σ H Q h => by
  obtain ⟨F, O, P, ρ, R, g, en, q, po⟩ := h
  refine ⟨F, O, P, ρ, _, g, en, q, fun ds O1 F1 H1 vs q1 s1 g1 r1 => ?_⟩
  show liftSp X.K dsp (vs ++ []) H1 Q E0
  rw [List.append_nil]
  exact ⟨F1, O1, P, ds, R, X0, g1.mt, r1, q1, po.mt g1 s1, fun _ _ _ _ _ _ z => z.elim⟩
end
section
variable {P : Program} {w : World} {K : PySem.W.Frag} {mg : Str → Option Value} {base : Heap}
/-- the names' values at the entry -/
def startD (N : List Str) (ds : List D) : DEnv := ds.map some ++ List.replicate (N.length - ds.length) none
theorem fn_d {x qual : Str} {st : Stmt} {f : Addr} {fd : FuncData} {N ps : List Str} {k : Nat} {dsp : DSp} {g : GS} (F : Fun K x qual st f fd) (S : FnScope N ps (defScope st)) (len : ∀ ds O R RE, dsp ds O R RE → ds.length = ps.length)
    (hder : ∀ (cdv : Value) (A : Around) (outer : List Env) (s : Shared) (H : Hp) (E : XK), Room k (A.deeper (envOfC qual (defScope st) s.heap.objs.size f cdv)) →
      DSs MT (cxOf CX0 P w K mg base N qual (defScope st) f cdv A outer s H E).nox (defBody st) g)
    (hread : ∀ ds O R RE, dsp ds O R RE → g { nx := fun _ O' => R .non O', rt := R } (startD N ds) O) : FnOk P w K mg base CX0 (k + 1) f fd ps (liftSp K dsp) := by
  refine F.ok S (fun vs H Q E h => ?_) fun cdv A outer s H vs Q E hr h => ?_
  · obtain ⟨F, O, P, ds, R, RE, g, r, q, _⟩ := h
    rw [← r.length]; exact len ds O R RE q
  · obtain ⟨F, O, P, ds, R, RE, gd, r, q, po, _⟩ := h
    refine ⟨_, hder cdv A outer s H E hr, F, O, P, startD N ds, { nx := fun _ O' => R .non O', rt := R }, gd, ?_, hread ds O R RE q, ⟨fun ρ O' F' H' σ q1 s1 g1 _ => ?_, po, fun _ _ _ _ _ z => z.elim, fun _ _ _ _ _ z => z.elim⟩⟩
    · unfold startD L2.start
      rw [r.length]
      exact envOk_start _ r
    · exact po .non O' F' H' .non q1 s1 g1 (by simp only [Rep])
end
/-- no calls are left -/
theorem none_left {P : Program} {w : World} {K : PySem.W.Frag} {mg : Str → Option Value} {base : Heap} {CX : CXT} {f : Addr} {fd : FuncData} {ps : List Str} {dsp : DSp} {k : Nat} (no : ∀ ds O R RE, ¬ dsp ds O R RE) : FnOk P w K mg base CX k f fd ps (liftSp K dsp) := by
  have no' : ∀ vs H Q E, ¬ liftSp K dsp vs H Q E := fun vs H Q E h => by
    obtain ⟨F, O, P, ds, R, RE, g, r, q, _⟩ := h
    exact no ds O R RE q
  exact ⟨fun vs H Q E h => absurd h (no' vs H Q E), fun A outer s H args us vs Q E _ _ _ _ h => absurd h (no' vs H Q E)⟩
/-- the law's own promise -/
def lawSp (n : Nat) : DSp := fun ds _ R _ => ∃ ns : List Int, ds = [.scr ns] ∧ ns.length ≤ n ∧ ∀ O, R (.bl true) O
theorem law_start {K : PySem.W.Frag} {H : Hp} {a : Addr} {ns : List Int} {n : Nat} (hl : ns.length ≤ n) (h : SqL K H a (ns.map V.int)) : liftSp K (lawSp n) [.ref a] H (fun v _ => v = .bl true) fun _ _ _ => False := by
  refine ⟨fun b => if b = a then H b else none, fun _ => none, fun _ => none, [.scr ns], fun d _ => d = .bl true, X0, ⟨fun b o e => ?_, (fun _ _ e => nomatch e), (fun _ _ e => nomatch e), trivial, (fun _ _ e => nomatch e)⟩, ?_, ⟨ns, rfl, hl, fun _ => rfl⟩, fun d O' F' H' v q _ _ r => ?_, fun _ _ _ _ _ _ z => z.elim⟩
  · split at e
    · exact e
    · cases e
  · refine .one ?_
    simp only [Rep]
    refine ⟨a, rfl, ?_⟩
    rcases h with (h | ⟨o, h⟩) | h
    · exact .inl (.inl ((if_pos rfl).trans h))
    · exact .inl (.inr ⟨o, (if_pos rfl).trans h⟩)
    · exact .inr h
  · subst q
    simpa only [Rep] using r
end Kf
namespace Kf
open PySem PySem.Spec L2
open PyProof.Rows hiding St
variable {M : MX}

abbrev rSubD : R2D := rInts0 fun i j => .int (i - j)
abbrev rMulD : R2D := rInts CMul fun i j => .int (i * j)
abbrev rDivD : R2D := rInts CDv fun i j => .int (i / j)
abbrev rModD : R2D := rInts (fun _ j => 0 < j) fun i j => .int (i % j)
abbrev rPowD : R2D := rInts CPow fun i j => .int (i ^ j.toNat)
abbrev rGtD : R2D := rInts0 fun i j => .bl (decide (j < i))
theorem _root_.L2.Room.u200 {k : Nat} {A : Around} (r : Room k A) : A.units + 200 < cLine := by have := r.un; omega

/-- a def of the text: its place, its name, how it is called -/
structure Fn (K : PySem.W.Frag) (mg : Str → Option Value) (x : Str) (st : Stmt) (ps : List Str) (f : Addr) (fd : FuncData) : Prop where
  F : Fun K x x st f fd
  m : mg x = some (.ref f)
  b : Binds K fd ps []
section
variable {X : Cx} {e : Expr} {es : List Expr} {fr : FA} {k : Nat} {f : Addr} {fd : FuncData} {ps : List Str} {dsp : DSp} {x : Str} {st : Stmt} {p pos : Pos}
theorem de_callN (N : Fn X.K X.mg x st ps f fd) (G : FnOk X.prog X.w X.K X.mg X.base CX0 k f fd ps (liftSp X.K dsp)) (hr : Room k X.A) (hg : Gl X x)
    (ha : DA M X (e :: es) fr) (hdb : (x == ("__debug__" : Str)) = false := by decide) (he : starEach (e :: es) X.env = (false, eval e X.env) :: starEach es X.env := by rfl) (hpl : (backTo pos (starEach es X.env)).any (·.1) = false := by rfl) :
    DE M X (.Call (.Name x p) (e :: es) [] pos) (fCall dsp fr) := de_call G hr hg N.m N.F.kp N.b ha hdb he hpl
/-- a constant of the module -/
def Cst (K : PySem.W.Frag) (mg : Str → Option Value) (x : Str) (d : D) : Prop := ∃ u v, mg x = some u ∧ RelV v u ∧ ∀ F, Rep K F d v
theorem de_cst {d : D} (c : Cst X.K X.mg x d) (hg : Gl X x) (hd : (x == ("__debug__" : Str)) = false := by decide) : DE M X (.Name x pos) (fC d) := by
  obtain ⟨u, v, h1, h2, h3⟩ := c
  exact de_glob hg h1 h2 h3 hd
/-- a built-in class as a value -/
theorem de_ty {n : String} (hv : bootBuiltins x = some (.type n)) (hm : X.mg x = none) (hg : Gl X x) (hn : x ≠ "__name__" := by decide) (hd : (x == ("__debug__" : Str)) = false := by decide) : DE M X (.Name x pos) (fC (.ty n)) :=
  de_bltn (v := .ty n) hg hm hv rfl (fun _ => by simp only [Rep]) hn hd
end
theorem bb_len : bootBuiltins "len" = some (.builtin "len") := by decide +kernel
theorem bb_isinstance : bootBuiltins "isinstance" = some (.builtin "isinstance") := by decide +kernel
theorem bb_max : bootBuiltins "max" = some (.builtin "max") := by decide +kernel
theorem bb_min : bootBuiltins "min" = some (.builtin "min") := by decide +kernel
theorem bb_sorted : bootBuiltins "sorted" = some (.builtin "sorted") := by decide +kernel
theorem bb_int : bootBuiltins "int" = some (.type "int") := by decide +kernel
theorem bb_str : bootBuiltins "str" = some (.type "str") := by decide +kernel
theorem bb_bool : bootBuiltins "bool" = some (.type "bool") := by decide +kernel
theorem bb_tuple : bootBuiltins "tuple" = some (.type "tuple") := by decide +kernel
theorem bb_list : bootBuiltins "list" = some (.type "list") := by decide +kernel
/-! ### ends that are known -/
theorem cst_int {K : PySem.W.Frag} {mg : Str → Option Value} {x : Str} {i : Int} {t : Tok} (h : mg x = some (.int i t)) : Cst K mg x (.int i) := ⟨_, .int i, h, ⟨t, rfl⟩, fun _ => by simp only [Rep]⟩
theorem cst_str {K : PySem.W.Frag} {mg : Str → Option Value} {x y : Str} {t : Tok} (h : mg x = some (.str y t)) : Cst K mg x (.str y) := ⟨_, .str y, h, ⟨t, rfl⟩, fun _ => by simp only [Rep]⟩
/-- a tuple of texts that stands in the written part -/
theorem cst_strs {K : PySem.W.Frag} {mg : Str → Option Value} {x : Str} {a : Addr} {o : Obj} {its : Array Value} {n : Nat} {ys : List Str} (h : mg x = some (.ref a)) (h1 : K.lookup a = some o) (h2 : o.cls = .type "tuple") (h3 : o.data = .seq its n)
    (h4 : Vals (ys.map V.str) its.toList) (h5 : ys.length ≤ sizeLine) : Cst K mg x (.tup (ys.map .str)) := by
  refine ⟨_, .ref a, h, rfl, fun F => ?_⟩
  simp only [Rep]
  refine ⟨a, ys.map V.str, rfl, .inr ⟨o, its, n, h1, h2, h3, ?_, h4⟩, .of_strs⟩
  have h6 : ys.length = its.size := by
    have := h4.length
    rw [List.length_map] at this
    rw [this]; simp
  omega
end Kf
namespace Kf
open PySem PySem.Spec L2
open PyProof.Rows hiding St
variable {M : MX}

/-! ### the readings at known data -/
section
variable {O : Ow} {Q : VD} {i j : Int} {a b : Str} {xs ys : List D} {d e x y z u : D} {p : Addr} {neg : Bool} {ns : List Int}
theorem deref_ref (h : O p = some (.lst xs)) : deref O (.ref p) = .lst xs := by simp only [deref, h]
theorem deref_tup : deref O (.tup xs) = .tup xs := rfl
theorem deref_lst : deref O (.lst xs) = .lst xs := rfl
theorem deref_int : deref O (.int i) = .int i := rfl
theorem deref_str : deref O (.str a) = .str a := rfl
theorem deref_bl {k : Bool} : deref O (.bl k) = .bl k := rfl
theorem deref_non : deref O .non = .non := rfl
theorem deref_scr : deref O (.scr ns) = .scr ns := rfl
theorem rLt_i : rLtD (.int i) (.int j) O Q = Q (.bl (decide (i < j))) O := rfl
theorem rLt_s : rLtD (.str a) (.str b) O Q = Q (.bl (decide (a.cps.toList < b.cps.toList))) O := rfl
theorem rLe_i : rLeD (.int i) (.int j) O Q = Q (.bl (decide (i ≤ j))) O := rfl
theorem rLe_s : rLeD (.str a) (.str b) O Q = Q (.bl (!decide (b.cps.toList < a.cps.toList))) O := rfl
theorem rInts_i {C : Int → Int → Prop} {f : Int → Int → D} : rInts C f (.int i) (.int j) O Q = (C i j ∧ Q (f i j) O) := rfl
theorem rInts0_i {f : Int → Int → D} : rInts0 f (.int i) (.int j) O Q = Q (f i j) O := rfl
theorem rAdd_i : rAddD (.int i) (.int j) O Q = Q (.int (i + j)) O := rfl
theorem rAdd_s : rAddD (.str a) (.str b) O Q = (a.length + b.length ≤ sizeLine ∧ Q (.str (a ++ b)) O) := rfl
theorem rAdd_l : rAddD (.lst xs) (.lst ys) O Q = (xs.length + ys.length ≤ sizeLine ∧ Q (.lst (xs ++ ys)) O) := rfl
theorem rAdd_t : rAddD (.tup xs) (.tup ys) O Q = (xs ≠ [] ∧ xs.length + ys.length ≤ sizeLine ∧ Q (.tup (xs ++ ys)) O) := rfl
theorem rCatO_l : rCatO (.lst xs) (.lst ys) O Q = (xs.length + ys.length ≤ sizeLine ∧ ∀ p, O p = none → Q (.ref p) (updO O p (.lst (xs ++ ys)))) := rfl
theorem rNeg_i : rNeg (.int i) O Q = Q (.int (-i)) O := rfl
theorem rLen_t : rLenD [.tup xs] O Q = Q (.int xs.length) O := rfl
theorem rLen_l : rLenD [.lst xs] O Q = Q (.int xs.length) O := rfl
theorem rLen_c : rLenD [.scr ns] O Q = Q (.int ns.length) O := rfl
theorem rLen_s : rLenD [.str a] O Q = (a.length ≤ sizeLine ∧ Q (.int a.length) O) := rfl
theorem rLen_r (h : O p = some (.lst xs)) : rLenD [.ref p] O Q = Q (.int xs.length) O := by simp only [rLenD, deref, h]
theorem rMax_i : rMax2 [.int i, .int j] O Q = Q (.int (if j > i then j else i)) O := rfl
theorem rMin_i : rMin2 [.int i, .int j] O Q = Q (.int (if j < i then j else i)) O := rfl
theorem rDivmod_i : rDivmod [.int i, .int j] O Q = (CDv i j ∧ Q (.tup [.int (i / j), .int (i % j)]) O) := rfl
theorem rInt_i : rInt1 [.int i] O Q = Q (.int i) O := rfl
theorem rInt_b {k : Bool} : rInt1 [.bl k] O Q = Q (.int (if k then 1 else 0)) O := rfl
theorem rStr_i : rStr1 [.int i] O Q = (i.natAbs.log2 < 1920 ∧ Q (.str (toString i)) O) := rfl
theorem rList_l : rList1 [.lst xs] O Q = Q (.lst xs) O := rfl
theorem rList_t : rList1 [.tup xs] O Q = Q (.lst xs) O := rfl
theorem rListO_l : rList1O [.lst xs] O Q = ∀ p, O p = none → Q (.ref p) (updO O p (.lst xs)) := rfl
theorem rListO_t : rList1O [.tup xs] O Q = ∀ p, O p = none → Q (.ref p) (updO O p (.lst xs)) := rfl
theorem rTup_l : rTup1 [.lst xs] O Q = Q (.tup xs) O := rfl
theorem rTup_t : rTup1 [.tup xs] O Q = Q (.tup xs) O := rfl
theorem ixC0 {α : Type} (x : α) (r : List α) : atI (x :: r) 0 = some x := by
  have := atI_nat (xs := x :: r) (j := 0) (v := x) rfl
  simpa using this
theorem ixC1 {α : Type} (x y : α) (r : List α) : atI (x :: y :: r) 1 = some y := by
  have := atI_nat (xs := x :: y :: r) (j := 1) (v := y) rfl
  simpa using this
theorem ixC2 {α : Type} (x y z : α) (r : List α) : atI (x :: y :: z :: r) 2 = some z := by
  have := atI_nat (xs := x :: y :: z :: r) (j := 2) (v := z) rfl
  simpa using this
theorem ixC3 {α : Type} (x y z u : α) (r : List α) : atI (x :: y :: z :: u :: r) 3 = some u := by
  have := atI_nat (xs := x :: y :: z :: u :: r) (j := 3) (v := u) rfl
  simpa using this
theorem rIx_t (h : atI xs i = some d) : rIxD (.tup xs) (.int i) O Q = Q d O := by simp only [rIxD, deref, h]
theorem rIx_l (h : atI xs i = some d) : rIxD (.lst xs) (.int i) O Q = Q d O := by simp only [rIxD, deref, h]
theorem rIx_c {n : Int} (h : atI ns i = some n) : rIxD (.scr ns) (.int i) O Q = Q (.int n) O := by simp only [rIxD, deref, h]
theorem rIx_t0 : rIxD (.tup (x :: xs)) (.int 0) O Q = Q x O := rIx_t (ixC0 _ _)
theorem rIx_t1 : rIxD (.tup (x :: y :: xs)) (.int 1) O Q = Q y O := rIx_t (ixC1 _ _ _)
theorem rIx_t2 : rIxD (.tup (x :: y :: z :: xs)) (.int 2) O Q = Q z O := rIx_t (ixC2 _ _ _ _)
theorem rIx_t3 : rIxD (.tup (x :: y :: z :: u :: xs)) (.int 3) O Q = Q u O := rIx_t (ixC3 _ _ _ _ _)
theorem rIx_l0 : rIxD (.lst (x :: xs)) (.int 0) O Q = Q x O := rIx_l (ixC0 _ _)
theorem rIx_l1 : rIxD (.lst (x :: y :: xs)) (.int 1) O Q = Q y O := rIx_l (ixC1 _ _ _)
theorem rIx_l2 : rIxD (.lst (x :: y :: z :: xs)) (.int 2) O Q = Q z O := rIx_l (ixC2 _ _ _ _)
theorem rIx_p0 (h : O p = some .pool) : rIxD (.ref p) (.int 0) O Q = ∀ x : Int, 0 ≤ x → Q (.int x) O := by
  simp only [rIxD, deref, h]; simp
theorem rIx_p1 (h : O p = some .pool) : rIxD (.ref p) (.int 1) O Q = ∀ x : Int, 0 ≤ x → x < 2147483647 → Q (.int x) O := by
  simp only [rIxD, deref, h]; simp
theorem rIsN_x : rIsN neg x .non O Q = Q (.bl (neg ^^ isNon x)) O := rfl
theorem isNon_t : isNon (.tup xs) = false := rfl
theorem isNon_n : isNon .non = true := rfl
theorem isNon_i : isNon (.int i) = false := rfl
theorem isNon_s : isNon (.str a) = false := rfl
theorem isNon_l : isNon (.lst xs) = false := rfl
/-! == -/
/-- == of data -/
def deq (x y : D) : Bool := PyData.eqv (toPy x) (toPy y)
def deqs (xs ys : List D) : Bool := PyData.eqvAll (toPys xs) (toPys ys)
theorem deq_t : deq (.tup xs) (.tup ys) = deqs xs ys := by simp only [deq, toPy, PyData.eqv, deqs]
theorem deq_l : deq (.lst xs) (.lst ys) = deqs xs ys := by simp only [deq, toPy, PyData.eqv, deqs]
theorem deq_ts : deq (.tup xs) (.str a) = false := by simp only [deq, toPy, PyData.eqv]
theorem deq_st : deq (.str a) (.tup xs) = false := by simp only [deq, toPy, PyData.eqv]
theorem deq_ls : deq (.lst xs) (.str a) = false := by simp only [deq, toPy, PyData.eqv]
theorem deq_sl : deq (.str a) (.lst xs) = false := by simp only [deq, toPy, PyData.eqv]
theorem deq_ti : deq (.tup xs) (.int i) = false := by simp only [deq, toPy, PyData.eqv]
theorem str_beq (a b : Str) : (a == b) = decide (a = b) := by
  by_cases h : a = b
  · subst h; simp
  · rw [decide_eq_false h]; exact beq_eq_false_iff_ne.mpr h
theorem deq_s : deq (.str a) (.str b) = decide (a = b) := by simp only [deq, toPy, PyData.eqv, str_beq]
theorem deq_i : deq (.int i) (.int j) = decide (i = j) := by simp only [deq, toPy, PyData.eqv, Bool.beq_eq_decide_eq]
theorem deq_b {k l : Bool} : deq (.bl k) (.bl l) = decide (k = l) := by simp only [deq, toPy, PyData.eqv, Bool.beq_eq_decide_eq]
theorem deqs_nn : deqs [] [] = true := by simp only [deqs, toPys, PyData.eqvAll]
theorem deqs_nc : deqs [] (y :: ys) = false := by simp only [deqs, toPys, PyData.eqvAll]
theorem deqs_cn : deqs (x :: xs) [] = false := by simp only [deqs, toPys, PyData.eqvAll]
theorem deqs_cc : deqs (x :: xs) (y :: ys) = (deq x y && deqs xs ys) := by simp only [deqs, deq, toPys, PyData.eqvAll]
/-- == at data read through: what is asked, what is answered -/
theorem rEq_dd (hx : isPy (ddf O 192 x) = true) (hy : isPy (ddf O 192 y) = true) (hd : dp (ddf O 192 x) ≤ 190) : rEqD neg x y O Q = Q (.bl (neg ^^ deq (ddf O 192 x) (ddf O 192 y))) O := by
  have hm : min (dp (ddf O 192 x)) (dp (ddf O 192 y)) ≤ 190 := Nat.le_trans (Nat.min_le_left _ _) hd
  simp only [rEqD, hx, hy, hm, deq, true_and]
/-- .. where the right one is flat -/
theorem rEq_dr (hx : isPy (deref O x) = true) (hy : isPy (deref O y) = true) (hd : dp (deref O y) ≤ 190) : rEqD neg x y O Q = Q (.bl (neg ^^ deq (deref O x) (deref O y))) O := by
  have ex : ddf O 192 x = deref O x := ddf_deref hx
  have ey : ddf O 192 y = deref O y := ddf_deref hy
  have hm : min (dp (deref O x)) (dp (deref O y)) ≤ 190 := Nat.le_trans (Nat.min_le_right _ _) hd
  simp only [rEqD, ex, ey, hx, hy, hm, deq, true_and]
/-- == at data: what is asked, what is answered -/
theorem rEq_d (hx : isPy (deref O x) = true) (hy : isPy (deref O y) = true) (hd : dp (deref O x) ≤ 190) : rEqD neg x y O Q = Q (.bl (neg ^^ deq (deref O x) (deref O y))) O := by
  have ex : ddf O 192 x = deref O x := ddf_deref hx
  have ey : ddf O 192 y = deref O y := ddf_deref hy
  rw [rEq_dd (by rw [ex]; exact hx) (by rw [ey]; exact hy) (by rw [ex]; exact hd), ex, ey]
theorem rEq_i : rEqD neg (.int i) (.int j) O Q = Q (.bl (neg ^^ decide (i = j))) O := by
  rw [rEq_d (by simp only [deref, isPy]) (by simp only [deref, isPy]) (by simp [deref, dp, toPy, PyData.depth]), deref_int, deref_int, deq_i]
theorem rEq_b {k l : Bool} : rEqD neg (.bl k) (.bl l) O Q = Q (.bl (neg ^^ decide (k = l))) O := by
  rw [rEq_d (by simp only [deref, isPy]) (by simp only [deref, isPy]) (by simp [deref, dp, toPy, PyData.depth]), deref_bl, deref_bl, deq_b]
theorem rEq_s (h1 : PyData.strOk a = true) (h2 : PyData.strOk b = true) : rEqD neg (.str a) (.str b) O Q = Q (.bl (neg ^^ decide (a = b))) O := by
  rw [rEq_d (by simpa only [deref, isPy] using h1) (by simpa only [deref, isPy] using h2) (by simp [deref, dp, toPy, PyData.depth]), deref_str, deref_str, deq_s]
theorem rApp_r (h : O p = some (.lst xs)) : rAppendD (.ref p) [y] O Q = (xs.length < sizeLine ∧ Q .non (updO O p (.lst (xs ++ [y])))) := by simp only [rAppendD, h]
theorem rExt_r (h : O p = some (.lst xs)) (h' : deref O y = .lst ys) : rExtendD (.ref p) [y] O Q = (xs.length + ys.length ≤ sizeLine ∧ Q .non (updO O p (.lst (xs ++ ys)))) := by simp only [rExtendD, h, h']
theorem tyOk_r (h : O p = some (.lst xs)) : tyOk "list" O (.ref p) = true := by simp [tyOk, tyNm, h]
theorem tyOk_l : tyOk "list" O (.lst xs) = true := rfl
theorem tyOk_s : tyOk "str" O (.str a) = true := rfl
theorem rPool_i : rPool [.int i, .int j] O Q = (0 ≤ i ∧ 0 ≤ j ∧ j < 2147483647 ∧ ∀ p, O p = none → Q (.ref p) (updO O p .pool)) := rfl
theorem rSet_p0 {N : Ow → Prop} (h : O p = some .pool) : rSetD (.ref p) (.int 0) (.int i) O N = (0 ≤ i ∧ N O) := by
  simp only [rSetD, h]; simp
theorem rSet_p1 {N : Ow → Prop} (h : O p = some .pool) : rSetD (.ref p) (.int 1) (.int i) O N = ((0 ≤ i ∧ i < 2147483647) ∧ N O) := by
  simp only [rSetD, h]; simp
end
theorem sz_small {n : Nat} (h : n ≤ 1000000) : n ≤ sizeLine := by have := sizeLine_eq; omega
theorem notX {b : Bool} : (true ^^ b) = !b := Bool.true_xor b
theorem notX' {b : Bool} : (false ^^ b) = b := Bool.false_xor b
/-- patterns -/
theorem patD_nm {i : Nat} {d : D} {ρ : DEnv} : patD (.nm i) d ρ = some (ρ.set i (some d)) := by simp only [patD]
theorem patD_tp {ps : List Pat} {ds : List D} {ρ : DEnv} : patD (.tp ps) (.tup ds) ρ = patDs ps ds ρ := by simp only [patD]
theorem patDs_nil {ρ : DEnv} : patDs [] [] ρ = some ρ := by simp only [patDs]
theorem patDs_cons {p : Pat} {ps : List Pat} {d : D} {ds : List D} {ρ : DEnv} : patDs (p :: ps) (d :: ds) ρ = (patD p d ρ).bind (patDs ps ds) := by simp only [patDs]
/-- a walk that keeps a word -/
theorem forD_inv {p : Pat} {gb : GS} {R : DEnds} (I : DEnv → Ow → Prop) : ∀ (ds : List D) (ρ : DEnv) (O : Ow), I ρ O → (∀ ρ O, I ρ O → R.nx ρ O) →
    (∀ d ∈ ds, ∀ ρ O, I ρ O → ∀ N, (∀ ρ O, I ρ O → N ρ O) → patGet (patD p d ρ) fun ρ1 => gb { R with nx := N, ct := N, bk := R.nx } ρ1 O) → forD p gb R ds ρ O
  | [], ρ, O, h, hd, _ => hd ρ O h
  | d :: ds, ρ, O, h, hd, hs => by
    have q := hs d List.mem_cons_self ρ O h (forD p gb R ds) fun ρ' O' h' => forD_inv I ds ρ' O' h' hd fun d' hm => hs d' (List.mem_cons_of_mem _ hm)
    unfold forD
    exact q

theorem isi_i_int {i : Int} {O : Ow} {Q : VD} : rIsiD [(.int i), .ty "int"] O Q = Q (.bl true) O := by simp [rIsiD, insCl, insTy, tyNm, insOf]
theorem isi_i_bool {i : Int} {O : Ow} {Q : VD} : rIsiD [(.int i), .ty "bool"] O Q = Q (.bl false) O := by simp [rIsiD, insCl, insTy, tyNm, insOf]
theorem isi_i_str {i : Int} {O : Ow} {Q : VD} : rIsiD [(.int i), .ty "str"] O Q = Q (.bl false) O := by simp [rIsiD, insCl, insTy, tyNm, insOf]
theorem isi_i_tuple {i : Int} {O : Ow} {Q : VD} : rIsiD [(.int i), .ty "tuple"] O Q = Q (.bl false) O := by simp [rIsiD, insCl, insTy, tyNm, insOf]
theorem isi_i_list {i : Int} {O : Ow} {Q : VD} : rIsiD [(.int i), .ty "list"] O Q = Q (.bl false) O := by simp [rIsiD, insCl, insTy, tyNm, insOf]
theorem isi_i_dict {i : Int} {O : Ow} {Q : VD} : rIsiD [(.int i), .ty "dict"] O Q = Q (.bl false) O := by simp [rIsiD, insCl, insTy, tyNm, insOf]
theorem isi_b_int {k : Bool} {O : Ow} {Q : VD} : rIsiD [(.bl k), .ty "int"] O Q = Q (.bl true) O := by simp [rIsiD, insCl, insTy, tyNm, insOf]
theorem isi_b_bool {k : Bool} {O : Ow} {Q : VD} : rIsiD [(.bl k), .ty "bool"] O Q = Q (.bl true) O := by simp [rIsiD, insCl, insTy, tyNm, insOf]
theorem isi_b_str {k : Bool} {O : Ow} {Q : VD} : rIsiD [(.bl k), .ty "str"] O Q = Q (.bl false) O := by simp [rIsiD, insCl, insTy, tyNm, insOf]
theorem isi_b_tuple {k : Bool} {O : Ow} {Q : VD} : rIsiD [(.bl k), .ty "tuple"] O Q = Q (.bl false) O := by simp [rIsiD, insCl, insTy, tyNm, insOf]
theorem isi_b_list {k : Bool} {O : Ow} {Q : VD} : rIsiD [(.bl k), .ty "list"] O Q = Q (.bl false) O := by simp [rIsiD, insCl, insTy, tyNm, insOf]
theorem isi_b_dict {k : Bool} {O : Ow} {Q : VD} : rIsiD [(.bl k), .ty "dict"] O Q = Q (.bl false) O := by simp [rIsiD, insCl, insTy, tyNm, insOf]
theorem isi_s_int {a : Str} {O : Ow} {Q : VD} : rIsiD [(.str a), .ty "int"] O Q = Q (.bl false) O := by simp [rIsiD, insCl, insTy, tyNm, insOf]
theorem isi_s_bool {a : Str} {O : Ow} {Q : VD} : rIsiD [(.str a), .ty "bool"] O Q = Q (.bl false) O := by simp [rIsiD, insCl, insTy, tyNm, insOf]
theorem isi_s_str {a : Str} {O : Ow} {Q : VD} : rIsiD [(.str a), .ty "str"] O Q = Q (.bl true) O := by simp [rIsiD, insCl, insTy, tyNm, insOf]
theorem isi_s_tuple {a : Str} {O : Ow} {Q : VD} : rIsiD [(.str a), .ty "tuple"] O Q = Q (.bl false) O := by simp [rIsiD, insCl, insTy, tyNm, insOf]
theorem isi_s_list {a : Str} {O : Ow} {Q : VD} : rIsiD [(.str a), .ty "list"] O Q = Q (.bl false) O := by simp [rIsiD, insCl, insTy, tyNm, insOf]
theorem isi_s_dict {a : Str} {O : Ow} {Q : VD} : rIsiD [(.str a), .ty "dict"] O Q = Q (.bl false) O := by simp [rIsiD, insCl, insTy, tyNm, insOf]
theorem isi_t_int {xs : List D} {O : Ow} {Q : VD} : rIsiD [(.tup xs), .ty "int"] O Q = Q (.bl false) O := by simp [rIsiD, insCl, insTy, tyNm, insOf]
theorem isi_t_bool {xs : List D} {O : Ow} {Q : VD} : rIsiD [(.tup xs), .ty "bool"] O Q = Q (.bl false) O := by simp [rIsiD, insCl, insTy, tyNm, insOf]
theorem isi_t_str {xs : List D} {O : Ow} {Q : VD} : rIsiD [(.tup xs), .ty "str"] O Q = Q (.bl false) O := by simp [rIsiD, insCl, insTy, tyNm, insOf]
theorem isi_t_tuple {xs : List D} {O : Ow} {Q : VD} : rIsiD [(.tup xs), .ty "tuple"] O Q = Q (.bl true) O := by simp [rIsiD, insCl, insTy, tyNm, insOf]
theorem isi_t_list {xs : List D} {O : Ow} {Q : VD} : rIsiD [(.tup xs), .ty "list"] O Q = Q (.bl false) O := by simp [rIsiD, insCl, insTy, tyNm, insOf]
theorem isi_t_dict {xs : List D} {O : Ow} {Q : VD} : rIsiD [(.tup xs), .ty "dict"] O Q = Q (.bl false) O := by simp [rIsiD, insCl, insTy, tyNm, insOf]
theorem isi_l_int {xs : List D} {O : Ow} {Q : VD} : rIsiD [(.lst xs), .ty "int"] O Q = Q (.bl false) O := by simp [rIsiD, insCl, insTy, tyNm, insOf]
theorem isi_l_bool {xs : List D} {O : Ow} {Q : VD} : rIsiD [(.lst xs), .ty "bool"] O Q = Q (.bl false) O := by simp [rIsiD, insCl, insTy, tyNm, insOf]
theorem isi_l_str {xs : List D} {O : Ow} {Q : VD} : rIsiD [(.lst xs), .ty "str"] O Q = Q (.bl false) O := by simp [rIsiD, insCl, insTy, tyNm, insOf]
theorem isi_l_tuple {xs : List D} {O : Ow} {Q : VD} : rIsiD [(.lst xs), .ty "tuple"] O Q = Q (.bl false) O := by simp [rIsiD, insCl, insTy, tyNm, insOf]
theorem isi_l_list {xs : List D} {O : Ow} {Q : VD} : rIsiD [(.lst xs), .ty "list"] O Q = Q (.bl true) O := by simp [rIsiD, insCl, insTy, tyNm, insOf]
theorem isi_l_dict {xs : List D} {O : Ow} {Q : VD} : rIsiD [(.lst xs), .ty "dict"] O Q = Q (.bl false) O := by simp [rIsiD, insCl, insTy, tyNm, insOf]
theorem isi_n_int  {O : Ow} {Q : VD} : rIsiD [.non, .ty "int"] O Q = Q (.bl false) O := by simp [rIsiD, insCl, insTy, tyNm, insOf]
theorem isi_n_bool  {O : Ow} {Q : VD} : rIsiD [.non, .ty "bool"] O Q = Q (.bl false) O := by simp [rIsiD, insCl, insTy, tyNm, insOf]
theorem isi_n_str  {O : Ow} {Q : VD} : rIsiD [.non, .ty "str"] O Q = Q (.bl false) O := by simp [rIsiD, insCl, insTy, tyNm, insOf]
theorem isi_n_tuple  {O : Ow} {Q : VD} : rIsiD [.non, .ty "tuple"] O Q = Q (.bl false) O := by simp [rIsiD, insCl, insTy, tyNm, insOf]
theorem isi_n_list  {O : Ow} {Q : VD} : rIsiD [.non, .ty "list"] O Q = Q (.bl false) O := by simp [rIsiD, insCl, insTy, tyNm, insOf]
theorem isi_n_dict  {O : Ow} {Q : VD} : rIsiD [.non, .ty "dict"] O Q = Q (.bl false) O := by simp [rIsiD, insCl, insTy, tyNm, insOf]
theorem isi_d_int  {O : Ow} {Q : VD} : rIsiD [.edic, .ty "int"] O Q = Q (.bl false) O := by simp [rIsiD, insCl, insTy, tyNm, insOf]
theorem isi_d_bool  {O : Ow} {Q : VD} : rIsiD [.edic, .ty "bool"] O Q = Q (.bl false) O := by simp [rIsiD, insCl, insTy, tyNm, insOf]
theorem isi_d_str  {O : Ow} {Q : VD} : rIsiD [.edic, .ty "str"] O Q = Q (.bl false) O := by simp [rIsiD, insCl, insTy, tyNm, insOf]
theorem isi_d_tuple  {O : Ow} {Q : VD} : rIsiD [.edic, .ty "tuple"] O Q = Q (.bl false) O := by simp [rIsiD, insCl, insTy, tyNm, insOf]
theorem isi_d_list  {O : Ow} {Q : VD} : rIsiD [.edic, .ty "list"] O Q = Q (.bl false) O := by simp [rIsiD, insCl, insTy, tyNm, insOf]
theorem isi_d_dict  {O : Ow} {Q : VD} : rIsiD [.edic, .ty "dict"] O Q = Q (.bl true) O := by simp [rIsiD, insCl, insTy, tyNm, insOf]
theorem isi_r_list {p : Addr} {xs : List D} {O : Ow} {Q : VD} (h : O p = some (.lst xs)) : rIsiD [.ref p, .ty "list"] O Q = Q (.bl true) O := by simp [rIsiD, insCl, insTy, tyNm, insOf, h]
end Kf
namespace Kf
open PySem PySem.Spec L2
open PyProof.Rows hiding St
variable {M : MX}

/-! ### kinds -/
inductive Kd where
  | mk (m : Str) | one | to (a b : Kd) | both (a b : Kd)
  deriving DecidableEq, Inhabited
def dK : Kd → D
  | .mk m => .tup [.str "mark", .str m]
  | .one => .tup [.str "one"]
  | .to a b => .tup [.str "to", dK a, dK b]
  | .both a b => .tup [.str "both", dK a, dK b]
def Kd.leaves : Kd → Nat
  | .mk _ => 1
  | .one => 1
  | .to a b => a.leaves + b.leaves
  | .both a b => a.leaves + b.leaves
def Kd.depth : Kd → Nat
  | .mk _ => 0
  | .one => 0
  | .to a b => max a.depth b.depth + 1
  | .both a b => max a.depth b.depth + 1
theorem Kd.depth_lt : ∀ k : Kd, k.depth < k.leaves
  | .mk _ => by simp [depth, leaves]
  | .one => by simp [depth, leaves]
  | .to a b => by have := a.depth_lt; have := b.depth_lt; simp only [depth, leaves]; omega
  | .both a b => by have := a.depth_lt; have := b.depth_lt; simp only [depth, leaves]; omega
def Kd.ok : Kd → Bool
  | .mk m => PyData.strOk m
  | .one => true
  | .to a b => a.ok && b.ok
  | .both a b => a.ok && b.ok
theorem so_mark : PyData.strOk "mark" = true := by decide +kernel
theorem so_one : PyData.strOk "one" = true := by decide +kernel
theorem so_to : PyData.strOk "to" = true := by decide +kernel
theorem so_both : PyData.strOk "both" = true := by decide +kernel
theorem isPy_dK : ∀ k : Kd, isPy (dK k) = k.ok
  | .mk m => by simp [dK, isPy, isPys, Kd.ok, so_mark]
  | .one => by simp [dK, isPy, isPys, Kd.ok, so_one]
  | .to a b => by simp [dK, isPy, isPys, Kd.ok, so_to, isPy_dK a, isPy_dK b]
  | .both a b => by simp [dK, isPy, isPys, Kd.ok, so_both, isPy_dK a, isPy_dK b]
theorem dpT (ds : List D) : dp (.tup ds) = PyData.depthAll (toPys ds) + 1 := by simp [dp, toPy, PyData.depth]
theorem dpL (ds : List D) : dp (.lst ds) = PyData.depthAll (toPys ds) + 1 := by simp [dp, toPy, PyData.depth]
theorem dpC (d : D) (ds : List D) : PyData.depthAll (toPys (d :: ds)) = max (dp d) (PyData.depthAll (toPys ds)) := by simp [dp, toPys, PyData.depthAll]
theorem dpN : PyData.depthAll (toPys []) = 0 := by simp [toPys, PyData.depthAll]
theorem dpS (x : Str) : dp (.str x) = 0 := by simp [dp, toPy, PyData.depth]
theorem dpI (x : Int) : dp (.int x) = 0 := by simp [dp, toPy, PyData.depth]
theorem dpB (x : Bool) : dp (.bl x) = 0 := by simp [dp, toPy, PyData.depth]
theorem dp_dK : ∀ k : Kd, dp (dK k) = k.depth + 1
  | .mk m => by simp [dK, dpT, dpC, dpN, dpS, Kd.depth]
  | .one => by simp [dK, dpT, dpC, dpN, dpS, Kd.depth]
  | .to a b => by simp [dK, dpT, dpC, dpN, dpS, Kd.depth, dp_dK a, dp_dK b]
  | .both a b => by simp [dK, dpT, dpC, dpN, dpS, Kd.depth, dp_dK a, dp_dK b]
theorem dps_le {n : Nat} : ∀ {ds : List D}, (∀ d ∈ ds, dp d ≤ n) → PyData.depthAll (toPys ds) ≤ n
  | [], _ => by rw [dpN]; omega
  | d :: ds, h => by
    rw [dpC]
    exact Nat.max_le.mpr ⟨h d List.mem_cons_self, dps_le fun e he => h e (List.mem_cons_of_mem _ he)⟩
theorem deref_dK {O : Ow} (k : Kd) : deref O (dK k) = dK k := by cases k <;> rfl
theorem sd_tb : decide (Str.ofString "to" = Str.ofString "both") = false := by decide +kernel
theorem sd_bt : decide (Str.ofString "both" = Str.ofString "to") = false := by decide +kernel
/-- == of kinds is = -/
theorem deq_K : ∀ a b : Kd, deq (dK a) (dK b) = decide (a = b) := by
  intro a
  induction a with
  | mk m => intro b; cases b <;> simp [dK, deq_t, deqs_cc, deqs_nn, deqs_nc, deqs_cn, deq_s]
  | one => intro b; cases b <;> simp [dK, deq_t, deqs_cc, deqs_nn, deqs_nc, deqs_cn, deq_s]
  | to a c ih1 ih2 =>
    intro b
    cases b with
    | both _ _ => simp only [dK, deq_t, deqs_cc, deq_s, sd_tb]; simp
    | _ => simp [dK, deq_t, deqs_cc, deqs_nn, deqs_nc, deqs_cn, deq_s, ih1, ih2]
  | both a c ih1 ih2 =>
    intro b
    cases b with
    | to _ _ => simp only [dK, deq_t, deqs_cc, deq_s, sd_bt]; simp
    | _ => simp [dK, deq_t, deqs_cc, deqs_nn, deqs_nc, deqs_cn, deq_s, ih1, ih2]
theorem rEq_K {neg : Bool} {a b : Kd} {O : Ow} {Q : VD} (ha : a.ok = true) (hb : b.ok = true) (hd : a.depth < 190) : rEqD neg (dK a) (dK b) O Q = Q (.bl (neg ^^ decide (a = b))) O := by
  rw [rEq_d (by rw [deref_dK, isPy_dK, ha]) (by rw [deref_dK, isPy_dK, hb]) (by rw [deref_dK, dp_dK]; omega), deref_dK, deref_dK, deq_K]
/-- == against the empty list -/
theorem deq_nil (xs : List D) : deq (.lst xs) (.lst []) = xs.isEmpty := by
  cases xs <;> simp [deq_l, deqs_nn, deqs_cn]
theorem rEq_nil {neg : Bool} {x : D} {xs : List D} {O : Ow} {Q : VD} (hx : deref O x = .lst xs) (h : isPys xs = true) (hd : dp (.lst xs) ≤ 190) : rEqD neg x (.lst []) O Q = Q (.bl (neg ^^ xs.isEmpty)) O := by
  rw [rEq_d (by rw [hx]; simpa only [isPy] using h) (by simp only [deref, isPy, isPys]) (by rw [hx]; exact hd), hx, deref_lst, deq_nil]
theorem rEq_nilA {neg : Bool} {x : D} {xs : List D} {O : Ow} {Q : VD} (hx : deref O x = .lst xs) (h : isPys xs = true) : rEqD neg x (.lst []) O Q = Q (.bl (neg ^^ xs.isEmpty)) O := by
  rw [rEq_dr (by rw [hx]; simpa only [isPy] using h) (by simp only [deref, isPy, isPys]) (by simp [deref, dp, toPy, toPys, PyData.depth, PyData.depthAll]), hx, deref_lst, deq_nil]
theorem rEq_i2 {neg : Bool} {a b c d : Int} {O : Ow} {Q : VD} : rEqD neg (.lst [.int a, .int b]) (.lst [.int c, .int d]) O Q = Q (.bl (neg ^^ (decide (a = c) && decide (b = d)))) O := by
  rw [rEq_d (by simp [deref, isPy, isPys]) (by simp [deref, isPy, isPys]) (by simp [deref, dpL, dpC, dpN, dpI])]
  simp [deref, deq_l, deqs_cc, deqs_nn, deq_i, deq_b]
theorem rEq_b2 {neg : Bool} {a b c d : Bool} {O : Ow} {Q : VD} : rEqD neg (.lst [.bl a, .bl b]) (.lst [.bl c, .bl d]) O Q = Q (.bl (neg ^^ (decide (a = c) && decide (b = d)))) O := by
  rw [rEq_d (by simp [deref, isPy, isPys]) (by simp [deref, isPy, isPys]) (by simp [deref, dpL, dpC, dpN, dpB])]
  simp [deref, deq_l, deqs_cc, deqs_nn, deq_i, deq_b]

/-! ### the law's pool -/
theorem atI_some {α : Type} {xs : List α} {k : Int} (h0 : 0 ≤ k) (h1 : k < xs.length) : ∃ v, atI xs k = some v ∧ v ∈ xs := by
  have hk : k.toNat < xs.length := by omega
  have e : k = ((k.toNat : Nat) : Int) := by omega
  have q : atI xs ((k.toNat : Nat) : Int) = some xs[k.toNat] := atI_nat (List.getElem?_eq_getElem hk)
  rw [← e] at q
  exact ⟨xs[k.toNat], q, List.getElem_mem hk⟩
theorem poolMod (x : Int) : 0 ≤ x % 2147483647 ∧ x % 2147483647 < 2147483647 := ⟨Int.emod_nonneg _ (by decide), Int.emod_lt_of_pos _ (by decide)⟩
theorem poolNum (c : Int) {k : Int} (h0 : 0 ≤ k) (h1 : k ≤ 1000) : CPow (c % 2147483629 + 104729 * k * k + 11) 3 := by
  have h2 : k * k ≤ 1000 * 1000 := Int.mul_le_mul h1 h1 h0 (by decide)
  have h3 : 0 ≤ k * k := Int.mul_nonneg h0 h0
  have h4 : 0 ≤ c % 2147483629 := Int.emod_nonneg _ (by decide)
  have h5 : c % 2147483629 < 2147483629 := Int.emod_lt_of_pos _ (by decide)
  refine ⟨by decide, by decide, ?_⟩
  rw [Int.mul_assoc]
  omega
def spPool : DSp := fun ds O R _ => ∃ (ns : List Int) (k : Int), ds = [.scr ns, .int k] ∧ 0 ≤ k ∧ k ≤ 1000 ∧ ∀ p, O p = none → R (.ref p) (updO O p .pool)
def spTake : DSp := fun ds O R _ => ∃ (p : Addr) (m : Int), ds = [.ref p, .int m] ∧ O p = some .pool ∧ 0 < m ∧ m < 1329227995784915872903807060280344576 ∧ ∀ r : Int, 0 ≤ r → r < m → R (.int r) O
theorem take_of {p : Addr} {m : Int} {O : Ow} {R : VD} {RE : XD} (hp : O p = some .pool) (h0 : 0 < m) (h1 : m < 1329227995784915872903807060280344576) (h : ∀ r : Int, 0 ≤ r → r < m → R (.int r) O) : spTake [.ref p, .int m] O R RE := ⟨p, m, rfl, hp, h0, h1, h⟩
theorem mem_rangeD {lo : Int} {n : Nat} {d : D} (h : d ∈ rangeD lo n) : ∃ i : Nat, i < n ∧ d = .int (lo + i) := by
  unfold rangeD at h
  obtain ⟨i, h1, rfl⟩ := List.mem_map.mp h
  exact ⟨i, List.mem_range.mp h1, rfl⟩
/-- the law's own loop: how often it goes -/
theorem rngBound (n N : Nat) (hN : N ≤ 1000) (h1 : 1 ≤ N) : (-2 ^ 62 ≤ if (if (N : Int) < n then (N : Int) else n) > 1 then if (N : Int) < n then (N : Int) else n else 1) ∧
    (if (if (N : Int) < n then (N : Int) else n) > 1 then if (N : Int) < n then (N : Int) else n else 1) < 2 ^ 62 ∧
    (if (if (N : Int) < n then (N : Int) else n) > 1 then if (N : Int) < n then (N : Int) else n else 1).toNat ≤ N := by
  refine ⟨?_, ?_, ?_⟩ <;> (repeat' split) <;> omega
end Kf
namespace Kf
open PySem PySem.Spec L2
open PyProof.Rows hiding St
variable {M : MX}

section
variable {X : Cx}
/-! ### more methods -/
def rJoinD : RMD := fun x ds O Q => match x, ds with
  | .str a, [y] => match deref O y with
    | .lst ys => match asStrs ys with
      | some ts => (ts.map (·.length)).sum + ts.length * a.length ≤ 16777216 ∧ Q (.str (Str.join a ts)) O
      | none => False
    | .tup ys => match asStrs ys with
      | some ts => (ts.map (·.length)).sum + ts.length * a.length ≤ 16777216 ∧ Q (.str (Str.join a ts)) O
      | none => False
    | _ => False
  | _, _ => False
theorem md_join : MtD M X "str.join" rJoinD := by
  refine mtD_of fun F P H O x xs dx ds R Q g r1 r2 q po => ?_
  unfold rJoinD at q
  split at q <;> first | exact q.elim | skip
  rename_i a y
  obtain ⟨v, rfl, r2'⟩ := r2.one'
  simp only [Rep] at r1
  subst r1
  have h2 := g.deref r2'
  revert q h2
  generalize Kf.deref O y = ey
  intro q h2
  cases ey <;> first | exact q.elim | skip
  · rename_i ys
    dsimp only at q
    cases e : asStrs ys with
    | none => rw [e] at q; exact q.elim
    | some ts =>
      rw [e] at q
      simp only [RepH, Rep] at h2
      obtain ⟨b, ws, rfl, h3, h4⟩ := h2
      rw [of_asStrs e] at h4
      have e3 := h4.strs
      subst e3
      exact ⟨_, mt_join, a, b, ts, rfl, rfl, .inr (Same.seqT g.fz h3), q.1, po.at g q.2 (by simp only [Rep]; rw [show Txt.join a ts = Str.join a ts from PySem.StrLaws.glued_eq_join a ts])⟩
  · rename_i ys
    dsimp only at q
    cases e : asStrs ys with
    | none => rw [e] at q; exact q.elim
    | some ts =>
      rw [e] at q
      obtain ⟨b, ws, rfl, h3, h4⟩ := h2
      rw [of_asStrs e] at h4
      have e3 := h4.strs
      subst e3
      exact ⟨_, mt_join, a, b, ts, rfl, rfl, .inl (SqL.of h3), q.1, po.at g q.2 (by simp only [Rep]; rw [show Txt.join a ts = Str.join a ts from PySem.StrLaws.glued_eq_join a ts])⟩
def rClearD : RMD := fun x ds O Q => match x, ds with
  | .ref a, [] => match O a with
    | some (.lst _) => Q .non (updO O a (.lst []))
    | _ => False
  | _, _ => False
theorem md_clear : MtD M X "list.clear" rClearD := by
  refine mtD_of fun F P H O x xs dx ds R Q g r1 r2 q po => ?_
  unfold rClearD at q
  split at q <;> first | exact q.elim | skip
  rename_i a
  simp only [RepAll] at r2
  simp only [Rep] at r1
  subst r1 r2
  cases e : O a with
  | none => rw [e] at q; exact q.elim
  | some c =>
    rw [e] at q
    cases c with
    | pool => exact q.elim
    | dic _ => exact q.elim
    | dicL _ _ => exact q.elim
    | exc _ _ => exact q.elim
    | ins _ _ => exact q.elim
    | dicT _ => exact q.elim
    | lst zs =>
      obtain ⟨_, _, vs, h1, h2⟩ := g.ow a _ e
      exact ⟨_, mt_clear, a, vs, rfl, rfl, h1, po .non _ F _ _ q (Same.refl _) (g.setO e ⟨_, upd_same, .nil⟩) (by simp only [Rep])⟩
def rSplitD : RMD := fun x ds O Q => match x, ds with
  | .str a, [.str b] => (b.length == 0) = false ∧ a.length + 2 ≤ sizeLine ∧ Q (.lst ((Txt.split a b).map .str)) O
  | _, _ => False
theorem md_split : MtD M X "str.split" rSplitD := by
  refine mtD_of fun F P H O x xs dx ds R Q g r1 r2 q po => ?_
  unfold rSplitD at q
  split at q <;> first | exact q.elim | skip
  rename_i a b
  obtain ⟨v, rfl, r2'⟩ := r2.one'
  simp only [Rep] at r1 r2'
  subst r1 r2'
  exact ⟨_, mt_split, a, b, rfl, rfl, q.1, q.2.1, fun p hp => po.lst g q.2.2 .of_strs hp⟩
end
section
variable {O : Ow} {Q : VD} {i j : Int} {a b : Str} {xs ys : List D} {d e x y z u : D} {p : Addr}
theorem rJoin_l {ts : List Str} (h : asStrs xs = some ts) : rJoinD (.str a) [.lst xs] O Q = ((ts.map (·.length)).sum + ts.length * a.length ≤ 16777216 ∧ Q (.str (Str.join a ts)) O) := by simp only [rJoinD, deref, h]
theorem rJoin_m {ts : List Str} : rJoinD (.str a) [.lst (ts.map .str)] O Q = ((ts.map (·.length)).sum + ts.length * a.length ≤ 16777216 ∧ Q (.str (Str.join a ts)) O) := rJoin_l (asStrs_map ts)
theorem rClear_r (h : O p = some (.lst xs)) : rClearD (.ref p) [] O Q = Q .non (updO O p (.lst [])) := by simp only [rClearD, h]
theorem rSplit_s : rSplitD (.str a) [.str b] O Q = ((b.length == 0) = false ∧ a.length + 2 ≤ sizeLine ∧ Q (.lst ((Txt.split a b).map .str)) O) := rfl
end
/-! ### walks -/
/-! ### what is owned may be forgotten -/
def Sub (O O' : Ow) : Prop := ∀ a c, O a = some c → O' a = some c
theorem Sub.refl (O : Ow) : Sub O O := fun _ _ h => h
theorem Sub.trans {O O1 O2 : Ow} (a : Sub O O1) (b : Sub O1 O2) : Sub O O2 := fun p c h => b p c (a p c h)
theorem sub_upd {O : Ow} {p : Addr} {c : Cell} (h : O p = none) : Sub O (updO O p c) := fun a d e => by
  have ne : a ≠ p := fun q => by rw [q, h] at e; cases e
  rw [updO_ne ne]; exact e
theorem Gd.sub {K : PySem.W.Frag} {F P H : Hp} {O O' : Ow} (g : Gd M K F O' P H) (s : Sub O O') : Gd M K F O P H := ⟨g.fz, fun a c e => g.ow a c (s a c e), g.as, g.rl, g.nt⟩
/-- at the end what is owned besides is forgotten -/
def VG (R : VD) : VD := fun d O' => ∃ O, Sub O O' ∧ R d O
section
variable {P : Program} {w : World} {K : PySem.W.Frag} {mg : Str → Option Value} {base : Heap}
theorem fn_dG {x qual : Str} {st : Stmt} {f : Addr} {fd : FuncData} {N ps : List Str} {k : Nat} {dsp : DSp} {g : GS} (F : Fun K x qual st f fd) (S : FnScope N ps (defScope st)) (len : ∀ ds O R RE, dsp ds O R RE → ds.length = ps.length)
    (hder : ∀ (cdv : Value) (A : Around) (outer : List Env) (s : Shared) (H : Hp) (E : XK), Room k (A.deeper (envOfC qual (defScope st) s.heap.objs.size f cdv)) →
      DSs MT (cxOf CX0 P w K mg base N qual (defScope st) f cdv A outer s H E).nox (defBody st) g)
    (hread : ∀ ds O R RE, dsp ds O R RE → g { nx := fun _ O' => VG R .non O', rt := VG R } (startD N ds) O) : FnOk P w K mg base CX0 (k + 1) f fd ps (liftSp K dsp) := by
  refine F.ok S (fun vs H Q E h => ?_) fun cdv A outer s H vs Q E hr h => ?_
  · obtain ⟨F, O, P, ds, R, RE, g, r, q, _⟩ := h
    rw [← r.length]; exact len ds O R RE q
  · obtain ⟨F, O, P, ds, R, RE, gd, r, q, po, _⟩ := h
    refine ⟨_, hder cdv A outer s H E hr, F, O, P, startD N ds, { nx := fun _ O' => VG R .non O', rt := VG R }, gd, ?_, hread ds O R RE q, ⟨fun ρ O' F' H' σ q1 s1 g1 _ => ?_, fun d O' F' H' v q1 s1 g1 r1 => ?_, fun _ _ _ _ _ z => z.elim, fun _ _ _ _ _ z => z.elim⟩⟩
    · unfold startD L2.start
      rw [r.length]
      exact envOk_start _ r
    · obtain ⟨O2, s2, q2⟩ := q1
      exact po .non O2 F' H' .non q2 s1 (g1.sub s2) (by simp only [Rep])
    · obtain ⟨O2, s2, q2⟩ := q1
      exact po d O2 F' H' v q2 s1 (g1.sub s2) r1
end
theorem VG.at {R : VD} {d : D} {O : Ow} (h : R d O) : VG R d O := ⟨O, Sub.refl _, h⟩
theorem VG.up {R : VD} {d : D} {O : Ow} {p : Addr} {c : Cell} (h : O p = none) (q : R d O) : VG R d (updO O p c) := ⟨O, sub_upd h, q⟩
theorem rSl_l {xs : List D} {lo hi : Option Int} {O : Ow} {Q : VD} : rSlD (.lst xs) lo hi O Q = Q (.lst (cut xs lo hi)) O := rfl
end Kf
namespace Kf
open PySem PySem.Spec L2
open PyProof.Rows hiding St
variable {M : MX}
/-! ### t < u of pairs (a number, a truth) -/
section
variable {X : Cx}
end
end Kf
namespace Kf
open PySem PySem.Spec L2
open PyProof.Rows hiding St
variable {M : MX}

/-! ### exceptions: what is wished of one, over data -/
abbrev XW := Value → Option (List (Str × D)) → DEnv → Ow → Prop
def PostW (K : PySem.W.Frag) (F P : Hp) (RX : XW) (W : WX) : Prop := ∀ cls fs ρ O' F' H' dd σ, RX cls fs ρ O' → Same F F' → Gd MT K F' O' P H' → XdOk K F' H' fs dd → EnvOk K F' ρ σ → W cls dd σ H'
def mxw (K : PySem.W.Frag) (RX : XW) (W : WX) : MX where
  rel F P := ∃ P0, Same P0 P ∧ PostW K F P0 RX W
  mono := fun ⟨P0, s0, po⟩ s s' => ⟨P0, s0.trans s', fun cls fs ρ O' F' H' dd σ q s2 => po cls fs ρ O' F' H' dd σ q (s.trans s2)⟩
theorem Gd.wish {K : PySem.W.Frag} {F P H : Hp} {O : Ow} {RX : XW} {W : WX} {cls : Value} {fs : Option (List (Str × D))} {ρ : DEnv} {dd : Option Addr} {σ : L2.St}
    (g : Gd (mxw K RX W) K F O P H) (q : RX cls fs ρ O) (x : XdOk K F H fs dd) (en : EnvOk K F ρ σ) : W cls dd σ H := by
  obtain ⟨P0, s0, po⟩ := g.rl
  exact po cls fs ρ O F H dd σ q (Same.refl _) (g.mt.less s0) x en
/-- of nothing -/
abbrev RX0 : XW := fun _ _ _ _ => False

/-- an own class of exceptions without an __init__ of its own -/
structure ExN (K : PySem.W.Frag) (mg : Str → Option Value) (x : Str) (C : Addr) : Prop where
  g : mg x = some (.ref C)
  ex : PySem.W.excIn K C [.type "ValueError", .type "Exception", .type "BaseException", .type "object"] "ValueError.__new__" = true
  kp : PySem.W.keepIn K (.ref C) = true
  sb : PySem.W.subIn K (.ref C) (.type "BaseException") = some true
  ty : PySem.W.typeIn K (.ref C) = some (.type "type")

section
variable {X : Cx} {RX : XW} {W : WX} {x m : Str} {C : Addr} {j : Nat} {p p2 pos pos' : Pos}
def gRaise (RX : XW) (cls : Value) : GS := fun _ ρ O => RX cls none ρ O
theorem ds_raise (N : ExN X.K X.mg x C) (hc : X.calm = true) (tk : Takes X W) (hg : Gl X x) (hdb : (x == ("__debug__" : Str)) = false := by decide) :
    DS (mxw X.K RX W) X (.Raise (some (.Call (.Name x p) [.Constant (.str m) j p2] [] pos)) none pos') (gRaise RX (.ref C)) :=
  psMono (ps_raise hc tk (pmk_own PySem.F.excBase_ValueError N.ex N.g N.kp (raises_own N.sb N.ty) hg hdb)) fun D σ H h => by
    obtain ⟨F, O, P, ρ, R, g, en, q, po⟩ := h
    exact g.wish q rfl en
end
section
variable {X : Cx} {RX : XW} {W : WX} {e : Expr} {es : List Expr} {fr : FA} {k : Nat} {f : Addr} {fd : FuncData} {ps : List Str} {dsp : DSp} {x : Str} {st : Stmt} {p pos : Pos}
/-- a call that may raise -/
def fCallX (dsp : DSp) (RX : XW) (fr : FA) : FE := fun ρ O Q => fr ρ O fun ds O1 => dsp ds O1 Q fun cls fs O' => RX cls fs ρ O'
end
section
variable {P : Program} {w : World} {K : PySem.W.Frag} {mg : Str → Option Value} {base : Heap}
/-- at the end what is owned besides is forgotten -/
def XG (RE : XD) : XW := fun cls fs _ O' => ∃ O, Sub O O' ∧ RE cls fs O
/-- a def that may raise, by its reading -/
theorem fn_dX {x qual : Str} {st : Stmt} {f : Addr} {fd : FuncData} {N ps : List Str} {k : Nat} {dsp : DSp} {g : XW → GS} (F : Fun K x qual st f fd) (S : FnScope N ps (defScope st)) (len : ∀ ds O R RE, dsp ds O R RE → ds.length = ps.length)
    (hder : ∀ (RX : XW) (W : WX) (cdv : Value) (A : Around) (outer : List Env) (s : Shared) (H : Hp) (E : XK), Takes (cxOf (L2.CX P w) P w K mg base N qual (defScope st) f cdv A outer s H E) W →
      PassesOwn (model (cxOf (L2.CX P w) P w K mg base N qual (defScope st) f cdv A outer s H E).prog (cxOf (L2.CX P w) P w K mg base N qual (defScope st) f cdv A outer s H E).w) (cxOf (L2.CX P w) P w K mg base N qual (defScope st) f cdv A outer s H E).A (cxOf (L2.CX P w) P w K mg base N qual (defScope st) f cdv A outer s H E).env (cxOf (L2.CX P w) P w K mg base N qual (defScope st) f cdv A outer s H E).xe →
      Room k (A.deeper (envOfC qual (defScope st) s.heap.objs.size f cdv)) →
      DSs (mxw K RX W) (cxOf (L2.CX P w) P w K mg base N qual (defScope st) f cdv A outer s H E) (defBody st) (g RX))
    (hread : ∀ ds O R RE, dsp ds O R RE → g (XG RE) { nx := fun _ O' => VG R .non O', rt := VG R } (startD N ds) O) : FnOk P w K mg base (L2.CX P w) (k + 1) f fd ps (liftSp K dsp) := by
  refine F.okX S (fun vs H Q E h => ?_) fun cdv A outer s H vs Q E hr h => ?_
  · obtain ⟨F, O, P, ds, R, RE, g, r, q, _⟩ := h
    rw [← r.length]; exact len ds O R RE q
  · obtain ⟨F, O, P', ds, R, RE, gd, r, q, po, px⟩ := h
    have tk : Takes (cxOf (L2.CX P w) P w K mg base N qual (defScope st) f cdv A outer s H E) (fun cls d _ H => E cls d H) := takes_of rfl rfl rfl rfl
    refine ⟨_, hder (XG RE) _ cdv A outer s H E tk (passes_of rfl) hr, F, O, P', startD N ds, { nx := fun _ O' => VG R .non O', rt := VG R }, gd.re ⟨P', Same.refl _, fun cls fs ρ O' F' H' dd σ q1 s1 g1 xd _ => ?_⟩, ?_, hread ds O R RE q, ⟨fun ρ O' F' H' σ q1 s1 g1 _ => ?_, fun d O' F' H' v q1 s1 g1 r1 => ?_, fun _ _ _ _ _ z => z.elim, fun _ _ _ _ _ z => z.elim⟩⟩
    · obtain ⟨O2, s2, q2⟩ := q1
      exact px cls fs O2 F' H' dd q2 s1 (g1.sub s2) xd
    · unfold startD L2.start
      rw [r.length]
      exact envOk_start _ r
    · obtain ⟨O2, s2, q2⟩ := q1
      exact po .non O2 F' H' .non q2 s1 (g1.mt.sub s2) (by simp only [Rep])
    · obtain ⟨O2, s2, q2⟩ := q1
      exact po d O2 F' H' v q2 s1 (g1.mt.sub s2) r1
end

/-! ### try -/
end Kf
namespace Kf
open PySem PySem.Spec L2
open PyProof.Rows hiding St
variable {M : MX}

theorem PostS.re {M' : MX} {K : PySem.W.Frag} {F P H : Hp} {O : Ow} {R : DEnds} {D : Ends} (po : PostS M K F P R D) (g : Gd M K F O P H) : PostS M' K F P R D :=
  ⟨fun ρ O' F' H' σ q s g' en => po.nx ρ O' F' H' σ q s (g'.re (M.mono g.rl s (Same.refl _))) en, fun d O' F' H' v q s g' r => po.rt d O' F' H' v q s (g'.re (M.mono g.rl s (Same.refl _))) r,
    fun ρ O' F' H' σ q s g' en => po.bk ρ O' F' H' σ q s (g'.re (M.mono g.rl s (Same.refl _))) en, fun ρ O' F' H' σ q s g' en => po.ct ρ O' F' H' σ q s (g'.re (M.mono g.rl s (Same.refl _))) en⟩
section
variable {X : Cx} {x n : Str} {c : Value} {i : Nat} {body suite : List Stmt} {b₀ : Stmt} {np pos pos' : Pos} {gb : XW → GS} {gs : Addr → Value → Option (List (Str × D)) → GS} {RXo : XW} {Wo : WX}
/-- the ends with slot i empty -/
def endsNo (i : Nat) (R : DEnds) : DEnds := { nx := fun ρ O => R.nx (ρ.set i none) O, rt := R.rt, bk := fun ρ O => R.bk (ρ.set i none) O, ct := fun ρ O => R.ct (ρ.set i none) O }
def xAs (K : PySem.W.Frag) (c : Value) (i : Nat) (gs : Addr → Value → Option (List (Str × D)) → GS) (RXo : XW) (R : DEnds) : XW := fun cls fs ρ O => ∃ b, PySem.W.exmOne K cls c = some b ∧
  (b = true → ∀ a, O a = none → gs a cls fs (endsNo i R) (ρ.set i (some (.ref a))) O) ∧ (b = false → RXo cls fs ρ O)
def xOnly (K : PySem.W.Frag) (c : Value) (gs : Addr → Value → Option (List (Str × D)) → GS) (RXo : XW) (R : DEnds) : XW := fun cls fs ρ O => ∃ b, PySem.W.exmOne K cls c = some b ∧
  (b = true → ∀ a, O a = none → gs a cls fs R ρ O) ∧ (b = false → RXo cls fs ρ O)
/-- try: .. except C as n: .. -/
def gTryAs (K : PySem.W.Frag) (c : Value) (i : Nat) (gb : XW → GS) (gs : Addr → Value → Option (List (Str × D)) → GS) (RXo : XW) : GS := fun R ρ O => gb (xAs K c i gs RXo R) R ρ O
/-- try: .. except C: .. -/
def gTry (K : PySem.W.Frag) (c : Value) (gb : XW → GS) (gs : Addr → Value → Option (List (Str × D)) → GS) (RXo : XW) : GS := fun R ρ O => gb (xOnly K c gs RXo R) R ρ O
end
/-! ### isinstance of the exception that a suite holds -/
end Kf
namespace Kf
open PySem PySem.Spec L2
open PyProof.Rows hiding St
/-- an own class of exceptions, as it is named -/
structure Cl (K : PySem.W.Frag) (mg : Str → Option Value) (x : Str) (C : Addr) : Prop where
  g : mg x = some (.ref C)
  sb : PySem.W.subIn K (.ref C) (.type "BaseException") = some true
  hd : PySem.W.hasDictIn K C = true
  ty : PySem.W.typeIn K (.ref C) = some (.type "type")
  sf : PySem.W.subIn K (.ref C) (.ref C) = some true
section
variable {K : PySem.W.Frag} {mg : Str → Option Value} {x : Str} {C D : Addr} {cls : Value} {b : Bool}
end
end Kf
namespace Kf
open PySem PySem.Spec L2
open PyProof.Rows hiding St
variable {M : MX}
section
variable {X : Cx} {e : Expr} {es : List Expr} {fr : FA} {k : Nat} {f : Addr} {fd : FuncData} {ps : List Str} {dsp : DSp} {x : Str} {st : Stmt} {p pos : Pos}
/-- a call that could raise, but does not here -/
theorem de_callX0 (N : Fn X.K X.mg x st ps f fd) (G : FnOk X.prog X.w X.K X.mg X.base (L2.CX X.prog X.w) k f fd ps (liftSp X.K dsp)) (hr : Room k X.A) (hg : Gl X x)
    (ha : DA M X (e :: es) fr) (hdb : (x == ("__debug__" : Str)) = false := by decide) (he : starEach (e :: es) X.env = (false, eval e X.env) :: starEach es X.env := by rfl) (hpl : (backTo pos (starEach es X.env)).any (·.1) = false := by rfl) :
    DE M X (.Call (.Name x p) (e :: es) [] pos) (fCallX dsp RX0 fr) := peMono (pe_callS (E := WE fun _ _ _ _ => False) G hr hg N.m N.F.kp N.b (fun σ => passAt takes0 σ) ha hdb he hpl) fun σ H Q h => by
  obtain ⟨F, O, P, ρ, R, g, en, q, po⟩ := h
  refine ⟨F, O, P, ρ, _, g, en, q, fun ds O1 F1 H1 vs q1 s1 g1 r1 => ?_⟩
  exact ⟨F1, O1, P, ds, R, _, g1.mt, r1, q1, po.mt g1 s1, fun cls fs O' F' H' dd q2 s2 g2 xd => q2⟩
end
/-! ### text * 0, text * 1 -/
section
variable {X : Cx}
end
end Kf
namespace Kf
open PySem PySem.Spec L2
open PyProof.Rows hiding St
variable {M : MX}
/-! ### xs[::-1] -/
section
variable {X : Cx} {e st : Expr} {fa : FE} {te : TE} {tst : TO} {fs : FO} {pos p2 : Pos}
def rRevD (x : D) (o : Option Int) (O : Ow) (Q : VD) : Prop := o = some (-1) ∧ match deref O x with
  | .lst xs => Q (.lst xs.reverse) O
  | _ => False
def fRev (fa : FE) (fs : FO) : FE := fun ρ O Q => fa ρ O fun x O1 => fs ρ O1 fun o O2 => rRevD x o O2 Q
theorem rRev_l {xs : List D} {O : Ow} {Q : VD} : rRevD (.lst xs) (some (-1)) O Q = Q (.lst xs.reverse) O := by simp [rRevD, deref]
end
/-! ### reversed(range(n)) -/
section
variable {X : Cx} {tg a : Expr} {fa : FE} {p p2 pos pos2 : Pos}
def asIR (d : D) (O : Ow) (Q : List D → Ow → Prop) : Prop := match d with
  | .int n => -(2 ^ 62) ≤ n ∧ n < 2 ^ 62 ∧ Q (rangeD 0 n.toNat).reverse O
  | _ => False
def fiRevR (fa : FE) : FI := fun ρ O Q => fa ρ O fun d O1 => asIR d O1 Q
theorem asIR_i {n : Int} {O : Ow} {Q : List D → Ow → Prop} : asIR (.int n) O Q = (-(2 ^ 62) ≤ n ∧ n < 2 ^ 62 ∧ Q (rangeD 0 n.toNat).reverse O) := rfl
end
/-! ### sorted, of texts -/
section
variable {X : Cx}
def rSortD : RAD := fun ds O Q => match ds with
  | [x] => match deref O x with
    | .lst xs => match asStrs xs with
      | some ts => ts.length < 64 ∧ ∀ ys : List Str, ys.Perm ts → sortedS ys = true → Q (.lst (ys.map .str)) O
      | none => False
    | _ => False
  | _ => False
theorem cd_sorted : CallD M X (.builtin "sorted") rSortD := by
  refine callD_of fun F P H O xs ds R Q g r q po => ?_
  unfold rSortD at q
  split at q <;> first | exact q.elim | skip
  rename_i x
  obtain ⟨v, rfl, r1⟩ := r.one'
  have h := g.deref r1
  revert h q
  generalize Kf.deref O x = y
  intro q h
  cases y <;> first | exact q.elim | skip
  rename_i ds
  dsimp only at q
  split at q
  · rename_i ts e
    have e2 := of_asStrs e
    subst e2
    obtain ⟨a, vs, rfl, h1, h2⟩ := h
    have e3 := h2.strs
    subst e3
    exact ⟨_, cr_sortedS, a, ts, rfl, SqL.of h1, q.1, fun ys p hp hs hn => po.lst g (q.2 ys hp hs) .of_strs hn⟩
  · exact q.elim
theorem rSort_l {ts : List Str} {O : Ow} {Q : VD} : rSortD [.lst (ts.map .str)] O Q = (ts.length < 64 ∧ ∀ ys : List Str, ys.Perm ts → sortedS ys = true → Q (.lst (ys.map .str)) O) := by simp only [rSortD, deref, asStrs_map]
end
end Kf
namespace Kf
open PySem PySem.Spec L2
open PyProof.Rows hiding St
variable {M : MX}
section
variable {X : Cx} {pos : Pos}
/-- {} that never changes -/
def fEdic : FE := fun _ O Q => Q .edic O
end
end Kf
namespace Kf
open PySem PySem.Spec L2
open PyProof.Rows hiding St
/-! ### the readings at their arguments -/
theorem ap_gSeq (g u : GS) {R : DEnds} {ρ : DEnv} {O : Ow} : gSeq g u R ρ O = (g { R with nx := u R } ρ O) := rfl
theorem ap_gIf (c : FT) (g u : GS) {R : DEnds} {ρ : DEnv} {O : Ow} : gIf c g u R ρ O = (c ρ O fun b O1 => if b = true then g R ρ O1 else u R ρ O1) := rfl
theorem ap_gRet (fe : FE) {R : DEnds} {ρ : DEnv} {O : Ow} : gRet fe R ρ O = (fe ρ O R.rt) := rfl
theorem ap_gNext  {R : DEnds} {ρ : DEnv} {O : Ow} : gNext  R ρ O = (R.nx ρ O) := rfl
theorem ap_gSet (fe : FE) (i : Nat) {R : DEnds} {ρ : DEnv} {O : Ow} : gSet fe i R ρ O = (fe ρ O fun d O1 => R.nx (ρ.set i (some d)) O1) := rfl
theorem ap_gAsg (fe : FE) (p : Pat) {R : DEnds} {ρ : DEnv} {O : Ow} : gAsg fe p R ρ O = (fe ρ O fun d O1 => patGet (patD p d ρ) fun ρ' => R.nx ρ' O1) := rfl
theorem ap_gDrop (fe : FE) {R : DEnds} {ρ : DEnv} {O : Ow} : gDrop fe R ρ O = (fe ρ O fun _ O1 => R.nx ρ O1) := rfl
theorem ap_gRetF (fe : FE) {R : DEnds} {ρ : DEnv} {O : Ow} : gRetF fe R ρ O = (fe ρ O fun d O1 => match d with
  | .ref a => match O1 a with
    | some (.lst ds) => R.rt (.lst ds) (delO O1 a)
    | _ => False
  | _ => False) := rfl
theorem ap_gRetN  {R : DEnds} {x1_ : DEnv} {O : Ow} : gRetN  R x1_ O = (R.rt .non O) := rfl
theorem ap_gFor (fi : FI) (p : Pat) (gb : GS) {R : DEnds} {ρ : DEnv} {O : Ow} : gFor fi p gb R ρ O = (fi ρ O fun ds O1 => forD p gb R ds ρ O1) := rfl
theorem ap_gSetIx (fo fi fe : FE) {R : DEnds} {ρ : DEnv} {O : Ow} : gSetIx fo fi fe R ρ O = (fe ρ O fun d O1 => fo ρ O1 fun x O2 => fi ρ O2 fun y O3 => rSetD x y d O3 (R.nx ρ)) := rfl
theorem ap_gBreak  {R : DEnds} {ρ : DEnv} {O : Ow} : gBreak  R ρ O = (R.bk ρ O) := rfl
theorem ap_fRev (fa : FE) (fs : FO) {ρ : DEnv} {O : Ow} {Q : VD} : fRev fa fs ρ O Q = (fa ρ O fun x O1 => fs ρ O1 fun o O2 => rRevD x o O2 Q) := rfl
theorem ap_fiRevR (fa : FE) {ρ : DEnv} {O : Ow} {Q : (List D → Ow → Prop)} : fiRevR fa ρ O Q = (fa ρ O fun d O1 => asIR d O1 Q) := rfl
theorem ap_fCallX (dsp : DSp) (RX : XW) (fr : FA) {ρ : DEnv} {O : Ow} {Q : VD} : fCallX dsp RX fr ρ O Q = (fr ρ O fun ds O1 => dsp ds O1 Q fun cls fs O' => RX cls fs ρ O') := rfl
theorem ap_gRaise (RX : XW) (cls : Value) {x0_ : DEnds} {ρ : DEnv} {O : Ow} : gRaise RX cls x0_ ρ O = (RX cls none ρ O) := rfl
theorem ap_gTry (K : PySem.W.Frag) (c : Value) (gb : XW → GS) (gs : Addr → Value → Option (List (Str × D)) → GS) (RXo : XW) {R : DEnds} {ρ : DEnv} {O : Ow} : gTry K c gb gs RXo R ρ O = (gb (xOnly K c gs RXo R) R ρ O) := rfl
theorem ap_gTryAs (K : PySem.W.Frag) (c : Value) (i : Nat) (gb : XW → GS) (gs : Addr → Value → Option (List (Str × D)) → GS) (RXo : XW) {R : DEnds} {ρ : DEnv} {O : Ow} : gTryAs K c i gb gs RXo R ρ O = (gb (xAs K c i gs RXo R) R ρ O) := rfl
theorem ap_gNever  {x0_ : DEnds} {x1_ : DEnv} {x2_ : Ow} : gNever  x0_ x1_ x2_ = (False) := rfl
theorem ap_fEdic  {x0_ : DEnv} {O : Ow} {Q : VD} : fEdic  x0_ O Q = (Q .edic O) := rfl
theorem ap_fTest (f : FE) {ρ : DEnv} {O : Ow} {Q : (Bool → Ow → Prop)} : fTest f ρ O Q = (f ρ O fun d O1 => ∃ k, d = .bl k ∧ Q k O1) := rfl
theorem ap_fOp (r : R2D) (fa fb : FE) {ρ : DEnv} {O : Ow} {Q : VD} : fOp r fa fb ρ O Q = (fa ρ O fun x O1 => fb ρ O1 fun y O2 => r x y O2 Q) := rfl
theorem ap_fVar (i : Nat) {ρ : DEnv} {O : Ow} {Q : VD} : fVar i ρ O Q = (envGet ρ[i]? O Q) := rfl
theorem ap_fC (d : D) {x0_ : DEnv} {O : Ow} {Q : VD} : fC d x0_ O Q = (Q d O) := rfl
theorem ap_fCB (r : RAD) (fr : FA) {ρ : DEnv} {O : Ow} {Q : VD} : fCB r fr ρ O Q = (fr ρ O fun ds O1 => r ds O1 Q) := rfl
theorem ap_fCons (fa : FE) (fr : FA) {ρ : DEnv} {O : Ow} {Q : (List D → Ow → Prop)} : fCons fa fr ρ O Q = (fa ρ O fun x O1 => fr ρ O1 fun xs O2 => Q (x :: xs) O2) := rfl
theorem ap_fNil  {x0_ : DEnv} {O : Ow} {Q : (List D → Ow → Prop)} : fNil  x0_ O Q = (Q [] O) := rfl
theorem ap_fCall (dsp : DSp) (fr : FA) {ρ : DEnv} {O : Ow} {Q : VD} : fCall dsp fr ρ O Q = (fr ρ O fun ds O1 => dsp ds O1 Q X0) := rfl
theorem ap_fAnd (t u : FT) {ρ : DEnv} {O : Ow} {Q : (Bool → Ow → Prop)} : fAnd t u ρ O Q = (t ρ O fun c O1 => if c = true then u ρ O1 Q else Q false O1) := rfl
theorem ap_fOr (t u : FT) {ρ : DEnv} {O : Ow} {Q : (Bool → Ow → Prop)} : fOr t u ρ O Q = (t ρ O fun c O1 => if c = true then Q true O1 else u ρ O1 Q) := rfl
theorem ap_fNot (t : FT) {ρ : DEnv} {O : Ow} {Q : (Bool → Ow → Prop)} : fNot t ρ O Q = (t ρ O fun c O1 => Q (!c) O1) := rfl
theorem ap_fAndV (fa fb : FE) {ρ : DEnv} {O : Ow} {Q : VD} : fAndV fa fb ρ O Q = (fa ρ O fun x O1 => ∃ c, x = .bl c ∧ if c = true then fb ρ O1 Q else Q (.bl false) O1) := rfl
theorem ap_fOrV (fa fb : FE) {ρ : DEnv} {O : Ow} {Q : VD} : fOrV fa fb ρ O Q = (fa ρ O fun x O1 => ∃ c, x = .bl c ∧ if c = true then Q (.bl true) O1 else fb ρ O1 Q) := rfl
theorem ap_fNotV (fa : FE) {ρ : DEnv} {O : Ow} {Q : VD} : fNotV fa ρ O Q = (fa ρ O fun x O1 => ∃ c, x = .bl c ∧ Q (.bl (!c)) O1) := rfl
theorem ap_fIf (t : FT) (fa fb : FE) {ρ : DEnv} {O : Ow} {Q : VD} : fIf t fa fb ρ O Q = (t ρ O fun c O1 => if c = true then fa ρ O1 Q else fb ρ O1 Q) := rfl
theorem ap_fTup (fr : FA) {ρ : DEnv} {O : Ow} {Q : VD} : fTup fr ρ O Q = (fr ρ O fun xs O1 => xs.length ≤ sizeLine ∧ Q (.tup xs) O1) := rfl
theorem ap_fLst (fr : FA) {ρ : DEnv} {O : Ow} {Q : VD} : fLst fr ρ O Q = (fr ρ O fun xs O1 => xs.length ≤ sizeLine ∧ Q (.lst xs) O1) := rfl
theorem ap_fLstO (fr : FA) {ρ : DEnv} {O : Ow} {Q : VD} : fLstO fr ρ O Q = (fr ρ O fun xs O1 => xs.length ≤ sizeLine ∧ ∀ p, O1 p = none → Q (.ref p) (updO O1 p (.lst xs))) := rfl
theorem ap_fChain (r r' : R2D) (fa fb fc : FE) {ρ : DEnv} {O : Ow} {Q : VD} : fChain r r' fa fb fc ρ O Q = (fa ρ O fun x O1 => fb ρ O1 fun y O2 => r x y O2 fun z O3 => ∃ k, z = .bl k ∧ (if k = true then fc ρ O3 fun w O4 => r' y w O4 Q else Q (.bl false) O3)) := rfl
theorem ap_fUn (r : R1D) (f : FE) {ρ : DEnv} {O : Ow} {Q : VD} : fUn r f ρ O Q = (f ρ O fun x O1 => r x O1 Q) := rfl
theorem ap_fBM (T : String) (r : RMD) (fo : FE) (fr : FA) {ρ : DEnv} {O : Ow} {Q : VD} : fBM T r fo fr ρ O Q = (fo ρ O fun x O1 => tyOk T O1 x = true ∧ fr ρ O1 fun ds O2 => r x ds O2 Q) := rfl
theorem ap_fBM0 (T : String) (r : RMD) (fo : FE) {ρ : DEnv} {O : Ow} {Q : VD} : fBM0 T r fo ρ O Q = (fo ρ O fun x O1 => tyOk T O1 x = true ∧ r x [] O1 Q) := rfl
theorem ap_fPool (fr : FA) {ρ : DEnv} {O : Ow} {Q : VD} : fPool fr ρ O Q = (fr ρ O fun xs O1 => rPool xs O1 Q) := rfl
theorem ap_fSl (r : R3D) (fe : FE) (fl fh : FO) {ρ : DEnv} {O : Ow} {Q : VD} : fSl r fe fl fh ρ O Q = (fe ρ O fun x O1 => fl ρ O1 fun l O2 => fh ρ O2 fun u O3 => r x l u O3 Q) := rfl
theorem ap_fPart (f : FE) {ρ : DEnv} {O : Ow} {Q : (Option Int → Ow → Prop)} : fPart f ρ O Q = (f ρ O fun d O1 => asI d O1 Q) := rfl
theorem ap_fNoPart  {x0_ : DEnv} {O : Ow} {Q : (Option Int → Ow → Prop)} : fNoPart  x0_ O Q = (Q none O) := rfl
theorem ap_fiRng1 (fr : FA) {ρ : DEnv} {O : Ow} {Q : (List D → Ow → Prop)} : fiRng1 fr ρ O Q = (fr ρ O fun ds O1 => asR1 ds O1 fun i n O2 => Q (rangeD i n) O2) := rfl
theorem ap_fiRng2 (fr : FA) {ρ : DEnv} {O : Ow} {Q : (List D → Ow → Prop)} : fiRng2 fr ρ O Q = (fr ρ O fun ds O1 => asR2 ds O1 fun i n O2 => Q (rangeD i n) O2) := rfl
theorem ap_fiList (fl : FE) {ρ : DEnv} {O : Ow} {Q : (List D → Ow → Prop)} : fiList fl ρ O Q = (fl ρ O fun d O1 => asL d O1 Q) := rfl
theorem ap_fiTup (fl : FE) {ρ : DEnv} {O : Ow} {Q : (List D → Ow → Prop)} : fiTup fl ρ O Q = (fl ρ O fun d O1 => asT d O1 Q) := rfl
theorem ap_fiStr (fl : FE) {ρ : DEnv} {O : Ow} {Q : (List D → Ow → Prop)} : fiStr fl ρ O Q = (fl ρ O fun d O1 => asSg d O1 Q) := rfl
theorem ap_fiEnum (fr : FA) {ρ : DEnv} {O : Ow} {Q : (List D → Ow → Prop)} : fiEnum fr ρ O Q = (fr ρ O fun ds O1 => asL1 ds O1 fun ds O2 => Q (enumD ds) O2) := rfl
theorem ap_fiZip (fr : FA) {ρ : DEnv} {O : Ow} {Q : (List D → Ow → Prop)} : fiZip fr ρ O Q = (fr ρ O fun ds O1 => asL2 ds O1 fun ds es O2 => Q (zipD ds es) O2) := rfl
theorem ap_fiRev (fr : FA) {ρ : DEnv} {O : Ow} {Q : (List D → Ow → Prop)} : fiRev fr ρ O Q = (fr ρ O fun ds O1 => asL1 ds O1 fun ds O2 => Q ds.reverse O2) := rfl
theorem ap_fLc (fi : FI) (p : Pat) (ft : FT) (fe : FE) (vs : List Nat) {ρ : DEnv} {O : Ow} {Q : VD} : fLc fi p ft fe vs ρ O Q = (fi ρ O fun ds O1 => lcD p ft fe (wipeD ρ vs) ds [] O1 fun acc O2 => Q (.lst acc) O2) := rfl
theorem ap_fLcO (fi : FI) (p : Pat) (ft : FT) (fe : FE) (vs : List Nat) {ρ : DEnv} {O : Ow} {Q : VD} : fLcO fi p ft fe vs ρ O Q = (fi ρ O fun ds O1 => lcD p ft fe (wipeD ρ vs) ds [] O1 fun acc O2 => ∀ q, O2 q = none → Q (.ref q) (updO O2 q (.lst acc))) := rfl
theorem ap_fYes  {x0_ : DEnv} {O : Ow} {Q : (Bool → Ow → Prop)} : fYes  x0_ O Q = (Q true O) := rfl
theorem ap_gAug (i : Nat) (fe : FE) (r : R2D) {R : DEnds} {ρ : DEnv} {O : Ow} : gAug i fe r R ρ O = (match ρ[i]? with
  | some (some x) => fe ρ O fun y O1 => r x y O1 fun z O2 => R.nx (ρ.set i (some z)) O2
  | _ => False) := rfl
end Kf
/-! Dl15: owned dicts whose keys are whole numbers and texts. -/
namespace Kf
open PySem PySem.Spec L2
open PyProof.Rows hiding St
variable {M : MX}
/-! ### tables of data -/
def keyOf : D → Option Key
  | .int i => some (.inl i)
  | .str s => some (.inr s)
  | _ => none
def keyD : Key → D
  | .inl i => .int i
  | .inr s => .str s
theorem keyOf_rep {K : PySem.W.Frag} {F : Hp} {d : D} {v : V} {k : Key} (h : keyOf d = some k) (r : Rep K F d v) : v = kV k := by
  cases d <;> simp only [keyOf] at h <;> first | cases h; done | skip
  all_goals
    cases h
    simp only [Rep] at r
    subst r
    rfl
def valD {κ : Type} [DecidableEq κ] (kvs : List (κ × D)) (k : κ) : Option D := (kvs.find? fun kv => decide (kv.1 = k)).map (·.2)
def putD {κ : Type} [DecidableEq κ] (kvs : List (κ × D)) (k : κ) (d : D) : List (κ × D) :=
  if (kvs.any fun kv => decide (kv.1 = k)) = true then kvs.map (fun kv => if kv.1 = k then (kv.1, d) else kv) else kvs ++ [(k, d)]
section
variable {κ : Type} [DecidableEq κ] {K : PySem.W.Frag} {F H P : Hp} {O : Ow} {kvs : List (κ × D)} {vs : List (κ × V)} {k : κ} {d : D} {v : V} {a : Addr}
theorem KvOk.val (h : KvOk K F kvs vs) : (∀ d, valD kvs k = some d → ∃ v, valV vs k = some v ∧ Rep K F d v) ∧ (valD kvs k = none → valV vs k = none) := by
  induction h with
  | nil => exact ⟨fun d e => by simp [valD] at e, fun _ => rfl⟩
  | @cons p q _ _ r t ih =>
    obtain ⟨r1, r2⟩ := r
    by_cases e : p.1 = k
    · have e2 : q.1 = k := r1 ▸ e
      refine ⟨fun d h => ?_, fun h => ?_⟩
      · simp [valD, List.find?_cons, e] at h
        subst h
        exact ⟨q.2, valV_pos e2, r2⟩
      · simp [valD, List.find?_cons, e] at h
    · have e2 : ¬ q.1 = k := fun z => e (r1.trans z)
      rw [valV_neg e2]
      have e3 : ∀ l : List (κ × D), valD (p :: l) k = valD l k := fun l => by simp [valD, List.find?_cons, e]
      rw [e3]
      exact ih
theorem KvOk.any (h : KvOk K F kvs vs) : (kvs.any fun kv => decide (kv.1 = k)) = (vs.any fun kv => decide (kv.1 = k)) := by
  induction h with
  | nil => rfl
  | cons r _ ih => rw [List.any_cons, List.any_cons, ih, r.1]
theorem KvOk.put (h : KvOk K F kvs vs) (r : Rep K F d v) : KvOk K F (putD kvs k d) (putK vs k v) := by
  unfold putD putK
  rw [h.any (k := k)]
  split
  · rename_i hh; clear hh
    induction h with
    | nil => exact .nil
    | @cons p q _ _ z t ih =>
      rw [List.map_cons, List.map_cons]
      refine .cons ?_ ih
      by_cases e : p.1 = k
      · rw [if_pos e, if_pos (z.1 ▸ e)]; exact ⟨z.1, r⟩
      · rw [if_neg e, if_neg (fun w => e (z.1.trans w))]; exact z
  · exact Paired.snoc h ⟨rfl, r⟩
theorem KvOk.keys (h : KvOk K F kvs vs) : vs.map (·.1) = kvs.map (·.1) := by
  induction h with
  | nil => rfl
  | cons r _ ih => rw [List.map_cons, List.map_cons, ih, r.1]
end
section
variable {K : PySem.W.Frag} {F H P : Hp} {O : Ow} {kvs : List (Key × D)} {vs : List (Key × V)} {k : Key} {d : D} {v : V} {a : Addr}
/-- what a dict holds, locked or not -/
def dicAt (O : Ow) (a : Addr) : Option (List (Key × D)) := match O a with
  | some (.dic kvs) => some kvs
  | some (.dicL kvs _) => some kvs
  | _ => none
theorem Gd.dic (g : Gd M K F O P H) (h : dicAt O a = some kvs) : ∃ vs, Rd H a (.dK vs) ∧ KvOk K F kvs vs := by
  unfold dicAt at h
  split at h <;> first | cases h; done | skip
  · rename_i e
    cases h
    obtain ⟨_, _, vs, h1, h2⟩ := g.ow a _ e
    exact ⟨vs, .inl h1, h2⟩
  · rename_i e
    cases h
    obtain ⟨_, _, h1, od, vs, rfl, h2⟩ := g.ow a _ e
    exact ⟨vs, .inr ⟨od, h1⟩, h2⟩
/-- what stands at a key -/
def rKeyT (x y : D) (O : Ow) (N : Option D → Prop) : Prop := match x, y with
  | .ref a, .tupK ks => match O a with
    | some (.dicT kvs) => N (valD kvs ks)
    | _ => False
  | _, _ => False
def rKey (x y : D) (O : Ow) (N : Option D → Prop) : Prop := match x, keyOf y with
  | .ref a, some k => match dicAt O a with
    | some kvs => N (valD kvs k)
    | none => False
  | x, none => rKeyT x y O N
  | _, _ => False
theorem Gd.dicT (g : Gd M K F O P H) {kvt : List (List Key × D)} (h : O a = some (.dicT kvt)) : ∃ vs : List (List Key × V), H a = some (.dT vs) ∧ KvOk K F kvt vs := (g.ow a _ h).2.2
theorem Gd.key (g : Gd M K F O P H) {x y : D} {w : V} {N : Option D → Prop} (rx : Rep K F x v) (ry : Rep K F y w) (q : rKey x y O N) :
    ∃ a o oV, v = .ref a ∧ DGet H a w oV ∧ IsD H a ∧ N o ∧ (∀ d, o = some d → ∃ z, oV = some z ∧ Rep K F d z) ∧ (o = none → oV = none) := by
  unfold rKey at q
  split at q <;> first | exact q.elim | skip
  · rename_i a k e
    split at q <;> first | exact q.elim | skip
    rename_i kvs e2
    obtain ⟨vs, h1, h2⟩ := g.dic e2
    simp only [Rep] at rx
    have ew := keyOf_rep e ry
    subst ew
    obtain ⟨v1, v2⟩ := h2.val (k := k)
    exact ⟨a, _, _, rx, .inl ⟨vs, k, h1, rfl, rfl⟩, .inl ⟨vs, h1⟩, q, v1, v2⟩
  · unfold rKeyT at q
    split at q <;> first | exact q.elim | skip
    rename_i a ks _
    split at q <;> first | exact q.elim | skip
    rename_i kvs e2
    obtain ⟨vs, h1, h2⟩ := g.dicT e2
    simp only [Rep] at rx ry
    obtain ⟨b, rfl, hb⟩ := ry
    obtain ⟨v1, v2⟩ := h2.val (k := ks)
    exact ⟨a, _, _, rx, .inr ⟨vs, ks, b, .inl h1, rfl, g.fz _ _ hb, rfl⟩, .inr ⟨vs, .inl h1⟩, q, v1, v2⟩
end
section
variable {X : Cx} {o i e f value : Expr} {pos pos' apos cpos : Pos} {fo fi fe fx : FE}
/-- {} that changes -/
def fDicO : FE := fun _ O Q => ∀ p, O p = none → Q (.ref p) (updO O p (.dic []))
theorem de_dicO : DE M X (.Dict [] [] pos) fDicO := peMono pe_dnewK fun σ H Q h => by
  obtain ⟨F, O, P, ρ, R, g, en, q, po⟩ := h
  intro p hp
  exact po (.ref p) _ F _ _ (q p (g.freeO hp)) (Same.refl _) (g.newO hp ⟨[], upd_same, .nil⟩) (by simp only [Rep])
/-- d[k] -/
def rDGet (x y : D) (O : Ow) (Q : VD) : Prop := rKey x y O fun o => match o with
  | some d => Q d O
  | none => False
def fDGet (fo fi : FE) : FE := fun ρ O Q => fo ρ O fun x O1 => fi ρ O1 fun y O2 => rDGet x y O2 Q
theorem de_dget (hu : X.A.units + 200 < cLine) (ho : DE M X o fo) (hi : DE M X i fi) (hs : NoSl i := by intro _ _; rfl) : DE M X (.Subscript o i pos) (fDGet fo fi) := peMono (pe_dget (by omega) ho hi hs) fun σ H Q h => by
  obtain ⟨F, O, P, ρ, R, g, en, q, po⟩ := h
  refine ⟨F, O, P, ρ, _, g, en, q, fun x O1 F1 H1 v q1 s1 g1 r1 => ?_⟩
  refine ⟨F1, O1, P, ρ, _, g1, en.mono s1, q1, fun y O2 F2 H2 w q2 s2 g2 r2 => ?_⟩
  obtain ⟨a, od, oV, rfl, h1, _, n, h2, h3⟩ := g2.key (r1.mono s2) r2 q2
  cases od with
  | none => exact n.elim
  | some d =>
    obtain ⟨z, rfl, rz⟩ := h2 d rfl
    exact ⟨a, z, rfl, h1, (po.more (s1.trans s2)).at g2 n rz⟩
/-- d.get(k), d.get(k, x) -/
def isDc (O : Ow) (x : D) : Bool := match x with
  | .ref a => (dicAt O a).isSome
  | _ => false
def fDGet1 (fo fi : FE) : FE := fun ρ O Q => fo ρ O fun x O1 => isDc O1 x = true ∧ fi ρ O1 fun y O2 => rKey x y O2 fun o => Q (o.getD .non) O2
def fDGet2 (fo fi fx : FE) : FE := fun ρ O Q => fo ρ O fun x O1 => isDc O1 x = true ∧ fi ρ O1 fun y O2 => fx ρ O2 fun z O3 => rKey x y O3 fun o => Q (o.getD z) O3
/-- k in d -/
def rDIn (neg : Bool) : R2D := fun y x O Q => rKey x y O fun o => Q (.bl (o.isSome != neg)) O
theorem od_dnotin (hu : X.A.units + 200 < cLine) : OpD M X (compareOp .NotIn) (rDIn true) := by
  intro pins s σ H y x u v Q I ry rx h
  obtain ⟨F, O, P, dy, dx, R, g, r1, r2, q, po⟩ := h
  obtain ⟨a, od, oV, rfl, h1, _, n, h2, h3⟩ := g.key r2 r1 q
  obtain rfl : v = Value.ref a := rx
  refine d_notIn (by omega) I h1 ry fun s' I' => ⟨.bl (!oV.isSome), H, I', rfl, ?_⟩
  have e : oV.isSome = od.isSome := by
    cases od with
    | none => simp [h3 rfl]
    | some d => obtain ⟨z, rfl, _⟩ := h2 d rfl; rfl
  exact po.at g n (by simp [Rep, e])
/-- d[k] = v -/
def rDPutT (x y d : D) (O : Ow) (N : Ow → Prop) : Prop := match x, y with
  | .ref a, .tupK ks => match O a with
    | some (.dicT kvs) => kvs.length < sizeLine ∧ N (updO O a (.dicT (putD kvs ks d)))
    | _ => False
  | _, _ => False
def rDPut (x y d : D) (O : Ow) (N : Ow → Prop) : Prop := match x, keyOf y with
  | .ref a, some k => match O a with
    | some (.dic kvs) => kvs.length < sizeLine ∧ N (updO O a (.dic (putD kvs k d)))
    | _ => False
  | x, none => rDPutT x y d O N
  | _, _ => False
def gDPut (fo fi fe : FE) : GS := fun R ρ O => fe ρ O fun d O1 => fo ρ O1 fun x O2 => fi ρ O2 fun y O3 => rDPut x y d O3 (R.nx ρ)
theorem ds_dput (hu : X.A.units + 200 < cLine) (ho : DE M X o fo) (hi : DE M X i fi) (he : DE M X value fe) (hs : swapsWith value (some (.Subscript o i pos')) pos.line X.env = pure false := by rfl) :
    DS M X (.Assign [.Subscript o i pos'] value pos) (gDPut fo fi fe) := psMono (ps_dput (by omega) ho hi he hs) fun D σ H h => by
  obtain ⟨F, O, P, ρ, R, g, en, q, po⟩ := h
  refine ⟨F, O, P, ρ, _, g, en, q, fun d O1 F1 H1 v q1 s1 g1 r1 => ?_⟩
  refine ⟨F1, O1, P, ρ, _, g1, en.mono s1, q1, fun x O2 F2 H2 w q2 s2 g2 r2 => ?_⟩
  refine ⟨F2, O2, P, ρ, _, g2, en.mono (s1.trans s2), q2, fun y O3 F3 H3 z q3 s3 g3 r3 => ?_⟩
  unfold rDPut at q3
  split at q3 <;> first | exact q3.elim | skip
  · rename_i a k e
    split at q3 <;> first | exact q3.elim | skip
    rename_i kvs e2
    obtain ⟨_, _, vs, h1, h2⟩ := g3.ow a _ e2
    simp only [Rep] at r2
    subst r2
    have ez := keyOf_rep e r3
    subst ez
    have s4 := s1.trans (s2.trans s3)
    refine ⟨a, _, rfl, .k h1 (by rw [← h2.length]; exact q3.1), ?_⟩
    exact po.nx ρ _ F3 _ σ q3.2 s4 (g3.setO e2 ⟨_, upd_same, h2.put (r1.mono (s2.trans s3))⟩) (en.mono s4)
  · unfold rDPutT at q3
    split at q3 <;> first | exact q3.elim | skip
    rename_i a ks _
    split at q3 <;> first | exact q3.elim | skip
    rename_i kvs e2
    obtain ⟨vs, h1, h2⟩ := g3.dicT e2
    simp only [Rep] at r2 r3
    subst r2
    obtain ⟨b, rfl, hb⟩ := r3
    have s4 := s1.trans (s2.trans s3)
    refine ⟨a, _, rfl, .t h1 (g3.fz _ _ hb) (by rw [← h2.length]; exact q3.1), ?_⟩
    exact po.nx ρ _ F3 _ σ q3.2 s4 (g3.setO e2 ⟨_, upd_same, h2.put (r1.mono (s2.trans s3))⟩) (en.mono s4)
end
/-! ### the keys of a dict -/
section
variable {X : Cx}
end
/-! ### isinstance(x, (T1, T2, ..)) -/
section
variable {X : Cx} {a : Expr} {es : List Expr} {fa : FE} {fr : FA} {p pos tpos : Pos}
def asTys : List D → Option (List String)
  | [] => some []
  | .ty n :: r => (asTys r).map (n :: ·)
  | _ :: _ => none
def rIsiTs (x : D) (ds : List D) (O : Ow) (Q : VD) : Prop := match asTys ds with
  | some ns => ns.length ≤ sizeLine ∧ (ns.all fun n => insCl.contains n) = true ∧ insTy.contains (tyNm O x) = true ∧ Q (.bl (ns.any (insOf (tyNm O x)))) O
  | none => False
def fIsiT (fa : FE) (fr : FA) : FE := fun ρ O Q => fa ρ O fun x O1 => fr ρ O1 fun ds O2 => rIsiTs x ds O2 Q
end
/-! ### a walk along an owned list that stays -/
section
variable {X : Cx} {tg l : Expr} {fl : FE} {pos : Pos}
def forR (a : Addr) (all : List D) (p : Pat) (gb : GS) (R : DEnds) : List D → DEnv → Ow → Prop
  | [], ρ, O => O a = some (.lst all) ∧ R.nx ρ O
  | d :: ds, ρ, O => O a = some (.lst all) ∧ patGet (patD p d ρ) fun ρ1 => gb { R with nx := forR a all p gb R ds, ct := forR a all p gb R ds, bk := R.nx } ρ1 O
def asLR (d : D) (O : Ow) (Q : Addr → List D → Ow → Prop) : Prop := match d with
  | .ref a => match O a with
    | some (.lst ds) => Q a ds O
    | _ => False
  | _ => False
def gForR (fl : FE) (p : Pat) (gb : GS) : GS := fun R ρ O => fl ρ O fun x O1 => asLR x O1 fun a ds O2 => forR a ds p gb R ds ρ O2
end
/-! ### a list times a number -/
section
variable {X : Cx} {K : PySem.W.Frag} {F : Hp}
def rRepD : R2D := fun x y O Q => match x, y with
  | .lst ds, .int k => (-(2 ^ 63) ≤ k ∧ k < 2 ^ 63 ∧ ds.length * k.toNat ≤ sizeLine) ∧ Q (.lst (List.replicate k.toNat ds).flatten) O
  | _, _ => False
end
/-! ### a call without arguments -/
section
variable {X : Cx} {k : Nat} {f : Addr} {fd : FuncData} {ps : List Str} {dsp : DSp} {x : Str} {st : Stmt} {p pos : Pos}
end
/-! ### the readings at their arguments -/
theorem ap_fDicO {ρ : DEnv} {O : Ow} {Q : VD} : fDicO ρ O Q = (∀ p, O p = none → Q (.ref p) (updO O p (.dic []))) := rfl
theorem ap_fDGet (fo fi : FE) {ρ : DEnv} {O : Ow} {Q : VD} : fDGet fo fi ρ O Q = (fo ρ O fun x O1 => fi ρ O1 fun y O2 => rDGet x y O2 Q) := rfl
theorem ap_fDGet1 (fo fi : FE) {ρ : DEnv} {O : Ow} {Q : VD} : fDGet1 fo fi ρ O Q = (fo ρ O fun x O1 => isDc O1 x = true ∧ fi ρ O1 fun y O2 => rKey x y O2 fun o => Q (o.getD .non) O2) := rfl
theorem ap_fDGet2 (fo fi fx : FE) {ρ : DEnv} {O : Ow} {Q : VD} : fDGet2 fo fi fx ρ O Q = (fo ρ O fun x O1 => isDc O1 x = true ∧ fi ρ O1 fun y O2 => fx ρ O2 fun z O3 => rKey x y O3 fun o => Q (o.getD z) O3) := rfl
theorem ap_gDPut (fo fi fe : FE) {R : DEnds} {ρ : DEnv} {O : Ow} : gDPut fo fi fe R ρ O = (fe ρ O fun d O1 => fo ρ O1 fun x O2 => fi ρ O2 fun y O3 => rDPut x y d O3 (R.nx ρ)) := rfl
theorem ap_fIsiT (fa : FE) (fr : FA) {ρ : DEnv} {O : Ow} {Q : VD} : fIsiT fa fr ρ O Q = (fa ρ O fun x O1 => fr ρ O1 fun ds O2 => rIsiTs x ds O2 Q) := rfl
theorem ap_gForR (fl : FE) (p : Pat) (gb : GS) {R : DEnds} {ρ : DEnv} {O : Ow} : gForR fl p gb R ρ O = (fl ρ O fun x O1 => asLR x O1 fun a ds O2 => forR a ds p gb R ds ρ O2) := rfl
section
variable {O : Ow} {a : Addr} {kvs : List (Key × D)} {Q : VD} {N : Option D → Prop} {k : Key} {x y d : D} {t : Str} {i : Int}
theorem dicAt_d (h : O a = some (.dic kvs)) : dicAt O a = some kvs := by simp only [dicAt, h]
theorem rKey_s (h : O a = some (.dic kvs)) : rKey (.ref a) (.str t) O N = N (valD kvs (.inr t)) := by simp only [rKey, keyOf, dicAt_d h]
theorem rDPut_s {N : Ow → Prop} (h : O a = some (.dic kvs)) : rDPut (.ref a) (.str t) d O N = (kvs.length < sizeLine ∧ N (updO O a (.dic (putD kvs (.inr t) d)))) := by simp only [rDPut, keyOf, h]
theorem rRep_l {ds : List D} : rRepD (.lst ds) (.int i) O Q = ((-(2 ^ 63) ≤ i ∧ i < 2 ^ 63 ∧ ds.length * i.toNat ≤ sizeLine) ∧ Q (.lst (List.replicate i.toNat ds).flatten) O) := rfl
theorem sl1 : ((["list", "tuple"] : List String).length ≤ sizeLine) = True := by simp [sizeLine]
theorem isT_lt (h : insTy.contains (tyNm O x) = true) : rIsiTs x [.ty "list", .ty "tuple"] O Q = Q (.bl (["list", "tuple"].any (insOf (tyNm O x)))) O := by
  have e : asTys [D.ty "list", D.ty "tuple"] = some ["list", "tuple"] := rfl
  have e2 : ((["list", "tuple"] : List String).all fun n => insCl.contains n) = true := by decide
  simp only [rIsiTs, e, sl1, h, e2, true_and]
theorem isT_i : rIsiTs (.int i) [.ty "list", .ty "tuple"] O Q = Q (.bl false) O := isT_lt rfl
theorem isT_s : rIsiTs (.str t) [.ty "list", .ty "tuple"] O Q = Q (.bl false) O := isT_lt rfl
theorem isT_b {b : Bool} : rIsiTs (.bl b) [.ty "list", .ty "tuple"] O Q = Q (.bl false) O := isT_lt rfl
theorem isT_n : rIsiTs .non [.ty "list", .ty "tuple"] O Q = Q (.bl false) O := isT_lt rfl
theorem isT_t {xs : List D} : rIsiTs (.tup xs) [.ty "list", .ty "tuple"] O Q = Q (.bl true) O := isT_lt rfl
theorem isT_l {xs : List D} : rIsiTs (.lst xs) [.ty "list", .ty "tuple"] O Q = Q (.bl true) O := isT_lt rfl
end
/-! ### an owned list that a call tells, frozen at once -/
section
variable {X : Cx} {e : Expr} {fe : FE}
def rFrz (d : D) (O : Ow) (Q : VD) : Prop := match d with
  | .ref a => match O a with
    | some (.lst ds) => Q (.lst ds) (delO O a)
    | _ => False
  | _ => False
def fFrz (fe : FE) : FE := fun ρ O Q => fe ρ O fun d O1 => rFrz d O1 Q
theorem ap_fFrz (fe : FE) {ρ : DEnv} {O : Ow} {Q : VD} : fFrz fe ρ O Q = (fe ρ O fun d O1 => rFrz d O1 Q) := rfl
end
end Kf
/-! Dl16: max(xs), max(xs, default=d) of ints. -/
namespace Kf
open PySem PySem.Spec L2
open PyProof.Rows hiding St
section
variable {prog : Program} {w : World} {A : Around} {Rz : Result → Shared → Prop} {it : Addr} {fp wr : List Addr} {n : Nat} {Pv : Nat → Value → Prop} {Sw : Nat → Heap → Prop}
end
/-- the greatest, or 0 of none -/
def lmx : List Int → Int
  | [] => 0
  | [a] => a
  | a :: b :: r => if lmx (b :: r) > a then lmx (b :: r) else a
section
variable {prog : Program} {w : World} {A : Around} {E : Value → Shared → Prop} {s : Shared}
end
section
variable {X : Cx} {M : MX} {e : Expr} {es : List Expr} {fa : FE} {pos p kpos pos' : Pos}
/-- max(xs, default=i) -/
def rMaxD (i : Int) (x : D) (O : Ow) (Q : VD) : Prop := match deref O x with
  | .lst ds => match asInts ds with
    | some ns => Q (.int (if ns = [] then i else lmx ns)) O
    | none => False
  | _ => False
def fMaxD (i : Int) (fa : FE) : FE := fun ρ O Q => fa ρ O fun x O1 => rMaxD i x O1 Q
/-- max(xs) -/
def rMaxL : RAD := fun ds O Q => match ds with
  | [x] => match deref O x with
    | .lst ds => match asInts ds with
      | some ns => ns ≠ [] ∧ Q (.int (lmx ns)) O
      | none => False
    | _ => False
  | _ => False
theorem ap_fMaxD (i : Int) (fa : FE) {ρ : DEnv} {O : Ow} {Q : VD} : fMaxD i fa ρ O Q = fa ρ O fun x O1 => rMaxD i x O1 Q := rfl
theorem rMaxD_l {i : Int} {ns : List Int} {O : Ow} {Q : VD} : rMaxD i (.lst (ns.map .int)) O Q = Q (.int (if ns = [] then i else lmx ns)) O := by
  simp only [rMaxD, deref, asInts_map]
theorem rMaxL_l {ns : List Int} {O : Ow} {Q : VD} : rMaxL [.lst (ns.map .int)] O Q = (ns ≠ [] ∧ Q (.int (lmx ns)) O) := by
  simp only [rMaxL, deref, asInts_map]
end
end Kf
/-! Dl17: defs with one default, None; walks along a list, owned or not. -/
namespace Kf
open PySem PySem.Spec L2
open PyProof.Rows hiding St
/-- a def of the text with one default, None -/
structure FnD (K : PySem.W.Frag) (mg : Str → Option Value) (x : Str) (st : Stmt) (ps : List Str) (f : Addr) (fd : FuncData) : Prop where
  F : FunD K x x (defArgs st) (defBody st) (defScope st) [V.non] [] f fd
  m : mg x = some (.ref f)
  b : Binds K fd ps []
  b1 : ∃ ds, Vals [V.non] ds ∧ Binds K fd ps ds
section
variable {X : Cx} {M : MX} {RX : XW} {W : WX} {e : Expr} {es : List Expr} {fr : FA} {k : Nat} {f : Addr} {fd : FuncData} {ps : List Str} {dsp : DSp} {x : Str} {st : Stmt} {p pos : Pos}
/-- a call without the last argument -/
def fCallXD (dsp : DSp) (RX : XW) (fr : FA) : FE := fun ρ O Q => fr ρ O fun ds O1 => dsp (ds ++ [.non]) O1 Q fun cls fs O' => RX cls fs ρ O'
theorem ap_fCallXD (dsp : DSp) (RX : XW) (fr : FA) {ρ : DEnv} {O : Ow} {Q : VD} : fCallXD dsp RX fr ρ O Q = fr ρ O fun ds O1 => dsp (ds ++ [.non]) O1 Q fun cls fs O' => RX cls fs ρ O' := rfl
end
section
variable {P : Program} {w : World} {K : PySem.W.Frag} {mg : Str → Option Value} {base : Heap}
end
/-! ### for over a list, owned or not, that stays -/
section
variable {X : Cx} {M : MX} {l tg : Expr} {fl : FE} {pos : Pos}
def forE (x : D) (all : List D) (p : Pat) (gb : GS) (R : DEnds) : List D → DEnv → Ow → Prop
  | [], ρ, O => deref O x = .lst all ∧ R.nx ρ O
  | d :: ds, ρ, O => deref O x = .lst all ∧ patGet (patD p d ρ) fun ρ1 => gb { R with nx := forE x all p gb R ds, ct := forE x all p gb R ds, bk := R.nx } ρ1 O
def asLE (x : D) (O : Ow) (Q : List D → Prop) : Prop := match deref O x with
  | .lst ds => Q ds
  | _ => False
def gForE (fl : FE) (p : Pat) (gb : GS) : GS := fun R ρ O => fl ρ O fun x O1 => asLE x O1 fun ds => forE x ds p gb R ds ρ O1
theorem ap_gForE (fl : FE) (p : Pat) (gb : GS) {R : DEnds} {ρ : DEnv} {O : Ow} : gForE fl p gb R ρ O = fl ρ O fun x O1 => asLE x O1 fun ds => forE x ds p gb R ds ρ O1 := rfl
theorem asLE_l {ds : List D} {O : Ow} {Q : List D → Prop} : asLE (.lst ds) O Q = Q ds := rfl
end
end Kf
/-! Dl18: walks along the keys of an owned dict. -/
namespace Kf
open PySem PySem.Spec L2
open PyProof.Rows hiding St
variable {M : MX}
/-! ### [.. for k in d] -/
def lcK (a : Addr) (c : Cell) (p : Pat) (ft : FT) (fe : FE) (ρ : DEnv) : List D → List D → Ow → (List D → Ow → Prop) → Prop
  | [], acc, O, Q => O a = some c ∧ Q acc O
  | d :: ds, acc, O, Q => O a = some c ∧ patGet (patD p d ρ) fun ρ1 => ft ρ1 O fun b O1 => if b = true then fe ρ1 O1 fun e O2 => acc.length < sizeLine ∧ lcK a c p ft fe ρ ds (acc ++ [e]) O2 Q else lcK a c p ft fe ρ ds acc O1 Q
def asDc (o : Option (Option D)) (O : Ow) (N : Addr → List (Key × D) → Prop) : Prop := match o with
  | some (some (.ref a)) => match O a with
    | some (.dic kvs) => N a kvs
    | _ => False
  | _ => False
def keysD (kvs : List (Key × D)) : List D := kvs.map fun kv => keyD kv.1
def fLcK (i : Nat) (p : Pat) (ft : FT) (fe : FE) (vs : List Nat) : FE := fun ρ O Q => asDc ρ[i]? O fun a kvs =>
  ∀ o, lcK a (.dicL kvs o) p ft fe (wipeD ρ vs) (keysD kvs) [] (updO O a (.dicL kvs o)) fun acc O2 => Q (.lst acc) (updO O2 a (.dic kvs))
section
variable {X : Cx} {elt tg iter : Expr} {ifs : List Expr} {scope : Scope} {own : List (Str × Nat)} {pos : Pos} {p : Pat} {ft : FT} {fe : FE}
end
theorem ap_fLcK (i : Nat) (p : Pat) (ft : FT) (fe : FE) (vs : List Nat) {ρ : DEnv} {O : Ow} {Q : VD} : fLcK i p ft fe vs ρ O Q = asDc ρ[i]? O fun a kvs =>
  ∀ o, lcK a (.dicL kvs o) p ft fe (wipeD ρ vs) (keysD kvs) [] (updO O a (.dicL kvs o)) fun acc O2 => Q (.lst acc) (updO O2 a (.dic kvs)) := rfl
/-! ### for k in d -/
def endsK (a : Addr) (c : Cell) (kvs : List (Key × D)) (R : DEnds) (N : DEnv → Ow → Prop) : DEnds :=
  { nx := N, ct := N, bk := fun ρ O => O a = some c ∧ R.nx ρ (updO O a (.dic kvs)), rt := fun d O => O a = some c ∧ R.rt d (updO O a (.dic kvs)) }
def forK (a : Addr) (c : Cell) (kvs : List (Key × D)) (p : Pat) (gb : GS) (R : DEnds) : List D → DEnv → Ow → Prop
  | [], ρ, O => O a = some c ∧ R.nx ρ (updO O a (.dic kvs))
  | d :: ds, ρ, O => O a = some c ∧ patGet (patD p d ρ) fun ρ1 => gb (endsK a c kvs R (forK a c kvs p gb R ds)) ρ1 O
def gForK (i : Nat) (p : Pat) (gb : GS) : GS := fun R ρ O => asDc ρ[i]? O fun a kvs => ∀ o, forK a (.dicL kvs o) kvs p gb R (keysD kvs) ρ (updO O a (.dicL kvs o))
theorem ap_gForK (i : Nat) (p : Pat) (gb : GS) {R : DEnds} {ρ : DEnv} {O : Ow} : gForK i p gb R ρ O = asDc ρ[i]? O fun a kvs => ∀ o, forK a (.dicL kvs o) kvs p gb R (keysD kvs) ρ (updO O a (.dicL kvs o)) := rfl
section
variable {X : Cx} {tg iter : Expr} {pos : Pos}
end
end Kf
/-! Dl19: dict(pairs). -/
namespace Kf
open PySem PySem.Spec L2
open PyProof.Rows hiding St
variable {M : MX}
def mergeD (kvs : List (Key × D)) (ls : List (Key × D)) : List (Key × D) := ls.foldl (fun r kv => putD r kv.1 kv.2) kvs
theorem KvOk.merge {K : PySem.W.Frag} {F : Hp} {ls : List (Key × D)} {ws : List (Key × V)} (h : KvOk K F ls ws) : ∀ {kvs : List (Key × D)} {vs : List (Key × V)}, KvOk K F kvs vs → KvOk K F (mergeD kvs ls) (mergeK vs ws) := by
  induction h with
  | nil => intro kvs vs q; simpa [mergeD, mergeK] using q
  | @cons p1 q1 ps qs a _ ih =>
    intro kvs vs q
    have := ih (q.put (k := p1.1) a.2)
    obtain ⟨e, _⟩ := a
    simp only [mergeD, mergeK, List.foldl_cons] at this ⊢
    rw [e] at this ⊢
    exact this
section
variable {X : Cx}
end
/-! ### xs or ys, of lists -/
section
variable {X : Cx} {a b : Expr} {fa fb : FE} {rest : List Expr} {pos : Pos}
def rOrL (x : D) (O : Ow) (N : List D → Prop) : Prop := match deref O x with
  | .lst ds => N ds
  | _ => False
def fOrL (fa fb : FE) : FE := fun ρ O Q => fa ρ O fun x O1 => rOrL x O1 fun ds => if ds.isEmpty = true then fb ρ O1 Q else Q x O1
end
theorem ap_fOrL (fa fb : FE) {ρ : DEnv} {O : Ow} {Q : VD} : fOrL fa fb ρ O Q = fa ρ O fun x O1 => rOrL x O1 fun ds => if ds.isEmpty = true then fb ρ O1 Q else Q x O1 := rfl
theorem rOrL_l {ds : List D} {O : Ow} {N : List D → Prop} : rOrL (.lst ds) O N = N ds := rfl
end Kf
/-! Dl20: tables of the module, unpacking of lists, ranges with a step. -/
namespace Kf
open PySem PySem.Spec L2
open PyProof.Rows hiding St
variable {M : MX}
/-! ### a table of texts by texts, of the module -/
def CDic (K : PySem.W.Frag) (w : World) (mg : Str → Option Value) (x : Str) (tab : List (Str × Str)) : Prop :=
  ∃ d es n, mg x = some (.ref d) ∧ KDict K w d es n ∧ Paired (fun (e : DictEntry) (q : Str × Str) => (∃ t, e.key = .str q.1 t) ∧ ∃ t, e.val = .str q.2 t) es.toList tab
def tabF (tab : List (Str × Str)) (z : Str) : Option Str := (tab.find? fun q => decide (q.1 = z)).map (·.2)
theorem find_tab {es : List DictEntry} {tab : List (Str × Str)} (h : Paired (fun (e : DictEntry) (q : Str × Str) => (∃ t, e.key = .str q.1 t) ∧ ∃ t, e.val = .str q.2 t) es tab) (z : Str) :
    (tabF tab z = none ∧ (es.find? fun e => Value.isStrOf z e.key).map (·.val) = none) ∨ ∃ y t, tabF tab z = some y ∧ (es.find? fun e => Value.isStrOf z e.key).map (·.val) = some (.str y t) := by
  induction h with
  | nil => exact .inl ⟨rfl, rfl⟩
  | @cons e q es qs a _ ih =>
    obtain ⟨⟨t, ek⟩, t2, ev⟩ := a
    have hs : Value.isStrOf z e.key = decide (q.1 = z) := by
      rw [ek]
      show (q.1 == z) = _
      exact str_beq ..
    unfold tabF at ih ⊢
    rw [List.find?_cons, List.find?_cons, hs]
    by_cases c : q.1 = z
    · rw [decide_eq_true c]
      exact .inr ⟨q.2, t2, rfl, by simp [ev]⟩
    · rw [decide_eq_false c]
      exact ih
section
variable {X : Cx} {x : Str} {tab : List (Str × Str)} {e i a : Expr} {fe fi fa : FE} {pos pos' apos cpos p2 : Pos}
theorem CDic.map {d : Addr} {es : Array DictEntry} {n : Nat} (D : KDict X.K X.w d es n) (hp : Paired (fun (e : DictEntry) (q : Str × Str) => (∃ t, e.key = .str q.1 t) ∧ ∃ t, e.val = .str q.2 t) es.toList tab) (z : Str) :
    (tabF tab z = none ∧ findBy Value.isStrOf es z = none) ∨ ∃ y t, tabF tab z = some y ∧ findBy Value.isStrOf es z = some (.str y t) := by
  have h := find_tab hp z
  obtain ⟨l⟩ := es
  unfold findBy
  rw [List.find?_toArray]
  exact h
def tabD (tab : List (Str × Str)) (z : Str) : D := match tabF tab z with
  | some y => .str y
  | none => .non
def asStr (d : D) (N : Str → Prop) : Prop := match d with
  | .str z => N z
  | _ => False
/-- T.get(w) -/
def fKGet (tab : List (Str × Str)) (fe : FE) : FE := fun ρ O Q => fe ρ O fun d O1 => asStr d fun z => Q (tabD tab z) O1
theorem de_kget (c : CDic X.K X.w X.mg x tab) (hg : Gl X x) (he : DE M X e fe) (m : M1 X (.Name x pos) "get" apos e cpos := by exact ⟨by rfl, by rfl, by rfl, by rfl⟩) (hd : (x == ("__debug__" : Str)) = false := by decide) :
    DE M X (.Call (.Attribute (.Name x pos) "get" apos) [e] [] cpos) (fKGet tab fe) := by
  obtain ⟨d, es, n, hm, D, hp⟩ := c
  refine ⟨fun pins s σ H Q I h => ?_⟩
  refine wpAny_Call_method m.base m.few m.line PySem.F.plainAttrs_dict PySem.F.slot_dict_get PySem.F.type_dict_get (thn ((pe_glob (pos := pos) hg hm (v := .ref d) rfl hd).run pins s σ H (fun v H' => v = .ref d ∧ H' = H) I ⟨rfl, rfl⟩) fun u s1 ⟨x1, H1, I1, rx, ex, eH⟩ => ?_)
  subst ex eH
  obtain rfl : u = Value.ref d := rx
  have mo := PySem.W.mapOf_K (prog := X.prog) (w := X.w) I1.kIn D.at_ D.lit
  refine ⟨mo.typeIs, mo.noDict, ?_⟩
  rw [m.trees]
  refine Calls.callWith_builtin rfl (Calls.evalArgs_plain (Calls.spliced_cons (thn (he.run pins s1 σ H1 (fun v H' => ∃ z, v = .str z ∧ Q (match tabF tab z with | some y => .str y | none => .non) H') I1 ?_) fun iv s2 ⟨y, H2, I2, ry, z, ey, q2⟩ => Calls.spliced_nil ?_)))
  · obtain ⟨F, O, P, ρ, R, g, en, q, po⟩ := h
    refine ⟨F, O, P, ρ, _, g, en, q, fun d1 O1 F1 H1 v q1 s1 g1 r1 => ?_⟩
    unfold asStr at q1
    split at q1 <;> first | exact q1.elim | skip
    rename_i z
    simp only [Rep] at r1
    refine ⟨z, r1, ?_⟩
    unfold tabD at q1
    cases hz : tabF tab z with
    | none => rw [hz] at q1; exact po _ O1 F1 H1 _ q1 s1 g1 (by simp only [Rep])
    | some y => rw [hz] at q1; exact po _ O1 F1 H1 _ q1 s1 g1 (by simp only [Rep])
  · subst ey
    obtain ⟨t, rfl⟩ := ry
    have mo2 := PySem.W.mapOf_K (prog := X.prog) (w := X.w) I2.kIn D.at_ D.lit
    refine call_meetsIn PySem.F.slot_dict_get mo2.typeIs PySem.F.entry_dict_get (PySem.F.args_dict_get_2 _ _) (meets_dict_get (strKind X.prog X.w) d (PySem.strKind_is X.prog X.w z t) D.low) ⟨_, mo2, ?_⟩
    rcases CDic.map D hp z with ⟨e1, e2⟩ | ⟨y, t2, e1, e2⟩
    · rw [e1] at q2
      rw [e2]
      exact ⟨.non, H2, I2.tok _, rfl, q2⟩
    · rw [e1] at q2
      rw [e2]
      exact ⟨.str y, H2, I2.tok _, ⟨t2, rfl⟩, q2⟩
theorem ap_fKGet (tab : List (Str × Str)) (fe : FE) {ρ : DEnv} {O : Ow} {Q : VD} : fKGet tab fe ρ O Q = fe ρ O fun d O1 => asStr d fun z => Q (tabD tab z) O1 := rfl
theorem asStr_s {z : Str} {N : Str → Prop} : asStr (.str z) N = N z := rfl
/-- w in T -/
def fKIn (tab : List (Str × Str)) (fa : FE) : FE := fun ρ O Q => fa ρ O fun d O1 => asStr d fun z => Q (.bl (tabF tab z).isSome) O1
theorem ap_fKIn (tab : List (Str × Str)) (fa : FE) {ρ : DEnv} {O : Ow} {Q : VD} : fKIn tab fa ρ O Q = fa ρ O fun d O1 => asStr d fun z => Q (.bl (tabF tab z).isSome) O1 := rfl
/-- T[w] -/
def asSome (o : Option Str) (N : Str → Prop) : Prop := match o with
  | some y => N y
  | none => False
def fKIx (tab : List (Str × Str)) (fi : FE) : FE := fun ρ O Q => fi ρ O fun d O1 => asStr d fun z => asSome (tabF tab z) fun y => Q (.str y) O1
theorem ap_fKIx (tab : List (Str × Str)) (fi : FE) {ρ : DEnv} {O : Ow} {Q : VD} : fKIx tab fi ρ O Q = fi ρ O fun d O1 => asStr d fun z => asSome (tabF tab z) fun y => Q (.str y) O1 := rfl
end
/-! ### (a, b, ..) = a list -/
section
variable {X : Cx} {e : Expr} {es : List Expr} {fe : FE} {pos p2 : Pos}
def rUnl (d : D) (O : Ow) (N : List D → Prop) : Prop := match deref O d with
  | .lst ds => N ds
  | _ => False
def gAsgL (fe : FE) (ps : List Pat) : GS := fun R ρ O => fe ρ O fun d O1 => rUnl d O1 fun ds => patGet (patDs ps ds ρ) fun ρ' => R.nx ρ' O1
theorem ap_gAsgL (fe : FE) (ps : List Pat) {R : DEnds} {ρ : DEnv} {O : Ow} : gAsgL fe ps R ρ O = fe ρ O fun d O1 => rUnl d O1 fun ds => patGet (patDs ps ds ρ) fun ρ' => R.nx ρ' O1 := rfl
theorem rUnl_l {ds : List D} {O : Ow} {N : List D → Prop} : rUnl (.lst ds) O N = N ds := rfl
end
/-! ### range(i, j, c) -/
section
variable {X : Cx} {tg a b c : Expr} {fr : FA} {p pos : Pos}
def rangeC (lo c : Int) (n : Nat) : List D := (List.range n).map fun i => .int (lo + (i : Nat) * c)
def asR3 (ds : List D) (O : Ow) (Q : List D → Ow → Prop) : Prop := match ds with
  | [.int i, .int j, .int c] => ∃ n, RgC i j c n ∧ Q (rangeC i c n) O
  | _ => False
def fiRng3 (fr : FA) : FI := fun ρ O Q => fr ρ O fun ds O1 => asR3 ds O1 Q
theorem ap_fiRng3 (fr : FA) {ρ : DEnv} {O : Ow} {Q : List D → Ow → Prop} : fiRng3 fr ρ O Q = fr ρ O fun ds O1 => asR3 ds O1 Q := rfl
theorem asR3_i {i j c : Int} {O : Ow} {Q : List D → Ow → Prop} : asR3 [.int i, .int j, .int c] O Q = ∃ n, RgC i j c n ∧ Q (rangeC i c n) O := rfl
end
/-! ### a text split, the list changes -/
section
variable {X : Cx}
def rSplitO : RMD := fun x ds O Q => match x, ds with
  | .str a, [.str b] => (b.length == 0) = false ∧ a.length + 2 ≤ sizeLine ∧ ∀ p, O p = none → Q (.ref p) (updO O p (.lst ((Txt.split a b).map .str)))
  | _, _ => False
theorem rSplitO_s {a b : Str} {O : Ow} {Q : VD} : rSplitO (.str a) [.str b] O Q = ((b.length == 0) = false ∧ a.length + 2 ≤ sizeLine ∧ ∀ p, O p = none → Q (.ref p) (updO O p (.lst ((Txt.split a b).map .str)))) := rfl
end
end Kf
/-! Dl21: enumerate(tuple). -/
namespace PySem
open Sem (wp)
open AutoSeq1 (wpAny_loadPart')
end PySem
namespace Kf
open PySem PySem.Spec L2
open PyProof.Rows hiding St
def asT1 (ds : List D) (O : Ow) (Q : List D → Ow → Prop) : Prop := match ds with
  | [.tup ds] => Q ds O
  | _ => False
def fiEnumT (fr : FA) : FI := fun ρ O Q => fr ρ O fun ds O1 => asT1 ds O1 fun ds O2 => Q (enumD ds) O2
section
variable {M : MX} {X : Cx} {fr : FA} {pos : Pos}
end
theorem ap_fiEnumT (fr : FA) {ρ : DEnv} {O : Ow} {Q : (List D → Ow → Prop)} : fiEnumT fr ρ O Q = (fr ρ O fun ds O1 => asT1 ds O1 fun ds O2 => Q (enumD ds) O2) := rfl
theorem asT1_t {ds : List D} {O : Ow} {Q : List D → Ow → Prop} : asT1 [.tup ds] O Q = Q ds O := rfl
end Kf
/-! Dl22: a finer room: one frame for each call. -/
namespace Kf
open PySem PySem.Spec L2
open PyProof.Rows hiding St
structure RoomT (k : Nat) (A : Around) : Prop where
  hd : A.handled = none
  dp : A.depth + k + 5 < recursionLimit
  un : A.units + 5 * k + 200 < cLine
theorem RoomT.deeper {k : Nat} {A : Around} (r : RoomT (k + 1) A) (env : Env) : RoomT k (A.deeper env) :=
  ⟨r.hd, by have := r.dp; show A.depth + 1 + k + 5 < _; omega, by have := r.un; show A.units + 3 + 5 * k + 200 < _; omega⟩
theorem RoomT.depth {k : Nat} {A : Around} (r : RoomT k A) : A.depth < recursionLimit := by have := r.dp; omega
theorem RoomT.u200 {k : Nat} {A : Around} (r : RoomT k A) : A.units + 200 < cLine := by have := r.un; omega
theorem RoomT.to {j k : Nat} {A : Around} (r : RoomT k A) (h : 4 * j ≤ k) : Room j A := ⟨r.hd, by have := r.dp; omega, by have := r.un; omega⟩
theorem RoomT.of {j k : Nat} {A : Around} (r : Room j A) (h : k ≤ 3 * j) : RoomT k A := ⟨r.hd, by have := r.dp; omega, by have := r.un; omega⟩
theorem RoomT.mono {j k : Nat} {A : Around} (r : RoomT k A) (h : j ≤ k) : RoomT j A := ⟨r.hd, by have := r.dp; omega, by have := r.un; omega⟩
/-- a def's promise by the finer room -/
structure FnT (P : Program) (w : World) (K : PySem.W.Frag) (mg : Str → Option Value) (base : Heap) (CX : CXT) (k : Nat) (f : Addr) (fd : FuncData) (ps : List Str) (sp : Sp) : Prop where
  len : ∀ vs H Q E, sp vs H Q E → vs.length = ps.length
  run : ∀ (A : Around) (outer : List Env) (s : Shared) (H : Hp) (args : Args) (us : List Value) (vs : List V) (Q : VK) (E : XK), RoomT k A → Env0 P w K mg base A outer s H → BindsTo s fd args (ps.zip us) → Vals vs us → sp vs H Q E →
    codeAny (model P w) A (.call (.ref f) args) (CR CX outer P w H s Q E) s
section
variable {P : Program} {w : World} {K : PySem.W.Frag} {mg : Str → Option Value} {base : Heap} {CX : CXT} {f : Addr} {fd : FuncData} {ps : List Str} {sp : Sp}
theorem FnT.of {j k : Nat} (F : FnOk P w K mg base CX j f fd ps sp) (h : 4 * j ≤ k) : FnT P w K mg base CX k f fd ps sp :=
  ⟨F.len, fun A outer s H args us vs Q E hr => F.run A outer s H args us vs Q E (hr.to h)⟩
theorem FnT.ok {j k : Nat} (F : FnT P w K mg base CX k f fd ps sp) (h : k ≤ 3 * j) : FnOk P w K mg base CX j f fd ps sp :=
  ⟨F.len, fun A outer s H args us vs Q E hr => F.run A outer s H args us vs Q E (.of hr h)⟩
theorem FnT.mono {j k : Nat} (F : FnT P w K mg base CX j f fd ps sp) (h : j ≤ k) : FnT P w K mg base CX k f fd ps sp :=
  ⟨F.len, fun A outer s H args us vs Q E hr => F.run A outer s H args us vs Q E (hr.mono h)⟩
end
section
variable {X : Cx} {e : Expr} {es : List Expr} {t : TA} {CX : CXT} {k : Nat} {f : Addr} {fd : FuncData} {ps : List Str} {sp : Sp} {E : XK} {x : Str} {p pos : Pos}
end
section
variable {M : MX} {X : Cx} {e : Expr} {es : List Expr} {fr : FA} {k : Nat} {f : Addr} {fd : FuncData} {ps : List Str} {dsp : DSp} {x : Str} {st : Stmt} {p pos : Pos}
end
section
variable {P : Program} {w : World} {K : PySem.W.Frag} {mg : Str → Option Value} {base : Heap}
end
end Kf
/-! Dl23: every second thing of a list, xs[::2], xs[1::2]. -/
namespace Kf
open PySem PySem.Spec L2
open PyProof.Rows hiding St
variable {M : MX}
def ev {α : Type} (l : List α) : List α := (List.range ((l.length + 1) / 2)).filterMap fun k => l[2 * k]?
theorem ev_nil {α : Type} : ev ([] : List α) = [] := by simp [ev]
theorem ev_one {α : Type} (x : α) : ev [x] = [x] := by simp [ev, List.range_succ]
theorem ev_two {α : Type} (x y : α) (r : List α) : ev (x :: y :: r) = x :: ev r := by
  unfold ev
  rw [show ((x :: y :: r).length + 1) / 2 = (r.length + 1) / 2 + 1 by simp only [List.length_cons]; omega, List.range_succ_eq_map, List.filterMap_cons]
  simp only [Nat.mul_zero, List.getElem?_cons_zero, List.filterMap_map]
  rfl
theorem RepAll.ev {K : PySem.W.Frag} {F : Hp} : ∀ (ds : List D) (vs : List V), RepAll K F ds vs → RepAll K F (Kf.ev ds) (Kf.ev vs)
  | [], vs, h => by simp only [RepAll] at h; subst h; rw [ev_nil, ev_nil]; exact .nil
  | [d], vs, h => by
    simp only [RepAll] at h
    obtain ⟨v, r, rfl, h1, rfl⟩ := h
    rw [ev_one, ev_one]; exact .one h1
  | d :: e :: ds, vs, h => by
    simp only [RepAll] at h
    obtain ⟨v, r, rfl, h1, v2, r2, rfl, h2, h3⟩ := h
    rw [ev_two, ev_two]; exact .cons h1 (RepAll.ev ds r2 h3)
section
variable {X : Cx} {e st lo : Expr} {fa : FE} {te : TE} {tst tlo : TO} {fs fl : FO} {pos p2 : Pos}
end
end Kf
/-! Dl24: a caught exception kept as a value behind the suite. -/
namespace Kf
open PySem PySem.Spec L2
open PyProof.Rows hiding St
variable {M : MX}
section
variable {X : Cx} {pins : List (Addr × Obj)} {σ : L2.St} {H : Hp} {s : Shared}
end
section
variable {X : Cx} {x n : Str} {c : Value} {i : Nat} {body suite : List Stmt} {b₀ : Stmt} {np pos pos' : Pos} {tb : WX → TS} {ts : Addr → Value → Option Addr → TS} {Wo : WX}
end
/-! ### over data -/
section
variable {X : Cx} {x n : Str} {c : Value} {i : Nat} {body suite : List Stmt} {b₀ : Stmt} {np pos pos' : Pos} {gb : XW → GS} {gs : Addr → Value → Option (List (Str × D)) → GS} {RXo : XW} {Wo : WX}
end
/-! ### a held exception asked -/
theorem FsOk.get {K : PySem.W.Frag} {F : Hp} {fs : List (Str × D)} {fv : List (Str × V)} {f : Str} {d : D} (h : FsOk K F fs fv) (e : fs.lookup f = some d) : ∃ v, fv.lookup f = some v ∧ Rep K F d v := by
  induction h with
  | nil => simp at e
  | @cons p q _ _ r _ ih =>
    obtain ⟨p1, p2⟩ := p
    obtain ⟨q1, q2⟩ := q
    obtain ⟨r1, r2⟩ := r
    dsimp only at r1 r2
    subst r1
    rw [List.lookup_cons] at e ⊢
    cases c : (f == p1) with
    | true => rw [c] at e; cases e; exact ⟨q2, rfl, r2⟩
    | false => rw [c] at e; exact ih e
end Kf
/-! Dl25: dicts compared, cleared; max of a tuple of ints; instances of own classes: fields, methods, making. -/
namespace Kf
open PySem PySem.Spec L2
open PyProof.Rows hiding St
variable {M : MX}
/-! ### dicts of data compared -/
section
variable {X : Cx} {pins : List (Addr × Obj)} {σ : L2.St} {F P H : Hp} {O : Ow} {s : Shared}
end
section
variable {X : Cx}
end
section
variable {X : Cx} {o : Expr} {fo : FE} {apos cpos pos : Pos}
end
section
variable {X : Cx}
end
/-! ### instances of own classes -/
def putFD (f : Str) (v : D) : List (Str × D) → List (Str × D)
  | [] => [(f, v)]
  | (g, x) :: r => if g = f then (g, v) :: r else (g, x) :: putFD f v r
theorem FsOk.put {K : PySem.W.Frag} {F : Hp} {f : Str} {d : D} {v : V} (r : Rep K F d v) {fs : List (Str × D)} {fv : List (Str × V)} (h : FsOk K F fs fv) : FsOk K F (putFD f d fs) (putF f v fv) := by
  induction h with
  | nil => exact .cons ⟨rfl, r⟩ .nil
  | @cons p q ps qs z t ih =>
    obtain ⟨p1, p2⟩ := p
    obtain ⟨q1, q2⟩ := q
    obtain ⟨z1, z2⟩ := z
    dsimp only at z1 z2
    subst z1
    unfold putFD putF
    split
    · exact .cons ⟨rfl, r⟩ t
    · exact .cons ⟨rfl, z2⟩ ih
theorem FsOk.none {K : PySem.W.Frag} {F : Hp} {f : Str} {fs : List (Str × D)} {fv : List (Str × V)} (h : FsOk K F fs fv) (e : fs.lookup f = none) : fv.lookup f = none := by
  induction h with
  | nil => rfl
  | @cons p q _ _ r _ ih =>
    obtain ⟨p1, p2⟩ := p
    obtain ⟨q1, q2⟩ := q
    obtain ⟨r1, r2⟩ := r
    dsimp only at r1 r2
    subst r1
    rw [List.lookup_cons] at e ⊢
    cases c : (f == p1) with
    | true => rw [c] at e; cases e
    | false => rw [c] at e; exact ih e
theorem FsOk.length {K : PySem.W.Frag} {F : Hp} {fs : List (Str × D)} {fv : List (Str × V)} (h : FsOk K F fs fv) : fs.length = fv.length := Paired.length h
section
variable {X : Cx} {o e value : Expr} {es : List Expr} {f m x : Str} {pos pos' apos p : Pos} {fo fe : FE} {fr : FA} {k : Nat} {C g0 : Addr} {fd : FuncData} {ps : List Str} {dsp : DSp}
/-- o.f -/
def rFld (f : Str) (x : D) (O : Ow) (Q : VD) : Prop := match x with
  | .ref a => match O a with
    | some (.ins _ fs) => match fs.lookup f with
      | some d => Q d O
      | none => False
    | _ => False
  | _ => False
/-- an instance of the class at C -/
def isIns (C : Addr) (x : D) (O : Ow) : Prop := ∃ a fs, x = .ref a ∧ O a = some (.ins C fs)
def fFld (C : Addr) (f : Str) (fo : FE) : FE := fun ρ O Q => fo ρ O fun x O1 => isIns C x O1 ∧ rFld f x O1 Q
theorem de_fld (c : Cls X.K C) (n : NoAttr X.K C f) (ho : DE M X o fo) (hb : attributeBase o f X.env (eval o X.env) = eval o X.env := by rfl) : DE M X (.Attribute o f pos) (fFld C f fo) := peMono (pe_fld ho hb) fun σ H Q h => by
  obtain ⟨F, O, P, ρ, R, g, en, q, po⟩ := h
  refine ⟨F, O, P, ρ, _, g, en, q, fun x O1 F1 H1 v q1 s1 g1 r1 => ?_⟩
  obtain ⟨⟨a, fs, rfl, hO⟩, q1⟩ := q1
  simp only [Rep] at r1
  subst r1
  unfold rFld at q1
  simp only [hO] at q1
  obtain ⟨_, _, dx, fv, h1, h2⟩ := g1.ow a _ hO
  cases e : fs.lookup f with
  | none => rw [e] at q1; exact q1.elim
  | some d =>
    rw [e] at q1
    obtain ⟨w, ew, rw'⟩ := h2.get e
    exact ⟨a, C, dx, fv, w, rfl, h1, c, n, ew, (po.more s1).at g1 q1 rw'⟩
/-- o.f = value -/
def rFldS (f : Str) (x d : D) (O : Ow) (N : Ow → Prop) : Prop := match x with
  | .ref a => match O a with
    | some (.ins C fs) => fs.length < 1000 ∧ N (updO O a (.ins C (putFD f d fs)))
    | _ => False
  | _ => False
def gFld (C : Addr) (f : Str) (fo fe : FE) : GS := fun R ρ O => fe ρ O fun d O1 => fo ρ O1 fun x O2 => isIns C x O2 ∧ rFldS f x d O2 (R.nx ρ)
theorem ds_fld (c : Cls X.K C) (n : NoAttr X.K C f) (ho : DE M X o fo) (he : DE M X value fe) (hs : swapsWith value (some (.Attribute o f pos')) pos.line X.env = pure false := by rfl) : DS M X (.Assign [.Attribute o f pos'] value pos) (gFld C f fo fe) := psMono (ps_fld ho he hs) fun D σ H h => by
  obtain ⟨F, O, P, ρ, R, g, en, q, po⟩ := h
  refine ⟨F, O, P, ρ, _, g, en, q, fun d O1 F1 H1 v q1 s1 g1 r1 => ?_⟩
  refine ⟨F1, O1, P, ρ, _, g1, en.mono s1, q1, fun x O2 F2 H2 w q2 s2 g2 r2 => ?_⟩
  obtain ⟨⟨a, fs, rfl, hO⟩, q2⟩ := q2
  simp only [Rep] at r2
  subst r2
  unfold rFldS at q2
  simp only [hO] at q2
  obtain ⟨_, _, dx, fv, h1, h2⟩ := g2.ow a _ hO
  refine ⟨a, C, dx, fv, rfl, h1, c, n, by rw [← h2.length]; exact q2.1, ?_⟩
  exact po.nx ρ _ F2 _ σ q2.2 (s1.trans s2) (g2.setO hO ⟨dx, _, upd_same, h2.put (r1.mono s2)⟩) (en.mono (s1.trans s2))
/-- a method as it stands -/
structure Mt (K : PySem.W.Frag) (C : Addr) (m qual : Str) (st : Stmt) (ps : List Str) (f : Addr) (fd : FuncData) : Prop where
  F : Fun K m qual st f fd
  m : Meth K C m f
  b : Binds K fd ps []
def insNo (C : Addr) (m : Str) (x : D) (O : Ow) : Prop := ∃ a fs, x = .ref a ∧ O a = some (.ins C fs) ∧ fs.lookup m = none
def fMeth (C : Addr) (m : Str) (dsp : DSp) (fo : FE) (fr : FA) : FE := fun ρ O Q => fo ρ O fun x O1 => insNo C m x O1 ∧ fr ρ O1 fun ds O2 => dsp (x :: ds) O2 Q X0
theorem de_meth {qual : Str} {st : Stmt} {pl : Sem Bool} (c : Cls X.K C) (N : Mt X.K C m qual st ps g0 fd) (G : FnOk X.prog X.w X.K X.mg X.base CX0 k g0 fd ps (liftSp X.K dsp)) (hr : Room k X.A) (ho : DE M X o fo) (ha : DA M X (e :: es) fr)
    (hst : starEach (e :: es) X.env = (false, eval e X.env) :: starEach es X.env := by rfl) (hpl : (backTo pos (starEach es X.env)).any (·.1) = false := by rfl)
    (ht : eval (.Call (.Attribute o m apos) (e :: es) [] pos) X.env = (do
      let ov ← eval o X.env
      standAt apos.atName
      let (f, first) ← holding [ov] (getMethod ov m pl)
      callWith pos f first (backTo pos (starEach (e :: es) X.env)) (backToKw pos (keywordEach [] X.env))) := by rfl) :
    DE M X (.Call (.Attribute o m apos) (e :: es) [] pos) (fMeth C m dsp fo fr) := peMono (pe_meth ho c N.m G hr N.b .nil pass0 ha hst hpl ht) fun σ H Q h => by
  obtain ⟨F, O, P, ρ, R, g, en, q, po⟩ := h
  refine ⟨F, O, P, ρ, _, g, en, q, fun x O1 F1 H1 v q1 s1 g1 r1 => ?_⟩
  obtain ⟨⟨a, fs, rfl, hO, hl⟩, q1⟩ := q1
  have rx := r1
  simp only [Rep] at r1
  subst r1
  obtain ⟨_, _, dx, fv, h1, h2⟩ := g1.ow a _ hO
  refine ⟨a, dx, fv, rfl, h1, h2.none hl, F1, O1, P, ρ, _, g1, en.mono s1, q1, fun ds O2 F2 H2 vs q2 s2 g2 r2 => ?_⟩
  show liftSp X.K dsp (V.ref a :: (vs ++ [])) H2 Q E0
  rw [List.append_nil]
  exact ⟨F2, O2, P, _, R, X0, g2.mt, .cons (rx.mono s2) r2, q2, po.mt g2 (s1.trans s2), fun _ _ _ _ _ _ z => z.elim⟩
/-- C(..) -/
def fMake (C : Addr) (dsp : DSp) (fr : FA) : FE := fun ρ O Q => fr ρ O fun ds O1 => ∀ p, O1 p = none → dsp (.ref p :: ds) (updO O1 p (.ins C [])) (fun v O2 => v = .non ∧ Q (.ref p) O2) X0
theorem mk_lift {F F1 P H1 : Hp} {O1 : Ow} {ds : List D} {vs : List V} {R : VD} {Q : VK} (s1 : Same F F1) (g1 : Gd M X.K F1 O1 P H1) (r1 : RepAll X.K F1 ds vs) (po : PostE M X.K F P R Q)
    (q1 : ∀ p, O1 p = none → dsp (.ref p :: ds) (updO O1 p (.ins C [])) (fun v O2 => v = .non ∧ R (.ref p) O2) X0) :
    ∀ x dx, H1 x = none → H1 dx = none → dx ≠ x → liftSp X.K dsp (.ref x :: (vs ++ [])) (upd (upd H1 dx (.own x)) x (.ins C dx [])) (fun v H2 => v = .non ∧ Q (.ref x) H2) E0 := by
  intro x dx hx hd ne
  have gd := g1.skip (o := .own x) hd
  have hx' : upd H1 dx (.own x) x = none := by rw [upd_ne (fun z => ne z.symm)]; exact hx
  have gx := gd.newO (o := .ins C dx []) (c := .ins C []) hx' ⟨dx, [], upd_same, .nil⟩
  rw [List.append_nil]
  refine ⟨F1, _, P, _, _, X0, gx.mt, .cons (by simp only [Rep]) r1, q1 x (g1.freeO hx), ?_, fun _ _ _ _ _ _ z => z.elim⟩
  intro d O' F' H' v q s g r
  obtain ⟨rfl, q⟩ := q
  simp only [Rep] at r
  subst r
  exact ⟨rfl, po _ O' F' H' _ q (s1.trans s) (g.re (M.mono gx.rl s (Same.refl _))) (by simp only [Rep])⟩
/-- a class that is made by its __init__ -/
structure MkN (K : PySem.W.Frag) (mg : Str → Option Value) (x : Str) (C : Addr) (f : Addr) : Prop where
  made : Mk K C f
  g : mg x = some (.ref C)
theorem de_make0 {qual : Str} {st : Stmt} (N : MkN X.K X.mg x C g0) (I : Mt X.K C "__init__" qual st ps g0 fd) (G : FnOk X.prog X.w X.K X.mg X.base CX0 k g0 fd ps (liftSp X.K dsp)) (hr : Room (k + 1) X.A) (hg : Gl X x)
    (hdb : (x == ("__debug__" : Str)) = false := by decide) : DE M X (.Call (.Name x p) [] [] pos) (fMake C dsp fNil) := peMono (pe_make0 N.made G hr hg N.g I.b .nil pass0 hdb) fun σ H Q h => by
  obtain ⟨F, O, P, ρ, R, g, en, q, po⟩ := h
  exact mk_lift (Same.refl _) g .nil po q
end
theorem ap_fFld (C : Addr) (f : Str) (fo : FE) {ρ : DEnv} {O : Ow} {Q : VD} : fFld C f fo ρ O Q = fo ρ O fun x O1 => isIns C x O1 ∧ rFld f x O1 Q := rfl
theorem ap_gFld (C : Addr) (f : Str) (fo fe : FE) {R : DEnds} {ρ : DEnv} {O : Ow} : gFld C f fo fe R ρ O = fe ρ O fun d O1 => fo ρ O1 fun x O2 => isIns C x O2 ∧ rFldS f x d O2 (R.nx ρ) := rfl
theorem ap_fMeth (C : Addr) (m : Str) (dsp : DSp) (fo : FE) (fr : FA) {ρ : DEnv} {O : Ow} {Q : VD} : fMeth C m dsp fo fr ρ O Q = fo ρ O fun x O1 => insNo C m x O1 ∧ fr ρ O1 fun ds O2 => dsp (x :: ds) O2 Q X0 := rfl
theorem ap_fMake (C : Addr) (dsp : DSp) (fr : FA) {ρ : DEnv} {O : Ow} {Q : VD} : fMake C dsp fr ρ O Q = fr ρ O fun ds O1 => ∀ p, O1 p = none → dsp (.ref p :: ds) (updO O1 p (.ins C [])) (fun v O2 => v = .non ∧ Q (.ref p) O2) X0 := rfl
section
variable {O : Ow} {a C : Addr} {fs : List (Str × D)} {f m : Str} {d : D} {Q : VD} {N : Ow → Prop}
theorem isIns_of (h : O a = some (.ins C fs)) : isIns C (.ref a) O := ⟨a, fs, rfl, h⟩
theorem insNo_of (h : O a = some (.ins C fs)) (e : fs.lookup m = none) : insNo C m (.ref a) O := ⟨a, fs, rfl, h, e⟩
theorem rFld_of (h : O a = some (.ins C fs)) (e : fs.lookup f = some d) : rFld f (.ref a) O Q = Q d O := by simp only [rFld, h, e]
theorem rFldS_of (h : O a = some (.ins C fs)) : rFldS f (.ref a) d O N = (fs.length < 1000 ∧ N (updO O a (.ins C (putFD f d fs)))) := by simp only [rFldS, h]
end
end Kf
/-! Dl26: defs as values (called, compared), a caught exception that the suite holds as a thing. -/
namespace Kf
open PySem PySem.Spec L2
open PyProof.Rows hiding St
variable {M : MX}
/-! ### functions compared -/
section
variable {prog : Program} {w : World} {A : Around} {E : Value → Shared → Prop} {s : Shared} {x y : Addr}
end
section
variable {X : Cx}
end
/-! ### a call of what an expression tells -/
section
variable {P : Program} {w : World} {K : PySem.W.Frag} {mg : Str → Option Value} {base : Heap} {CX : CXT} {k : Nat}
end
section
variable {X : Cx} {e f₀ : Expr} {es : List Expr} {fe : FE} {fr : FA} {k : Nat} {S : Addr → DSp → Prop} {pos : Pos} {RX : XW} {W : WX}
end
section
variable {X : Cx} {x n : Str} {c : Value} {i : Nat} {body suite : List Stmt} {b₀ : Stmt} {np pos pos' : Pos} {tb : WX → TS} {ts : TS} {Wo : WX}
end
/-! ### a caught exception held in the suite -/
section
variable {X : Cx} {x n : Str} {c : Value} {i : Nat} {body suite : List Stmt} {b₀ : Stmt} {np pos pos' : Pos} {gb : XW → GS} {gs : GS} {RXo : XW} {Wo : WX}
end
/-! ### a def that is called while an exception is handled -/
structure RoomC (k : Nat) (A : Around) : Prop where
  dp : A.depth + 3 * k + 5 < recursionLimit
  un : A.units + 16 * k + 200 < cLine
theorem RoomC.deeper {k : Nat} {A : Around} (r : RoomC (k + 1) A) (env : Env) : RoomC k (A.deeper env) :=
  ⟨by have := r.dp; show A.depth + 1 + 3 * k + 5 < _; omega, by have := r.un; show A.units + 3 + 16 * k + 200 < _; omega⟩
structure FnC (P : Program) (w : World) (K : PySem.W.Frag) (mg : Str → Option Value) (base : Heap) (CX : CXT) (k : Nat) (f : Addr) (fd : FuncData) (ps : List Str) (sp : Sp) : Prop where
  len : ∀ vs H Q E, sp vs H Q E → vs.length = ps.length
  run : ∀ (A : Around) (outer : List Env) (s : Shared) (H : Hp) (args : Args) (us : List Value) (vs : List V) (Q : VK) (E : XK), RoomC k A → Env0 P w K mg base A outer s H → BindsTo s fd args (ps.zip us) → Vals vs us → sp vs H Q E →
    codeAny (model P w) A (.call (.ref f) args) (CR CX outer P w H s Q E) s
section
variable {P : Program} {w : World} {K : PySem.W.Frag} {mg : Str → Option Value} {base : Heap}
end
section
variable {X : Cx} {e : Expr} {es : List Expr} {fr : FA} {k : Nat} {f : Addr} {fd : FuncData} {ps : List Str} {dsp : DSp} {x : Str} {st : Stmt} {p pos : Pos}
end
end Kf
set_option maxHeartbeats 1000000
/-! Dl27: exceptions made as values, with and without an own __init__ that keeps one field; the latter raised. -/
namespace Kf
open PySem PySem.Spec L2
open PyProof.Rows hiding St
variable {M : MX}
/-! ### without an own __init__ -/
section
variable {X : Cx} {e : Expr} {fe : FE} {x : Str} {C : Addr} {p pos : Pos}
end
/-! ### with an own __init__ -/
/-- the base class of all own exceptions: its __init__ is ValueError's -/
structure BaseX (K : PySem.W.Frag) (mg : Str → Option Value) (x : Str) (B : Addr) : Prop where
  g : mg x = some (.ref B)
  sp : PySem.W.specialIn K (.ref B) "__getattribute__" = some (some (.builtin "type.__getattribute__"))
  ty : PySem.W.typeIn K (.ref B) = some (.type "type")
  rd : PySem.W.readsIn K B (.type "type") = true
  fc : PySem.W.findCls K (.ref B) (.type "type") "__init__" = some (.val (.builtin "ValueError.__init__"))
section
variable {X : Cx} {e : Expr} {es : List Expr} {ta : TA} {x : Str} {B : Addr} {p1 p2 pos : Pos}
end
/-- an own class of exceptions whose __init__ keeps what it is given as the field f -/
structure ExI (K : PySem.W.Frag) (mg : Str → Option Value) (x f : Str) (C fI : Addr) (fd : FuncData) (qual : Str) (st : Stmt) (ps : List Str) : Prop where
  T : OexC K C
  g : mg x = some (.ref C)
  iC : PySem.W.findIn K (.ref C) "__init__" = some (some (.ref fI))
  tI : PySem.W.typeIn K (.ref fI) = some (.type "function")
  no : PySem.W.findIn K (.ref C) f = some none
  F : Fun K "__init__" qual st fI fd
  b : Binds K fd ps []
section
variable {X : Cx} {CX : CXT} {e : Expr} {es : List Expr} {ta : TA} {x f : Str} {C fI : Addr} {fd : FuncData} {qual : Str} {st : Stmt} {ps : List Str} {k : Nat} {p pos : Pos}
end
section
variable {X : Cx} {e : Expr} {es : List Expr} {fr : FA} {x f : Str} {C fI : Addr} {fd : FuncData} {qual : Str} {st : Stmt} {ps : List Str} {k : Nat} {p pos pos' : Pos} {RX : XW} {W : WX}
end
section
variable {P : Program} {w : World} {K : PySem.W.Frag} {mg : Str → Option Value} {base : Heap}
end
end Kf
/-! Dl28: sorted() of a list of things that compare. -/
namespace Kf
open PySem PySem.Spec L2
open PyProof.Rows hiding St
open PySem.W (EachIs)
variable {M : MX}
section
variable {X : Cx}
end
/-! ### the order -/
end Kf
/-! Dl29: text.replace, where a token is out. -/
namespace Kf
open PySem PySem.Spec L2
open PyProof.Rows hiding St
variable {M : MX}
section
variable {X : Cx} {e a b : Expr} {es : List Expr} {fe fa fb : FE} {fr : FA} {st : Stmt} {rest : List Stmt} {g u : GS} {pos : Pos} {ft : FT}
end
/-! ### replace -/
open PySem.Builtin.Str in
open PySem.Builtin PySem.Builtin.Str in
theorem okIff (z : Str) : PyData.strOk z = true ↔ ∀ c ∈ z.cps.toList, c < 1114112 := by
  unfold PyData.strOk
  rw [Array.all_eq_true_iff_forall_mem]
  simp
theorem okApp {a b : Str} (ha : PyData.strOk a = true) (hb : PyData.strOk b = true) : PyData.strOk (a ++ b) = true := by
  rw [okIff] at ha hb ⊢
  intro c hc
  rw [Str.cps_append, Array.toList_append] at hc
  exact (List.mem_append.mp hc).elim (ha c) (hb c)
theorem okJoin {z : Str} (hz : PyData.strOk z = true) : ∀ {xs : List Str}, (∀ x ∈ xs, PyData.strOk x = true) → PyData.strOk (Str.join z xs) = true
  | [], _ => by
    have e : Str.join z [] = (⟨#[]⟩ : Str) := rfl
    rw [e]
    decide +kernel
  | [t], h => h t List.mem_cons_self
  | t :: u :: r, h => by
    have ih := okJoin hz (xs := u :: r) fun x hx => h x (List.mem_cons_of_mem _ hx)
    have e : (Str.join z (t :: u :: r)) = t ++ z ++ Str.join z (u :: r) := rfl
    rw [e]
    exact okApp (okApp (h t List.mem_cons_self) hz) ih
section
variable {X : Cx} {o : Expr} {to : TE} {y z : Str} {i j k : Nat} {c0 c1 c2 apos pos : Pos} {fo : FE}
end
end Kf
set_option maxHeartbeats 4000000
/-! Dl30: set(xs) of a list or a tuple of texts; sorted(set(xs)). -/
namespace Kf
namespace Stx
open PySem PySem.Spec PySem.Froz L2
open PyProof.Rows hiding St
def putT (l : List Str) (k : Str) : List Str := if k ∈ l then l else k :: l
/-- at a lies a set of just the texts l, which can be walked -/
structure Has (P : Program) (w : World) (h : Heap) (a : Addr) (D : SD) (l : List Str) : Prop where
  obj : h.get? a = some (sObj "set" D)
  ok : TxOk P w D l
  ris : Ris D.2.2.place.toList
  led : w.params.followText "set-order" = true ∨ D.2.2.led = true
  nd : l.Nodup
theorem put_nodup {l : List Str} {k : Str} (h : l.Nodup) : (putT l k).Nodup := by
  unfold putT; split
  · exact h
  · rename_i c; exact List.nodup_cons.mpr ⟨c, h⟩
theorem put_len {l : List Str} {k : Str} : (putT l k).length ≤ l.length + 1 := by
  unfold putT; split <;> simp
theorem ris_tail {ep : Nat} {es : Array (Int × Value)} {t : SetTable} {b : Bool} (r : Ris t.place.toList) : Ris (tailTx ep es t b).2.2.place.toList := by
  unfold tailTx; split
  · exact relayAll_ris _ _ _
  · exact r
theorem led_tail {ep : Nat} {es : Array (Int × Value)} {t : SetTable} {b : Bool} : (tailTx ep es t b).2.2.led = t.led := by
  unfold tailTx; split
  · exact relayAll_led _ _ _
  · rfl
theorem ris_addTx {h : Int} {v : Value} {D : SD} (r : Ris D.2.2.place.toList) : Ris (addTx h v D).2.2.place.toList := by
  have r1 := layNew_ris D.2.2 D.1 h v r
  refine ris_tail ?_
  split <;> exact r1
theorem led_addTx {h : Int} {v : Value} {D : SD} : (addTx h v D).2.2.led = D.2.2.led := by
  have r1 := layNew_led D.2.2 D.1 h v
  refine led_tail.trans ?_
  split <;> exact r1
section
variable {P : Program} {w : World} {A : Around} {E : Value → Shared → Prop} {s : Shared} {a : Addr} {D : SD} {l : List Str} {k : Str} {u : Tok}
theorem Has.keep {h h' : Heap} (T : Has P w h a D l) (e : ∀ o, h.get? a = some o → h'.get? a = some o) : Has P w h' a D l := ⟨e _ T.obj, T.ok, T.ris, T.led, T.nd⟩
/-- a text that is in already -/
theorem Has.old {Q : Bool → Shared → Prop} (T : Has P w s.heap a D l) (hk : k ∈ l) (hb : l.length < scanBound) (q : Q false s) : wpAny (model P w) A (setAddHashed a (.str k u) (hashStr w k)) Q E s := by
  obtain ⟨es, ep, t⟩ := D
  have n1 : es.size < scanBound := by have := T.ok.sz; simp only at this; omega
  obtain ⟨e, he, hp⟩ := (T.ok.mem k).mp hk
  unfold setAddHashed setAddHashedIn
  apply wpAny_holding
  apply wpAny_bind
  refine wpAny_setState_of T.obj rfl T.ok.fit ?_
  simp only [byScan_of (x := Value.str k u) (knd := strKind P w) rfl n1 T.ok.el, ↓reduceIte]
  unfold setAddByScan
  apply wpAny_bind
  apply wpAny_bind
  apply wpAny_rule
  refine wpAny_bind (wpAny_setScan_of (k := k) (is_str k u) T.obj rfl T.ok.fit T.ok.el ?_)
  cases hr : List.findIdx? (fun e => (strKind P w).is k e.2) es.toList with
  | none =>
    have := List.findIdx?_eq_none_iff.mp hr e he
    rw [hp] at this; cases this
  | some j => exact wpAny_pure (wpAny_pure q)
theorem Has.add {Q : Bool → Shared → Prop} (T : Has P w s.heap a D l) (hb : l.length + 1 < scanBound)
    (q : ∀ b h' D', Heap.SameBut a s.heap h' → Has P w h' a D' (putT l k) → Q b { s with heap := h' }) : wpAny (model P w) A (setAddHashed a (.str k u) (hashStr w k)) Q E s := by
  by_cases c : k ∈ l
  · refine T.old c (by omega) ?_
    have := q false s.heap D (.refl a s.heap) (by rw [show putT l k = l from if_pos c]; exact T)
    exact this
  · refine add_x T.obj T.ok c hb (q true _ _ (.update s.heap a _) ⟨get_upd _ T.obj rfl, ?_, ris_addTx T.ris, T.led.imp id fun z => led_addTx.trans z, put_nodup T.nd⟩)
    rw [show putT l k = k :: l from if_neg c]
    exact add_ok u T.ok
/-- the loop of set.update -/
theorem Has.loop {I : Addr} {fp wr : List Addr} {G : Array GenState → Array GenState → Prop} {n : Nat} {Pv : Nat → Value → Prop} {St : Nat → Shared → Prop} {R : Result → Shared → Prop} {xs : List Str}
    (W : WalksS P w A.in1 I fp wr G n Pv St) (hf : a ∉ fp) (hn : n = xs.length) (hv : ∀ i v, Pv i v → ∃ x t, xs[i]? = some x ∧ v = .str x t) (hz : xs.length + 1 < scanBound) :
    ∀ (r : List Str) (i : Nat) (s : Shared) (D : SD) (l : List Str), xs.drop i = r → i ≤ n → St i s → Has P w s.heap a D l → l.length ≤ i →
      (∀ s' D', Moved (a :: wr) G s s' → Has P w s'.heap a D' (r.foldl putT l) → R (.ok (.ret .none)) s') → codeAny (model P w) A (.builtin "set.update.loop" ⟨[.ref a, .ref I], []⟩) R s
  | [], i, s, D, l, hd, hi, hst, T, hl, hR => by
    have e : i = n := by
      have := congrArg List.length hd
      rw [List.length_drop, List.length_nil] at this
      omega
    subst e
    apply codeAny_builtin F.entry_set_update_loop
    rw [Around.under_plainId F.plain_set_update_loop]
    apply wpAny_bind (m := pyNext (.ref I))
    refine W.done s _ _ hst fun s' m => wpAny_pure (hR s' D ⟨fun b o hb e => m.heap b o (fun z => hb (List.mem_cons_of_mem _ z)) e, m.gens, m.drawn, m.os, m.toks⟩ (T.keep fun o e => m.heap a o (fun z => hf (W.sub _ z)) e))
  | x :: r, i, s, D, l, hd, hi, hst, T, hl, hR => by
    have hx : xs[i]? = some x := by rw [← List.head?_drop, hd]; rfl
    have hin : i < n := by rw [hn]; exact (List.getElem?_eq_some_iff.mp hx).1
    have hd' : xs.drop (i + 1) = r := by rw [← List.drop_drop, hd]; rfl
    apply codeAny_builtin F.entry_set_update_loop
    rw [Around.under_plainId F.plain_set_update_loop]
    apply wpAny_bind (m := pyNext (.ref I))
    refine W.item i s _ _ hin hst fun v s' p hst' m => ?_
    obtain ⟨y, t, hy, rfl⟩ := hv i v p
    obtain rfl : x = y := Option.some.inj (hx.symm.trans hy)
    have T' := T.keep fun o e => m.heap a o (fun z => hf (W.sub _ z)) e
    apply wpAny_bind (m := holding [Value.str x t] (setAdd a (.str x t)))
    apply wpAny_holding
    unfold setAdd
    apply wpAny_holding
    apply wpAny_bind
    apply (strKind P w).pyHash (is_str x t)
    refine Has.add (s := { s' with toks := s'.toks + 1 }) T' (by omega) fun b h' D' sb T2 => wpAny_pure ⟨plainId_quiet F.plain_set_update_loop _, ?_⟩
    refine Has.loop W hf hn hv hz r (i + 1) _ D' (putT l x) hd' hin (W.frame _ s' _ _ hst' (Nat.le_succ _) fun b hb o e => ?_) T2 (Nat.le_trans put_len (by omega)) fun s2 D2 m2 T3 => ?_
    · rw [sb.2 b fun z => hf (z ▸ hb)]; exact e
    · refine hR s2 D2 ⟨fun b o hb e => m2.heap b o hb ?_, W.gtrans _ _ _ m.gens m2.gens, m2.drawn.trans m.drawn, m2.os.trans m.os, Nat.le_trans m.toks (Nat.le_trans (Nat.le_succ _) m2.toks)⟩ T3
      show h'.get? b = some o
      rw [sb.2 b fun z => hb (z ▸ List.mem_cons_self)]
      exact m.heap b o (fun z => hb (List.mem_cons_of_mem _ z)) e
end
end Stx
end Kf
set_option maxHeartbeats 4000000
/-! Dl31: the call set(xs); sorted(set(xs)). -/
namespace Kf
namespace Stx
open PySem PySem.Spec PySem.Froz L2
open PyProof.Rows hiding St
section
variable {P : Program} {w : World} {A : Around} {E : Value → Shared → Prop} {s : Shared}
/-- the new set, as it is laid -/
abbrev fresh (w : World) : Obj := { cls := .type "set", dict := none, data := .set #[] 0 (.fresh 0 0 (!w.params.followText "set-order")) }
theorem new_size {h : Heap} {o : Obj} : (h.push o).objs.size = h.objs.size + 1 := Heap.size_push ..
end
end Stx
end Kf
set_option maxHeartbeats 4000000
/-! Dl32: sorted(set(xs)). -/
namespace Kf
namespace Stx
open PySem PySem.Spec PySem.Froz L2
open PyProof.Rows hiding St
def txOf (v : Value) : Str := match v with
  | .str x _ => x
  | _ => ⟨#[]⟩
theorem perm_of_sub : ∀ {l m : List Str}, l.Nodup → (∀ x ∈ l, x ∈ m) → m.length ≤ l.length → m.Perm l
  | [], m, _, _, h => by
    have : m = [] := List.eq_nil_of_length_eq_zero (Nat.le_zero.mp h)
    rw [this]
  | x :: l, m, hn, hs, h => by
    obtain ⟨h1, h2⟩ := List.nodup_cons.mp hn
    have hx := hs x List.mem_cons_self
    have p := List.perm_cons_erase hx
    refine p.trans (.cons x (perm_of_sub h2 (fun y hy => ?_) ?_))
    · have := p.mem_iff.mp (hs y (List.mem_cons_of_mem _ hy))
      rcases List.mem_cons.mp this with rfl | z
      · exact absurd hy h1
      · exact z
    · have := p.length_eq
      rw [List.length_cons] at this h
      omega
theorem strs_tx : ∀ (vs : List Value), (∀ v ∈ vs, ∃ x t, v = Value.str x t) → StrsAre vs (vs.map txOf)
  | [], _ => .nil
  | v :: vs, h => by
    obtain ⟨x, t, rfl⟩ := h v List.mem_cons_self
    exact .cons x t (strs_tx vs fun u hu => h u (List.mem_cons_of_mem _ hu))
section
variable {P : Program} {w : World} {A : Around} {E : Value → Shared → Prop} {s : Shared} {a : Addr} {D : SD} {l : List Str}
theorem el_str {es : List (Int × Value)} (h : ElemsOf (strKind P w) es) : ∀ v ∈ es.map (·.2), ∃ x t, v = Value.str x t := fun v hv => by
  obtain ⟨e, he, rfl⟩ := List.mem_map.mp hv
  obtain ⟨⟨k, hk, _⟩, _⟩ := h e he
  obtain ⟨t, ht⟩ := Value.isStrOf_shape hk
  exact ⟨k, t, ht⟩
theorem Has.keys (T : Has P w s.heap a D l) : ((D.1.toList.map (·.2)).map txOf).Perm l := by
  refine perm_of_sub T.nd (fun x hx => ?_) ?_
  · obtain ⟨e, he, hp⟩ := (T.ok.mem x).mp hx
    obtain ⟨t, ht⟩ := Value.isStrOf_shape hp
    exact List.mem_map.mpr ⟨e.2, List.mem_map.mpr ⟨e, he, rfl⟩, by rw [ht]; rfl⟩
  · rw [List.length_map, List.length_map, Array.length_toList, T.ok.sz]; exact Nat.le_refl _
/-- sorted(found) -/
theorem Has.sorted {Q : Value → Shared → Prop} (T : Has P w s.heap a D l) (hh : A.handled = none) (hz : l.length < scanBound) (hq : l.length ≤ sizeLine)
    (q : ∀ s' p (out : Array Value) (c : Nat) (ys : List Str), (∀ b o, s.heap.get? b = some o → s'.heap.get? b = some o) → s'.gens = s.gens → s'.os = s.os → s.heap.objs.size ≤ p →
      s'.heap.get? p = some (seqObj "list" out c) → StrsAre out.toList ys → ys.Perm l → sortedS ys = true → Q (.ref p) s') :
    wpAny (model P w) A (call (.builtin "sorted") [.ref a]) Q E s := by
  obtain ⟨es, ep, t⟩ := D
  have e1 : es.size = l.length := T.ok.sz
  apply Calls.call_function_entry kind_sorted plain_sorted entry_sorted (args_sorted1 _)
  unfold Builtin.«sorted»
  apply wpAny_bind (m := checkCount "sorted" 1 1 _)
  apply wpAny_pure
  apply wpAny_bind
  refine collect_set (A := A.in1) hh ⟨_, T.obj, rfl, rfl⟩ T.ok.fit (by rw [e1]; exact hz) T.ris T.led fun s1 vs k1 k2 k3 k4 pm => ?_
  have hS : StrsAre vs (vs.map txOf) := strs_tx vs fun v hv => el_str T.ok.el v (pm.mem_iff.mp hv)
  have hp : (vs.map txOf).Perm l := (pm.map txOf).trans T.keys
  have hl : vs.length ≤ sizeLine := by have := hp.length_eq; rw [List.length_map] at this; omega
  apply wpAny_bind
  refine wpAny_newList ?_ hl
  have ho : (s1.heap.push (seqObj "list" vs.toArray 0)).get? s1.heap.objs.size = some (seqObj "list" vs.toArray 0) := Heap.get?_push_size _ rfl
  apply wpAny_bind
  apply wpAny_holding
  refine wpAny_call_entry slot_list_sort ⟨_, ho, rfl⟩ entry_list_sort (list_sort_treeKAny strKind_oneLt ho hS.keysOf (fun v₁ v₂ rest e => keyKind_strs (by rw [← e]; exact hS)) hl fun st' p1 p2 => ⟨_, rfl, ?_⟩) (args_list_sort _)
  obtain ⟨ys, y1, y2, y3⟩ := sorted_out_str hS p1 p2
  obtain ⟨c, hc⟩ := sortedHeap_at (vs := vs) (out := (arrOf st').map (·.2)) ho
  refine wpAny_pure ⟨_, rfl, q _ s1.heap.objs.size _ c ys (fun b u e => ?_) k3 k4 k2 hc y1 (y2.trans hp) y3⟩
  have z1 := k1 b u e
  have z2 := Heap.lt_size z1
  show (sortedHeap (s1.heap.push (seqObj "list" vs.toArray 0)) s1.heap.objs.size vs ((arrOf st').map (·.2))).get? b = some u
  rw [sortedHeap_old (Nat.ne_of_lt z2) (by rw [new_size]; exact Nat.lt_succ_of_lt z2)]
  exact Heap.get?_push_of_some _ z1
end
section
variable {X : Cx} {a : Expr} {te : TE} {p p2 q pos : Pos}
end
end Stx
end Kf
namespace Kf
open PySem PySem.Spec L2
open PyProof.Rows hiding St
/-! ### comprehensions over a list of things -/
section
variable {p : Pat} {ft : FT} {fe : FE} {ρ : DEnv} {O : Ow} {α β : Type}
theorem lcA_map (f g : α → D) : ∀ (xs : List α) (acc : List D) (Q : List D → Ow → Prop), acc.length + xs.length ≤ sizeLine →
    (∀ x ∈ xs, ∀ Q' : VD, Q' (g x) O → patGet (patD p (f x) ρ) fun ρ1 => fe ρ1 O Q') → Q (acc ++ xs.map g) O → lcD p fYes fe ρ (xs.map f) acc O Q
  | [], acc, Q, _, _, q => by simpa [lcD] using q
  | x :: xs, acc, Q, hl, hs, q => by
    rw [List.length_cons] at hl
    have z := hs x List.mem_cons_self (fun e O2 => acc.length < sizeLine ∧ lcD p fYes fe ρ (xs.map f) (acc ++ [e]) O2 Q) ⟨by omega, lcA_map f g xs _ Q (by rw [List.length_append, List.length_singleton]; omega) (fun d' hd => hs d' (List.mem_cons_of_mem _ hd)) (by simpa using q)⟩
    rw [List.map_cons]
    unfold lcD
    simpa [fYes] using z
end
/-- range as a map -/
theorem rangeD_map (lo : Int) (n : Nat) : rangeD lo n = (List.range n).map fun i => D.int (lo + (i : Nat)) := rfl
/-- a walk over a map, by places -/
theorem forA_ix {p : Pat} {gb : GS} {R : DEnds} {α : Type} (f : α → D) (I : List α → List α → DEnv → Ow → Prop) : ∀ (xs pre : List α) (ρ : DEnv) (O : Ow), I pre xs ρ O → (∀ ρ O, I (pre ++ xs) [] ρ O → R.nx ρ O) →
    (∀ pre' x rest, pre ++ xs = pre' ++ x :: rest → ∀ ρ O, I pre' (x :: rest) ρ O → ∀ N : DEnv → Ow → Prop, (∀ ρ O, I (pre' ++ [x]) rest ρ O → N ρ O) → patGet (patD p (f x) ρ) fun ρ1 => gb { R with nx := N, ct := N, bk := R.nx } ρ1 O) → forD p gb R (xs.map f) ρ O
  | [], pre, ρ, O, h, hd, _ => hd ρ O (by rw [List.append_nil]; exact h)
  | x :: xs, pre, ρ, O, h, hd, hs => by
    have q := hs pre x xs rfl ρ O h (forD p gb R (xs.map f)) fun ρ' O' h' => by
      refine forA_ix f I xs (pre ++ [x]) ρ' O' h' (fun ρ O z => hd ρ O ?_) fun pre' y rest e => hs pre' y rest ?_
      · simpa using z
      · rw [← e]; simp
    rw [List.map_cons]
    unfold forD
    exact q
end Kf
namespace Kf
open PySem PySem.Spec L2
open PyProof.Rows hiding St
section
variable {P : Program} {w : World} {K : PySem.W.Frag} {mg : Str → Option Value} {base : Heap} {CX : CXT} {f : Addr} {fd : FuncData} {ps : List Str} {k k' : Nat}
theorem fnUp {sp : Sp} (h : FnOk P w K mg base CX k f fd ps sp) (hk : k ≤ k') : FnOk P w K mg base CX k' f fd ps sp :=
  ⟨h.1, fun A outer s H args us vs Q E a b c d e => h.2 A outer s H args us vs Q E (a.mono hk) b c d e⟩
end
end Kf
namespace Kf
open PySem PySem.Spec L2
open PyProof.Rows hiding St
theorem gSeq_step {g u : GS} {R : DEnds} {ρ : DEnv} {O : Ow} (h : g { R with nx := u R } ρ O) : gSeq g u R ρ O := h
end Kf
namespace Kf
open PySem PySem.Spec L2
open PyProof.Rows hiding St
local macro_rules | `(tactic| walk_at "kf") => `(tactic| simp (config := { failIfUnchanged := false }) only [startD, gSeq, gIf, gRet, gNext, gSet, gAsg, gDrop, gRetF, gRetN, gFor, gSetIx, gBreak, fTest, fOp, fVar, envGet_s, patGet_s, fC, fCB, fCons, fNil, fCall, fAnd, fOr, fNot, fAndV, fOrV, fNotV, fIf, fTup, fLst, fLstO, fChain, fUn, fBM, fBM0, fPool, rPool_i, fSl, fPart, fNoPart, asI_i, rSl_l, fiRng1, fiRng2, fiList, fiTup, fiStr, fiEnum, fiZip, fiRev, asL_l, asT_t, asSg_s, asR1_i, asR2_i, asL1_l, asL2_l, fLc, fLcO, fYes, wipeD, lcD, isi_i_int, isi_i_bool, isi_i_str, isi_i_tuple, isi_i_list, isi_i_dict, isi_b_int, isi_b_bool, isi_b_str, isi_b_tuple, isi_b_list, isi_b_dict, isi_s_int, isi_s_bool, isi_s_str, isi_s_tuple, isi_s_list, isi_s_dict, isi_t_int, isi_t_bool, isi_t_str, isi_t_tuple, isi_t_list, isi_t_dict, isi_l_int, isi_l_bool, isi_l_str, isi_l_tuple, isi_l_list, isi_l_dict, isi_n_int, isi_n_bool, isi_n_str, isi_n_tuple, isi_n_list, isi_n_dict, isi_d_int, isi_d_bool, isi_d_str, isi_d_tuple, isi_d_list, isi_d_dict,
  deref_tup, deref_lst, deref_int, deref_str, deref_bl, deref_non, deref_scr, rLt_i, rLt_s, rLe_i, rLe_s, rInts_i, rInts0_i, rAdd_i, rAdd_s, rAdd_l, rAdd_t, rCatO_l, rNeg_i, rLen_t, rLen_l, rLen_c, rLen_s, rMax_i, rMin_i, rInt_i, rInt_b, rDivmod_i, gAug, rStr_i, rList_l, rList_t, rListO_l, rListO_t, rTup_l, rTup_t,
  rIx_t0, rIx_t1, rIx_t2, rIx_t3, rIx_l0, rIx_l1, rIx_l2, rIsN_x, isNon_t, isNon_n, isNon_i, isNon_s, isNon_l, rEq_i, rEq_b, rEq_i2, rEq_b2, rJoin_m, rSplit_s, tyOk_l, tyOk_s, patD_nm, patD_tp, patDs_nil, patDs_cons, Option.bind_some, notX, notX',
  List.map_cons, List.map_nil, List.length_cons, List.length_nil, List.cons_append, List.nil_append, List.append_nil, List.replicate, List.getElem?_cons_zero, List.getElem?_cons_succ, List.set_cons_zero, List.set_cons_succ, updO_same, updO_updO,
  Nat.reduceSub, Nat.reduceAdd, Nat.reduceLeDiff, Nat.zero_add, Int.cast_ofNat_Int, Int.natCast_zero, Int.natCast_one, Int.reduceLT, Int.reduceLE, Int.reduceEq, Int.reduceAdd, Int.reduceSub, Int.reduceNeg, decide_true, decide_false, if_true, if_false, Bool.false_eq_true, eq_self, reduceIte, Bool.true_eq_false, decide_eq_true_eq, Bool.not_true, Bool.not_false, Bool.not_eq_true', decide_eq_false_iff_not, exists_eq_left', exists_eq_left, D.bl.injEq, true_and, and_true])
/-! ### how many kinds: the list of counts, grown by one -/
def nxt (xs : List Int) : Int := 2 * ((List.range (xs.length - 1)).map fun i => xs.getD (i + 1) 0 * xs.getD (xs.length - (i + 1)) 0).sum
def cl (m : Int) : Nat → List Int
  | 0 => [0, m + 1]
  | k + 1 => cl m k ++ [nxt (cl m k)]
/-- marks are one to four -/
def Small (m : Int) : Prop := m = 1 ∨ m = 2 ∨ m = 3 ∨ m = 4
/-- a text of small letters, by their places -/
def txt (ps : List Int) : Str := ⟨(ps.map fun n => 97 + n.toNat).toArray⟩
def Lets (ps : List Int) : Prop := ∀ n ∈ ps, 0 ≤ n ∧ n < 26
def IsMk (t : Str) : Prop := ∃ ps, t = txt ps ∧ 1 ≤ ps.length ∧ ps.length ≤ 6 ∧ Lets ps
/-- marks that are drawn: one to four unlike ones -/
def MarkL (ts : List Str) : Prop := 1 ≤ ts.length ∧ ts.length ≤ 4 ∧ ts.Nodup ∧ ∀ t ∈ ts, IsMk t
theorem IsMk.ok {t : Str} (h : IsMk t) : PyData.strOk t = true := by
  obtain ⟨ps, rfl, _, _, h⟩ := h
  unfold PyData.strOk txt
  simp only [List.all_toArray, List.all_eq_true, List.mem_map, decide_eq_true_eq]
  rintro c ⟨n, hn, rfl⟩
  have := h n hn
  omega
theorem str_ext {a b : Str} (h : a.cps.toList = b.cps.toList) : a = b := by
  cases a; cases b
  simp only [Str.mk.injEq]
  exact Array.toList_inj.mp h
abbrev abc : Str := "abcdefghijklmnopqrstuvwxyz"
/-! ### the catalogue: all kinds of so many leaves, in order -/
def prs (xs ys : List Kd) : List Kd := (xs.flatMap fun a => ys.map (Kd.to a)) ++ (xs.flatMap fun a => ys.map (Kd.both a))
def nxK (ls : List (List Kd)) : List Kd := (List.range (ls.length - 1)).flatMap fun i => prs (ls.getD (i + 1) []) (ls.getD (ls.length - (i + 1)) [])
def al (ms : List Str) : Nat → List (List Kd)
  | 0 => [[], ms.map .mk ++ [.one]]
  | k + 1 => al ms k ++ [nxK (al ms k)]
def A (ms : List Str) (n : Nat) : List Kd := (al ms 9).getD n []
def pre {α : Type} (f : Nat → List α) (i : Nat) : Nat := ((List.range i).map fun t => (f t).length).sum
abbrev blkF (ms : List Str) (n : Nat) : Nat → List Kd := fun i => prs (A ms (i + 1)) (A ms (n - (i + 1)))
/-! the number of a kind -/
def Kd.over (ms : List Str) : Kd → Prop
  | .mk m => m ∈ ms
  | .one => True
  | .to a b => a.over ms ∧ b.over ms
  | .both a b => a.over ms ∧ b.over ms
def place (ms : List Str) : Kd → Nat
  | .mk m => ms.idxOf m
  | .one => ms.length
  | .to a b => pre (blkF ms (a.leaves + b.leaves)) (a.leaves - 1) + place ms a * (A ms b.leaves).length + place ms b
  | .both a b => pre (blkF ms (a.leaves + b.leaves)) (a.leaves - 1) + (A ms a.leaves).length * (A ms b.leaves).length + place ms a * (A ms b.leaves).length + place ms b
theorem leaves_pos : ∀ k : Kd, 1 ≤ k.leaves
  | .mk _ => by simp [Kd.leaves]
  | .one => by simp [Kd.leaves]
  | .to a b => by have := leaves_pos a; simp only [Kd.leaves]; omega
  | .both a b => by have := leaves_pos a; simp only [Kd.leaves]; omega
/-! ### what the catalogue's defs are asked and answer -/
theorem Small.mem {m : Int} (h : Small m) : m ∈ [(1 : Int), 2, 3, 4] := by rcases h with rfl | rfl | rfl | rfl <;> simp
def spLeaves (n : Nat) : DSp := fun ds O R _ => ∃ k : Kd, ds = [dK k] ∧ k.depth < n ∧ R (.int k.leaves) O
/-! ### the words of kinds -/
theorem sd_tm : decide (Str.ofString "to" = Str.ofString "mark") = false := by decide +kernel
theorem sd_bm : decide (Str.ofString "both" = Str.ofString "mark") = false := by decide +kernel
def Kd.marks : Kd → List Str
  | .mk m => [m]
  | .one => []
  | .to a b => a.marks ++ b.marks
  | .both a b => a.marks ++ b.marks
theorem over_iff {ms : List Str} : ∀ k : Kd, k.over ms ↔ ∀ m ∈ k.marks, m ∈ ms
  | .mk m => by simp [Kd.over, Kd.marks]
  | .one => by simp [Kd.over, Kd.marks]
  | .to a b => by
    simp only [Kd.over, Kd.marks, over_iff a, over_iff b, List.mem_append]
    exact ⟨fun ⟨h1, h2⟩ m hm => hm.elim (h1 m) (h2 m), fun h => ⟨fun m hm => h m (.inl hm), fun m hm => h m (.inr hm)⟩⟩
  | .both a b => by
    simp only [Kd.over, Kd.marks, over_iff a, over_iff b, List.mem_append]
    exact ⟨fun ⟨h1, h2⟩ m hm => hm.elim (h1 m) (h2 m), fun h => ⟨fun m hm => h m (.inl hm), fun m hm => h m (.inr hm)⟩⟩
end Kf
namespace Kf
open PySem PySem.Spec L2
open PyProof.Rows hiding St
/-! ### trees of worlds -/
inductive Tr where
  | nd (ms : List Str) (ts : List Tr)
mutual
def dT : Tr → D
  | .nd ms ts => .tup [.lst (ms.map .str), .lst (dTs ts)]
def dTs : List Tr → List D
  | [] => []
  | t :: ts => dT t :: dTs ts
end
def Tr.ms : Tr → List Str
  | .nd ms _ => ms
mutual
def subs : Tr → List Tr
  | .nd ms ts => .nd ms ts :: subss ts
def subss : List Tr → List Tr
  | [] => []
  | t :: ts => subs t ++ subss ts
end
mutual
def Tr.dep : Tr → Nat
  | .nd _ ts => deps ts + 1
def deps : List Tr → Nat
  | [] => 0
  | t :: ts => max t.dep (deps ts)
end
/-! what put_worlds writes: marks, and the place behind the last one above -/
mutual
def ws : Tr → Nat → List (List Str × Nat)
  | .nd ms ts, n => (ms, n + (subs (.nd ms ts)).length) :: wss ts (n + 1)
def wss : List Tr → Nat → List (List Str × Nat)
  | [], _ => []
  | t :: ts, n => ws t n ++ wss ts (n + (subs t).length)
end
/-! ### what holds -/
def forces : Kd → Tr → Bool
  | .mk m, t => decide (m ∈ t.ms)
  | .one, _ => true
  | .both a b, t => forces a t && forces b t
  | .to a b, t => (subs t).all fun s => !forces a s || forces b s
theorem subs_self (t : Tr) : t ∈ subs t := by cases t; rw [subs]; exact List.mem_cons_self
mutual
theorem subs_trans : ∀ (t s u : Tr), s ∈ subs t → u ∈ subs s → u ∈ subs t
  | .nd ms ts, s, u, h, k => by
    rw [subs] at h
    rcases List.mem_cons.mp h with rfl | h
    · exact k
    · rw [subs]; exact List.mem_cons_of_mem _ (subss_trans ts s u h k)
theorem subss_trans : ∀ (ts : List Tr) (s u : Tr), s ∈ subss ts → u ∈ subs s → u ∈ subss ts
  | [], s, u, h, k => by rw [subss] at h; cases h
  | t :: ts, s, u, h, k => by
    rw [subss] at h ⊢
    rcases List.mem_append.mp h with h | h
    · exact List.mem_append_left _ (subs_trans t s u h k)
    · exact List.mem_append_right _ (subss_trans ts s u h k)
end
mutual
def MonoT : Tr → Prop
  | .nd ms ts => MonoTs ms ts
def MonoTs : List Str → List Tr → Prop
  | _, [] => True
  | ms, t :: ts => (∀ m ∈ ms, m ∈ t.ms) ∧ MonoT t ∧ MonoTs ms ts
end
mutual
theorem mono_sub : ∀ (t s : Tr), MonoT t → s ∈ subs t → MonoT s ∧ ∀ m ∈ t.ms, m ∈ s.ms
  | .nd ms ts, s, h, k => by
    rw [subs] at k
    rcases List.mem_cons.mp k with rfl | k
    · exact ⟨h, fun m hm => hm⟩
    · rw [MonoT] at h
      exact mono_subs ms ts s h k
theorem mono_subs : ∀ (ms : List Str) (ts : List Tr) (s : Tr), MonoTs ms ts → s ∈ subss ts → MonoT s ∧ ∀ m ∈ ms, m ∈ s.ms
  | ms, [], s, h, k => by rw [subss] at k; cases k
  | ms, t :: ts, s, h, k => by
    rw [MonoTs] at h
    rw [subss] at k
    rcases List.mem_append.mp k with k | k
    · obtain ⟨h1, h2⟩ := mono_sub t s h.2.1 k
      exact ⟨h1, fun m hm => h2 m (h.1 m hm)⟩
    · exact mono_subs ms ts s h.2.2 k
end
theorem forces_mono : ∀ (k : Kd) (t s : Tr), MonoT t → forces k t = true → s ∈ subs t → forces k s = true
  | .mk m, t, s, h, f, hs => by
    simp only [forces, decide_eq_true_eq] at f ⊢
    exact (mono_sub t s h hs).2 m f
  | .one, t, s, h, f, hs => rfl
  | .both a b, t, s, h, f, hs => by
    simp only [forces, Bool.and_eq_true] at f ⊢
    exact ⟨forces_mono a t s h f.1 hs, forces_mono b t s h f.2 hs⟩
  | .to a b, t, s, h, f, hs => by
    simp only [forces, List.all_eq_true] at f ⊢
    exact fun u hu => f u (subs_trans t s u hs hu)
theorem forces_to {a b : Kd} {t : Tr} : forces (.to a b) t = true ↔ ∀ s ∈ subs t, forces a s = true → forces b s = true := by
  simp only [forces, List.all_eq_true, Bool.or_eq_true, Bool.not_eq_true']
  refine ⟨fun h s hs ha => (h s hs).resolve_left (by rw [ha]; decide), fun h s hs => ?_⟩
  cases e : forces a s
  · exact .inl rfl
  · exact .inr (h s hs e)
/-! ### the search for what is amiss -/
/-- the first place from i on where something is amiss -/
def fb (bad : List Bool) (i : Nat) : Nat := i + (bad.drop i).findIdx id
def dW (w : List Str × Nat) : D := .tup [.lst (w.1.map .str), .int w.2]
def TrOk (t : Tr) : Prop := (subs t).length ≤ 1000 ∧ ∀ s ∈ subs t, ∀ m ∈ s.ms, PyData.strOk m = true
end Kf
namespace Kf
open PySem PySem.Spec L2
open PyProof.Rows hiding St
end Kf
namespace Kf
open PySem PySem.Spec L2
open PyProof.Rows hiding St
/-! ### sorted texts -/
theorem cps_le_trans {a b c : List Nat} (h1 : ¬ b < a) (h2 : ¬ c < b) : ¬ c < a := List.le_trans (l₁ := a) (l₂ := b) (l₃ := c) h1 h2
theorem risingS_pw : ∀ (l : List Str) (p : Str), risingS p l = true → (p :: l).Pairwise fun a b => ¬ b.cps.toList < a.cps.toList
  | [], p, _ => by simp
  | x :: r, p, h => by
    simp only [risingS, Bool.and_eq_true, Bool.not_eq_true', ltCps_eq, decide_eq_false_iff_not] at h
    have ih := risingS_pw r x h.2
    refine List.pairwise_cons.mpr ⟨fun y hy => ?_, ih⟩
    rcases List.mem_cons.mp hy with rfl | hy
    · exact h.1
    · exact cps_le_trans h.1 ((List.pairwise_cons.mp ih).1 y hy)
theorem sortedS_pw : ∀ {l : List Str}, sortedS l = true → l.Pairwise fun a b => ¬ b.cps.toList < a.cps.toList
  | [], _ => .nil
  | x :: r, h => risingS_pw r x h
/-- strictly rising -/
def Up (l : List Str) : Prop := l.Pairwise fun a b => a.cps.toList < b.cps.toList
theorem Up.sub {l l' : List Str} (h : Up l) (s : l'.Sublist l) : Up l' := List.Pairwise.sublist s h
theorem up_uniq {a b : List Str} (h : Up a) (h' : Up b) (p : a.Perm b) : a = b := by
  refine List.Perm.eq_of_pairwise (le := fun (x y : Str) => x.cps.toList < y.cps.toList ∨ x = y) ?_ (h.imp Or.inl) (h'.imp Or.inl) p
  rintro x y _ _ (h1 | rfl) h2
  · rcases h2 with h2 | rfl
    · exact absurd (List.lt_trans h1 h2) (List.lt_irrefl _)
    · rfl
  · rfl
/-! ### the law's trees -/
structure GoodT (ms : List Str) (had : List Str) (r : Nat) (t : Tr) : Prop where
  mono : MonoT t
  had : ∀ m ∈ had, m ∈ t.ms
  over : ∀ s ∈ subs t, s.ms.Sublist ms
  size : (subs t).length < 2 ^ (r + 1)
  dep : t.dep ≤ r + 1
theorem GoodT.ok {ms ms' had : List Str} {r : Nat} {t : Tr} (h : GoodT ms' had r t) (hp : ms'.Perm ms) (hm : MarkL ms) (hr : r ≤ 8) : TrOk t := by
  refine ⟨?_, fun s hs m hm' => (hm.2.2.2 m (hp.mem_iff.mp ((h.over s hs).mem hm'))).ok⟩
  have := h.size
  have : 2 ^ (r + 1) ≤ 2 ^ 9 := Nat.pow_le_pow_right (by decide) (by omega)
  omega
end Kf
/-! Dl33: sorted(set(xs)) over data; == of a thing and one alike, empty dicts within. -/
namespace Kf
open PySem PySem.Spec L2
open PyProof.Rows hiding St
variable {M : MX}
/-! ### sorted(set(xs)) -/
def rSortSet (x : D) (O : Ow) (Q : VD) : Prop := match deref O x with
  | .lst ds => ∃ xs : List Str, ds = xs.map .str ∧ xs.length ≤ 4000 ∧ ∀ ys, Up ys → (∀ x, x ∈ ys ↔ x ∈ xs) → Q (.lst (ys.map .str)) O
  | .tup ds => ∃ xs : List Str, ds = xs.map .str ∧ xs.length ≤ 4000 ∧ ∀ ys, Up ys → (∀ x, x ∈ ys ↔ x ∈ xs) → Q (.lst (ys.map .str)) O
  | _ => False
def fSortSet (fa : FE) : FE := fun ρ O Q => fa ρ O fun x O1 => rSortSet x O1 Q
theorem ap_fSortSet (fa : FE) {ρ : DEnv} {O : Ow} {Q : VD} : fSortSet fa ρ O Q = fa ρ O fun x O1 => rSortSet x O1 Q := rfl
section
variable {X : Cx} {a : Expr} {fa : FE} {p p2 q pos : Pos}
end
/-! ### a thing and one alike -/
section
variable {X : Cx} {pins : List (Addr × Obj)} {σ : St} {H : Hp} {s : Shared}
open SeqAt
end
section
variable {X : Cx} {pins : List (Addr × Obj)} {σ : St} {H : Hp} {s : Shared}
open SeqAt
end
section
variable {X : Cx}
end
/-! what has no owned list in it is read as it is -/
end Kf
/-! Dl34: is True, is False, is not .. of a truth. -/
namespace Kf
open PySem PySem.Spec L2
open PyProof.Rows hiding St
variable {M : MX}
def rIsB (neg : Bool) : R2D := fun x y O Q => match x, y with
  | .bl a, .bl b => Q (.bl (neg ^^ decide (a = b))) O
  | _, _ => False
theorem rIsB_b {neg a b : Bool} {O : Ow} {Q : VD} : rIsB neg (.bl a) (.bl b) O Q = Q (.bl (neg ^^ decide (a = b))) O := rfl
section
variable {X : Cx}
end
end Kf
/-! Dl35: walks along lists that may be owned and stay as they are: for, comprehensions; zip and enumerate of such. -/
namespace Kf
open PySem PySem.Spec L2
open PyProof.Rows hiding St
variable {M : MX}
/-- these cells hold these lists -/
def keepO (A : List (Addr × List D)) (O : Ow) : Prop := ∀ p ∈ A, O p.1 = some (.lst p.2)
theorem keepO_nil {O : Ow} : keepO [] O := fun _ h => nomatch h
theorem keepO_one {O : Ow} {a : Addr} {ds : List D} : keepO [(a, ds)] O ↔ O a = some (.lst ds) := ⟨fun h => h _ List.mem_cons_self, fun h p hp => by rw [List.mem_singleton.mp hp]; exact h⟩
def ItOkJ (M : MX) (K : PySem.W.Frag) (F : Hp) (J : It) (A : List (Addr × List D)) (ds : List D) : Prop := ∀ F' O' P' H', Same F F' → Gd M K F' O' P' H' → keepO A O' → ∀ i : Nat,
  (∀ d, ds[i]? = some d → J.go i H' ∧ ∀ x H'', J.yld i H' x H'' → ∃ F'', Same F' F'' ∧ Gd M K F'' O' P' H'' ∧ Rep K F'' d x) ∧ (ds.length ≤ i → J.stop i H')
abbrev FJ := DEnv → Ow → (List (Addr × List D) → List D → Ow → Prop) → Prop
def liftJ (M : MX) (K : PySem.W.Frag) (f : FJ) : TI := fun σ H Q => ∃ F O P ρ R, Gd M K F O P H ∧ EnvOk K F ρ σ ∧ f ρ O R ∧ ∀ A ds O' F' H' J, R A ds O' → Same F F' → Gd M K F' O' P H' → ItOkJ M K F' J A ds → Q J H'
abbrev DJ (M : MX) (X : Cx) (tg iter : Expr) (f : FJ) : Prop := PI X tg iter (liftJ M X.K f)
/-- a list, owned or not -/
def asLJ (d : D) (O : Ow) (Q : List (Addr × List D) → List D → Ow → Prop) : Prop := match d with
  | .lst ds => Q [] ds O
  | .ref a => match O a with
    | some (.lst ds) => Q [(a, ds)] ds O
    | _ => False
  | _ => False
theorem asLJ_l {ds : List D} {O : Ow} {Q : List (Addr × List D) → List D → Ow → Prop} : asLJ (.lst ds) O Q = Q [] ds O := rfl
theorem asLJ_r {a : Addr} {ds : List D} {O : Ow} {Q : List (Addr × List D) → List D → Ow → Prop} (h : O a = some (.lst ds)) : asLJ (.ref a) O Q = Q [(a, ds)] ds O := by simp only [asLJ, h]
theorem rowJ {K : PySem.W.Frag} {F P H : Hp} {O : Ow} {d : D} {v : V} {Q : List (Addr × List D) → List D → Ow → Prop} (g : Gd M K F O P H) (r : Rep K F d v) (q : asLJ d O Q) :
    ∃ a A ds, v = .ref a ∧ Q A ds O ∧ keepO A O ∧ ∀ F' O' P' H', Same F F' → Gd M K F' O' P' H' → keepO A O' → ∃ xs, SqL K H' a xs ∧ RepAll K F' ds xs := by
  unfold asLJ at q
  split at q <;> first | exact q.elim | skip
  · rename_i ds
    simp only [Rep] at r
    obtain ⟨a, xs, rfl, h1, h2⟩ := r
    exact ⟨a, [], ds, rfl, q, keepO_nil, fun F' O' P' H' s g' _ => ⟨xs, SqL.of (g'.fz _ _ (s _ _ h1)), h2.mono s⟩⟩
  · rename_i a
    split at q <;> first | exact q.elim | skip
    rename_i ds e
    simp only [Rep] at r
    refine ⟨a, [(a, ds)], ds, r, q, keepO_one.mpr e, fun F' O' P' H' s g' k => ?_⟩
    obtain ⟨_, _, xs, h1, h2⟩ := g'.ow a _ (keepO_one.mp k)
    exact ⟨xs, SqL.of h1, h2⟩
section
variable {X : Cx} {tg iter l e e2 : Expr} {fl : FE} {fr : FA} {p tpos pos : Pos} {elts : List Expr} {kk : Nat}
def fjList (fl : FE) : FJ := fun ρ O Q => fl ρ O fun d O1 => asLJ d O1 Q
theorem dj_list (hl : DE M X l fl) : DJ M X tg l (fjList fl) := piMono (pi_list hl) fun σ H Q h => by
  obtain ⟨F, O, P, ρ, R, g, en, q, po⟩ := h
  refine ⟨F, O, P, ρ, _, g, en, q, fun d O1 F1 H1 v q1 s1 g1 r1 => ?_⟩
  obtain ⟨a, A, ds, rfl, q2, k2, row⟩ := rowJ g1 r1 q1
  obtain ⟨xs0, sq0, _⟩ := row F1 O1 P H1 (Same.refl _) g1 k2
  refine ⟨a, rfl, ⟨xs0, sq0⟩, po A ds O1 F1 H1 _ q2 s1 g1 fun F2 O2 P2 H2 s2 g2 k i => ?_⟩
  obtain ⟨xs, sq, rr⟩ := row F2 O2 P2 H2 s2 g2 k
  refine ⟨fun d e => ?_, fun hi => ⟨xs, sq, by rw [← rr.length]; exact hi⟩⟩
  obtain ⟨w, e1, r1⟩ := rr.get e
  refine ⟨⟨xs, w, sq, e1⟩, fun x H3 hy => ?_⟩
  obtain ⟨rfl, hx⟩ := hy
  have := hx xs sq
  rw [e1] at this
  cases this
  exact ⟨F2, Same.refl _, g2, r1⟩
def asLJ1 (ds : List D) (O : Ow) (Q : List (Addr × List D) → List D → Ow → Prop) : Prop := match ds with
  | [d] => asLJ d O Q
  | _ => False
def asLJ2 (ds : List D) (O : Ow) (Q : List (Addr × List D) → List D → List D → Ow → Prop) : Prop := match ds with
  | [d, e] => asLJ d O fun A xs _ => asLJ e O fun B ys _ => Q (A ++ B) xs ys O
  | _ => False
theorem asLJ1_1 {d : D} {O : Ow} {Q : List (Addr × List D) → List D → Ow → Prop} : asLJ1 [d] O Q = asLJ d O Q := rfl
theorem asLJ2_2 {d e : D} {O : Ow} {Q : List (Addr × List D) → List D → List D → Ow → Prop} : asLJ2 [d, e] O Q = asLJ d O fun A xs _ => asLJ e O fun B ys _ => Q (A ++ B) xs ys O := rfl
def fjEnum (fr : FA) : FJ := fun ρ O Q => fr ρ O fun ds O1 => asLJ1 ds O1 fun A ds O2 => Q A (enumD ds) O2
def fjZip (fr : FA) : FJ := fun ρ O Q => fr ρ O fun ds O1 => asLJ2 ds O1 fun A ds es O2 => Q A (zipD ds es) O2
/-! ### for -/
def forJ (A : List (Addr × List D)) (p : Pat) (gb : GS) (R : DEnds) : List D → DEnv → Ow → Prop
  | [], ρ, O => keepO A O ∧ R.nx ρ O
  | d :: ds, ρ, O => keepO A O ∧ patGet (patD p d ρ) fun ρ1 => gb { R with nx := forJ A p gb R ds, ct := forJ A p gb R ds, bk := R.nx } ρ1 O
def gForJ (fi : FJ) (p : Pat) (gb : GS) : GS := fun R ρ O => fi ρ O fun A ds O1 => forJ A p gb R ds ρ O1
end
/-! ### comprehensions -/
def lcJ (A : List (Addr × List D)) (p : Pat) (ft : FT) (fe : FE) (ρ : DEnv) : List D → List D → Ow → (List D → Ow → Prop) → Prop
  | [], acc, O, Q => keepO A O ∧ Q acc O
  | d :: ds, acc, O, Q => keepO A O ∧ patGet (patD p d ρ) fun ρ1 => ft ρ1 O fun b O1 => if b = true then fe ρ1 O1 fun e O2 => acc.length < sizeLine ∧ lcJ A p ft fe ρ ds (acc ++ [e]) O2 Q else lcJ A p ft fe ρ ds acc O1 Q
def fLcJ (fi : FJ) (p : Pat) (ft : FT) (fe : FE) (vs : List Nat) : FE := fun ρ O Q => fi ρ O fun A ds O1 => lcJ A p ft fe (wipeD ρ vs) ds [] O1 fun acc O2 => Q (.lst acc) O2
def fLcJO (fi : FJ) (p : Pat) (ft : FT) (fe : FE) (vs : List Nat) : FE := fun ρ O Q => fi ρ O fun A ds O1 => lcJ A p ft fe (wipeD ρ vs) ds [] O1 fun acc O2 => ∀ q, O2 q = none → Q (.ref q) (updO O2 q (.lst acc))
section
variable {X : Cx} {elt tg iter : Expr} {ifs : List Expr} {scope : Scope} {own : List (Str × Nat)} {pos : Pos} {fi : FJ} {p : Pat} {ft : FT} {fe : FE}
theorem fLcJ_core {vs : List Nat} {K : PySem.W.Frag} (hv : ∀ i ∈ patI p, i ∈ vs) {σ : L2.St} {H : Hp} {Q : VK} {F P : Hp} {O : Ow} {ρ : DEnv} {R : List D → Ow → Prop} (g : Gd M K F O P H) (en : EnvOk K F ρ σ)
    (q : fi ρ O fun A ds O1 => lcJ A p ft fe (wipeD ρ vs) ds [] O1 R)
    (po : ∀ acc O' F' H' q vacc, R acc O' → Same F F' → P q = none → M.rel F' P → Gd M K F' O' (upd P q (.lst vacc)) H' → RepAll K F' acc vacc → Q (.ref q) H') :
    tLc (liftJ M K fi) (patT K p) (liftT M K ft) (liftE M K fe) vs σ H Q := by
  refine ⟨F, O, P, ρ, _, g, en, q, fun A ds O1 F1 H1 J q1 s1 g1 it D hD => ?_⟩
  have hP := g1.freeP hD
  refine ⟨fun i m H => ∃ F2 O2 acc vacc, i + m = ds.length ∧ Same F1 F2 ∧ Gd M K F2 O2 (upd P D (.lst vacc)) H ∧ RepAll K F2 acc vacc ∧ lcJ A p ft fe (wipeD ρ vs) (ds.drop i) acc O2 R,
    ⟨ds.length, F1, O1, [], [], by omega, Same.refl _, g1.aside hD, .nil, by rw [List.drop_zero]; exact q1⟩, fun i m H2 hW => ?_⟩
  obtain ⟨F2, O2, acc, vacc, hm, s2, g2, ra, q2⟩ := hW
  by_cases hi : i < ds.length
  · rw [List.drop_eq_getElem_cons hi] at q2
    unfold lcJ at q2
    obtain ⟨k2, q2⟩ := q2
    obtain ⟨hgo, hy⟩ := (it F2 O2 (upd P D (.lst vacc)) H2 s2 g2 k2 i).1 ds[i] (List.getElem?_eq_getElem hi)
    refine .inr ⟨hgo, fun H' => ∃ F3 O3 acc vacc, Same F1 F3 ∧ Gd M K F3 O3 (upd P D (.lst vacc)) H' ∧ RepAll K F3 acc vacc ∧ lcJ A p ft fe (wipeD ρ vs) (ds.drop (i + 1)) acc O3 R, fun H' hN => ?_, fun x H' hyy => ?_⟩
    · obtain ⟨F3, O3, acc3, vacc3, s3, g3, r3, q3⟩ := hN
      exact ⟨m - 1, by omega, F3, O3, acc3, vacc3, by omega, s3, g3, r3, q3⟩
    · obtain ⟨F3, s3, g3, r3⟩ := hy x H' hyy
      cases e1 : patD p ds[i] (wipeD ρ vs) with
      | none => rw [e1] at q2; exact q2.elim
      | some ρ3 =>
        rw [e1] at q2
        refine pat_ok g3 p ds[i] x (wipeD ρ vs) ρ3 (wipe σ vs) _ e1 r3 ((en.mono (s1.trans (s2.trans s3))).wipes vs) fun σ4 en4 off => ?_
        refine ⟨wipe_off off hv, F3, O2, upd P D (.lst vacc), ρ3, _, g3, en4, q2, fun b O5 F5 H5 q5 s5 g5 => ?_⟩
        cases b with
        | true =>
          rw [if_pos rfl] at q5 ⊢
          refine ⟨F5, O5, upd P D (.lst vacc), ρ3, _, g5, en4.mono s5, q5, fun y O6 F6 H6 w q6 s6 g6 r6 => ?_⟩
          refine ⟨vacc, (g6.as D _ upd_same).2, by rw [← ra.length]; exact q6.1, F6, O6, acc ++ [y], vacc ++ [w], s2.trans (s3.trans (s5.trans s6)), g6.asideSet (M.mono g1.rl (s2.trans (s3.trans (s5.trans s6))) (same_upd hP)), (ra.mono (s3.trans (s5.trans s6))).append (.one r6), q6.2⟩
        | false =>
          rw [if_neg Bool.false_ne_true] at q5 ⊢
          exact ⟨F5, O5, acc, vacc, s2.trans (s3.trans s5), g5, ra.mono (s3.trans s5), q5⟩
  · rw [List.drop_eq_nil_of_le (by omega)] at q2
    unfold lcJ at q2
    exact .inl ⟨(it F2 O2 (upd P D (.lst vacc)) H2 s2 g2 q2.1 i).2 (by omega), po acc O2 F2 H2 D vacc q2.2 (s1.trans s2) hP (M.mono g1.rl s2 (Same.refl _)) g2 ra⟩
theorem fLcJ_lift {vs : List Nat} {K : PySem.W.Frag} (hv : ∀ i ∈ patI p, i ∈ vs) : ∀ σ H Q, liftE M K (fLcJ fi p ft fe vs) σ H Q → tLc (liftJ M K fi) (patT K p) (liftT M K ft) (liftE M K fe) vs σ H Q := fun σ H Q h => by
  obtain ⟨F, O, P, ρ, R, g, en, q, po⟩ := h
  refine fLcJ_core hv g en q fun acc O' F' H' a vacc q1 s1 hP mk g1 r1 => ?_
  obtain ⟨s2, g2⟩ := g1.asideFz hP mk
  refine po (.lst acc) O' _ H' _ q1 (s1.trans s2) g2 ?_
  simp only [Rep]
  exact ⟨a, vacc, rfl, upd_same, r1.mono s2⟩
theorem de_lcJ {vs : List Nat} (hc : X.calm = true) (hN : X.N.Nodup) (hi : DJ M X tg iter fi) (ok : BlkOk X.N X.env.scope scope own)
    (hg : ∀ (s : Shared) (H : Hp) (C : Addr) (cl : List (Str × Addr)) (fp : List Addr), DP (X.blk s H scope (compEnvC scope cl C X.env) fp) tg p) (ht : ∀ (s : Shared) (H : Hp) (C : Addr) (cl : List (Str × Addr)) (fp : List Addr), PTs (X.blk s H scope (compEnvC scope cl C X.env) fp) ifs (liftT M X.K ft))
    (he : ∀ (s : Shared) (H : Hp) (C : Addr) (cl : List (Str × Addr)) (fp : List Addr), DE M (X.blk s H scope (compEnvC scope cl C X.env) fp) elt fe) (hvs : own.map (·.2) = vs := by rfl) (hv : ((patI p).all fun i => vs.contains i) = true := by decide) (hs : ∀ x, foldedSetIterable iter X.env x = pure x := by intro _; rfl) :
    DE M X (.ListComp elt [⟨tg, iter, ifs, 0⟩] scope pos) (fLcJ fi p ft fe vs) := by
  subst hvs
  exact peMono (pe_lc (te := liftE M X.K fe) (g := patT X.K p) hc hN hi ok hg ht he hs) (fLcJ_lift (pat_in hv))
end
theorem ap_fjList (fl : FE) {ρ : DEnv} {O : Ow} {Q : List (Addr × List D) → List D → Ow → Prop} : fjList fl ρ O Q = fl ρ O fun d O1 => asLJ d O1 Q := rfl
theorem ap_fjEnum (fr : FA) {ρ : DEnv} {O : Ow} {Q : List (Addr × List D) → List D → Ow → Prop} : fjEnum fr ρ O Q = fr ρ O fun ds O1 => asLJ1 ds O1 fun A ds O2 => Q A (enumD ds) O2 := rfl
theorem ap_fjZip (fr : FA) {ρ : DEnv} {O : Ow} {Q : List (Addr × List D) → List D → Ow → Prop} : fjZip fr ρ O Q = fr ρ O fun ds O1 => asLJ2 ds O1 fun A ds es O2 => Q A (zipD ds es) O2 := rfl
theorem ap_gForJ (fi : FJ) (p : Pat) (gb : GS) {R : DEnds} {ρ : DEnv} {O : Ow} : gForJ fi p gb R ρ O = fi ρ O fun A ds O1 => forJ A p gb R ds ρ O1 := rfl
theorem ap_fLcJ (fi : FJ) (p : Pat) (ft : FT) (fe : FE) (vs : List Nat) {ρ : DEnv} {O : Ow} {Q : VD} : fLcJ fi p ft fe vs ρ O Q = fi ρ O fun A ds O1 => lcJ A p ft fe (wipeD ρ vs) ds [] O1 fun acc O2 => Q (.lst acc) O2 := rfl
theorem ap_fLcJO (fi : FJ) (p : Pat) (ft : FT) (fe : FE) (vs : List Nat) {ρ : DEnv} {O : Ow} {Q : VD} : fLcJO fi p ft fe vs ρ O Q = fi ρ O fun A ds O1 => lcJ A p ft fe (wipeD ρ vs) ds [] O1 fun acc O2 => ∀ q, O2 q = none → Q (.ref q) (updO O2 q (.lst acc)) := rfl
end Kf
/-! Dl36: every seventh thing of a list, xs[::7]. -/
namespace Kf
open PySem PySem.Spec L2
open PyProof.Rows hiding St
variable {M : MX}
section
variable {X : Cx} {e st : Expr} {fa : FE} {te : TE} {tst : TO} {fs : FO} {pos p2 : Pos}
end
end Kf
/-! Dl37: a list of any things compared with the empty list. -/
namespace Kf
open PySem PySem.Spec L2
open PyProof.Rows hiding St
section
variable {X : Cx} {pins : List (Addr × Obj)} {σ : St} {H : Hp} {s : Shared}
open SeqAt
end
section
variable {X : Cx}
end
/-! slices of a tuple, the whole of it too -/
section
variable {X : Cx}
end
end Kf
/-! Dl38: an empty dict is no text; a pair with one in it is in no list of pairs of texts and numbers. -/
namespace Kf
open PySem PySem.Spec L2
open PyProof.Rows hiding St
section
open AutoSeq1 (wpAny_loadPart')
open MeetsSeq SeqAt
variable {A : Around} {s : Shared}
end
section
variable {X : Cx}
open SeqAt
end
end Kf
/-! Dl39: a statement that is read in one of two ways (a walk along a list or a tuple). -/
namespace Kf
open PySem PySem.Spec L2
open PyProof.Rows hiding St
section
variable {X : Cx} {M : MX} {st : Stmt} {g1 g2 : GS}
end
end Kf
/-! Dl40: text.isalpha(). -/
namespace Kf
open PySem PySem.Spec L2
open PyProof.Rows hiding St
section
variable {M : MX} {X : Cx}
end
end Kf
/-! Dl41: a, b = x, y with plain local names. -/
namespace Kf
open PySem PySem.Spec L2
open PyProof.Rows hiding St
def gPar (i j : Nat) (fa : FA) : GS := fun R ρ O => fa ρ O fun ds O1 => match ds with
  | [d, e] => R.nx ((ρ.set i (some d)).set j (some e)) O1
  | _ => False
theorem ap_gPar {i j : Nat} {fa : FA} {R : DEnds} {ρ : DEnv} {O : Ow} : gPar i j fa R ρ O = fa ρ O (fun ds O1 => match ds with | [d, e] => R.nx ((ρ.set i (some d)).set j (some e)) O1 | _ => False) := rfl
section
variable {M : MX} {X : Cx} {pos : Pos}
end
end Kf
/-! Dl42: a list comprehension out of which an exception flies. -/
namespace Kf
open PySem PySem.Spec L2
open PyProof.Rows hiding St
variable {M : MX}

/-! ### the way out of a block -/
section
variable {X : Cx} {W : WX} {pins : List (Addr × Obj)} {σ : L2.St} {H3 : Hp} {s3 : Shared} {scope : Scope} {ce : Env} {fp : List Addr} {xe : Value → Shared → Prop} {use : Option (Value → Sem Unit)} {Qf : Value → Shared → Prop} {D : Addr}
end
section
variable {X : Cx} {W : WX} {elt tg iter : Expr} {ifs : List Expr} {scope : Scope} {own : List (Str × Nat)} {pos pos' : Pos} {wi : TI} {g : TG} {tt : TT} {use : Option (Value → Sem Unit)}
end
end Kf
/-! Dl43: such a comprehension, over data. -/
namespace Kf
open PySem PySem.Spec L2
open PyProof.Rows hiding St
variable {M : MX}
section
variable {X : Cx} {RX : XW} {W : WX} {e : Expr} {es : List Expr} {fr : FA} {k : Nat} {f : Addr} {fd : FuncData} {ps : List Str} {dsp : DSp} {x : Str} {st : Stmt} {p pos : Pos}
end
section
variable {fi : FI} {p : Pat} {ft : FT} {fe : XW → FE} {RX : XW} {W : WX}
end
section
variable {X : Cx} {elt tg iter : Expr} {ifs : List Expr} {scope : Scope} {own : List (Str × Nat)} {pos : Pos} {fi : FI} {p : Pat} {ft : FT} {fe : XW → FE} {RX : XW} {W : WX} {vs : List Nat}
end
section
variable {fi : FI} {p : Pat} {ft : FT} {fe : XW → FE} {RX : XW} {vs : List Nat} {ρ : DEnv} {O : Ow} {Q : VD}
end
end Kf
/-! Dl44: a def that keeps two promises keeps either. -/
namespace Kf
open PySem PySem.Spec L2
open PyProof.Rows hiding St
end Kf
/-! Dl45: tuples that are keys (`.tupK`), dicts whose keys are tuples (cells `.dicT`), min(xs, key=len, default=None). -/
namespace Kf
open PySem PySem.Spec L2
open PyProof.Rows hiding St
variable {M : MX}
/-! ### a key as plain data -/
def tupD (ks : List Key) : D := .tup (ks.map keyD)
def un1 : D → D
  | .tupK ks => tupD ks
  | d => d
def un : D → D
  | .lst ds => .lst (ds.map un1)
  | d => un1 d
section
variable {X : Cx} {e : Expr} {es : List Expr} {f : FE} {fr : FA} {pos : Pos}
/-! ### tuples made as keys -/
def keysOf : List D → Option (List Key)
  | [] => some []
  | d :: ds => match keyOf d, keysOf ds with
    | some k, some ks => some (k :: ks)
    | _, _ => none
theorem PostE.tupK {K : PySem.W.Frag} {F P H : Hp} {O : Ow} {R : VD} {Q : VK} {ks : List Key} {p : Addr} (po : PostE M K F P R Q) (g : Gd M K F O P H) (h : R (.tupK ks) O) (hp : H p = none) : Q (.ref p) (upd H p (.tup (ks.map kV))) := by
  have hF := g.freeF hp
  refine po (.tupK ks) O (upd F p (.tup (ks.map kV))) _ _ h (same_upd hF) (g.new hp) ?_
  simp only [Rep]
  exact ⟨p, rfl, upd_same⟩
/-! ### x in xs of keys -/
end
/-! ### min(xs, key=len, default=None) of keys -/
section
variable {prog : Program} {w : World} {A : Around} {E : Value → Shared → Prop} {s : Shared}
end
section
variable {X : Cx} {e : Expr} {fa : FE} {pos p kp kp2 lp dp2 : Pos} {j : Nat}
end
end Kf
/-! Dl46: sorted() of a dict whose keys are tuples of texts. -/
namespace Kf
open PySem PySem.Spec L2
open PyProof.Rows hiding St
open PySem.W (EachIs)
variable {M : MX}
def tsK (l : List Str) : List Key := l.map Sum.inr
section
variable {X : Cx}
end
theorem gSeq_thru {g h : GS} {R : DEnds} {ρ : DEnv} {O : Ow} (I : DEnv → Ow → Prop) (hI : ∀ ρ O, I ρ O → h R ρ O) (H : ∀ N : DEnv → Ow → Prop, (∀ ρ O, I ρ O → N ρ O) → g { R with nx := N } ρ O) : gSeq g h R ρ O := gSeq_step (H _ hI)
end Kf
/-! Dl47: owned lists lent: read as what never changes while an expression is worked out; sorted(d) as an owned list. -/
namespace Kf
open PySem PySem.Spec L2
open PyProof.Rows hiding St
variable {M : MX}
/-- the lists that were lent are back -/
def joinO (O O' : Ow) : Ow := fun a => match O a with
  | some (.lst ds) => some (.lst ds)
  | _ => match O' a with | some .pool => some .pool | _ => none
section
variable {K : PySem.W.Frag} {F P H : Hp} {O : Ow}
/-- what never changes, with the owned lists -/
def lendF (O : Ow) (F H : Hp) : Hp := fun a => match O a with | some (.lst _) => H a | _ => F a
theorem Gd.lend_s (g : Gd M K F O P H) : Same F (lendF O F H) := fun a o e => by
  unfold lendF
  split
  · rename_i ds q
    have := (g.ow a _ q).1
    rw [this] at e; cases e
  · exact e
theorem Gd.lend_at (g : Gd M K F O P H) {a : Addr} {ds : List D} (h : O a = some (.lst ds)) : ∃ vs, H a = some (.lst vs) ∧ lendF O F H a = some (.lst vs) ∧ RepAll K F ds vs := by
  obtain ⟨_, _, vs, h1, h2⟩ := g.ow a _ h
  exact ⟨vs, h1, by unfold lendF; rw [h]; exact h1, h2⟩
theorem Gd.lend_rep (g : Gd M K F O P H) : ∀ (n : Nat) (d : D) (v : V), Rep K F d v → Rep K (lendF O F H) (Kf.ddf O n d) v
  | 0, d, v, r => r.mono g.lend_s
  | n + 1, d, v, r => by
    cases d with
    | tup ds =>
      simp only [Rep] at r
      obtain ⟨a, xs, e, h1, h2⟩ := r
      simp only [Kf.ddf, Rep]
      exact ⟨a, xs, e, Same.seqT g.lend_s h1, repAll_map (Gd.lend_rep g n) h2⟩
    | lst ds =>
      simp only [Rep] at r
      obtain ⟨a, xs, e, h1, h2⟩ := r
      simp only [Kf.ddf, Rep]
      exact ⟨a, xs, e, g.lend_s _ _ h1, repAll_map (Gd.lend_rep g n) h2⟩
    | ref a =>
      cases e : O a with
      | none =>
        have z : Kf.ddf O (n + 1) (.ref a) = .ref a := by simp only [Kf.ddf, e]
        rw [z]; exact r.mono g.lend_s
      | some c =>
        cases c with
        | lst ds =>
          have z : Kf.ddf O (n + 1) (.ref a) = .lst (ds.map (Kf.ddf O n)) := by simp only [Kf.ddf, e]
          rw [z]
          obtain ⟨vs, _, h1, h2⟩ := g.lend_at e
          simp only [Rep] at r ⊢
          exact ⟨a, vs, r, h1, repAll_map (Gd.lend_rep g n) h2⟩
        | _ =>
          have z : Kf.ddf O (n + 1) (.ref a) = .ref a := by simp only [Kf.ddf, e]
          rw [z]; exact r.mono g.lend_s
    | _ => simp only [Kf.ddf]; exact r.mono g.lend_s
theorem Gd.back {F' H' : Hp} {O' : Ow} (g : Gd M K F O P H) (s : Same (lendF O F H) F') (g' : Gd M K F' O' P H') : Gd M K F (joinO O O') P H' := by
  have s0 : Same F F' := g.lend_s.trans s
  refine ⟨s0.trans g'.fz, fun a c e => ?_, fun a o e => ⟨(g.as a o e).1, (g'.as a o e).2⟩, g.rl, g.nt⟩
  unfold joinO at e
  split at e
  · rename_i ds q
    cases e
    obtain ⟨h1, h2, h3⟩ := g.ow a _ q
    obtain ⟨vs, h4, h5, h6⟩ := g.lend_at q
    exact ⟨h1, h2, h3.mono (Same.refl _) (by rw [h4]; exact g'.fz _ _ (s _ _ h5))⟩
  · split at e
    · rename_i q
      cases e
      obtain ⟨h1, h2, h3⟩ := g'.ow a _ q
      refine ⟨?_, h2, h3⟩
      cases z : F a with
      | none => rfl
      | some o => rw [s0 a o z] at h1; cases h1
    · cases e
theorem EnvOk.lent {ρ : DEnv} {σ : St} (g : Gd M K F O P H) (en : EnvOk K F ρ σ) (n : Nat) : EnvOk K (lendF O F H) (ρ.map (Option.map (ddf O n))) σ := by
  refine ⟨by rw [List.length_map]; exact en.1, fun i d e => ?_⟩
  rw [List.getElem?_map] at e
  cases q : ρ[i]? with
  | none => rw [q] at e; cases e
  | some o =>
    rw [q] at e
    cases o with
    | none => cases e
    | some d0 =>
      cases e
      obtain ⟨v, h1, h2⟩ := en.2 i d0 q
      exact ⟨v, h1, g.lend_rep n d0 v h2⟩
end
section
variable {X : Cx} {e : Expr} {fe : FE}
end
/-! ### sorted(d), all keys texts, owned -/
end Kf
/-! Dl48: tuples put together, the first one may be empty. -/
namespace L2
open PySem PySem.Spec PyProof.Rows
section
variable {X : Cx}
end
end L2
namespace Kf
open PySem PySem.Spec L2
open PyProof.Rows hiding St
variable {M : MX} {X : Cx}
end Kf
/-! Dl49: methods that may raise; fields set from a tuple; written dicts. -/
namespace L2
open PySem PySem.Spec PyProof.Rows
section
variable {X : Cx} {CX : CXT} {k : Nat} {C f : Addr} {fd : FuncData} {ps : List Str} {sp : Sp} {E : St → XK} {m : Str} {o e : Expr} {es : List Expr} {ta : TE} {t : TA} {apos pos : Pos}
end
end L2
namespace Kf
open PySem PySem.Spec L2
open PyProof.Rows hiding St
variable {M : MX}
section
variable {X : Cx} {RX : XW} {W : WX} {o e : Expr} {es : List Expr} {m : Str} {pos apos : Pos} {fo : FE} {fr : FA} {k : Nat} {C g0 : Addr} {fd : FuncData} {ps : List Str} {dsp : DSp}
/-! ### self.a, self.b = .. -/
/-! ### written dicts, the keys constant texts -/
def pairsS : List (Str × FE) → DEnv → Ow → (List (Key × D) → Ow → Prop) → Prop
  | [], _, O, Q => Q [] O
  | (x, fe) :: r, ρ, O, Q => fe ρ O fun d O1 => pairsS r ρ O1 fun kvs O2 => Q ((.inr x, d) :: kvs) O2
def fDisp (prs : List (Str × FE)) : FE := fun ρ O Q => ∀ p, O p = none → pairsS prs ρ (updO O p (.dic [])) fun kvs O2 => O2 p = some (.dic []) ∧ kvs.length ≤ 15 ∧ Q (.ref p) (updO O2 p (.dic (mergeD [] kvs)))
abbrev DPr (M : MX) (X : Cx) (pos : Pos) (keys : List (Option Expr)) (values : List Expr) (prs : List (Str × FE)) : Prop := PPs X pos keys values (prs.map fun q => (tC (.str q.1), liftE M X.K q.2))
theorem dpr_nil : DPr M X pos [] [] [] := pps_nil
theorem dpr_cons {x : Str} {j : Nat} {p : Pos} {v : Expr} {fe : FE} {ks : List (Option Expr)} {vs : List Expr} {prs : List (Str × FE)} (hv : DE M X v fe) (hr : DPr M X pos ks vs prs) : DPr M X pos (some (.Constant (.str x) j p) :: ks) (v :: vs) ((x, fe) :: prs) := pps_cons pe_str hv hr
theorem pairs_lift {σ : L2.St} {ρ : DEnv} : ∀ (prs : List (Str × FE)) (F : Hp) (O : Ow) (P H : Hp) (R : List (Key × D) → Ow → Prop) (Q : List (V × V) → Hp → Prop), Gd M X.K F O P H → EnvOk X.K F ρ σ → pairsS prs ρ O R →
    (∀ kvs O' F' H' vs, R kvs O' → Same F F' → Gd M X.K F' O' P H' → KvOk X.K F' kvs vs → Q (vs.map fun kv => (kV kv.1, kv.2)) H') → tPairs (prs.map fun q => (tC (.str q.1), liftE M X.K q.2)) σ H Q
  | [], F, O, P, H, R, Q, g, en, h, q => q [] O F H [] h (Same.refl _) g .nil
  | (x, fe) :: r, F, O, P, H, R, Q, g, en, h, q => by
    show liftE M X.K fe σ H _
    refine ⟨F, O, P, ρ, _, g, en, h, fun d O1 F1 H1 v q1 s1 g1 r1 => ?_⟩
    refine pairs_lift r F1 O1 P H1 _ _ g1 (en.mono s1) q1 fun kvs O' F' H' vs hR s' g' rk => ?_
    exact q _ O' F' H' ((.inr x, v) :: vs) hR (s1.trans s') g' (.cons ⟨rfl, r1.mono s'⟩ rk)
theorem de_disp {keys : List (Option Expr)} {values : List Expr} {prs : List (Str × FE)} (h : DPr M X pos keys values prs) (hall : keys.all (·.isSome) = true := by rfl) (hl : keys.length = values.length := by rfl) (h0 : keys ≠ [] := by intro z; cases z) (h15 : keys.length ≤ 15 := by decide) : DE M X (.Dict keys values pos) (fDisp prs) := peMono (pe_disp h hall hl h0 h15) fun σ H Q h => by
  obtain ⟨F, O, P, ρ, R, g, en, q, po⟩ := h
  intro p hp
  refine pairs_lift prs F _ P _ _ _ (g.newO (c := .dic []) hp ⟨[], upd_same, .nil⟩) en (q p (g.freeO hp)) fun kvs O' F' H' vs hR s' g' rk => ?_
  obtain ⟨e, h1, h2⟩ := hR
  obtain ⟨_, _, ws, w1, w2⟩ := g'.ow p _ e
  cases w2
  refine ⟨w1, vs, rfl, by rw [← rk.length]; exact h1, ?_⟩
  exact po _ _ F' _ _ h2 s' (g'.setO e ⟨_, upd_same, rk.merge .nil⟩) (by simp only [Rep])
end
theorem ap_fDisp (prs : List (Str × FE)) {ρ : DEnv} {O : Ow} {Q : VD} : fDisp prs ρ O Q = ∀ p, O p = none → pairsS prs ρ (updO O p (.dic [])) fun kvs O2 => O2 p = some (.dic []) ∧ kvs.length ≤ 15 ∧ Q (.ref p) (updO O2 p (.dic (mergeD [] kvs))) := rfl
end Kf
/-! Dl50: the finer room for defs and methods that may raise. -/
namespace Kf
open PySem PySem.Spec L2
open PyProof.Rows hiding St
section
variable {X : Cx} {CX : CXT} {k : Nat} {C f : Addr} {fd : FuncData} {ps : List Str} {sp : Sp} {E : L2.St → XK} {x m : Str} {o e : Expr} {es : List Expr} {ta : TE} {t : TA} {p apos pos : Pos}
end
section
variable {X : Cx} {RX : XW} {W : WX} {o e : Expr} {es : List Expr} {x m : Str} {p pos apos : Pos} {fo : FE} {fr : FA} {k : Nat} {C f g0 : Addr} {fd : FuncData} {ps : List Str} {dsp : DSp} {st : Stmt}
end
section
variable {P : Program} {w : World} {K : PySem.W.Frag} {mg : Str → Option Value} {base : Heap}
end
end Kf
/-! Dl51: == and != of deep data. -/
namespace Kf
open PySem PySem.Spec L2
open PyProof.Rows hiding St
variable {M : MX} {X : Cx}
end Kf
/-! Dl52: a list comprehension within another one (nothing free in the inner one). -/
namespace Kf
open PySem PySem.Spec L2
open PyProof.Rows hiding St
end Kf
/-! Dl53: the finer room of Dl22, for defs that show things: no display is under way (guards). -/
namespace Kf
open PySem PySem.Spec L2
open PyProof.Rows hiding St
structure RoomS (k : Nat) (A : Around) : Prop where
  hd : A.handled = none
  dp : A.depth + k + 5 < recursionLimit
  un : A.units + 5 * k + 200 < cLine
  gd : A.guards = some []
theorem RoomS.deeper {k : Nat} {A : Around} (r : RoomS (k + 1) A) (env : Env) : RoomS k (A.deeper env) :=
  ⟨r.hd, by have := r.dp; show A.depth + 1 + k + 5 < _; omega, by have := r.un; show A.units + 3 + 5 * k + 200 < _; omega, r.gd⟩
theorem RoomS.depth {k : Nat} {A : Around} (r : RoomS k A) : A.depth < recursionLimit := by have := r.dp; omega
theorem RoomS.u200 {k : Nat} {A : Around} (r : RoomS k A) : A.units + 200 < cLine := by have := r.un; omega
theorem RoomS.to {j k : Nat} {A : Around} (r : RoomS k A) (h : 4 * j ≤ k) : Room j A := ⟨r.hd, by have := r.dp; omega, by have := r.un; omega⟩
theorem RoomS.mono {j k : Nat} {A : Around} (r : RoomS k A) (h : j ≤ k) : RoomS j A := ⟨r.hd, by have := r.dp; omega, by have := r.un; omega, r.gd⟩
/-- a def's promise by the finer room -/
structure FnS (P : Program) (w : World) (K : PySem.W.Frag) (mg : Str → Option Value) (base : Heap) (CX : CXT) (k : Nat) (f : Addr) (fd : FuncData) (ps : List Str) (sp : Sp) : Prop where
  len : ∀ vs H Q E, sp vs H Q E → vs.length = ps.length
  run : ∀ (A : Around) (outer : List Env) (s : Shared) (H : Hp) (args : Args) (us : List Value) (vs : List V) (Q : VK) (E : XK), RoomS k A → Env0 P w K mg base A outer s H → BindsTo s fd args (ps.zip us) → Vals vs us → sp vs H Q E →
    codeAny (model P w) A (.call (.ref f) args) (CR CX outer P w H s Q E) s
section
variable {P : Program} {w : World} {K : PySem.W.Frag} {mg : Str → Option Value} {base : Heap} {CX : CXT} {f : Addr} {fd : FuncData} {ps : List Str} {sp : Sp}
theorem FnS.of {j k : Nat} (F : FnOk P w K mg base CX j f fd ps sp) (h : 4 * j ≤ k) : FnS P w K mg base CX k f fd ps sp :=
  ⟨F.len, fun A outer s H args us vs Q E hr => F.run A outer s H args us vs Q E (hr.to h)⟩
theorem FnS.mono {j k : Nat} (F : FnS P w K mg base CX j f fd ps sp) (h : j ≤ k) : FnS P w K mg base CX k f fd ps sp :=
  ⟨F.len, fun A outer s H args us vs Q E hr => F.run A outer s H args us vs Q E (hr.mono h)⟩
end
section
variable {X : Cx} {e : Expr} {es : List Expr} {t : TA} {CX : CXT} {k : Nat} {f : Addr} {fd : FuncData} {ps : List Str} {sp : Sp} {E : XK} {x : Str} {p pos : Pos}
theorem runS {pins : List (Addr × Obj)} {σ : L2.St} {H : Hp} {s : Shared} {Q : VK} {us : List Value} {vs : List V} (F : FnS X.prog X.w X.K X.mg X.base CX k f fd ps sp) (hr : RoomS k X.A) (hb : Binds X.K fd ps []) (hx : Passes CX X E)
    (I : Inv X pins σ H s) (r : Vals vs us) (h : sp vs H Q E) : wpAny (model X.prog X.w) X.A (call (.ref f) us) (EP X pins σ Q) X.xe s := by
  have hl : us.length = ps.length := by rw [← r.length]; exact F.len _ _ _ _ h
  have hbs := hb s us I.kIn (by rw [List.append_nil]; exact hl)
  rw [List.append_nil] at hbs
  refine wpAny_call (codeAny_mono (F.run X.A X.stack s H ⟨us, []⟩ us vs Q E hr I.env0 hbs r h) fun r s' hq => ?_)
  cases r with
  | error e => exact hx pins σ H s e s' I hq
  | ok fl =>
    cases fl with
    | ret u => exact I.after hq
    | next => exact False.elim hq
    | brk => exact False.elim hq
    | cont => exact False.elim hq
theorem pe_callS (F : FnS X.prog X.w X.K X.mg X.base CX k f fd ps sp) (hr : RoomS k X.A) (hg : Gl X x) (hm : X.mg x = some (.ref f)) (hk : PySem.W.keepIn X.K (.ref f) = true) (hb : Binds X.K fd ps []) (hx : Passes CX X E)
    (ha : PA X (e :: es) t) (hdb : (x == ("__debug__" : Str)) = false := by decide) (he : starEach (e :: es) X.env = (false, eval e X.env) :: starEach es X.env := by rfl) (hpl : (backTo pos (starEach es X.env)).any (·.1) = false := by rfl) :
    PE X (.Call (.Name x p) (e :: es) [] pos) (fun σ H Q => t σ H fun vs H1 => sp vs H1 Q E) := by
  refine ⟨fun pins s σ H Q I h => ?_⟩
  refine wpAny_Call_Name_kw (ld_glob I hg hm ?_ hdb)
  refine PySem.W.callWith_K (h₀ := X.base) I.ok.mod.kin hk (thn (ha.run pos pins s σ H _ I h) fun us s1 ⟨vs, H1, I1, r, q⟩ => ⟨I1.kIn, ?_⟩) he hpl
  exact runS F hr hb hx I1 r q
end
section
variable {M : MX} {X : Cx} {e : Expr} {es : List Expr} {fr : FA} {k : Nat} {f : Addr} {fd : FuncData} {ps : List Str} {dsp : DSp} {x : Str} {st : Stmt} {p pos : Pos}
theorem de_callNS (N : Fn X.K X.mg x st ps f fd) (G : FnS X.prog X.w X.K X.mg X.base CX0 k f fd ps (liftSp X.K dsp)) (hr : RoomS k X.A) (hg : Gl X x)
    (ha : DA M X (e :: es) fr) (hdb : (x == ("__debug__" : Str)) = false := by decide) (he : starEach (e :: es) X.env = (false, eval e X.env) :: starEach es X.env := by rfl) (hpl : (backTo pos (starEach es X.env)).any (·.1) = false := by rfl) :
    DE M X (.Call (.Name x p) (e :: es) [] pos) (fCall dsp fr) := peMono (pe_callS G hr hg N.m N.F.kp N.b pass0 ha hdb he hpl) fun σ H Q h => by
  obtain ⟨F, O, P, ρ, R, g, en, q, po⟩ := h
  refine ⟨F, O, P, ρ, _, g, en, q, fun ds O1 F1 H1 vs q1 s1 g1 r1 => ?_⟩
  exact ⟨F1, O1, P, ds, R, X0, g1.mt, r1, q1, po.mt g1 s1, fun _ _ _ _ _ _ z => z.elim⟩
end
section
variable {P : Program} {w : World} {K : PySem.W.Frag} {mg : Str → Option Value} {base : Heap}
/-- a def's body by the finer room -/
theorem fnS_of {CX : CXT} {k : Nat} {f : Addr} {name qual : Str} {params : Arguments} {body : List Stmt} {scope : Scope} {dV kV doc pm cdv ct oc : Value} {an od : Option Addr}
    {osl : Array (Option Value)} {N ps : List Str} {sp : Sp} (lk : K.lookup f = some ⟨oc, od, .func (PySem.W.fnOf name qual params body scope dV kV doc pm an cdv ct), osl⟩) (hcd : PySem.W.codeIn K cdv qual = true) (S : FnScope N ps scope)
    (len : ∀ vs H Q E, sp vs H Q E → vs.length = ps.length)
    (hbody : ∀ (A : Around) (outer : List Env) (s : Shared) (H : Hp) (vs : List V) (Q : VK) (E : XK), RoomS k (A.deeper (envOfC qual scope s.heap.objs.size f cdv)) → sp vs H Q E →
      ∃ t, PSs (cxOf CX P w K mg base N qual scope f cdv A outer s H E) body t ∧ t { nx := fun _ H' => Q .non H', rt := Q } (L2.start N vs) H) :
    FnS P w K mg base CX (k + 1) f (PySem.W.fnOf name qual params body scope dV kV doc pm an cdv ct) ps sp := by
  refine ⟨len, fun A outer s H args us vs Q E hr e0 hb r hsp => ?_⟩
  have hl := len _ _ _ _ hsp
  have KX : K.In s.heap := e0.mod.kin.keeps fun b o e => (e0.bs b o e).1
  have lim : s.heap.NoLimit := e0.mod.nolimit.keeps fun b o e => (e0.bs b o e).1
  have hkind : ∀ y ∈ ps.zip us, scope.names.lookup y.1 = some .local ∨ (scope.names.lookup y.1 = some .cell ∧ ((cellsFrom (s.heap.objs.size + 1) scope.names []).lookup y.1).isSome = true) := fun ⟨n, v⟩ hy =>
    (S.par n (List.of_mem_zip hy).1).imp id fun q => ⟨q, PySem.W.cellsFrom_some _ _ _ (.inl q)⟩
  refine codeAny_call_function hr.depth (KX _ _ lk) rfl S.co S.gen rfl (PySem.W.codeRec_of KX hcd) (hb _ _ _ _ ?_)
  refine wpAny_newFunctionEnv_cells S.kind hkind fun env he s1 x => ?_
  subst he
  refine ⟨lim.keeps x.toInCall.keep, codeAny_func ?_⟩
  obtain ⟨t, ht, hq⟩ := hbody A outer s H vs Q E (hr.deeper _) hsp
  have I : Inv (cxOf CX P w K mg base N qual scope f cdv A outer s H E) [] (L2.start N vs) H s1 := inv_start S hr.hd e0 hl r x
  refine wpAny_mono (ht.run [] s1 (L2.start N vs) H _ I hq) (fun fl s' hs => ?_) fun e s' hs => hs
  cases fl with
  | ret u =>
    obtain ⟨v, σ', H', J, rv, q⟩ := hs
    exact ⟨v, H', J.os, J.bare, J.base, J.hok, rv, q⟩
  | next =>
    obtain ⟨σ', H', J, q⟩ := hs
    exact ⟨V.non, H', J.os, J.bare, J.base, J.hok, rfl, q⟩
  | brk =>
    obtain ⟨_, _, _, q⟩ := hs
    exact False.elim q
  | cont =>
    obtain ⟨_, _, _, q⟩ := hs
    exact False.elim q
theorem fn_dS {x qual : Str} {st : Stmt} {f : Addr} {fd : FuncData} {N ps : List Str} {k : Nat} {dsp : DSp} {g : GS} (F : Fun K x qual st f fd) (S : FnScope N ps (defScope st)) (len : ∀ ds O R RE, dsp ds O R RE → ds.length = ps.length)
    (hder : ∀ (cdv : Value) (A : Around) (outer : List Env) (s : Shared) (H : Hp) (E : XK), RoomS k (A.deeper (envOfC qual (defScope st) s.heap.objs.size f cdv)) →
      DSs MT (cxOf CX0 P w K mg base N qual (defScope st) f cdv A outer s H E).nox (defBody st) g)
    (hread : ∀ ds O R RE, dsp ds O R RE → g { nx := fun _ O' => R .non O', rt := R } (startD N ds) O) : FnS P w K mg base CX0 (k + 1) f fd ps (liftSp K dsp) := by
  obtain ⟨oc, od, kV, doc, pm, an, cdv, ct, osl, rfl, lk, hcd⟩ := F.ex
  refine fnS_of lk hcd S (fun vs H Q E h => ?_) fun A outer s H vs Q E hr h => ?_
  · obtain ⟨F, O, P, ds, R, RE, g, r, q, _⟩ := h
    rw [← r.length]; exact len ds O R RE q
  · obtain ⟨F, O, P, ds, R, RE, gd, r, q, po, _⟩ := h
    refine ⟨_, (hder cdv A outer s H E hr).nox, F, O, P, startD N ds, { nx := fun _ O' => R .non O', rt := R }, gd, ?_, hread ds O R RE q, ⟨fun ρ O' F' H' σ q1 s1 g1 _ => ?_, po, fun _ _ _ _ _ z => z.elim, fun _ _ _ _ _ z => z.elim⟩⟩
    · unfold startD L2.start
      rw [r.length]
      exact envOk_start _ r
    · exact po .non O' F' H' .non q1 s1 g1 (by simp only [Rep])
theorem none_leftS {CX : CXT} {f : Addr} {fd : FuncData} {ps : List Str} {dsp : DSp} {k : Nat} (no : ∀ ds O R RE, ¬ dsp ds O R RE) : FnS P w K mg base CX k f fd ps (liftSp K dsp) := FnS.of (none_left (k := 0) no) (Nat.zero_le _)
end
end Kf
/-! Dl54: str(x) of data that is a list or a tuple, where no display is under way. -/
namespace Kf
open PySem PySem.Spec L2
open PyProof.Rows hiding St
section
variable {M : MX} {X : Cx}
theorem call_show (hg : X.A.guards = some []) (hu : X.A.units + 200 < cLine) : CallR X (.type "str") (fun xs H Q => ∃ (a : Addr) (d : PyData), xs = [.ref a] ∧ Dp X.K H (.ref a) d ∧ d.showable = true ∧ d.hasDict = false ∧ d.depth ≤ 100 ∧ d.shown.length ≤ sizeLine ∧ Q (.str d.shown) H) := by
  intro pins s σ H xs us Q I r h
  obtain ⟨a, d, rfl, w, h1, h2, h3, h4, q⟩ := h
  obtain ⟨u, rfl, e⟩ := vals1 r
  obtain ⟨as, w1⟩ := Dp.reads I d _ u w e
  cases (show u = .ref a from e)
  exact PySem.str_of_reads w1 h1 (fun z => by rw [h2] at z; cases z) hg (by omega) (fun _ _ z => z) (fun h' t tk k => ⟨.str _, H, I.kept k, ⟨_, rfl⟩, q⟩) h4
/-- str of a list or tuple -/
def rShow : RAD := fun ds O Q => match ds with
  | [.lst xs] => isPy (.lst xs) = true ∧ (toPy (.lst xs)).showable = true ∧ (toPy (.lst xs)).hasDict = false ∧ (toPy (.lst xs)).depth ≤ 100 ∧ (toPy (.lst xs)).shown.length ≤ sizeLine ∧ Q (.str (toPy (.lst xs)).shown) O
  | [.tup xs] => isPy (.tup xs) = true ∧ (toPy (.tup xs)).showable = true ∧ (toPy (.tup xs)).hasDict = false ∧ (toPy (.tup xs)).depth ≤ 100 ∧ (toPy (.tup xs)).shown.length ≤ sizeLine ∧ Q (.str (toPy (.tup xs)).shown) O
  | _ => False
theorem cd_show (hg : X.A.guards = some []) (hu : X.A.units + 200 < cLine) : CallD M X (.type "str") rShow := by
  refine callD_of fun F P H O xs ds R Q g r1 q po => ?_
  unfold rShow at q
  split at q
  · obtain ⟨v, rfl, h1⟩ := r1.one'
    obtain ⟨q1, q2, q3, q4, q5, q6⟩ := q
    have w := Rep.dp g.fz _ v q1 h1
    simp only [Rep] at h1
    obtain ⟨a, ys, rfl, _, _⟩ := h1
    exact ⟨_, call_show hg hu, a, _, rfl, w, q2, q3, q4, q5, po.at g q6 (by simp only [Rep])⟩
  · obtain ⟨v, rfl, h1⟩ := r1.one'
    obtain ⟨q1, q2, q3, q4, q5, q6⟩ := q
    have w := Rep.dp g.fz _ v q1 h1
    simp only [Rep] at h1
    obtain ⟨a, ys, rfl, _, _⟩ := h1
    exact ⟨_, call_show hg hu, a, _, rfl, w, q2, q3, q4, q5, po.at g q6 (by simp only [Rep])⟩
  · exact q.elim
end
end Kf
/-! Dl55: products of numbers of any size below 2 ^ 500000. -/
namespace Kf
open PySem PySem.Spec L2
open PyProof.Rows hiding St
section
variable {M : MX} {X : Cx}
def rMulW : R2D := rInts CMulW fun i j => .int (i * j)
theorem od_mulWd : OpD M X (binaryOp .Mult) rMulW := od_ints op_mulW fun _ _ _ => by simp only [Rep]
theorem rMulW_n {i j : Nat} {a b : Nat} {O : Ow} {Q : VD} (ha : i < 2 ^ a) (hb : j < 2 ^ b) (h : a + b ≤ 499998) (q : Q (.int ((i * j : Nat) : Int)) O) : rMulW (.int (i : Int)) (.int (j : Int)) O Q := by
  refine ⟨wide_mul (a := a + 1) (b := b + 1) ?_ ?_ (by omega) (by omega) (by omega), ?_⟩
  · rw [Int.natAbs_natCast, Nat.pow_succ]; omega
  · rw [Int.natAbs_natCast, Nat.pow_succ]; omega
  · show Q (.int ((i : Int) * (j : Int))) O
    rw [← Int.natCast_mul]; exact q
end
end Kf
/-! Dl56: the head of a law whose promise is by the room of Dl53 (the top place shows nothing). -/
namespace Kf
open PySem PySem.Spec L2
open PyProof.Rows hiding St
/-- the script alone, where it is no object of the module -/
def topH (K : PySem.W.Frag) (a : Addr) (c : Obj) (xs : List V) : Hp := fun b => if K.lookup a = none ∧ b = a then some (.frz c (.lst xs)) else none
section
variable {P : Program} {w : World} {K : PySem.W.Frag} {mg mb : Str → Option Value} {s : Shared} {a : Addr} {vs : List Value} {ns : List Int}
abbrev scrO (vs : List Value) : Obj := { cls := .type "list", data := .seq vs.toArray }
theorem topH_some {c : Obj} {xs : List V} {b : Addr} {u : HO} (h : topH K a c xs b = some u) : K.lookup a = none ∧ b = a ∧ u = .frz c (.lst xs) := by
  unfold topH at h
  split at h
  · rename_i q; injection h with h; exact ⟨q.1, q.2, h.symm⟩
  · cases h
theorem topH_only {c : Obj} {xs : List V} : Only (topH K a c xs) := fun b => by
  cases e : topH K a c xs b with
  | none => exact .inl rfl
  | some u => exact .inr ⟨c, xs, by rw [(topH_some e).2.2]⟩
theorem topH_seq {xs : List V} (kx : K.In s.heap) (ha : s.heap.get? a = some (scrO vs)) (hv : Vals xs vs) (hl : xs.length ≤ sizeLine) : SqL K (topH K a (scrO vs) xs) a xs := by
  cases q : K.lookup a with
  | none => exact .inl (.inr ⟨scrO vs, by unfold topH; rw [if_pos ⟨q, rfl⟩]⟩)
  | some o =>
    have e := kx a o q
    rw [ha] at e
    injection e with e
    subst e
    refine .inr ⟨_, vs.toArray, _, q, rfl, rfl, rfl, ?_, by simpa using hv⟩
    rw [List.size_toArray, ← hv.length]; exact hl
theorem topH_ok {xs : List V} (ha : s.heap.get? a = some (scrO vs)) (hv : Vals xs vs) (hl : xs.length ≤ sizeLine) : HOk P w (topH K a (scrO vs) xs) s.heap := fun b u e => by
  obtain ⟨_, rfl, rfl⟩ := topH_some e
  exact ⟨ha, hl, vs, _, hv, ha⟩
/-- what is in the heap and is no script is there still when the script is hidden -/
theorem topH_dict {xs : List V} {b : Addr} {o : Obj} {es : Array DictEntry} {ep : Nat} (ha : s.heap.get? a = some (scrO vs)) (e : s.heap.get? b = some o) (d : o.data = .dict es ep) : topH K a (scrO vs) xs b = none := by
  cases q : topH K a (scrO vs) xs b with
  | none => rfl
  | some u =>
    obtain ⟨_, rfl, _⟩ := topH_some q
    rw [ha] at e
    injection e with e
    subst e
    exact absurd d (by intro z; cases z)
theorem topH_mod {xs : List V} (kx : K.In s.heap) (hg : s.heap.Ns mainGlobals mg) (hb : s.heap.Ns builtinsNs mb) (hbb : ∀ x : Str, x ≠ "__name__" → mb x = bootBuiltins x) (hn : s.heap.NoLimit) (ha : s.heap.get? a = some (scrO vs)) : Mod K mg (hidT s.heap (topH K a (scrO vs) xs)) := by
  have move : ∀ {b : Addr} {m : Str → Option Value}, s.heap.Ns b m → (hidT s.heap (topH K a (scrO vs) xs)).Ns b m := by
    rintro b m ⟨o, es, ep, e, d, r⟩
    exact ⟨o, es, ep, hidT_get e (topH_dict ha e d), d, r⟩
  obtain ⟨mc, n1, n2⟩ := hn
  refine ⟨fun b o e => hidT_get (kx b o e) ?_, move hg, ⟨mb, move hb, hbb⟩, ⟨mc, move n1, n2⟩⟩
  cases q : topH K a (scrO vs) xs b with
  | none => rfl
  | some u =>
    obtain ⟨z, rfl, _⟩ := topH_some q
    rw [z] at e; cases e
theorem top_run {CX : CXT} {k : Nat} {fa : Addr} {fd : FuncData} {x : Str} {sp : Sp} (kx : K.In s.heap) (hg : s.heap.Ns mainGlobals mg) (hb : s.heap.Ns builtinsNs mb) (hbb : ∀ x : Str, x ≠ "__name__" → mb x = bootBuiltins x) (hn : s.heap.NoLimit) (hge : s.gens = #[])
    (ha : s.heap.get? a = some (scrO vs)) (hi : IntsAre vs ns) (hl : ns.length ≤ sizeLine) (hr : RoomS k callerA)
    (F : ∀ base : Heap, K.In base → base.Ns mainGlobals mg → FnS P w K mg base CX k fa fd [x] sp) (bind : ∀ (s : Shared) (u : Value), BindsTo s fd ⟨[u], []⟩ [(x, u)])
    (hsp : ∀ H : Hp, Only H → SqL K H a (ns.map V.int) → sp [.ref a] H (fun v _ => v = .bl true) fun _ _ _ => False) (no : ∀ H e s', CX [] H s (fun _ _ _ => False) e s' → False) :
    codeAny (model P w) callerA (.call (.ref fa) ⟨[.ref a], []⟩) (fun r s' => r = .ok (.ret (.bool true)) ∧ OldK s.heap s'.heap ∧ s'.os = s.os ∧ AllBare s'.gens) s := by
  have hv := vals_ints hi
  have hl' : (ns.map V.int).length ≤ sizeLine := by rw [List.length_map]; exact hl
  have M := topH_mod (xs := ns.map V.int) kx hg hb hbb hn ha
  have E0 : Env0 P w K mg (hidT s.heap (topH K a (scrO vs) (ns.map V.int))) callerA [] s (topH K a (scrO vs) (ns.map V.int)) :=
    { frames := rfl, mod := M, bs := fun b o e => of_hidT e, bsz := Nat.le_of_eq (hidT_size _ _), funs := trivial, frf := fun b m => (nomatch m), hok := topH_ok ha hv hl', bare := .of_eq hge }
  have R := (F _ M.kin M.glob).run callerA [] s _ ⟨[.ref a], []⟩ [.ref a] [.ref a] _ _ hr E0 (bind s (.ref a)) (.cons rfl .nil) (hsp _ topH_only (topH_seq kx ha hv hl'))
  refine codeAny_mono R fun r s' h => ?_
  match r, h with
  | .error e, h => exact (no _ e s' h).elim
  | .ok .next, h => exact False.elim h
  | .ok .brk, h => exact False.elim h
  | .ok .cont, h => exact False.elim h
  | .ok (.ret u), ⟨v, H', e1, e2, un, ok', rv, q⟩ =>
    have qv : v = .bl true := q
    subst qv
    have qu : u = Value.bool true := rv
    subst qu
    refine ⟨rfl, OldK.of_keep fun b o e => ?_, e1, e2⟩
    cases z : topH K a (scrO vs) (ns.map V.int) b with
    | none => exact un.keep b o e z (fun m => (nomatch m)) (fun m => (nomatch m))
    | some u =>
      obtain ⟨_, rfl, rfl⟩ := topH_some z
      have k1 := (ok' b _ (un.frzs b _ _ z)).1
      rw [ha] at e
      injection e with e
      subst e
      exact k1
end
theorem walk_ofS {l : PySem.W.OpenLaw} {n k : Nat} {q : Program} {loose : List Str} {XP : (Str → Option Value) → Heap → Prop} {YP : World → Heap → Prop} {d : DefRec} {K : Params → PySem.W.Frag} {CX : World → CXT} {sp : World → Sp} {x : Str}
    (hn : l.most = some n) (hn2 : n ≤ sizeLine) (hdf : d.params.defaults = []) (hr : RoomS k callerA) (hY : ∀ (w : World) (h : Heap), YP w h → (K w.params).In h)
    (F : ∀ (w : World) (mg : Str → Option Value) (fa : Addr) (h : Heap), (K w.params).In h → h.Ns mainGlobals mg → mg d.name = some (.ref fa) →
      ∃ fd : FuncData, (∀ (s : Shared) (u : Value), BindsTo s fd ⟨[u], []⟩ [(x, u)]) ∧ ∀ base : Heap, (K w.params).In base → base.Ns mainGlobals mg → FnS l.prog w (K w.params) mg base (CX w) k fa fd [x] (sp w))
    (hsp : ∀ (w : World) (H : Hp) (a : Addr) (ns : List Int), ns.length ≤ n → Only H → SqL (K w.params) H a (ns.map V.int) → sp w [.ref a] H (fun v _ => v = .bl true) fun _ _ _ => False)
    (no : ∀ (w : World) (H : Hp) (s : Shared) (e : Value) (s' : Shared), CX w [] H s (fun _ _ _ => False) e s' → False) : PySem.W.WalkO q loose XP YP l.row.toRowW d [] (fun f vs => PySem.call f vs) :=
  Att.attach_call hn hdf fun w _ s₁ mg _ fa _ _ _ _ a _ ns G Y _ _ _ hmg ho hi hlen hge => by
    obtain ⟨fd, hb, hF⟩ := F w mg fa _ (hY w _ Y) G.T.g hmg
    exact top_run (hY w _ Y) G.T.g G.T.b G.T.builtins G.T.nolimit hge ho hi (Nat.le_trans hlen hn2) hr hF hb (fun H h1 h2 => hsp w H a ns hlen h1 h2) fun H e s' => no w H s₁ e s'
end Kf
/-! Dl57: how often a number stands in a list. -/
namespace Kf
open PySem PySem.Spec L2
open PyProof.Rows hiding St
section
variable {M : MX} {X : Cx}
def rCntLD : RMD := fun x ds O Q => match ds with
  | [.int k] => match deref O x with
    | .lst es => match asInts es with
      | some ns => Q (.int (ns.count k : Nat)) O
      | none => False
    | _ => False
  | _ => False
theorem md_cntL : MtD M X "list.count" rCntLD := by
  refine mtD_of fun F P H O x xs dx ds R Q g r1 r2 q po => ?_
  unfold rCntLD at q
  split at q <;> first | exact q.elim | skip
  rename_i k
  obtain ⟨v, rfl, r2'⟩ := r2.one'
  simp only [Rep] at r2'
  subst r2'
  have h1 := g.deref r1
  revert q h1
  generalize Kf.deref O dx = ex
  intro q h1
  cases ex <;> first | exact q.elim | skip
  rename_i es
  obtain ⟨c, ys, rfl, h1, h2⟩ := h1
  dsimp only at q
  cases e : asInts es with
  | none => rw [e] at q; exact q.elim
  | some ns =>
    rw [e] at q
    rw [of_asInts e] at h2
    have e3 := h2.ints
    subst e3
    exact ⟨_, mt_lcount, c, ns, k, rfl, rfl, SqL.of h1, po.at g q (by simp only [Rep])⟩
theorem rCntL_l {ns : List Int} {k : Int} {O : Ow} {Q : VD} : rCntLD (.lst (ns.map .int)) [.int k] O Q = Q (.int (ns.count k : Nat)) O := by
  simp only [rCntLD, deref, asInts_map]
end
end Kf
namespace Kf
open PySem PySem.Spec L2
open PyProof.Rows hiding St
abbrev tab_SIGNS : List (Str × Str) := [("->", "to"), ("*", "both")]
def topS (i : Nat) : Stmt := PySem.Challenge.pw_kindfill_k52_counts_by_hand.main.body.getD i (.Pass ⟨0, 0, 0, 0⟩)
/-! ### is_mark -/
abbrev s_is_mark : Stmt := topS 3
abbrev N_is_mark : List Str := ["text", "sign"]
abbrev P_is_mark : List Str := ["text"]
theorem sc_is_mark : FnScope N_is_mark P_is_mark (defScope s_is_mark) := ⟨rfl, rfl, rfl, by decide +kernel, rfl, by decide +kernel, by decide +kernel⟩
def g_is_mark (d_LETTERS d_LONGEST : D) : GS :=
  (gSeq (gFor (fiStr (fVar 0)) (.nm 1) (gIf (fTest (fOp (rInD true) (fVar 1) (fC d_LETTERS))) (gRet (fC (.bl false))) gNext)) (gRet (fChain rLeD rLeD (fC (.int 1)) (fCB rLenD (fCons (fVar 0) fNil)) (fC d_LONGEST))))
theorem der_is_mark {P : Program} {w : World} {K : PySem.W.Frag} {mg : Str → Option Value} {base : Heap} {k : Nat} {f : Addr} {d_LETTERS d_LONGEST : D} (m_len : mg "len" = none) (c_LETTERS : Cst K mg "LETTERS" d_LETTERS) (c_LONGEST : Cst K mg "LONGEST" d_LONGEST)
    (cdv : Value) (A : Around) (outer : List Env) (s : Shared) (H : Hp) (E : XK) (hr : Room k (A.deeper (envOfC "is_mark" (defScope s_is_mark) s.heap.objs.size f cdv))) :
    DSs MT (cxOf CX0 P w K mg base N_is_mark "is_mark" (defScope s_is_mark) f cdv A outer s H E).nox (defBody s_is_mark) (g_is_mark d_LETTERS d_LONGEST) :=
  (dss_cons (ds_for PassesOwn.never rfl (di_str (de_var 0)) (dp_name (i := 1) sc_is_mark.nd (by rfl) (by first | exact Or.inl rfl | exact Or.inr rfl)) (dss_one (ds_if (dt_cmp (od_notin hr.u200) (de_var 1) (de_cst c_LETTERS (by rfl)) (by rfl)) (dss_one (ds_ret de_bl)) dss_nil))) (dss_one (ds_ret (de_chain od_le od_le de_int (de_callB cd_len (by rfl) m_len bb_len (da_cons (de_var 0) da_nil)) (de_cst c_LONGEST (by rfl))))))
/-! ### has_form -/
abbrev s_has_form : Stmt := topS 8
abbrev N_has_form : List Str := ["thing", "room"]
abbrev P_has_form : List Str := ["thing", "room"]
theorem sc_has_form : FnScope N_has_form P_has_form (defScope s_has_form) := ⟨rfl, rfl, rfl, by decide +kernel, rfl, by decide +kernel, by decide +kernel⟩
def g_has_form (sp_is_mark sp_has_form : DSp) (d_ONE : D) : GS :=
  (gSeq (gIf (fOr (fNot (fTest (fCB rIsiD (fCons (fVar 0) (fCons (fC (.ty "tuple")) fNil))))) (fTest (fOp rLtD (fVar 1) (fC (.int 0))))) (gRet (fC (.bl false))) gNext) (gSeq (gIf (fTest (fOp (rEqD false) (fCB rLenD (fCons (fVar 0) fNil)) (fC (.int 1)))) (gRet (fOp (rEqD false) (fVar 0) (fC d_ONE))) gNext) (gSeq (gIf (fTest (fOp (rEqD false) (fCB rLenD (fCons (fVar 0) fNil)) (fC (.int 2)))) (gRet (fAndV (fOp (rEqD false) (fOp rIxD (fVar 0) (fC (.int 0))) (fC (.str "mark"))) (fAndV (fCB rIsiD (fCons (fOp rIxD (fVar 0) (fC (.int 1))) (fCons (fC (.ty "str")) fNil))) (fCall sp_is_mark (fCons (fOp rIxD (fVar 0) (fC (.int 1))) fNil))))) gNext) (gSeq (gIf (fOr (fTest (fOp (rEqD true) (fCB rLenD (fCons (fVar 0) fNil)) (fC (.int 3)))) (fTest (fOp (rInD true) (fOp rIxD (fVar 0) (fC (.int 0))) (fTup (fCons (fC (.str "to")) (fCons (fC (.str "both")) fNil)))))) (gRet (fC (.bl false))) gNext) (gRet (fAndV (fCall sp_has_form (fCons (fOp rIxD (fVar 0) (fC (.int 1))) (fCons (fOp rSubD (fVar 1) (fC (.int 1))) fNil))) (fCall sp_has_form (fCons (fOp rIxD (fVar 0) (fC (.int 2))) (fCons (fOp rSubD (fVar 1) (fC (.int 1))) fNil)))))))))
theorem der_has_form {P : Program} {w : World} {K : PySem.W.Frag} {mg : Str → Option Value} {base : Heap} {k : Nat} {f : Addr} {sp_is_mark sp_has_form : DSp} {d_ONE : D} {a_is_mark : Addr} {fd_is_mark : FuncData} (n_is_mark : Fn K mg "is_mark" s_is_mark P_is_mark a_is_mark fd_is_mark) (G_is_mark : FnOk P w K mg base CX0 k a_is_mark fd_is_mark P_is_mark (liftSp K sp_is_mark)) {a_has_form : Addr} {fd_has_form : FuncData} (n_has_form : Fn K mg "has_form" s_has_form P_has_form a_has_form fd_has_form) (G_has_form : FnOk P w K mg base CX0 k a_has_form fd_has_form P_has_form (liftSp K sp_has_form)) (m_tuple : mg "tuple" = none) (m_isinstance : mg "isinstance" = none) (m_len : mg "len" = none) (m_str : mg "str" = none) (c_ONE : Cst K mg "ONE" d_ONE)
    (cdv : Value) (A : Around) (outer : List Env) (s : Shared) (H : Hp) (E : XK) (hr : Room k (A.deeper (envOfC "has_form" (defScope s_has_form) s.heap.objs.size f cdv))) :
    DSs MT (cxOf CX0 P w K mg base N_has_form "has_form" (defScope s_has_form) f cdv A outer s H E).nox (defBody s_has_form) (g_has_form sp_is_mark sp_has_form d_ONE) :=
  (dss_cons (ds_if (dt_of (dw_or (dt_not (dt_val (de_callB cd_isi (by rfl) m_isinstance bb_isinstance (da_cons (de_var 0) (da_cons (de_ty bb_tuple m_tuple (by rfl)) da_nil))))) (dw_or1 (dt_cmp od_lt (de_var 1) de_int (nomark _))))) (dss_one (ds_ret de_bl)) dss_nil) (dss_cons (ds_if (dt_cmp (od_eq hr.u200) (de_callB cd_len (by rfl) m_len bb_len (da_cons (de_var 0) da_nil)) de_int (nomark _)) (dss_one (ds_ret (de_cmp (od_eq hr.u200) (de_var 0) (de_cst c_ONE (by rfl)) (nomark _)))) dss_nil) (dss_cons (ds_if (dt_cmp (od_eq hr.u200) (de_callB cd_len (by rfl) m_len bb_len (da_cons (de_var 0) da_nil)) de_int (nomark _)) (dss_one (ds_ret (de_and (de_cmp (od_eq hr.u200) (de_ix (de_var 0) de_int) de_str (nomark _)) (de_and (de_callB cd_isi (by rfl) m_isinstance bb_isinstance (da_cons (de_ix (de_var 0) de_int) (da_cons (de_ty bb_str m_str (by rfl)) da_nil))) (de_one (de_callN n_is_mark G_is_mark hr (by rfl) (da_cons (de_ix (de_var 0) de_int) da_nil))))))) dss_nil) (dss_cons (ds_if (dt_of (dw_or (dt_cmp (od_ne hr.u200) (de_callB cd_len (by rfl) m_len bb_len (da_cons (de_var 0) da_nil)) de_int (nomark _)) (dw_or1 (dt_cmp (od_notin hr.u200) (de_ix (de_var 0) de_int) (de_tup (da_cons de_str (da_cons de_str da_nil))) (by rfl))))) (dss_one (ds_ret de_bl)) dss_nil) (dss_one (ds_ret (de_and (de_callN n_has_form G_has_form hr (by rfl) (da_cons (de_ix (de_var 0) de_int) (da_cons (de_op od_sub (de_var 1) de_int) da_nil))) (de_one (de_callN n_has_form G_has_form hr (by rfl) (da_cons (de_ix (de_var 0) de_int) (da_cons (de_op od_sub (de_var 1) de_int) da_nil)))))))))))
/-! ### is_kind -/
abbrev s_is_kind : Stmt := topS 9
abbrev N_is_kind : List Str := ["thing"]
abbrev P_is_kind : List Str := ["thing"]
theorem sc_is_kind : FnScope N_is_kind P_is_kind (defScope s_is_kind) := ⟨rfl, rfl, rfl, by decide +kernel, rfl, by decide +kernel, by decide +kernel⟩
def g_is_kind (sp_has_form sp_leaves_of : DSp) (d_MOST_DEPTH d_MOST_LEAVES : D) : GS :=
  (gRet (fAndV (fCall sp_has_form (fCons (fVar 0) (fCons (fC d_MOST_DEPTH) fNil))) (fOp rLeD (fCall sp_leaves_of (fCons (fVar 0) fNil)) (fC d_MOST_LEAVES))))
theorem der_is_kind {P : Program} {w : World} {K : PySem.W.Frag} {mg : Str → Option Value} {base : Heap} {k : Nat} {f : Addr} {sp_has_form sp_leaves_of : DSp} {d_MOST_DEPTH d_MOST_LEAVES : D} {a_has_form : Addr} {fd_has_form : FuncData} (n_has_form : Fn K mg "has_form" s_has_form P_has_form a_has_form fd_has_form) (G_has_form : FnOk P w K mg base CX0 k a_has_form fd_has_form P_has_form (liftSp K sp_has_form)) {a_leaves_of : Addr} {fd_leaves_of : FuncData} (n_leaves_of : Fn K mg "leaves_of" s_leaves_of P_leaves_of a_leaves_of fd_leaves_of) (G_leaves_of : FnOk P w K mg base CX0 k a_leaves_of fd_leaves_of P_leaves_of (liftSp K sp_leaves_of)) (c_MOST_DEPTH : Cst K mg "MOST_DEPTH" d_MOST_DEPTH) (c_MOST_LEAVES : Cst K mg "MOST_LEAVES" d_MOST_LEAVES)
    (cdv : Value) (A : Around) (outer : List Env) (s : Shared) (H : Hp) (E : XK) (hr : Room k (A.deeper (envOfC "is_kind" (defScope s_is_kind) s.heap.objs.size f cdv))) :
    DSs MT (cxOf CX0 P w K mg base N_is_kind "is_kind" (defScope s_is_kind) f cdv A outer s H E).nox (defBody s_is_kind) (g_is_kind sp_has_form sp_leaves_of d_MOST_DEPTH d_MOST_LEAVES) :=
  (dss_one (ds_ret (de_and (de_callN n_has_form G_has_form hr (by rfl) (da_cons (de_var 0) (da_cons (de_cst c_MOST_DEPTH (by rfl)) da_nil))) (de_one (de_cmp od_le (de_callN n_leaves_of G_leaves_of hr (by rfl) (da_cons (de_var 0) da_nil)) (de_cst c_MOST_LEAVES (by rfl)) (nomark _))))))
/-! ### leaves_of -/
abbrev s_leaves_of : Stmt := topS 10
abbrev N_leaves_of : List Str := ["kind"]
abbrev P_leaves_of : List Str := ["kind"]
theorem sc_leaves_of : FnScope N_leaves_of P_leaves_of (defScope s_leaves_of) := ⟨rfl, rfl, rfl, by decide +kernel, rfl, by decide +kernel, by decide +kernel⟩
def g_leaves_of (sp_leaves_of : DSp) : GS :=
  (gSeq (gIf (fTest (fOp rLtD (fCB rLenD (fCons (fVar 0) fNil)) (fC (.int 3)))) (gRet (fC (.int 1))) gNext) (gRet (fOp rAddD (fCall sp_leaves_of (fCons (fOp rIxD (fVar 0) (fC (.int 1))) fNil)) (fCall sp_leaves_of (fCons (fOp rIxD (fVar 0) (fC (.int 2))) fNil)))))
theorem der_leaves_of {P : Program} {w : World} {K : PySem.W.Frag} {mg : Str → Option Value} {base : Heap} {k : Nat} {f : Addr} {sp_leaves_of : DSp} {a_leaves_of : Addr} {fd_leaves_of : FuncData} (n_leaves_of : Fn K mg "leaves_of" s_leaves_of P_leaves_of a_leaves_of fd_leaves_of) (G_leaves_of : FnOk P w K mg base CX0 k a_leaves_of fd_leaves_of P_leaves_of (liftSp K sp_leaves_of)) (m_len : mg "len" = none)
    (cdv : Value) (A : Around) (outer : List Env) (s : Shared) (H : Hp) (E : XK) (hr : Room k (A.deeper (envOfC "leaves_of" (defScope s_leaves_of) s.heap.objs.size f cdv))) :
    DSs MT (cxOf CX0 P w K mg base N_leaves_of "leaves_of" (defScope s_leaves_of) f cdv A outer s H E).nox (defBody s_leaves_of) (g_leaves_of sp_leaves_of) :=
  (dss_cons (ds_if (dt_cmp od_lt (de_callB cd_len (by rfl) m_len bb_len (da_cons (de_var 0) da_nil)) de_int (nomark _)) (dss_one (ds_ret de_int)) dss_nil) (dss_one (ds_ret (de_op od_add (de_callN n_leaves_of G_leaves_of hr (by rfl) (da_cons (de_ix (de_var 0) de_int) da_nil)) (de_callN n_leaves_of G_leaves_of hr (by rfl) (da_cons (de_ix (de_var 0) de_int) da_nil))))))
/-! ### ends_of -/
abbrev s_ends_of : Stmt := topS 11
abbrev N_ends_of : List Str := ["kind", "taken", "mark"]
abbrev P_ends_of : List Str := ["kind"]
theorem sc_ends_of : FnScope N_ends_of P_ends_of (defScope s_ends_of) := ⟨rfl, rfl, rfl, by decide +kernel, rfl, by decide +kernel, by decide +kernel⟩
def g_ends_of (sp_ends_of : DSp) (d_ONE : D) : GS :=
  (gSeq (gIf (fTest (fOp (rEqD false) (fVar 0) (fC d_ONE))) (gRet (fLst fNil)) gNext) (gSeq (gIf (fTest (fOp (rEqD false) (fOp rIxD (fVar 0) (fC (.int 0))) (fC (.str "mark")))) (gRet (fLst (fCons (fTup (fCons (fLst fNil) (fCons (fOp rIxD (fVar 0) (fC (.int 1))) fNil))) fNil))) gNext) (gSeq (gIf (fTest (fOp (rEqD false) (fOp rIxD (fVar 0) (fC (.int 0))) (fC (.str "both")))) (gRet (fOp rAddD (fCall sp_ends_of (fCons (fOp rIxD (fVar 0) (fC (.int 1))) fNil)) (fCall sp_ends_of (fCons (fOp rIxD (fVar 0) (fC (.int 2))) fNil)))) gNext) (gRet (fLc (fiList (fCall sp_ends_of (fCons (fOp rIxD (fVar 0) (fC (.int 2))) fNil))) (.tp [(.nm 1), (.nm 2)]) fYes (fTup (fCons (fOp rAddD (fLst (fCons (fOp rIxD (fVar 0) (fC (.int 1))) fNil)) (fVar 1)) (fCons (fVar 2) fNil))) [1, 2])))))
theorem der_ends_of {P : Program} {w : World} {K : PySem.W.Frag} {mg : Str → Option Value} {base : Heap} {k : Nat} {f : Addr} {sp_ends_of : DSp} {d_ONE : D} {a_ends_of : Addr} {fd_ends_of : FuncData} (n_ends_of : Fn K mg "ends_of" s_ends_of P_ends_of a_ends_of fd_ends_of) (G_ends_of : FnOk P w K mg base CX0 k a_ends_of fd_ends_of P_ends_of (liftSp K sp_ends_of)) (c_ONE : Cst K mg "ONE" d_ONE)
    (cdv : Value) (A : Around) (outer : List Env) (s : Shared) (H : Hp) (E : XK) (hr : Room k (A.deeper (envOfC "ends_of" (defScope s_ends_of) s.heap.objs.size f cdv))) :
    DSs MT (cxOf CX0 P w K mg base N_ends_of "ends_of" (defScope s_ends_of) f cdv A outer s H E).nox (defBody s_ends_of) (g_ends_of sp_ends_of d_ONE) :=
  (dss_cons (ds_if (dt_cmp (od_eq hr.u200) (de_var 0) (de_cst c_ONE (by rfl)) (nomark _)) (dss_one (ds_ret (de_lst da_nil))) dss_nil) (dss_cons (ds_if (dt_cmp (od_eq hr.u200) (de_ix (de_var 0) de_int) de_str (nomark _)) (dss_one (ds_ret (de_lst (da_cons (de_tup (da_cons (de_lst da_nil) (da_cons (de_ix (de_var 0) de_int) da_nil))) da_nil)))) dss_nil) (dss_cons (ds_if (dt_cmp (od_eq hr.u200) (de_ix (de_var 0) de_int) de_str (nomark _)) (dss_one (ds_ret (de_op od_add (de_callN n_ends_of G_ends_of hr (by rfl) (da_cons (de_ix (de_var 0) de_int) da_nil)) (de_callN n_ends_of G_ends_of hr (by rfl) (da_cons (de_ix (de_var 0) de_int) da_nil))))) dss_nil) (dss_one (ds_ret (de_lc (by rfl) sc_ends_of.nd (di_list (de_callN n_ends_of G_ends_of hr (by rfl) (da_cons (de_ix (de_var 0) de_int) da_nil))) (blkOk_by (own := [("taken", 1), ("mark", 2)]) (N := N_ends_of) (sc := defScope s_ends_of) (by decide +kernel)) (fun _ _ _ _ _ => (dp_tup (by rfl) (dps_cons (dp_name (i := 1) sc_ends_of.nd (by rfl) (by first | exact Or.inl rfl | exact Or.inr rfl)) (dps_cons (dp_name (i := 2) sc_ends_of.nd (by rfl) (by first | exact Or.inl rfl | exact Or.inr rfl)) dps_nil)))) (fun _ _ _ _ _ => dts_nil) (fun _ _ _ _ _ => (de_tup (da_cons (de_op od_add (de_lst (da_cons (de_ix (de_var 0) de_int) da_nil)) (de_var 1)) (da_cons (de_var 2) da_nil))))))))))
/-! ### ways_of -/
abbrev s_ways_of : Stmt := topS 12
abbrev N_ways_of : List Str := ["kind", "found", "moves", "mark"]
abbrev P_ways_of : List Str := ["kind"]
theorem sc_ways_of : FnScope N_ways_of P_ways_of (defScope s_ways_of) := ⟨rfl, rfl, rfl, by decide +kernel, rfl, by decide +kernel, by decide +kernel⟩
def g_ways_of (sp_ways_of : DSp) (d_ONE : D) : GS :=
  (gSeq (gIf (fTest (fOp (rEqD false) (fVar 0) (fC d_ONE))) (gRet (fLst fNil)) gNext) (gSeq (gIf (fTest (fOp (rEqD false) (fOp rIxD (fVar 0) (fC (.int 0))) (fC (.str "mark")))) (gRet (fLst (fCons (fTup (fCons (fLst fNil) (fCons (fOp rIxD (fVar 0) (fC (.int 1))) fNil))) fNil))) gNext) (gSeq (gIf (fTest (fOp (rEqD false) (fOp rIxD (fVar 0) (fC (.int 0))) (fC (.str "to")))) (gRet (fLc (fiList (fCall sp_ways_of (fCons (fOp rIxD (fVar 0) (fC (.int 2))) fNil))) (.tp [(.nm 2), (.nm 3)]) fYes (fTup (fCons (fOp rAddD (fLst (fCons (fOp rIxD (fVar 0) (fC (.int 1))) fNil)) (fVar 2)) (fCons (fVar 3) fNil))) [2, 3])) gNext) (gSeq (gSet (fLc (fiList (fCall sp_ways_of (fCons (fOp rIxD (fVar 0) (fC (.int 1))) fNil))) (.tp [(.nm 2), (.nm 3)]) fYes (fTup (fCons (fOp rAddD (fLst (fCons (fC (.int 1)) fNil)) (fVar 2)) (fCons (fVar 3) fNil))) [2, 3]) 1) (gRet (fOp rAddD (fVar 1) (fLc (fiList (fCall sp_ways_of (fCons (fOp rIxD (fVar 0) (fC (.int 2))) fNil))) (.tp [(.nm 2), (.nm 3)]) fYes (fTup (fCons (fOp rAddD (fLst (fCons (fC (.int 2)) fNil)) (fVar 2)) (fCons (fVar 3) fNil))) [2, 3])))))))
theorem der_ways_of {P : Program} {w : World} {K : PySem.W.Frag} {mg : Str → Option Value} {base : Heap} {k : Nat} {f : Addr} {sp_ways_of : DSp} {d_ONE : D} {a_ways_of : Addr} {fd_ways_of : FuncData} (n_ways_of : Fn K mg "ways_of" s_ways_of P_ways_of a_ways_of fd_ways_of) (G_ways_of : FnOk P w K mg base CX0 k a_ways_of fd_ways_of P_ways_of (liftSp K sp_ways_of)) (c_ONE : Cst K mg "ONE" d_ONE)
    (cdv : Value) (A : Around) (outer : List Env) (s : Shared) (H : Hp) (E : XK) (hr : Room k (A.deeper (envOfC "ways_of" (defScope s_ways_of) s.heap.objs.size f cdv))) :
    DSs MT (cxOf CX0 P w K mg base N_ways_of "ways_of" (defScope s_ways_of) f cdv A outer s H E).nox (defBody s_ways_of) (g_ways_of sp_ways_of d_ONE) :=
  (dss_cons (ds_if (dt_cmp (od_eq hr.u200) (de_var 0) (de_cst c_ONE (by rfl)) (nomark _)) (dss_one (ds_ret (de_lst da_nil))) dss_nil) (dss_cons (ds_if (dt_cmp (od_eq hr.u200) (de_ix (de_var 0) de_int) de_str (nomark _)) (dss_one (ds_ret (de_lst (da_cons (de_tup (da_cons (de_lst da_nil) (da_cons (de_ix (de_var 0) de_int) da_nil))) da_nil)))) dss_nil) (dss_cons (ds_if (dt_cmp (od_eq hr.u200) (de_ix (de_var 0) de_int) de_str (nomark _)) (dss_one (ds_ret (de_lc (by rfl) sc_ways_of.nd (di_list (de_callN n_ways_of G_ways_of hr (by rfl) (da_cons (de_ix (de_var 0) de_int) da_nil))) (blkOk_by (own := [("moves", 2), ("mark", 3)]) (N := N_ways_of) (sc := defScope s_ways_of) (by decide +kernel)) (fun _ _ _ _ _ => (dp_tup (by rfl) (dps_cons (dp_name (i := 2) sc_ways_of.nd (by rfl) (by first | exact Or.inl rfl | exact Or.inr rfl)) (dps_cons (dp_name (i := 3) sc_ways_of.nd (by rfl) (by first | exact Or.inl rfl | exact Or.inr rfl)) dps_nil)))) (fun _ _ _ _ _ => dts_nil) (fun _ _ _ _ _ => (de_tup (da_cons (de_op od_add (de_lst (da_cons (de_ix (de_var 0) de_int) da_nil)) (de_var 2)) (da_cons (de_var 3) da_nil))))))) dss_nil) (dss_cons (ds_setLc (i := 1) rfl sc_ways_of.nd rfl rfl (sw_true rfl rfl rfl (by decide +kernel)) (di_list (de_callN n_ways_of G_ways_of hr (by rfl) (da_cons (de_ix (de_var 0) de_int) da_nil))) (blkOk_by (own := [("moves", 2), ("mark", 3)]) (N := N_ways_of) (sc := defScope s_ways_of) (by decide +kernel)) (fun _ _ _ _ _ => (dp_tup (by rfl) (dps_cons (dp_name (i := 2) sc_ways_of.nd (by rfl) (by first | exact Or.inl rfl | exact Or.inr rfl)) (dps_cons (dp_name (i := 3) sc_ways_of.nd (by rfl) (by first | exact Or.inl rfl | exact Or.inr rfl)) dps_nil)))) (fun _ _ _ _ _ => dts_nil) (fun _ _ _ _ _ => (de_tup (da_cons (de_op od_add (de_lst (da_cons de_int da_nil)) (de_var 2)) (da_cons (de_var 3) da_nil))))) (dss_one (ds_ret (de_op od_add (de_var 1) (de_lc (by rfl) sc_ways_of.nd (di_list (de_callN n_ways_of G_ways_of hr (by rfl) (da_cons (de_ix (de_var 0) de_int) da_nil))) (blkOk_by (own := [("moves", 2), ("mark", 3)]) (N := N_ways_of) (sc := defScope s_ways_of) (by decide +kernel)) (fun _ _ _ _ _ => (dp_tup (by rfl) (dps_cons (dp_name (i := 2) sc_ways_of.nd (by rfl) (by first | exact Or.inl rfl | exact Or.inr rfl)) (dps_cons (dp_name (i := 3) sc_ways_of.nd (by rfl) (by first | exact Or.inl rfl | exact Or.inr rfl)) dps_nil)))) (fun _ _ _ _ _ => dts_nil) (fun _ _ _ _ _ => (de_tup (da_cons (de_op od_add (de_lst (da_cons de_int da_nil)) (de_var 2)) (da_cons (de_var 3) da_nil))))))))))))
/-! ### shown_kind -/
abbrev s_shown_kind : Stmt := topS 19
abbrev N_shown_kind : List Str := ["kind", "sign"]
abbrev P_shown_kind : List Str := ["kind"]
theorem sc_shown_kind : FnScope N_shown_kind P_shown_kind (defScope s_shown_kind) := ⟨rfl, rfl, rfl, by decide +kernel, rfl, by decide +kernel, by decide +kernel⟩
def g_shown_kind (sp_shown_kind : DSp) (d_ONE : D) : GS :=
  (gSeq (gIf (fTest (fOp (rEqD false) (fVar 0) (fC d_ONE))) (gRet (fC (.str "1"))) gNext) (gSeq (gIf (fTest (fOp (rEqD false) (fOp rIxD (fVar 0) (fC (.int 0))) (fC (.str "mark")))) (gRet (fOp rIxD (fVar 0) (fC (.int 1)))) gNext) (gSeq (gSet (fC (.str "->")) 1) (gSeq (gIf (fTest (fOp (rEqD false) (fOp rIxD (fVar 0) (fC (.int 0))) (fC (.str "both")))) (gSet (fC (.str "*")) 1) gNext) (gRet (fOp rAddD (fOp rAddD (fOp rAddD (fOp rAddD (fOp rAddD (fOp rAddD (fC (.str "( ")) (fCall sp_shown_kind (fCons (fOp rIxD (fVar 0) (fC (.int 1))) fNil))) (fC (.str " "))) (fVar 1)) (fC (.str " "))) (fCall sp_shown_kind (fCons (fOp rIxD (fVar 0) (fC (.int 2))) fNil))) (fC (.str " )"))))))))
theorem der_shown_kind {P : Program} {w : World} {K : PySem.W.Frag} {mg : Str → Option Value} {base : Heap} {k : Nat} {f : Addr} {sp_shown_kind : DSp} {d_ONE : D} {a_shown_kind : Addr} {fd_shown_kind : FuncData} (n_shown_kind : Fn K mg "shown_kind" s_shown_kind P_shown_kind a_shown_kind fd_shown_kind) (G_shown_kind : FnOk P w K mg base CX0 k a_shown_kind fd_shown_kind P_shown_kind (liftSp K sp_shown_kind)) (c_ONE : Cst K mg "ONE" d_ONE)
    (cdv : Value) (A : Around) (outer : List Env) (s : Shared) (H : Hp) (E : XK) (hr : Room k (A.deeper (envOfC "shown_kind" (defScope s_shown_kind) s.heap.objs.size f cdv))) :
    DSs MT (cxOf CX0 P w K mg base N_shown_kind "shown_kind" (defScope s_shown_kind) f cdv A outer s H E).nox (defBody s_shown_kind) (g_shown_kind sp_shown_kind d_ONE) :=
  (dss_cons (ds_if (dt_cmp (od_eq hr.u200) (de_var 0) (de_cst c_ONE (by rfl)) (nomark _)) (dss_one (ds_ret de_str)) dss_nil) (dss_cons (ds_if (dt_cmp (od_eq hr.u200) (de_ix (de_var 0) de_int) de_str (nomark _)) (dss_one (ds_ret (de_ix (de_var 0) de_int))) dss_nil) (dss_cons (ds_set (i := 1) sc_shown_kind.nd rfl (by first | exact Or.inl rfl | exact Or.inr rfl) de_str) (dss_cons (ds_if (dt_cmp (od_eq hr.u200) (de_ix (de_var 0) de_int) de_str (nomark _)) (dss_one (ds_set (i := 1) sc_shown_kind.nd rfl (by first | exact Or.inl rfl | exact Or.inr rfl) de_str)) dss_nil) (dss_one (ds_ret (de_op od_add (de_op od_add (de_op od_add (de_op od_add (de_op od_add (de_op od_add de_str (de_callN n_shown_kind G_shown_kind hr (by rfl) (da_cons (de_ix (de_var 0) de_int) da_nil))) de_str) (de_var 1)) de_str) (de_callN n_shown_kind G_shown_kind hr (by rfl) (da_cons (de_ix (de_var 0) de_int) da_nil))) de_str)))))))
/-! ### word_at -/
abbrev s_word_at : Stmt := topS 20
abbrev N_word_at : List Str := ["words", "at"]
abbrev P_word_at : List Str := ["words", "at"]
theorem sc_word_at : FnScope N_word_at P_word_at (defScope s_word_at) := ⟨rfl, rfl, rfl, by decide +kernel, rfl, by decide +kernel, by decide +kernel⟩
def g_word_at : GS :=
  (gSeq (gIf (fTest (fOp rLtD (fVar 1) (fCB rLenD (fCons (fVar 0) fNil)))) (gRet (fOp rIxD (fVar 0) (fVar 1))) gNext) (gRet (fC (.str ""))))
theorem der_word_at {P : Program} {w : World} {K : PySem.W.Frag} {mg : Str → Option Value} {base : Heap} {k : Nat} {f : Addr} (m_len : mg "len" = none)
    (cdv : Value) (A : Around) (outer : List Env) (s : Shared) (H : Hp) (E : XK) (hr : Room k (A.deeper (envOfC "word_at" (defScope s_word_at) s.heap.objs.size f cdv))) :
    DSs MT (cxOf CX0 P w K mg base N_word_at "word_at" (defScope s_word_at) f cdv A outer s H E).nox (defBody s_word_at) (g_word_at) :=
  (dss_cons (ds_if (dt_cmp od_lt (de_var 1) (de_callB cd_len (by rfl) m_len bb_len (da_cons (de_var 0) da_nil)) (nomark _)) (dss_one (ds_ret (de_ix (de_var 0) (de_var 1)))) dss_nil) (dss_one (ds_ret de_str)))
/-! ### kind_from -/
abbrev s_kind_from : Stmt := topS 21
abbrev N_kind_from : List Str := ["words", "at", "room", "word", "one", "sign", "other"]
abbrev P_kind_from : List Str := ["words", "at", "room"]
theorem sc_kind_from : FnScope N_kind_from P_kind_from (defScope s_kind_from) := ⟨rfl, rfl, rfl, by decide +kernel, rfl, by decide +kernel, by decide +kernel⟩
def g_kind_from (sp_word_at sp_is_mark sp_kind_from : DSp) (d_ONE : D) : GS :=
  (gSeq (gSet (fCall sp_word_at (fCons (fVar 0) (fCons (fVar 1) fNil))) 3) (gSeq (gIf (fTest (fOp (rEqD false) (fVar 3) (fC (.str "1")))) (gRet (fTup (fCons (fC d_ONE) (fCons (fOp rAddD (fVar 1) (fC (.int 1))) fNil)))) gNext) (gSeq (gIf (fTest (fCall sp_is_mark (fCons (fVar 3) fNil))) (gRet (fTup (fCons (fTup (fCons (fC (.str "mark")) (fCons (fVar 3) fNil))) (fCons (fOp rAddD (fVar 1) (fC (.int 1))) fNil)))) gNext) (gSeq (gIf (fOr (fTest (fOp (rEqD true) (fVar 3) (fC (.str "(")))) (fTest (fOp (rEqD false) (fVar 2) (fC (.int 0))))) (gRet (fTup (fCons (fC .non) (fCons (fVar 1) fNil)))) gNext) (gSeq (gAsg (fCall sp_kind_from (fCons (fVar 0) (fCons (fOp rAddD (fVar 1) (fC (.int 1))) (fCons (fOp rSubD (fVar 2) (fC (.int 1))) fNil)))) (.tp [(.nm 4), (.nm 1)])) (gSeq (gSet (fKGet tab_SIGNS (fCall sp_word_at (fCons (fVar 0) (fCons (fVar 1) fNil)))) 5) (gSeq (gIf (fOr (fTest (fOp (rIsN false) (fVar 4) (fC .non))) (fTest (fOp (rIsN false) (fVar 5) (fC .non)))) (gRet (fTup (fCons (fC .non) (fCons (fVar 1) fNil)))) gNext) (gSeq (gAsg (fCall sp_kind_from (fCons (fVar 0) (fCons (fOp rAddD (fVar 1) (fC (.int 1))) (fCons (fOp rSubD (fVar 2) (fC (.int 1))) fNil)))) (.tp [(.nm 6), (.nm 1)])) (gSeq (gIf (fOr (fTest (fOp (rIsN false) (fVar 6) (fC .non))) (fTest (fOp (rEqD true) (fCall sp_word_at (fCons (fVar 0) (fCons (fVar 1) fNil))) (fC (.str ")"))))) (gRet (fTup (fCons (fC .non) (fCons (fVar 1) fNil)))) gNext) (gRet (fTup (fCons (fTup (fCons (fVar 5) (fCons (fVar 4) (fCons (fVar 6) fNil)))) (fCons (fOp rAddD (fVar 1) (fC (.int 1))) fNil)))))))))))))
theorem der_kind_from {P : Program} {w : World} {K : PySem.W.Frag} {mg : Str → Option Value} {base : Heap} {k : Nat} {f : Addr} {sp_word_at sp_is_mark sp_kind_from : DSp} {d_ONE : D} {a_word_at : Addr} {fd_word_at : FuncData} (n_word_at : Fn K mg "word_at" s_word_at P_word_at a_word_at fd_word_at) (G_word_at : FnOk P w K mg base CX0 k a_word_at fd_word_at P_word_at (liftSp K sp_word_at)) {a_is_mark : Addr} {fd_is_mark : FuncData} (n_is_mark : Fn K mg "is_mark" s_is_mark P_is_mark a_is_mark fd_is_mark) (G_is_mark : FnOk P w K mg base CX0 k a_is_mark fd_is_mark P_is_mark (liftSp K sp_is_mark)) {a_kind_from : Addr} {fd_kind_from : FuncData} (n_kind_from : Fn K mg "kind_from" s_kind_from P_kind_from a_kind_from fd_kind_from) (G_kind_from : FnOk P w K mg base CX0 k a_kind_from fd_kind_from P_kind_from (liftSp K sp_kind_from)) (c_ONE : Cst K mg "ONE" d_ONE) (t_SIGNS : CDic K w mg "SIGNS" tab_SIGNS)
    (cdv : Value) (A : Around) (outer : List Env) (s : Shared) (H : Hp) (E : XK) (hr : Room k (A.deeper (envOfC "kind_from" (defScope s_kind_from) s.heap.objs.size f cdv))) :
    DSs MT (cxOf CX0 P w K mg base N_kind_from "kind_from" (defScope s_kind_from) f cdv A outer s H E).nox (defBody s_kind_from) (g_kind_from sp_word_at sp_is_mark sp_kind_from d_ONE) :=
  (dss_cons (ds_set (i := 3) sc_kind_from.nd rfl (by first | exact Or.inl rfl | exact Or.inr rfl) (de_callN n_word_at G_word_at hr (by rfl) (da_cons (de_var 0) (da_cons (de_var 1) da_nil)))) (dss_cons (ds_if (dt_cmp (od_eq hr.u200) (de_var 3) de_str (nomark _)) (dss_one (ds_ret (de_tup (da_cons (de_cst c_ONE (by rfl)) (da_cons (de_op od_add (de_var 1) de_int) da_nil))))) dss_nil) (dss_cons (ds_if (dt_val (de_callN n_is_mark G_is_mark hr (by rfl) (da_cons (de_var 3) da_nil))) (dss_one (ds_ret (de_tup (da_cons (de_tup (da_cons de_str (da_cons (de_var 3) da_nil))) (da_cons (de_op od_add (de_var 1) de_int) da_nil))))) dss_nil) (dss_cons (ds_if (dt_of (dw_or (dt_cmp (od_ne hr.u200) (de_var 3) de_str (nomark _)) (dw_or1 (dt_cmp (od_eq hr.u200) (de_var 2) de_int (nomark _))))) (dss_one (ds_ret (de_tup (da_cons de_non (da_cons (de_var 1) da_nil))))) dss_nil) (dss_cons (ds_asg (de_callN n_kind_from G_kind_from hr (by rfl) (da_cons (de_var 0) (da_cons (de_op od_add (de_var 1) de_int) (da_cons (de_op od_sub (de_var 2) de_int) da_nil)))) (dp_tup (by rfl) (dps_cons (dp_name (i := 4) sc_kind_from.nd (by rfl) (by first | exact Or.inl rfl | exact Or.inr rfl)) (dps_cons (dp_name (i := 1) sc_kind_from.nd (by rfl) (by first | exact Or.inl rfl | exact Or.inr rfl)) dps_nil)))) (dss_cons (ds_set (i := 5) sc_kind_from.nd rfl (by first | exact Or.inl rfl | exact Or.inr rfl) (de_kget t_SIGNS (by rfl) (de_callN n_word_at G_word_at hr (by rfl) (da_cons (de_var 0) (da_cons (de_var 1) da_nil))))) (dss_cons (ds_if (dt_of (dw_or (dt_cmp od_is (de_var 4) de_non (nomark _)) (dw_or1 (dt_cmp od_is (de_var 5) de_non (nomark _))))) (dss_one (ds_ret (de_tup (da_cons de_non (da_cons (de_var 1) da_nil))))) dss_nil) (dss_cons (ds_asg (de_callN n_kind_from G_kind_from hr (by rfl) (da_cons (de_var 0) (da_cons (de_op od_add (de_var 1) de_int) (da_cons (de_op od_sub (de_var 2) de_int) da_nil)))) (dp_tup (by rfl) (dps_cons (dp_name (i := 6) sc_kind_from.nd (by rfl) (by first | exact Or.inl rfl | exact Or.inr rfl)) (dps_cons (dp_name (i := 1) sc_kind_from.nd (by rfl) (by first | exact Or.inl rfl | exact Or.inr rfl)) dps_nil)))) (dss_cons (ds_if (dt_of (dw_or (dt_cmp od_is (de_var 6) de_non (nomark _)) (dw_or1 (dt_cmp (od_ne hr.u200) (de_callN n_word_at G_word_at hr (by rfl) (da_cons (de_var 0) (da_cons (de_var 1) da_nil))) de_str (nomark _))))) (dss_one (ds_ret (de_tup (da_cons de_non (da_cons (de_var 1) da_nil))))) dss_nil) (dss_one (ds_ret (de_tup (da_cons (de_tup (da_cons (de_var 5) (da_cons (de_var 4) (da_cons (de_var 6) da_nil)))) (da_cons (de_op od_add (de_var 1) de_int) da_nil))))))))))))))
/-! ### read_kind -/
abbrev s_read_kind : Stmt := topS 22
abbrev N_read_kind : List Str := ["text", "words", "kind", "at"]
abbrev P_read_kind : List Str := ["text"]
theorem sc_read_kind : FnScope N_read_kind P_read_kind (defScope s_read_kind) := ⟨rfl, rfl, rfl, by decide +kernel, rfl, by decide +kernel, by decide +kernel⟩
def g_read_kind (sp_kind_from sp_is_kind : DSp) (d_DEEPEST : D) (C_NoKind : Addr) (RX : XW) : GS :=
  (gSeq (gSet (fBM "str" rSplitD (fVar 0) (fCons (fC (.str " ")) fNil)) 1) (gSeq (gAsg (fCall sp_kind_from (fCons (fVar 1) (fCons (fC (.int 0)) (fCons (fC d_DEEPEST) fNil)))) (.tp [(.nm 2), (.nm 3)])) (gSeq (gIf (fOr (fTest (fOp (rIsN false) (fVar 2) (fC .non))) (fOr (fTest (fOp rLtD (fVar 3) (fCB rLenD (fCons (fVar 1) fNil)))) (fNot (fTest (fCall sp_is_kind (fCons (fVar 2) fNil)))))) (gRaise RX (.ref C_NoKind)) gNext) (gRet (fVar 2)))))
theorem der_read_kind {P : Program} {w : World} {K : PySem.W.Frag} {mg : Str → Option Value} {base : Heap} {k : Nat} {f : Addr} {sp_kind_from sp_is_kind : DSp} {d_DEEPEST : D} {C_NoKind : Addr} {a_kind_from : Addr} {fd_kind_from : FuncData} (n_kind_from : Fn K mg "kind_from" s_kind_from P_kind_from a_kind_from fd_kind_from) (G_kind_from : FnOk P w K mg base CX0 k a_kind_from fd_kind_from P_kind_from (liftSp K sp_kind_from)) {a_is_kind : Addr} {fd_is_kind : FuncData} (n_is_kind : Fn K mg "is_kind" s_is_kind P_is_kind a_is_kind fd_is_kind) (G_is_kind : FnOk P w K mg base CX0 k a_is_kind fd_is_kind P_is_kind (liftSp K sp_is_kind)) (m_len : mg "len" = none) (c_DEEPEST : Cst K mg "DEEPEST" d_DEEPEST) (x_NoKind : ExN K mg "NoKind" C_NoKind)
    (RX : XW) (W : WX) (cdv : Value) (A : Around) (outer : List Env) (s : Shared) (H : Hp) (E : XK) (tk : Takes (cxOf (L2.CX P w) P w K mg base N_read_kind "read_kind" (defScope s_read_kind) f cdv A outer s H E) W) (hp : PassesOwn (model (cxOf (L2.CX P w) P w K mg base N_read_kind "read_kind" (defScope s_read_kind) f cdv A outer s H E).prog (cxOf (L2.CX P w) P w K mg base N_read_kind "read_kind" (defScope s_read_kind) f cdv A outer s H E).w) (cxOf (L2.CX P w) P w K mg base N_read_kind "read_kind" (defScope s_read_kind) f cdv A outer s H E).A (cxOf (L2.CX P w) P w K mg base N_read_kind "read_kind" (defScope s_read_kind) f cdv A outer s H E).env (cxOf (L2.CX P w) P w K mg base N_read_kind "read_kind" (defScope s_read_kind) f cdv A outer s H E).xe) (hr : Room k (A.deeper (envOfC "read_kind" (defScope s_read_kind) s.heap.objs.size f cdv))) :
    DSs (mxw K RX W) (cxOf (L2.CX P w) P w K mg base N_read_kind "read_kind" (defScope s_read_kind) f cdv A outer s H E) (defBody s_read_kind) (g_read_kind sp_kind_from sp_is_kind d_DEEPEST C_NoKind RX) :=
  (dss_cons (ds_set (i := 1) sc_read_kind.nd rfl (by first | exact Or.inl rfl | exact Or.inr rfl) (de_bm PySem.F.plainAttrs_str PySem.F.slot_str_split PySem.F.type_str_split md_split (de_var 0) (da_cons de_str da_nil))) (dss_cons (ds_asg (de_callN n_kind_from G_kind_from hr (by rfl) (da_cons (de_var 1) (da_cons de_int (da_cons (de_cst c_DEEPEST (by rfl)) da_nil)))) (dp_tup (by rfl) (dps_cons (dp_name (i := 2) sc_read_kind.nd (by rfl) (by first | exact Or.inl rfl | exact Or.inr rfl)) (dps_cons (dp_name (i := 3) sc_read_kind.nd (by rfl) (by first | exact Or.inl rfl | exact Or.inr rfl)) dps_nil)))) (dss_cons (ds_if (dt_of (dw_or (dt_cmp od_is (de_var 2) de_non (nomark _)) (dw_or (dt_cmp od_lt (de_var 3) (de_callB cd_len (by rfl) m_len bb_len (da_cons (de_var 1) da_nil)) (nomark _)) (dw_or1 (dt_not (dt_val (de_callN n_is_kind G_is_kind hr (by rfl) (da_cons (de_var 2) da_nil)))))))) (dss_one (ds_raise x_NoKind (by rfl) tk (by rfl))) dss_nil) (dss_one (ds_ret (de_var 2))))))
/-! ### move_ends -/
abbrev s_move_ends : Stmt := topS 24
abbrev N_move_ends : List Str := ["moves", "found", "move"]
abbrev P_move_ends : List Str := ["moves"]
theorem sc_move_ends : FnScope N_move_ends P_move_ends (defScope s_move_ends) := ⟨rfl, rfl, rfl, by decide +kernel, rfl, by decide +kernel, by decide +kernel⟩
def g_move_ends (sp_ends_of : DSp) : GS :=
  (gSeq (gSet (fLstO fNil) 1) (gSeq (gFor (fiList (fVar 0)) (.nm 2) (gIf (fAnd (fTest (fOp (rEqD true) (fVar 2) (fC (.int 1)))) (fTest (fOp (rEqD true) (fVar 2) (fC (.int 2))))) (gDrop (fBM "list" rExtendD (fVar 1) (fCons (fCall sp_ends_of (fCons (fVar 2) fNil)) fNil))) gNext)) (gRetF (fVar 1))))
theorem der_move_ends {P : Program} {w : World} {K : PySem.W.Frag} {mg : Str → Option Value} {base : Heap} {k : Nat} {f : Addr} {sp_ends_of : DSp} {a_ends_of : Addr} {fd_ends_of : FuncData} (n_ends_of : Fn K mg "ends_of" s_ends_of P_ends_of a_ends_of fd_ends_of) (G_ends_of : FnOk P w K mg base CX0 k a_ends_of fd_ends_of P_ends_of (liftSp K sp_ends_of))
    (cdv : Value) (A : Around) (outer : List Env) (s : Shared) (H : Hp) (E : XK) (hr : Room k (A.deeper (envOfC "move_ends" (defScope s_move_ends) s.heap.objs.size f cdv))) :
    DSs MT (cxOf CX0 P w K mg base N_move_ends "move_ends" (defScope s_move_ends) f cdv A outer s H E).nox (defBody s_move_ends) (g_move_ends sp_ends_of) :=
  (dss_cons (ds_set (i := 1) sc_move_ends.nd rfl (by first | exact Or.inl rfl | exact Or.inr rfl) (de_lstO da_nil)) (dss_cons (ds_for PassesOwn.never rfl (di_list (de_var 0)) (dp_name (i := 2) sc_move_ends.nd (by rfl) (by first | exact Or.inl rfl | exact Or.inr rfl)) (dss_one (ds_if (dt_of (dw_and (dt_cmp (od_ne hr.u200) (de_var 2) de_int (nomark _)) (dw_and1 (dt_cmp (od_ne hr.u200) (de_var 2) de_int (nomark _))))) (dss_one (ds_expr (de_bm PySem.F.plainAttrs_list PySem.F.slot_list_extend PySem.F.type_list_extend md_extend (de_var 1) (da_cons (de_callN n_ends_of G_ends_of hr (by rfl) (da_cons (de_var 2) da_nil)) da_nil)))) dss_nil))) (dss_one (ds_retF (de_var 1)))))
/-! ### __init__ -/
abbrev s_Counter___init__ : Stmt := inClass (topS 26) 0
abbrev N_Counter___init__ : List Str := ["self"]
abbrev P_Counter___init__ : List Str := ["self"]
theorem sc_Counter___init__ : FnScope N_Counter___init__ P_Counter___init__ (defScope s_Counter___init__) := ⟨rfl, rfl, rfl, by decide +kernel, rfl, by decide +kernel, by decide +kernel⟩
def g_Counter___init__ (C_Counter : Addr) : GS :=
  (gSeq (gFld C_Counter "ways" (fVar 0) fDicO) (gFld C_Counter "sums" (fVar 0) fDicO))
theorem der_Counter___init__ {P : Program} {w : World} {K : PySem.W.Frag} {mg : Str → Option Value} {base : Heap} {k : Nat} {f : Addr} {C_Counter : Addr} (cl_Counter : Cls K C_Counter) (na_Counter_ways : NoAttr K C_Counter "ways") (na_Counter_sums : NoAttr K C_Counter "sums")
    (cdv : Value) (A : Around) (outer : List Env) (s : Shared) (H : Hp) (E : XK) (hr : Room k (A.deeper (envOfC "Counter.__init__" (defScope s_Counter___init__) s.heap.objs.size f cdv))) :
    DSs MT (cxOf CX0 P w K mg base N_Counter___init__ "Counter.__init__" (defScope s_Counter___init__) f cdv A outer s H E).nox (defBody s_Counter___init__) (g_Counter___init__ C_Counter) :=
  (dss_cons (ds_fld cl_Counter na_Counter_ways (de_var 0) de_dicO) (dss_one (ds_fld cl_Counter na_Counter_sums (de_var 0) de_dicO)))
/-! ### ways_by -/
abbrev s_Counter_ways_by : Stmt := inClass (topS 26) 1
abbrev N_Counter_ways_by : List Str := ["self", "text"]
abbrev P_Counter_ways_by : List Str := ["self", "text"]
theorem sc_Counter_ways_by : FnScope N_Counter_ways_by P_Counter_ways_by (defScope s_Counter_ways_by) := ⟨rfl, rfl, rfl, by decide +kernel, rfl, by decide +kernel, by decide +kernel⟩
def g_Counter_ways_by (sp_ways_of sp_read_kind : DSp) (C_Counter : Addr) : GS :=
  (gSeq (gIf (fTest (fOp (rDIn true) (fVar 1) (fFld C_Counter "ways" (fVar 0)))) (gDPut (fFld C_Counter "ways" (fVar 0)) (fVar 1) (fCall sp_ways_of (fCons (fCallX sp_read_kind RX0 (fCons (fVar 1) fNil)) fNil))) gNext) (gRet (fDGet (fFld C_Counter "ways" (fVar 0)) (fVar 1))))
theorem der_Counter_ways_by {P : Program} {w : World} {K : PySem.W.Frag} {mg : Str → Option Value} {base : Heap} {k : Nat} {f : Addr} {sp_ways_of sp_read_kind : DSp} {C_Counter : Addr} {a_ways_of : Addr} {fd_ways_of : FuncData} (n_ways_of : Fn K mg "ways_of" s_ways_of P_ways_of a_ways_of fd_ways_of) (G_ways_of : FnOk P w K mg base CX0 k a_ways_of fd_ways_of P_ways_of (liftSp K sp_ways_of)) {a_read_kind : Addr} {fd_read_kind : FuncData} (n_read_kind : Fn K mg "read_kind" s_read_kind P_read_kind a_read_kind fd_read_kind) (G_read_kind : FnOk P w K mg base (L2.CX P w) k a_read_kind fd_read_kind P_read_kind (liftSp K sp_read_kind)) (cl_Counter : Cls K C_Counter) (na_Counter_ways : NoAttr K C_Counter "ways")
    (cdv : Value) (A : Around) (outer : List Env) (s : Shared) (H : Hp) (E : XK) (hr : Room k (A.deeper (envOfC "Counter.ways_by" (defScope s_Counter_ways_by) s.heap.objs.size f cdv))) :
    DSs MT (cxOf CX0 P w K mg base N_Counter_ways_by "Counter.ways_by" (defScope s_Counter_ways_by) f cdv A outer s H E).nox (defBody s_Counter_ways_by) (g_Counter_ways_by sp_ways_of sp_read_kind C_Counter) :=
  (dss_cons (ds_if (dt_cmp (od_dnotin hr.u200) (de_var 1) (de_fld cl_Counter na_Counter_ways (de_var 0)) (by rfl)) (dss_one (ds_dput hr.u200 (de_fld cl_Counter na_Counter_ways (de_var 0)) (de_var 1) (de_callN n_ways_of G_ways_of hr (by rfl) (da_cons (de_callX0 n_read_kind G_read_kind hr (by rfl) (da_cons (de_var 1) da_nil)) da_nil)))) dss_nil) (dss_one (ds_ret (de_dget hr.u200 (de_fld cl_Counter na_Counter_ways (de_var 0)) (de_var 1)))))
/-! ### put_in -/
abbrev s_Counter_put_in : Stmt := inClass (topS 26) 2
abbrev N_Counter_put_in : List Str := ["self", "texts", "kinds", "kind"]
abbrev P_Counter_put_in : List Str := ["self", "texts", "kinds"]
theorem sc_Counter_put_in : FnScope N_Counter_put_in P_Counter_put_in (defScope s_Counter_put_in) := ⟨rfl, rfl, rfl, by decide +kernel, rfl, by decide +kernel, by decide +kernel⟩
def g_Counter_put_in (sp_shown_kind : DSp) : GS :=
  (gRet (fCB rSortD (fCons (fOp rAddD (fVar 1) (fLc (fiList (fVar 2)) (.nm 3) fYes (fCall sp_shown_kind (fCons (fVar 3) fNil)) [3])) fNil)))
theorem der_Counter_put_in {P : Program} {w : World} {K : PySem.W.Frag} {mg : Str → Option Value} {base : Heap} {k : Nat} {f : Addr} {sp_shown_kind : DSp} {a_shown_kind : Addr} {fd_shown_kind : FuncData} (n_shown_kind : Fn K mg "shown_kind" s_shown_kind P_shown_kind a_shown_kind fd_shown_kind) (G_shown_kind : FnOk P w K mg base CX0 k a_shown_kind fd_shown_kind P_shown_kind (liftSp K sp_shown_kind)) (m_sorted : mg "sorted" = none)
    (cdv : Value) (A : Around) (outer : List Env) (s : Shared) (H : Hp) (E : XK) (hr : Room k (A.deeper (envOfC "Counter.put_in" (defScope s_Counter_put_in) s.heap.objs.size f cdv))) :
    DSs MT (cxOf CX0 P w K mg base N_Counter_put_in "Counter.put_in" (defScope s_Counter_put_in) f cdv A outer s H E).nox (defBody s_Counter_put_in) (g_Counter_put_in sp_shown_kind) :=
  (dss_one (ds_ret (de_callB cd_sorted (by rfl) m_sorted bb_sorted (da_cons (de_op od_add (de_var 1) (de_lc (by rfl) sc_Counter_put_in.nd (di_list (de_var 2)) (blkOk_by (own := [("kind", 3)]) (N := N_Counter_put_in) (sc := defScope s_Counter_put_in) (by decide +kernel)) (fun _ _ _ _ _ => (dp_name (i := 3) sc_Counter_put_in.nd (by rfl) (by first | exact Or.inl rfl | exact Or.inr rfl))) (fun _ _ _ _ _ => dts_nil) (fun _ _ _ _ _ => (de_callN n_shown_kind G_shown_kind hr (by rfl) (da_cons (de_var 3) da_nil))))) da_nil))))
/-! ### tasks -/
abbrev s_Counter_tasks : Stmt := inClass (topS 26) 3
abbrev N_Counter_tasks : List Str := ["self", "texts", "ends", "taken", "mark"]
abbrev P_Counter_tasks : List Str := ["self", "texts", "ends"]
theorem sc_Counter_tasks : FnScope N_Counter_tasks P_Counter_tasks (defScope s_Counter_tasks) := ⟨rfl, rfl, rfl, by decide +kernel, rfl, by decide +kernel, by decide +kernel⟩
def g_Counter_tasks (sp_Counter_put_in : DSp) (C_Counter : Addr) : GS :=
  (gRet (fLc (fiList (fVar 2)) (.tp [(.nm 3), (.nm 4)]) fYes (fTup (fCons (fMeth C_Counter "put_in" sp_Counter_put_in (fVar 0) (fCons (fVar 1) (fCons (fVar 3) fNil))) (fCons (fVar 4) fNil))) [3, 4]))
theorem der_Counter_tasks {P : Program} {w : World} {K : PySem.W.Frag} {mg : Str → Option Value} {base : Heap} {k : Nat} {f : Addr} {sp_Counter_put_in : DSp} {C_Counter : Addr} {a_Counter_put_in : Addr} {fd_Counter_put_in : FuncData} (n_Counter_put_in : Mt K C_Counter "put_in" "Counter.put_in" s_Counter_put_in P_Counter_put_in a_Counter_put_in fd_Counter_put_in) (G_Counter_put_in : FnOk P w K mg base CX0 k a_Counter_put_in fd_Counter_put_in P_Counter_put_in (liftSp K sp_Counter_put_in)) (cl_Counter : Cls K C_Counter)
    (cdv : Value) (A : Around) (outer : List Env) (s : Shared) (H : Hp) (E : XK) (hr : Room k (A.deeper (envOfC "Counter.tasks" (defScope s_Counter_tasks) s.heap.objs.size f cdv))) :
    DSs MT (cxOf CX0 P w K mg base N_Counter_tasks "Counter.tasks" (defScope s_Counter_tasks) f cdv A outer s H E).nox (defBody s_Counter_tasks) (g_Counter_tasks sp_Counter_put_in C_Counter) :=
  (dss_one (ds_ret (de_lc (by rfl) sc_Counter_tasks.nd (di_list (de_var 2)) (blkOk_by (own := [("taken", 3), ("mark", 4)]) (N := N_Counter_tasks) (sc := defScope s_Counter_tasks) (by decide +kernel)) (fun _ _ _ _ _ => (dp_tup (by rfl) (dps_cons (dp_name (i := 3) sc_Counter_tasks.nd (by rfl) (by first | exact Or.inl rfl | exact Or.inr rfl)) (dps_cons (dp_name (i := 4) sc_Counter_tasks.nd (by rfl) (by first | exact Or.inl rfl | exact Or.inr rfl)) dps_nil)))) (fun _ _ _ _ _ => dts_nil) (fun _ _ _ _ _ => (de_tup (da_cons (de_meth cl_Counter n_Counter_put_in G_Counter_put_in hr (de_var 0) (da_cons (de_var 1) (da_cons (de_var 3) da_nil))) (da_cons (de_var 4) da_nil)))))))
/-! ### many -/
abbrev s_Counter_many : Stmt := inClass (topS 26) 4
abbrev N_Counter_many : List Str := ["self", "tasks", "size", "found", "one", "here"]
abbrev P_Counter_many : List Str := ["self", "tasks", "size"]
theorem sc_Counter_many : FnScope N_Counter_many P_Counter_many (defScope s_Counter_many) := ⟨rfl, rfl, rfl, by decide +kernel, rfl, by decide +kernel, by decide +kernel⟩
def g_Counter_many (sp_Counter_many_of sp_Counter_many : DSp) (C_Counter : Addr) : GS :=
  (gSeq (gIf (fTest (fOp (rEqD false) (fVar 1) (fLst fNil))) (gRet (fCB rInt1 (fCons (fOp (rEqD false) (fVar 2) (fC (.int 0))) fNil))) gNext) (gSeq (gSet (fC (.int 0)) 3) (gSeq (gFor (fiRng2 (fCons (fC (.int 1)) (fCons (fOp rAddD (fOp rSubD (fVar 2) (fCB rLenD (fCons (fVar 1) fNil))) (fC (.int 2))) fNil))) (.nm 4) (gSeq (gSet (fMeth C_Counter "many_of" sp_Counter_many_of (fVar 0) (fCons (fOp rIxD (fVar 1) (fC (.int 0))) (fCons (fVar 4) fNil))) 5) (gIf (fTest (fOp rGtD (fVar 5) (fC (.int 0)))) (gSet (fOp rAddD (fVar 3) (fOp rMulW (fVar 5) (fMeth C_Counter "many" sp_Counter_many (fVar 0) (fCons (fSl rSlD (fVar 1) (fPart (fC (.int 1))) fNoPart) (fCons (fOp rSubD (fVar 2) (fVar 4)) fNil))))) 3) gNext))) (gRet (fVar 3)))))
theorem der_Counter_many {P : Program} {w : World} {K : PySem.W.Frag} {mg : Str → Option Value} {base : Heap} {k : Nat} {f : Addr} {sp_Counter_many_of sp_Counter_many : DSp} {C_Counter : Addr} {a_Counter_many_of : Addr} {fd_Counter_many_of : FuncData} (n_Counter_many_of : Mt K C_Counter "many_of" "Counter.many_of" s_Counter_many_of P_Counter_many_of a_Counter_many_of fd_Counter_many_of) (G_Counter_many_of : FnOk P w K mg base CX0 k a_Counter_many_of fd_Counter_many_of P_Counter_many_of (liftSp K sp_Counter_many_of)) {a_Counter_many : Addr} {fd_Counter_many : FuncData} (n_Counter_many : Mt K C_Counter "many" "Counter.many" s_Counter_many P_Counter_many a_Counter_many fd_Counter_many) (G_Counter_many : FnOk P w K mg base CX0 k a_Counter_many fd_Counter_many P_Counter_many (liftSp K sp_Counter_many)) (m_int : mg "int" = none) (m_range : mg "range" = none) (m_len : mg "len" = none) (cl_Counter : Cls K C_Counter)
    (cdv : Value) (A : Around) (outer : List Env) (s : Shared) (H : Hp) (E : XK) (hr : Room k (A.deeper (envOfC "Counter.many" (defScope s_Counter_many) s.heap.objs.size f cdv))) :
    DSs MT (cxOf CX0 P w K mg base N_Counter_many "Counter.many" (defScope s_Counter_many) f cdv A outer s H E).nox (defBody s_Counter_many) (g_Counter_many sp_Counter_many_of sp_Counter_many C_Counter) :=
  (dss_cons (ds_if (dt_cmp (od_eq hr.u200) (de_var 1) (de_lst da_nil) (nomark _)) (dss_one (ds_ret (de_callTy cd_int1 (by rfl) m_int bb_int (da_cons (de_cmp (od_eq hr.u200) (de_var 2) de_int (nomark _)) da_nil)))) dss_nil) (dss_cons (ds_set (i := 3) sc_Counter_many.nd rfl (by first | exact Or.inl rfl | exact Or.inr rfl) de_int) (dss_cons (ds_for PassesOwn.never rfl (di_range2 (by rfl) m_range (da_cons de_int (da_cons (de_op od_add (de_op od_sub (de_var 2) (de_callB cd_len (by rfl) m_len bb_len (da_cons (de_var 1) da_nil))) de_int) da_nil))) (dp_name (i := 4) sc_Counter_many.nd (by rfl) (by first | exact Or.inl rfl | exact Or.inr rfl)) (dss_cons (ds_set (i := 5) sc_Counter_many.nd rfl (by first | exact Or.inl rfl | exact Or.inr rfl) (de_meth cl_Counter n_Counter_many_of G_Counter_many_of hr (de_var 0) (da_cons (de_ix (de_var 1) de_int) (da_cons (de_var 4) da_nil)))) (dss_one (ds_if (dt_cmp od_gt (de_var 5) de_int (nomark _)) (dss_one (ds_set (i := 3) sc_Counter_many.nd rfl (by first | exact Or.inl rfl | exact Or.inr rfl) (de_op od_add (de_var 3) (de_op od_mulWd (de_var 5) (de_meth cl_Counter n_Counter_many G_Counter_many hr (de_var 0) (da_cons (de_slice (de_var 1) (do_some de_int) do_none) (da_cons (de_op od_sub (de_var 2) (de_var 4)) da_nil))))))) dss_nil)))) (dss_one (ds_ret (de_var 3))))))
/-! ### many_of -/
abbrev s_Counter_many_of : Stmt := inClass (topS 26) 5
abbrev N_Counter_many_of : List Str := ["self", "task", "size", "texts", "mark", "key", "found", "text", "moves", "comes_to"]
abbrev P_Counter_many_of : List Str := ["self", "task", "size"]
theorem sc_Counter_many_of : FnScope N_Counter_many_of P_Counter_many_of (defScope s_Counter_many_of) := ⟨rfl, rfl, rfl, by decide +kernel, rfl, by decide +kernel, by decide +kernel⟩
def g_Counter_many_of (sp_Counter_ways_by sp_Counter_many sp_Counter_tasks sp_move_ends : DSp) (C_Counter : Addr) : GS :=
  (gSeq (gAsg (fVar 1) (.tp [(.nm 3), (.nm 4)])) (gSeq (gSet (fOp rAddD (fOp rAddD (fOp rAddD (fOp rAddD (fBM "str" rJoinD (fC (.str " ; ")) (fCons (fVar 3) fNil)) (fC (.str " : "))) (fVar 4)) (fC (.str " "))) (fCB rStr1 (fCons (fVar 2) fNil))) 5) (gSeq (gIf (fTest (fOp (rDIn true) (fVar 5) (fFld C_Counter "sums" (fVar 0)))) (gSeq (gSet (fC (.int 0)) 6) (gSeq (gFor (fiList (fVar 3)) (.nm 7) (gFor (fiList (fMeth C_Counter "ways_by" sp_Counter_ways_by (fVar 0) (fCons (fVar 7) fNil))) (.tp [(.nm 8), (.nm 9)]) (gIf (fTest (fOp (rEqD false) (fVar 9) (fVar 4))) (gSet (fOp rAddD (fVar 6) (fMeth C_Counter "many" sp_Counter_many (fVar 0) (fCons (fMeth C_Counter "tasks" sp_Counter_tasks (fVar 0) (fCons (fVar 3) (fCons (fCall sp_move_ends (fCons (fVar 8) fNil)) fNil))) (fCons (fOp rSubD (fVar 2) (fC (.int 1))) fNil)))) 6) gNext))) (gDPut (fFld C_Counter "sums" (fVar 0)) (fVar 5) (fVar 6)))) gNext) (gRet (fDGet (fFld C_Counter "sums" (fVar 0)) (fVar 5))))))
theorem der_Counter_many_of {P : Program} {w : World} {K : PySem.W.Frag} {mg : Str → Option Value} {base : Heap} {k : Nat} {f : Addr} {sp_Counter_ways_by sp_Counter_many sp_Counter_tasks sp_move_ends : DSp} {C_Counter : Addr} {a_Counter_ways_by : Addr} {fd_Counter_ways_by : FuncData} (n_Counter_ways_by : Mt K C_Counter "ways_by" "Counter.ways_by" s_Counter_ways_by P_Counter_ways_by a_Counter_ways_by fd_Counter_ways_by) (G_Counter_ways_by : FnOk P w K mg base CX0 k a_Counter_ways_by fd_Counter_ways_by P_Counter_ways_by (liftSp K sp_Counter_ways_by)) {a_Counter_many : Addr} {fd_Counter_many : FuncData} (n_Counter_many : Mt K C_Counter "many" "Counter.many" s_Counter_many P_Counter_many a_Counter_many fd_Counter_many) (G_Counter_many : FnOk P w K mg base CX0 k a_Counter_many fd_Counter_many P_Counter_many (liftSp K sp_Counter_many)) {a_Counter_tasks : Addr} {fd_Counter_tasks : FuncData} (n_Counter_tasks : Mt K C_Counter "tasks" "Counter.tasks" s_Counter_tasks P_Counter_tasks a_Counter_tasks fd_Counter_tasks) (G_Counter_tasks : FnOk P w K mg base CX0 k a_Counter_tasks fd_Counter_tasks P_Counter_tasks (liftSp K sp_Counter_tasks)) {a_move_ends : Addr} {fd_move_ends : FuncData} (n_move_ends : Fn K mg "move_ends" s_move_ends P_move_ends a_move_ends fd_move_ends) (G_move_ends : FnOk P w K mg base CX0 k a_move_ends fd_move_ends P_move_ends (liftSp K sp_move_ends)) (m_str : mg "str" = none) (cl_Counter : Cls K C_Counter) (na_Counter_sums : NoAttr K C_Counter "sums")
    (cdv : Value) (A : Around) (outer : List Env) (s : Shared) (H : Hp) (E : XK) (hr : Room k (A.deeper (envOfC "Counter.many_of" (defScope s_Counter_many_of) s.heap.objs.size f cdv))) :
    DSs MT (cxOf CX0 P w K mg base N_Counter_many_of "Counter.many_of" (defScope s_Counter_many_of) f cdv A outer s H E).nox (defBody s_Counter_many_of) (g_Counter_many_of sp_Counter_ways_by sp_Counter_many sp_Counter_tasks sp_move_ends C_Counter) :=
  (dss_cons (ds_asg (de_var 1) (dp_tup (by rfl) (dps_cons (dp_name (i := 3) sc_Counter_many_of.nd (by rfl) (by first | exact Or.inl rfl | exact Or.inr rfl)) (dps_cons (dp_name (i := 4) sc_Counter_many_of.nd (by rfl) (by first | exact Or.inl rfl | exact Or.inr rfl)) dps_nil)))) (dss_cons (ds_set (i := 5) sc_Counter_many_of.nd rfl (by first | exact Or.inl rfl | exact Or.inr rfl) (de_op od_add (de_op od_add (de_op od_add (de_op od_add (de_bm PySem.F.plainAttrs_str PySem.F.slot_str_join PySem.F.type_str_join md_join de_str (da_cons (de_var 3) da_nil)) de_str) (de_var 4)) de_str) (de_callTy cd_str1 (by rfl) m_str bb_str (da_cons (de_var 2) da_nil)))) (dss_cons (ds_if (dt_cmp (od_dnotin hr.u200) (de_var 5) (de_fld cl_Counter na_Counter_sums (de_var 0)) (by rfl)) (dss_cons (ds_set (i := 6) sc_Counter_many_of.nd rfl (by first | exact Or.inl rfl | exact Or.inr rfl) de_int) (dss_cons (ds_for PassesOwn.never rfl (di_list (de_var 3)) (dp_name (i := 7) sc_Counter_many_of.nd (by rfl) (by first | exact Or.inl rfl | exact Or.inr rfl)) (dss_one (ds_for PassesOwn.never rfl (di_list (de_meth cl_Counter n_Counter_ways_by G_Counter_ways_by hr (de_var 0) (da_cons (de_var 7) da_nil))) (dp_tup (by rfl) (dps_cons (dp_name (i := 8) sc_Counter_many_of.nd (by rfl) (by first | exact Or.inl rfl | exact Or.inr rfl)) (dps_cons (dp_name (i := 9) sc_Counter_many_of.nd (by rfl) (by first | exact Or.inl rfl | exact Or.inr rfl)) dps_nil))) (dss_one (ds_if (dt_cmp (od_eq hr.u200) (de_var 9) (de_var 4) (nomark _)) (dss_one (ds_set (i := 6) sc_Counter_many_of.nd rfl (by first | exact Or.inl rfl | exact Or.inr rfl) (de_op od_add (de_var 6) (de_meth cl_Counter n_Counter_many G_Counter_many hr (de_var 0) (da_cons (de_meth cl_Counter n_Counter_tasks G_Counter_tasks hr (de_var 0) (da_cons (de_var 3) (da_cons (de_callN n_move_ends G_move_ends hr (by rfl) (da_cons (de_var 8) da_nil)) da_nil))) (da_cons (de_op od_sub (de_var 2) de_int) da_nil)))))) dss_nil))))) (dss_one (ds_dput hr.u200 (de_fld cl_Counter na_Counter_sums (de_var 0)) (de_var 5) (de_var 6))))) dss_nil) (dss_one (ds_ret (de_dget hr.u200 (de_fld cl_Counter na_Counter_sums (de_var 0)) (de_var 5)))))))
/-! ### begun -/
abbrev s_Counter_begun : Stmt := inClass (topS 26) 6
abbrev N_Counter_begun : List Str := ["self", "row", "kind", "name", "given"]
abbrev P_Counter_begun : List Str := ["self", "row", "kind"]
theorem sc_Counter_begun : FnScope N_Counter_begun P_Counter_begun (defScope s_Counter_begun) := ⟨rfl, rfl, rfl, by decide +kernel, rfl, by decide +kernel, by decide +kernel⟩
def g_Counter_begun (sp_Counter_tasks sp_shown_kind sp_ends_of : DSp) (C_Counter : Addr) : GS :=
  (gRet (fMeth C_Counter "tasks" sp_Counter_tasks (fVar 0) (fCons (fLc (fiList (fVar 1)) (.tp [(.nm 3), (.nm 4)]) fYes (fCall sp_shown_kind (fCons (fVar 4) fNil)) [3, 4]) (fCons (fCall sp_ends_of (fCons (fVar 2) fNil)) fNil))))
theorem der_Counter_begun {P : Program} {w : World} {K : PySem.W.Frag} {mg : Str → Option Value} {base : Heap} {k : Nat} {f : Addr} {sp_Counter_tasks sp_shown_kind sp_ends_of : DSp} {C_Counter : Addr} {a_Counter_tasks : Addr} {fd_Counter_tasks : FuncData} (n_Counter_tasks : Mt K C_Counter "tasks" "Counter.tasks" s_Counter_tasks P_Counter_tasks a_Counter_tasks fd_Counter_tasks) (G_Counter_tasks : FnOk P w K mg base CX0 k a_Counter_tasks fd_Counter_tasks P_Counter_tasks (liftSp K sp_Counter_tasks)) {a_shown_kind : Addr} {fd_shown_kind : FuncData} (n_shown_kind : Fn K mg "shown_kind" s_shown_kind P_shown_kind a_shown_kind fd_shown_kind) (G_shown_kind : FnOk P w K mg base CX0 k a_shown_kind fd_shown_kind P_shown_kind (liftSp K sp_shown_kind)) {a_ends_of : Addr} {fd_ends_of : FuncData} (n_ends_of : Fn K mg "ends_of" s_ends_of P_ends_of a_ends_of fd_ends_of) (G_ends_of : FnOk P w K mg base CX0 k a_ends_of fd_ends_of P_ends_of (liftSp K sp_ends_of)) (cl_Counter : Cls K C_Counter)
    (cdv : Value) (A : Around) (outer : List Env) (s : Shared) (H : Hp) (E : XK) (hr : Room k (A.deeper (envOfC "Counter.begun" (defScope s_Counter_begun) s.heap.objs.size f cdv))) :
    DSs MT (cxOf CX0 P w K mg base N_Counter_begun "Counter.begun" (defScope s_Counter_begun) f cdv A outer s H E).nox (defBody s_Counter_begun) (g_Counter_begun sp_Counter_tasks sp_shown_kind sp_ends_of C_Counter) :=
  (dss_one (ds_ret (de_meth cl_Counter n_Counter_tasks G_Counter_tasks hr (de_var 0) (da_cons (de_lc (by rfl) sc_Counter_begun.nd (di_list (de_var 1)) (blkOk_by (own := [("name", 3), ("given", 4)]) (N := N_Counter_begun) (sc := defScope s_Counter_begun) (by decide +kernel)) (fun _ _ _ _ _ => (dp_tup (by rfl) (dps_cons (dp_name (i := 3) sc_Counter_begun.nd (by rfl) (by first | exact Or.inl rfl | exact Or.inr rfl)) (dps_cons (dp_name (i := 4) sc_Counter_begun.nd (by rfl) (by first | exact Or.inl rfl | exact Or.inr rfl)) dps_nil)))) (fun _ _ _ _ _ => dts_nil) (fun _ _ _ _ _ => (de_callN n_shown_kind G_shown_kind hr (by rfl) (da_cons (de_var 4) da_nil)))) (da_cons (de_callN n_ends_of G_ends_of hr (by rfl) (da_cons (de_var 2) da_nil)) da_nil)))))
/-! ### counts_of -/
abbrev s_counts_of : Stmt := topS 27
abbrev N_counts_of : List Str := ["row", "kind", "most", "counter", "tasks", "size"]
abbrev P_counts_of : List Str := ["row", "kind", "most"]
theorem sc_counts_of : FnScope N_counts_of P_counts_of (defScope s_counts_of) := ⟨rfl, rfl, rfl, by decide +kernel, rfl, by decide +kernel, by decide +kernel⟩
def g_counts_of (sp_Counter___init__ sp_Counter_begun sp_Counter_many : DSp) (C_Counter : Addr) : GS :=
  (gSeq (gSet (fMake C_Counter sp_Counter___init__ fNil) 3) (gSeq (gSet (fMeth C_Counter "begun" sp_Counter_begun (fVar 3) (fCons (fVar 0) (fCons (fVar 1) fNil))) 4) (gRet (fLcO (fiRng1 (fCons (fOp rAddD (fVar 2) (fC (.int 1))) fNil)) (.nm 5) fYes (fMeth C_Counter "many" sp_Counter_many (fVar 3) (fCons (fVar 4) (fCons (fVar 5) fNil))) [5]))))
theorem der_counts_of {P : Program} {w : World} {K : PySem.W.Frag} {mg : Str → Option Value} {base : Heap} {k : Nat} {f : Addr} {sp_Counter___init__ sp_Counter_begun sp_Counter_many : DSp} {C_Counter : Addr} {a_Counter___init__ : Addr} {fd_Counter___init__ : FuncData} (n_Counter___init__ : Mt K C_Counter "__init__" "Counter.__init__" s_Counter___init__ P_Counter___init__ a_Counter___init__ fd_Counter___init__) (G_Counter___init__ : FnOk P w K mg base CX0 (k - 1) a_Counter___init__ fd_Counter___init__ P_Counter___init__ (liftSp K sp_Counter___init__)) (hk_Counter___init__ : 1 ≤ k) {a_Counter_begun : Addr} {fd_Counter_begun : FuncData} (n_Counter_begun : Mt K C_Counter "begun" "Counter.begun" s_Counter_begun P_Counter_begun a_Counter_begun fd_Counter_begun) (G_Counter_begun : FnOk P w K mg base CX0 k a_Counter_begun fd_Counter_begun P_Counter_begun (liftSp K sp_Counter_begun)) {a_Counter_many : Addr} {fd_Counter_many : FuncData} (n_Counter_many : Mt K C_Counter "many" "Counter.many" s_Counter_many P_Counter_many a_Counter_many fd_Counter_many) (G_Counter_many : FnOk P w K mg base CX0 k a_Counter_many fd_Counter_many P_Counter_many (liftSp K sp_Counter_many)) (m_range : mg "range" = none) (cl_Counter : Cls K C_Counter) (mk_Counter : MkN K mg "Counter" C_Counter a_Counter___init__)
    (cdv : Value) (A : Around) (outer : List Env) (s : Shared) (H : Hp) (E : XK) (hr : Room k (A.deeper (envOfC "counts_of" (defScope s_counts_of) s.heap.objs.size f cdv))) :
    DSs MT (cxOf CX0 P w K mg base N_counts_of "counts_of" (defScope s_counts_of) f cdv A outer s H E).nox (defBody s_counts_of) (g_counts_of sp_Counter___init__ sp_Counter_begun sp_Counter_many C_Counter) :=
  (dss_cons (ds_set (i := 3) sc_counts_of.nd rfl (by first | exact Or.inl rfl | exact Or.inr rfl) (de_make0 mk_Counter n_Counter___init__ G_Counter___init__ (hr.mono (by omega)) (by rfl))) (dss_cons (ds_set (i := 4) sc_counts_of.nd rfl (by first | exact Or.inl rfl | exact Or.inr rfl) (de_meth cl_Counter n_Counter_begun G_Counter_begun hr (de_var 3) (da_cons (de_var 0) (da_cons (de_var 1) da_nil)))) (dss_one (ds_ret (de_lcO (by rfl) sc_counts_of.nd (di_range1 (by rfl) m_range (da_cons (de_op od_add (de_var 2) de_int) da_nil)) (blkOk_by (own := [("size", 5)]) (N := N_counts_of) (sc := defScope s_counts_of) (by decide +kernel)) (fun _ _ _ _ _ => (dp_name (i := 5) sc_counts_of.nd (by rfl) (by first | exact Or.inl rfl | exact Or.inr rfl))) (fun _ _ _ _ _ => dts_nil) (fun _ _ _ _ _ => (de_meth cl_Counter n_Counter_many G_Counter_many hr (de_var 3) (da_cons (de_var 4) (da_cons (de_var 5) da_nil)))))))))
/-! ### _law_pool -/
abbrev s__law_pool : Stmt := topS 29
abbrev N__law_pool : List Str := ["_law_script", "_law_k", "_law_cell", "_law_number"]
abbrev P__law_pool : List Str := ["_law_script", "_law_k"]
theorem sc__law_pool : FnScope N__law_pool P__law_pool (defScope s__law_pool) := ⟨rfl, rfl, rfl, by decide +kernel, rfl, by decide +kernel, by decide +kernel⟩
def g__law_pool : GS :=
  (gSeq (gSet (fC (.int 0)) 2) (gSeq (gIf (fTest (fOp rLtD (fVar 1) (fCB rLenD (fCons (fVar 0) fNil)))) (gSet (fOp rIxD (fVar 0) (fVar 1)) 2) gNext) (gSeq (gSet (fOp rModD (fOp rPowD (fOp rAddD (fOp rAddD (fOp rModD (fVar 2) (fC (.int 2147483629))) (fOp rMulD (fOp rMulD (fC (.int 104729)) (fVar 1)) (fVar 1))) (fC (.int 11))) (fC (.int 3))) (fC (.int 2147483647))) 3) (gSeq (gIf (fTest (fOp rLtD (fVar 2) (fOp rPowD (fC (.int 10)) (fC (.int 18))))) (gSet (fC (.int 0)) 2) gNext) (gRet (fPool (fCons (fVar 2) (fCons (fVar 3) fNil))))))))
theorem der__law_pool {P : Program} {w : World} {K : PySem.W.Frag} {mg : Str → Option Value} {base : Heap} {k : Nat} {f : Addr} (m_len : mg "len" = none)
    (cdv : Value) (A : Around) (outer : List Env) (s : Shared) (H : Hp) (E : XK) (hr : Room k (A.deeper (envOfC "_law_pool" (defScope s__law_pool) s.heap.objs.size f cdv))) :
    DSs MT (cxOf CX0 P w K mg base N__law_pool "_law_pool" (defScope s__law_pool) f cdv A outer s H E).nox (defBody s__law_pool) (g__law_pool) :=
  (dss_cons (ds_set (i := 2) sc__law_pool.nd rfl (by first | exact Or.inl rfl | exact Or.inr rfl) de_int) (dss_cons (ds_if (dt_cmp od_lt (de_var 1) (de_callB cd_len (by rfl) m_len bb_len (da_cons (de_var 0) da_nil)) (nomark _)) (dss_one (ds_set (i := 2) sc__law_pool.nd rfl (by first | exact Or.inl rfl | exact Or.inr rfl) (de_ix (de_var 0) (de_var 1)))) dss_nil) (dss_cons (ds_set (i := 3) sc__law_pool.nd rfl (by first | exact Or.inl rfl | exact Or.inr rfl) (de_op od_mod (de_op od_pow (de_op od_add (de_op od_add (de_op od_mod (de_var 2) de_int) (de_op od_mul (de_op od_mul de_int (de_var 1)) (de_var 1))) de_int) de_int) de_int)) (dss_cons (ds_if (dt_cmp od_lt (de_var 2) (de_op od_pow de_int de_int) (nomark _)) (dss_one (ds_set (i := 2) sc__law_pool.nd rfl (by first | exact Or.inl rfl | exact Or.inr rfl) de_int)) dss_nil) (dss_one (ds_ret (de_pool (da_cons (de_var 2) (da_cons (de_var 3) da_nil)))))))))
/-! ### _law_take -/
abbrev s__law_take : Stmt := topS 30
abbrev N__law_take : List Str := ["_law_pool_here", "_law_many", "_law_found"]
abbrev P__law_take : List Str := ["_law_pool_here", "_law_many"]
theorem sc__law_take : FnScope N__law_take P__law_take (defScope s__law_take) := ⟨rfl, rfl, rfl, by decide +kernel, rfl, by decide +kernel, by decide +kernel⟩
def g__law_take : GS :=
  (gSeq (gIf (fTest (fOp rGtD (fOp rIxD (fVar 0) (fC (.int 0))) (fC (.int 0)))) (gSeq (gSet (fOp rModD (fOp rIxD (fVar 0) (fC (.int 0))) (fVar 1)) 2) (gSeq (gSetIx (fVar 0) (fC (.int 0)) (fOp rDivD (fOp rIxD (fVar 0) (fC (.int 0))) (fVar 1))) (gRet (fVar 2)))) gNext) (gSeq (gSetIx (fVar 0) (fC (.int 1)) (fOp rModD (fOp rAddD (fOp rMulD (fOp rIxD (fVar 0) (fC (.int 1))) (fC (.int 48271))) (fC (.int 11))) (fC (.int 2147483647)))) (gRet (fOp rModD (fOp rDivD (fOp rModD (fOp rMulD (fOp rIxD (fVar 0) (fC (.int 1))) (fOp rIxD (fVar 0) (fC (.int 1)))) (fC (.int 2147483629))) (fC (.int 64))) (fVar 1)))))
theorem der__law_take {P : Program} {w : World} {K : PySem.W.Frag} {mg : Str → Option Value} {base : Heap} {k : Nat} {f : Addr} 
    (cdv : Value) (A : Around) (outer : List Env) (s : Shared) (H : Hp) (E : XK) (hr : Room k (A.deeper (envOfC "_law_take" (defScope s__law_take) s.heap.objs.size f cdv))) :
    DSs MT (cxOf CX0 P w K mg base N__law_take "_law_take" (defScope s__law_take) f cdv A outer s H E).nox (defBody s__law_take) (g__law_take) :=
  (dss_cons (ds_if (dt_cmp od_gt (de_ix (de_var 0) de_int) de_int (nomark _)) (dss_cons (ds_set (i := 2) sc__law_take.nd rfl (by first | exact Or.inl rfl | exact Or.inr rfl) (de_op od_mod (de_ix (de_var 0) de_int) (de_var 1))) (dss_cons (ds_setIx (de_var 0) de_int (de_op od_div (de_ix (de_var 0) de_int) (de_var 1))) (dss_one (ds_ret (de_var 2))))) dss_nil) (dss_cons (ds_setIx (de_var 0) de_int (de_op od_mod (de_op od_add (de_op od_mul (de_ix (de_var 0) de_int) de_int) de_int) de_int)) (dss_one (ds_ret (de_op od_mod (de_op od_div (de_op od_mod (de_op od_mul (de_ix (de_var 0) de_int) (de_ix (de_var 0) de_int)) de_int) de_int) (de_var 1))))))
/-! ### _law_kind -/
abbrev s__law_kind : Stmt := topS 31
abbrev N__law_kind : List Str := ["_law_pool_here", "_law_leaves", "_law_marks", "_law_one", "_law_word"]
abbrev P__law_kind : List Str := ["_law_pool_here", "_law_leaves", "_law_marks"]
theorem sc__law_kind : FnScope N__law_kind P__law_kind (defScope s__law_kind) := ⟨rfl, rfl, rfl, by decide +kernel, rfl, by decide +kernel, by decide +kernel⟩
def g__law_kind (sp__law_take sp__law_kind : DSp) : GS :=
  (gSeq (gIf (fTest (fOp (rEqD false) (fVar 1) (fC (.int 1)))) (gSeq (gIf (fTest (fOp (rEqD false) (fCall sp__law_take (fCons (fVar 0) (fCons (fC (.int 9)) fNil))) (fC (.int 8)))) (gRet (fTup (fCons (fC (.str "one")) fNil))) gNext) (gRet (fTup (fCons (fC (.str "mark")) (fCons (fOp rIxD (fVar 2) (fCall sp__law_take (fCons (fVar 0) (fCons (fCB rLenD (fCons (fVar 2) fNil)) fNil)))) fNil))))) gNext) (gSeq (gSet (fOp rAddD (fC (.int 1)) (fCall sp__law_take (fCons (fVar 0) (fCons (fOp rSubD (fVar 1) (fC (.int 1))) fNil)))) 3) (gSeq (gSet (fOp rIxD (fLst (fCons (fC (.str "to")) (fCons (fC (.str "to")) (fCons (fC (.str "both")) fNil)))) (fCall sp__law_take (fCons (fVar 0) (fCons (fC (.int 3)) fNil)))) 4) (gRet (fTup (fCons (fVar 4) (fCons (fCall sp__law_kind (fCons (fVar 0) (fCons (fVar 3) (fCons (fVar 2) fNil)))) (fCons (fCall sp__law_kind (fCons (fVar 0) (fCons (fOp rSubD (fVar 1) (fVar 3)) (fCons (fVar 2) fNil)))) fNil))))))))
theorem der__law_kind {P : Program} {w : World} {K : PySem.W.Frag} {mg : Str → Option Value} {base : Heap} {k : Nat} {f : Addr} {sp__law_take sp__law_kind : DSp} {a__law_take : Addr} {fd__law_take : FuncData} (n__law_take : Fn K mg "_law_take" s__law_take P__law_take a__law_take fd__law_take) (G__law_take : FnOk P w K mg base CX0 k a__law_take fd__law_take P__law_take (liftSp K sp__law_take)) {a__law_kind : Addr} {fd__law_kind : FuncData} (n__law_kind : Fn K mg "_law_kind" s__law_kind P__law_kind a__law_kind fd__law_kind) (G__law_kind : FnOk P w K mg base CX0 k a__law_kind fd__law_kind P__law_kind (liftSp K sp__law_kind)) (m_len : mg "len" = none)
    (cdv : Value) (A : Around) (outer : List Env) (s : Shared) (H : Hp) (E : XK) (hr : Room k (A.deeper (envOfC "_law_kind" (defScope s__law_kind) s.heap.objs.size f cdv))) :
    DSs MT (cxOf CX0 P w K mg base N__law_kind "_law_kind" (defScope s__law_kind) f cdv A outer s H E).nox (defBody s__law_kind) (g__law_kind sp__law_take sp__law_kind) :=
  (dss_cons (ds_if (dt_cmp (od_eq hr.u200) (de_var 1) de_int (nomark _)) (dss_cons (ds_if (dt_cmp (od_eq hr.u200) (de_callN n__law_take G__law_take hr (by rfl) (da_cons (de_var 0) (da_cons de_int da_nil))) de_int (nomark _)) (dss_one (ds_ret (de_tup (da_cons de_str da_nil)))) dss_nil) (dss_one (ds_ret (de_tup (da_cons de_str (da_cons (de_ix (de_var 2) (de_callN n__law_take G__law_take hr (by rfl) (da_cons (de_var 0) (da_cons (de_callB cd_len (by rfl) m_len bb_len (da_cons (de_var 2) da_nil)) da_nil)))) da_nil)))))) dss_nil) (dss_cons (ds_set (i := 3) sc__law_kind.nd rfl (by first | exact Or.inl rfl | exact Or.inr rfl) (de_op od_add de_int (de_callN n__law_take G__law_take hr (by rfl) (da_cons (de_var 0) (da_cons (de_op od_sub (de_var 1) de_int) da_nil))))) (dss_cons (ds_set (i := 4) sc__law_kind.nd rfl (by first | exact Or.inl rfl | exact Or.inr rfl) (de_ix (de_lst (da_cons de_str (da_cons de_str (da_cons de_str da_nil)))) (de_callN n__law_take G__law_take hr (by rfl) (da_cons (de_var 0) (da_cons de_int da_nil))))) (dss_one (ds_ret (de_tup (da_cons (de_var 4) (da_cons (de_callN n__law_kind G__law_kind hr (by rfl) (da_cons (de_var 0) (da_cons (de_var 3) (da_cons (de_var 2) da_nil)))) (da_cons (de_callN n__law_kind G__law_kind hr (by rfl) (da_cons (de_var 0) (da_cons (de_op od_sub (de_var 1) (de_var 3)) (da_cons (de_var 2) da_nil)))) da_nil)))))))))
/-! ### _law_case -/
abbrev s__law_case : Stmt := topS 32
abbrev N__law_case : List Str := ["_law_pool_here", "_law_most", "_law_leaves", "_law_own", "_law_kind_here", "_law_row", "_law_name", "_law_one"]
abbrev P__law_case : List Str := ["_law_pool_here", "_law_most"]
theorem sc__law_case : FnScope N__law_case P__law_case (defScope s__law_case) := ⟨rfl, rfl, rfl, by decide +kernel, rfl, by decide +kernel, by decide +kernel⟩
def g__law_case (sp__law_take sp__law_kind : DSp) : GS :=
  (gSeq (gSet (fOp rAddD (fC (.int 1)) (fCall sp__law_take (fCons (fVar 0) (fCons (fVar 1) fNil)))) 2) (gSeq (gSet (fOp rAddD (fC (.int 1)) (fCall sp__law_take (fCons (fVar 0) (fCons (fVar 2) fNil)))) 3) (gSeq (gSet (fCall sp__law_kind (fCons (fVar 0) (fCons (fVar 3) (fCons (fLst (fCons (fC (.str "a")) (fCons (fC (.str "b")) (fCons (fC (.str "c")) fNil)))) fNil)))) 4) (gSeq (gSet (fLstO fNil) 5) (gSeq (gFor (fiList (fLst (fCons (fC (.str "f")) (fCons (fC (.str "g")) (fCons (fC (.str "h")) (fCons (fC (.str "i")) fNil)))))) (.nm 6) (gIf (fTest (fOp rLtD (fVar 3) (fVar 2))) (gSeq (gSet (fOp rAddD (fC (.int 1)) (fCall sp__law_take (fCons (fVar 0) (fCons (fOp rSubD (fVar 2) (fVar 3)) fNil)))) 7) (gSeq (gSet (fOp rAddD (fVar 3) (fVar 7)) 3) (gDrop (fBM "list" rAppendD (fVar 5) (fCons (fTup (fCons (fVar 6) (fCons (fCall sp__law_kind (fCons (fVar 0) (fCons (fVar 7) (fCons (fLst (fCons (fC (.str "a")) (fCons (fC (.str "b")) (fCons (fC (.str "c")) fNil)))) fNil)))) fNil))) fNil))))) gNext)) (gFrz 5 (gRet (fTup (fCons (fVar 5) (fCons (fVar 4) fNil))))))))))
theorem der__law_case {P : Program} {w : World} {K : PySem.W.Frag} {mg : Str → Option Value} {base : Heap} {k : Nat} {f : Addr} {sp__law_take sp__law_kind : DSp} {a__law_take : Addr} {fd__law_take : FuncData} (n__law_take : Fn K mg "_law_take" s__law_take P__law_take a__law_take fd__law_take) (G__law_take : FnOk P w K mg base CX0 k a__law_take fd__law_take P__law_take (liftSp K sp__law_take)) {a__law_kind : Addr} {fd__law_kind : FuncData} (n__law_kind : Fn K mg "_law_kind" s__law_kind P__law_kind a__law_kind fd__law_kind) (G__law_kind : FnOk P w K mg base CX0 k a__law_kind fd__law_kind P__law_kind (liftSp K sp__law_kind))
    (cdv : Value) (A : Around) (outer : List Env) (s : Shared) (H : Hp) (E : XK) (hr : Room k (A.deeper (envOfC "_law_case" (defScope s__law_case) s.heap.objs.size f cdv))) :
    DSs MT (cxOf CX0 P w K mg base N__law_case "_law_case" (defScope s__law_case) f cdv A outer s H E).nox (defBody s__law_case) (g__law_case sp__law_take sp__law_kind) :=
  (dss_cons (ds_set (i := 2) sc__law_case.nd rfl (by first | exact Or.inl rfl | exact Or.inr rfl) (de_op od_add de_int (de_callN n__law_take G__law_take hr (by rfl) (da_cons (de_var 0) (da_cons (de_var 1) da_nil))))) (dss_cons (ds_set (i := 3) sc__law_case.nd rfl (by first | exact Or.inl rfl | exact Or.inr rfl) (de_op od_add de_int (de_callN n__law_take G__law_take hr (by rfl) (da_cons (de_var 0) (da_cons (de_var 2) da_nil))))) (dss_cons (ds_set (i := 4) sc__law_case.nd rfl (by first | exact Or.inl rfl | exact Or.inr rfl) (de_callN n__law_kind G__law_kind hr (by rfl) (da_cons (de_var 0) (da_cons (de_var 3) (da_cons (de_lst (da_cons de_str (da_cons de_str (da_cons de_str da_nil)))) da_nil))))) (dss_cons (ds_set (i := 5) sc__law_case.nd rfl (by first | exact Or.inl rfl | exact Or.inr rfl) (de_lstO da_nil)) (dss_cons (ds_for PassesOwn.never rfl (di_list (de_lst (da_cons de_str (da_cons de_str (da_cons de_str (da_cons de_str da_nil)))))) (dp_name (i := 6) sc__law_case.nd (by rfl) (by first | exact Or.inl rfl | exact Or.inr rfl)) (dss_one (ds_if (dt_cmp od_lt (de_var 3) (de_var 2) (nomark _)) (dss_cons (ds_set (i := 7) sc__law_case.nd rfl (by first | exact Or.inl rfl | exact Or.inr rfl) (de_op od_add de_int (de_callN n__law_take G__law_take hr (by rfl) (da_cons (de_var 0) (da_cons (de_op od_sub (de_var 2) (de_var 3)) da_nil))))) (dss_cons (ds_set (i := 3) sc__law_case.nd rfl (by first | exact Or.inl rfl | exact Or.inr rfl) (de_op od_add (de_var 3) (de_var 7))) (dss_one (ds_expr (de_bm PySem.F.plainAttrs_list PySem.F.slot_list_append PySem.F.type_list_append md_append (de_var 5) (da_cons (de_tup (da_cons (de_var 6) (da_cons (de_callN n__law_kind G__law_kind hr (by rfl) (da_cons (de_var 0) (da_cons (de_var 7) (da_cons (de_lst (da_cons de_str (da_cons de_str (da_cons de_str da_nil)))) da_nil)))) da_nil))) da_nil)))))) dss_nil))) (dss_frz 5 (dss_one (ds_ret (de_tup (da_cons (de_var 5) (da_cons (de_var 4) da_nil)))))))))))
/-! ### _law_ways -/
abbrev s__law_ways : Stmt := topS 33
abbrev N__law_ways : List Str := ["_law_kind_here", "_law_found", "_law_moves", "_law_mark"]
abbrev P__law_ways : List Str := ["_law_kind_here"]
theorem sc__law_ways : FnScope N__law_ways P__law_ways (defScope s__law_ways) := ⟨rfl, rfl, rfl, by decide +kernel, rfl, by decide +kernel, by decide +kernel⟩
def g__law_ways (sp__law_ways : DSp) : GS :=
  (gSeq (gIf (fTest (fOp (rEqD false) (fCB rLenD (fCons (fVar 0) fNil)) (fC (.int 1)))) (gRet (fLst fNil)) gNext) (gSeq (gIf (fTest (fOp (rEqD false) (fCB rLenD (fCons (fVar 0) fNil)) (fC (.int 2)))) (gRet (fLst (fCons (fTup (fCons (fLst fNil) (fCons (fOp rIxD (fVar 0) (fC (.int 1))) fNil))) fNil))) gNext) (gSeq (gIf (fTest (fOp (rEqD false) (fOp rIxD (fVar 0) (fC (.int 0))) (fC (.str "to")))) (gRet (fLc (fiList (fCall sp__law_ways (fCons (fOp rIxD (fVar 0) (fC (.int 2))) fNil))) (.tp [(.nm 2), (.nm 3)]) fYes (fTup (fCons (fOp rAddD (fLst (fCons (fOp rIxD (fVar 0) (fC (.int 1))) fNil)) (fVar 2)) (fCons (fVar 3) fNil))) [2, 3])) gNext) (gSeq (gSet (fLc (fiList (fCall sp__law_ways (fCons (fOp rIxD (fVar 0) (fC (.int 1))) fNil))) (.tp [(.nm 2), (.nm 3)]) fYes (fTup (fCons (fOp rAddD (fLst (fCons (fC (.int 1)) fNil)) (fVar 2)) (fCons (fVar 3) fNil))) [2, 3]) 1) (gRet (fOp rAddD (fVar 1) (fLc (fiList (fCall sp__law_ways (fCons (fOp rIxD (fVar 0) (fC (.int 2))) fNil))) (.tp [(.nm 2), (.nm 3)]) fYes (fTup (fCons (fOp rAddD (fLst (fCons (fC (.int 2)) fNil)) (fVar 2)) (fCons (fVar 3) fNil))) [2, 3])))))))
theorem der__law_ways {P : Program} {w : World} {K : PySem.W.Frag} {mg : Str → Option Value} {base : Heap} {k : Nat} {f : Addr} {sp__law_ways : DSp} {a__law_ways : Addr} {fd__law_ways : FuncData} (n__law_ways : Fn K mg "_law_ways" s__law_ways P__law_ways a__law_ways fd__law_ways) (G__law_ways : FnOk P w K mg base CX0 k a__law_ways fd__law_ways P__law_ways (liftSp K sp__law_ways)) (m_len : mg "len" = none)
    (cdv : Value) (A : Around) (outer : List Env) (s : Shared) (H : Hp) (E : XK) (hr : Room k (A.deeper (envOfC "_law_ways" (defScope s__law_ways) s.heap.objs.size f cdv))) :
    DSs MT (cxOf CX0 P w K mg base N__law_ways "_law_ways" (defScope s__law_ways) f cdv A outer s H E).nox (defBody s__law_ways) (g__law_ways sp__law_ways) :=
  (dss_cons (ds_if (dt_cmp (od_eq hr.u200) (de_callB cd_len (by rfl) m_len bb_len (da_cons (de_var 0) da_nil)) de_int (nomark _)) (dss_one (ds_ret (de_lst da_nil))) dss_nil) (dss_cons (ds_if (dt_cmp (od_eq hr.u200) (de_callB cd_len (by rfl) m_len bb_len (da_cons (de_var 0) da_nil)) de_int (nomark _)) (dss_one (ds_ret (de_lst (da_cons (de_tup (da_cons (de_lst da_nil) (da_cons (de_ix (de_var 0) de_int) da_nil))) da_nil)))) dss_nil) (dss_cons (ds_if (dt_cmp (od_eq hr.u200) (de_ix (de_var 0) de_int) de_str (nomark _)) (dss_one (ds_ret (de_lc (by rfl) sc__law_ways.nd (di_list (de_callN n__law_ways G__law_ways hr (by rfl) (da_cons (de_ix (de_var 0) de_int) da_nil))) (blkOk_by (own := [("_law_moves", 2), ("_law_mark", 3)]) (N := N__law_ways) (sc := defScope s__law_ways) (by decide +kernel)) (fun _ _ _ _ _ => (dp_tup (by rfl) (dps_cons (dp_name (i := 2) sc__law_ways.nd (by rfl) (by first | exact Or.inl rfl | exact Or.inr rfl)) (dps_cons (dp_name (i := 3) sc__law_ways.nd (by rfl) (by first | exact Or.inl rfl | exact Or.inr rfl)) dps_nil)))) (fun _ _ _ _ _ => dts_nil) (fun _ _ _ _ _ => (de_tup (da_cons (de_op od_add (de_lst (da_cons (de_ix (de_var 0) de_int) da_nil)) (de_var 2)) (da_cons (de_var 3) da_nil))))))) dss_nil) (dss_cons (ds_setLc (i := 1) rfl sc__law_ways.nd rfl rfl (sw_true rfl rfl rfl (by decide +kernel)) (di_list (de_callN n__law_ways G__law_ways hr (by rfl) (da_cons (de_ix (de_var 0) de_int) da_nil))) (blkOk_by (own := [("_law_moves", 2), ("_law_mark", 3)]) (N := N__law_ways) (sc := defScope s__law_ways) (by decide +kernel)) (fun _ _ _ _ _ => (dp_tup (by rfl) (dps_cons (dp_name (i := 2) sc__law_ways.nd (by rfl) (by first | exact Or.inl rfl | exact Or.inr rfl)) (dps_cons (dp_name (i := 3) sc__law_ways.nd (by rfl) (by first | exact Or.inl rfl | exact Or.inr rfl)) dps_nil)))) (fun _ _ _ _ _ => dts_nil) (fun _ _ _ _ _ => (de_tup (da_cons (de_op od_add (de_lst (da_cons de_int da_nil)) (de_var 2)) (da_cons (de_var 3) da_nil))))) (dss_one (ds_ret (de_op od_add (de_var 1) (de_lc (by rfl) sc__law_ways.nd (di_list (de_callN n__law_ways G__law_ways hr (by rfl) (da_cons (de_ix (de_var 0) de_int) da_nil))) (blkOk_by (own := [("_law_moves", 2), ("_law_mark", 3)]) (N := N__law_ways) (sc := defScope s__law_ways) (by decide +kernel)) (fun _ _ _ _ _ => (dp_tup (by rfl) (dps_cons (dp_name (i := 2) sc__law_ways.nd (by rfl) (by first | exact Or.inl rfl | exact Or.inr rfl)) (dps_cons (dp_name (i := 3) sc__law_ways.nd (by rfl) (by first | exact Or.inl rfl | exact Or.inr rfl)) dps_nil)))) (fun _ _ _ _ _ => dts_nil) (fun _ _ _ _ _ => (de_tup (da_cons (de_op od_add (de_lst (da_cons de_int da_nil)) (de_var 2)) (da_cons (de_var 3) da_nil))))))))))))
/-! ### _law_all -/
abbrev s__law_all : Stmt := topS 34
abbrev N__law_all : List Str := ["_law_known", "_law_kind_here", "_law_rest", "_law_takes", "_law_most", "_law_seen", "_law_name", "_law_some", "_law_found", "_law_one", "_law_size", "_law_other", "_law_more", "_law_key", "_law_moves", "_law_mark", "_law_body"]
abbrev P__law_all : List Str := ["_law_known", "_law_kind_here", "_law_rest"]
theorem sc__law_all : FnScope N__law_all P__law_all (defScope s__law_all) := ⟨rfl, rfl, rfl, by decide +kernel, rfl, by decide +kernel, by decide +kernel⟩
def g__law_all (sp__law_all sp__law_few sp__law_ways sp__law_gone : DSp) : GS :=
  (gSeq (gAsg (fVar 2) (.tp [(.nm 3), (.nm 4), (.nm 5)])) (gSeq (gIf (fTest (fOp (rEqD false) (fOp rIxD (fVar 1) (fC (.int 0))) (fC (.str "one")))) (gRet (fLst (fCons (fTup (fCons (fTup (fCons (fC (.str "thing")) fNil)) (fCons (fC (.int 0)) fNil))) fNil))) gNext) (gSeq (gIf (fTest (fOp (rEqD false) (fOp rIxD (fVar 1) (fC (.int 0))) (fC (.str "to")))) (gSeq (gSet (fOp rAddD (fC (.str "x")) (fCB rStr1 (fCons (fVar 3) fNil))) 6) (gSeq (gSet (fCall sp__law_all (fCons (fOp rAddD (fVar 0) (fLst (fCons (fTup (fCons (fVar 6) (fCons (fOp rIxD (fVar 1) (fC (.int 1))) fNil))) fNil))) (fCons (fOp rIxD (fVar 1) (fC (.int 2))) (fCons (fTup (fCons (fOp rAddD (fVar 3) (fC (.int 1))) (fCons (fVar 4) (fCons (fVar 5) fNil)))) fNil)))) 7) (gRet (fLc (fiList (fVar 7)) (.tp [(.nm 16), (.nm 10)]) fYes (fTup (fCons (fTup (fCons (fC (.str "take")) (fCons (fVar 6) (fCons (fOp rIxD (fVar 1) (fC (.int 1))) (fCons (fVar 16) fNil))))) (fCons (fVar 10) fNil))) [16, 10])))) gNext) (gSeq (gIf (fTest (fOp (rEqD false) (fOp rIxD (fVar 1) (fC (.int 0))) (fC (.str "both")))) (gSeq (gSet (fLstO fNil) 8) (gSeq (gFor (fiList (fCall sp__law_all (fCons (fVar 0) (fCons (fOp rIxD (fVar 1) (fC (.int 1))) (fCons (fVar 2) fNil))))) (.tp [(.nm 9), (.nm 10)]) (gFor (fiList (fCall sp__law_all (fCons (fVar 0) (fCons (fOp rIxD (fVar 1) (fC (.int 2))) (fCons (fTup (fCons (fVar 3) (fCons (fOp rSubD (fVar 4) (fVar 10)) (fCons (fVar 5) fNil)))) fNil))))) (.tp [(.nm 11), (.nm 12)]) (gDrop (fBM "list" rAppendD (fVar 8) (fCons (fTup (fCons (fTup (fCons (fC (.str "pair")) (fCons (fVar 9) (fCons (fVar 11) fNil)))) (fCons (fOp rAddD (fVar 10) (fVar 12)) fNil))) fNil))))) (gFrz 8 (gRet (fCall sp__law_few (fCons (fVar 8) (fCons (fVar 5) fNil))))))) gNext) (gSeq (gSet (fOp rAddD (fOp rAddD (fCB rShow (fCons (fVar 0) fNil)) (fOp rIxD (fVar 1) (fC (.int 1)))) (fCB rStr1 (fCons (fVar 4) fNil))) 13) (gSeq (gIf (fTest (fOp (rDIn true) (fVar 13) (fDGet (fVar 5) (fC (.str "told"))))) (gSeq (gSet (fLstO fNil) 8) (gSeq (gFor (fiList (fVar 0)) (.tp [(.nm 6), (.nm 9)]) (gFor (fiList (fCall sp__law_ways (fCons (fVar 9) fNil))) (.tp [(.nm 14), (.nm 15)]) (gIf (fAnd (fTest (fOp (rEqD false) (fVar 15) (fOp rIxD (fVar 1) (fC (.int 1))))) (fTest (fOp rGtD (fVar 4) (fC (.int 0))))) (gFrz 8 (gSet (fOp rCatO (fVar 8) (fCall sp__law_gone (fCons (fVar 0) (fCons (fTup (fCons (fC (.str "name")) (fCons (fVar 6) fNil))) (fCons (fVar 14) (fCons (fTup (fCons (fVar 3) (fCons (fOp rSubD (fVar 4) (fC (.int 1))) (fCons (fVar 5) fNil)))) fNil)))))) 8)) gNext))) (gFrz 8 (gDPut (fDGet (fVar 5) (fC (.str "told"))) (fVar 13) (fCall sp__law_few (fCons (fVar 8) (fCons (fVar 5) fNil))))))) gNext) (gRet (fDGet (fDGet (fVar 5) (fC (.str "told"))) (fVar 13)))))))))
theorem der__law_all {P : Program} {w : World} {K : PySem.W.Frag} {mg : Str → Option Value} {base : Heap} {k : Nat} {f : Addr} {sp__law_all sp__law_few sp__law_ways sp__law_gone : DSp} {a__law_all : Addr} {fd__law_all : FuncData} (n__law_all : Fn K mg "_law_all" s__law_all P__law_all a__law_all fd__law_all) (G__law_all : FnS P w K mg base CX0 k a__law_all fd__law_all P__law_all (liftSp K sp__law_all)) {a__law_few : Addr} {fd__law_few : FuncData} (n__law_few : Fn K mg "_law_few" s__law_few P__law_few a__law_few fd__law_few) (G__law_few : FnS P w K mg base CX0 k a__law_few fd__law_few P__law_few (liftSp K sp__law_few)) {a__law_ways : Addr} {fd__law_ways : FuncData} (n__law_ways : Fn K mg "_law_ways" s__law_ways P__law_ways a__law_ways fd__law_ways) (G__law_ways : FnS P w K mg base CX0 k a__law_ways fd__law_ways P__law_ways (liftSp K sp__law_ways)) {a__law_gone : Addr} {fd__law_gone : FuncData} (n__law_gone : Fn K mg "_law_gone" s__law_gone P__law_gone a__law_gone fd__law_gone) (G__law_gone : FnS P w K mg base CX0 k a__law_gone fd__law_gone P__law_gone (liftSp K sp__law_gone)) (m_str : mg "str" = none)
    (cdv : Value) (A : Around) (outer : List Env) (s : Shared) (H : Hp) (E : XK) (hr : RoomS k (A.deeper (envOfC "_law_all" (defScope s__law_all) s.heap.objs.size f cdv))) :
    DSs MT (cxOf CX0 P w K mg base N__law_all "_law_all" (defScope s__law_all) f cdv A outer s H E).nox (defBody s__law_all) (g__law_all sp__law_all sp__law_few sp__law_ways sp__law_gone) :=
  (dss_cons (ds_asg (de_var 2) (dp_tup (by rfl) (dps_cons (dp_name (i := 3) sc__law_all.nd (by rfl) (by first | exact Or.inl rfl | exact Or.inr rfl)) (dps_cons (dp_name (i := 4) sc__law_all.nd (by rfl) (by first | exact Or.inl rfl | exact Or.inr rfl)) (dps_cons (dp_name (i := 5) sc__law_all.nd (by rfl) (by first | exact Or.inl rfl | exact Or.inr rfl)) dps_nil))))) (dss_cons (ds_if (dt_cmp (od_eq hr.u200) (de_ix (de_var 1) de_int) de_str (nomark _)) (dss_one (ds_ret (de_lst (da_cons (de_tup (da_cons (de_tup (da_cons de_str da_nil)) (da_cons de_int da_nil))) da_nil)))) dss_nil) (dss_cons (ds_if (dt_cmp (od_eq hr.u200) (de_ix (de_var 1) de_int) de_str (nomark _)) (dss_cons (ds_set (i := 6) sc__law_all.nd rfl (by first | exact Or.inl rfl | exact Or.inr rfl) (de_op od_add de_str (de_callTy cd_str1 (by rfl) m_str bb_str (da_cons (de_var 3) da_nil)))) (dss_cons (ds_set (i := 7) sc__law_all.nd rfl (by first | exact Or.inl rfl | exact Or.inr rfl) (de_callNS n__law_all G__law_all hr (by rfl) (da_cons (de_op od_add (de_var 0) (de_lst (da_cons (de_tup (da_cons (de_var 6) (da_cons (de_ix (de_var 1) de_int) da_nil))) da_nil))) (da_cons (de_ix (de_var 1) de_int) (da_cons (de_tup (da_cons (de_op od_add (de_var 3) de_int) (da_cons (de_var 4) (da_cons (de_var 5) da_nil)))) da_nil))))) (dss_one (ds_ret (de_lc (by rfl) sc__law_all.nd (di_list (de_var 7)) (blkOk_by (own := [("_law_body", 16), ("_law_size", 10)]) (N := N__law_all) (sc := defScope s__law_all) (by decide +kernel)) (fun _ _ _ _ _ => (dp_tup (by rfl) (dps_cons (dp_name (i := 16) sc__law_all.nd (by rfl) (by first | exact Or.inl rfl | exact Or.inr rfl)) (dps_cons (dp_name (i := 10) sc__law_all.nd (by rfl) (by first | exact Or.inl rfl | exact Or.inr rfl)) dps_nil)))) (fun _ _ _ _ _ => dts_nil) (fun _ _ _ _ _ => (de_tup (da_cons (de_tup (da_cons de_str (da_cons (de_var 6) (da_cons (de_ix (de_var 1) de_int) (da_cons (de_var 16) da_nil))))) (da_cons (de_var 10) da_nil))))))))) dss_nil) (dss_cons (ds_if (dt_cmp (od_eq hr.u200) (de_ix (de_var 1) de_int) de_str (nomark _)) (dss_cons (ds_set (i := 8) sc__law_all.nd rfl (by first | exact Or.inl rfl | exact Or.inr rfl) (de_lstO da_nil)) (dss_cons (ds_for PassesOwn.never rfl (di_list (de_callNS n__law_all G__law_all hr (by rfl) (da_cons (de_var 0) (da_cons (de_ix (de_var 1) de_int) (da_cons (de_var 2) da_nil))))) (dp_tup (by rfl) (dps_cons (dp_name (i := 9) sc__law_all.nd (by rfl) (by first | exact Or.inl rfl | exact Or.inr rfl)) (dps_cons (dp_name (i := 10) sc__law_all.nd (by rfl) (by first | exact Or.inl rfl | exact Or.inr rfl)) dps_nil))) (dss_one (ds_for PassesOwn.never rfl (di_list (de_callNS n__law_all G__law_all hr (by rfl) (da_cons (de_var 0) (da_cons (de_ix (de_var 1) de_int) (da_cons (de_tup (da_cons (de_var 3) (da_cons (de_op od_sub (de_var 4) (de_var 10)) (da_cons (de_var 5) da_nil)))) da_nil))))) (dp_tup (by rfl) (dps_cons (dp_name (i := 11) sc__law_all.nd (by rfl) (by first | exact Or.inl rfl | exact Or.inr rfl)) (dps_cons (dp_name (i := 12) sc__law_all.nd (by rfl) (by first | exact Or.inl rfl | exact Or.inr rfl)) dps_nil))) (dss_one (ds_expr (de_bm PySem.F.plainAttrs_list PySem.F.slot_list_append PySem.F.type_list_append md_append (de_var 8) (da_cons (de_tup (da_cons (de_tup (da_cons de_str (da_cons (de_var 9) (da_cons (de_var 11) da_nil)))) (da_cons (de_op od_add (de_var 10) (de_var 12)) da_nil))) da_nil))))))) (dss_frz 8 (dss_one (ds_ret (de_callNS n__law_few G__law_few hr (by rfl) (da_cons (de_var 8) (da_cons (de_var 5) da_nil)))))))) dss_nil) (dss_cons (ds_set (i := 13) sc__law_all.nd rfl (by first | exact Or.inl rfl | exact Or.inr rfl) (de_op od_add (de_op od_add (de_callTy (cd_show hr.gd hr.u200) (by rfl) m_str bb_str (da_cons (de_var 0) da_nil)) (de_ix (de_var 1) de_int)) (de_callTy cd_str1 (by rfl) m_str bb_str (da_cons (de_var 4) da_nil)))) (dss_cons (ds_if (dt_cmp (od_dnotin hr.u200) (de_var 13) (de_dget hr.u200 (de_var 5) de_str) (by rfl)) (dss_cons (ds_set (i := 8) sc__law_all.nd rfl (by first | exact Or.inl rfl | exact Or.inr rfl) (de_lstO da_nil)) (dss_cons (ds_for PassesOwn.never rfl (di_list (de_var 0)) (dp_tup (by rfl) (dps_cons (dp_name (i := 6) sc__law_all.nd (by rfl) (by first | exact Or.inl rfl | exact Or.inr rfl)) (dps_cons (dp_name (i := 9) sc__law_all.nd (by rfl) (by first | exact Or.inl rfl | exact Or.inr rfl)) dps_nil))) (dss_one (ds_for PassesOwn.never rfl (di_list (de_callNS n__law_ways G__law_ways hr (by rfl) (da_cons (de_var 9) da_nil))) (dp_tup (by rfl) (dps_cons (dp_name (i := 14) sc__law_all.nd (by rfl) (by first | exact Or.inl rfl | exact Or.inr rfl)) (dps_cons (dp_name (i := 15) sc__law_all.nd (by rfl) (by first | exact Or.inl rfl | exact Or.inr rfl)) dps_nil))) (dss_one (ds_if (dt_of (dw_and (dt_cmp (od_eq hr.u200) (de_var 15) (de_ix (de_var 1) de_int) (nomark _)) (dw_and1 (dt_cmp od_gt (de_var 4) de_int (nomark _))))) (dss_frz 8 (dss_one (ds_set (i := 8) sc__law_all.nd rfl (by first | exact Or.inl rfl | exact Or.inr rfl) (de_op od_catO (de_var 8) (de_callNS n__law_gone G__law_gone hr (by rfl) (da_cons (de_var 0) (da_cons (de_tup (da_cons de_str (da_cons (de_var 6) da_nil))) (da_cons (de_var 14) (da_cons (de_tup (da_cons (de_var 3) (da_cons (de_op od_sub (de_var 4) de_int) (da_cons (de_var 5) da_nil)))) da_nil))))))))) dss_nil))))) (dss_frz 8 (dss_one (ds_dput hr.u200 (de_dget hr.u200 (de_var 5) de_str) (de_var 13) (de_callNS n__law_few G__law_few hr (by rfl) (da_cons (de_var 8) (da_cons (de_var 5) da_nil)))))))) dss_nil) (dss_one (ds_ret (de_dget hr.u200 (de_dget hr.u200 (de_var 5) de_str) (de_var 13))))))))))
/-! ### _law_few -/
abbrev s__law_few : Stmt := topS 35
abbrev N__law_few : List Str := ["_law_found", "_law_seen"]
abbrev P__law_few : List Str := ["_law_found", "_law_seen"]
theorem sc__law_few : FnScope N__law_few P__law_few (defScope s__law_few) := ⟨rfl, rfl, rfl, by decide +kernel, rfl, by decide +kernel, by decide +kernel⟩
def g__law_few : GS :=
  (gSeq (gIf (fTest (fOp rGtD (fCB rLenD (fCons (fVar 0) fNil)) (fC (.int 80)))) (gDPut (fVar 1) (fC (.str "cut")) (fC (.bl true))) gNext) (gRet (fSl rSlD (fVar 0) fNoPart (fPart (fC (.int 80))))))
theorem der__law_few {P : Program} {w : World} {K : PySem.W.Frag} {mg : Str → Option Value} {base : Heap} {k : Nat} {f : Addr} (m_len : mg "len" = none)
    (cdv : Value) (A : Around) (outer : List Env) (s : Shared) (H : Hp) (E : XK) (hr : Room k (A.deeper (envOfC "_law_few" (defScope s__law_few) s.heap.objs.size f cdv))) :
    DSs MT (cxOf CX0 P w K mg base N__law_few "_law_few" (defScope s__law_few) f cdv A outer s H E).nox (defBody s__law_few) (g__law_few) :=
  (dss_cons (ds_if (dt_cmp od_gt (de_callB cd_len (by rfl) m_len bb_len (da_cons (de_var 0) da_nil)) de_int (nomark _)) (dss_one (ds_dput hr.u200 (de_var 1) de_str de_bl)) dss_nil) (dss_one (ds_ret (de_slice (de_var 0) do_none (do_some de_int)))))
/-! ### _law_gone -/
abbrev s__law_gone : Stmt := topS 36
abbrev N__law_gone : List Str := ["_law_known", "_law_program", "_law_moves", "_law_rest", "_law_takes", "_law_most", "_law_seen", "_law_found", "_law_move", "_law_later", "_law_one", "_law_size", "_law_some", "_law_other", "_law_more"]
abbrev P__law_gone : List Str := ["_law_known", "_law_program", "_law_moves", "_law_rest"]
theorem sc__law_gone : FnScope N__law_gone P__law_gone (defScope s__law_gone) := ⟨rfl, rfl, rfl, by decide +kernel, rfl, by decide +kernel, by decide +kernel⟩
def g__law_gone (sp__law_all sp__law_few : DSp) : GS :=
  (gSeq (gAsg (fVar 3) (.tp [(.nm 4), (.nm 5), (.nm 6)])) (gSeq (gSet (fLst (fCons (fTup (fCons (fVar 1) (fCons (fC (.int 1)) fNil))) fNil)) 7) (gSeq (gFor (fiList (fVar 2)) (.nm 8) (gSeq (gSet (fLstO fNil) 9) (gSeq (gFor (fiList (fVar 7)) (.tp [(.nm 10), (.nm 11)]) (gIf (fOr (fTest (fOp (rEqD false) (fVar 8) (fC (.int 1)))) (fTest (fOp (rEqD false) (fVar 8) (fC (.int 2))))) (gDrop (fBM "list" rAppendD (fVar 9) (fCons (fTup (fCons (fTup (fCons (fOp rIxD (fLst (fCons (fC (.str "first")) (fCons (fC (.str "second")) fNil))) (fOp rSubD (fVar 8) (fC (.int 1)))) (fCons (fVar 10) fNil))) (fCons (fVar 11) fNil))) fNil))) (gSeq (gSet (fCall sp__law_all (fCons (fVar 0) (fCons (fVar 8) (fCons (fTup (fCons (fVar 4) (fCons (fOp rAddD (fOp rSubD (fVar 5) (fVar 11)) (fC (.int 1))) (fCons (fVar 6) fNil)))) fNil)))) 12) (gFrz 9 (gSet (fOp rCatO (fVar 9) (fLc (fiList (fVar 12)) (.tp [(.nm 13), (.nm 14)]) fYes (fTup (fCons (fTup (fCons (fC (.str "give")) (fCons (fVar 10) (fCons (fVar 13) fNil)))) (fCons (fOp rAddD (fVar 11) (fVar 14)) fNil))) [13, 14])) 9))))) (gFrz 9 (gSet (fCall sp__law_few (fCons (fVar 9) (fCons (fVar 6) fNil))) 7))))) (gRet (fVar 7)))))
theorem der__law_gone {P : Program} {w : World} {K : PySem.W.Frag} {mg : Str → Option Value} {base : Heap} {k : Nat} {f : Addr} {sp__law_all sp__law_few : DSp} {a__law_all : Addr} {fd__law_all : FuncData} (n__law_all : Fn K mg "_law_all" s__law_all P__law_all a__law_all fd__law_all) (G__law_all : FnS P w K mg base CX0 k a__law_all fd__law_all P__law_all (liftSp K sp__law_all)) {a__law_few : Addr} {fd__law_few : FuncData} (n__law_few : Fn K mg "_law_few" s__law_few P__law_few a__law_few fd__law_few) (G__law_few : FnS P w K mg base CX0 k a__law_few fd__law_few P__law_few (liftSp K sp__law_few))
    (cdv : Value) (A : Around) (outer : List Env) (s : Shared) (H : Hp) (E : XK) (hr : RoomS k (A.deeper (envOfC "_law_gone" (defScope s__law_gone) s.heap.objs.size f cdv))) :
    DSs MT (cxOf CX0 P w K mg base N__law_gone "_law_gone" (defScope s__law_gone) f cdv A outer s H E).nox (defBody s__law_gone) (g__law_gone sp__law_all sp__law_few) :=
  (dss_cons (ds_asg (de_var 3) (dp_tup (by rfl) (dps_cons (dp_name (i := 4) sc__law_gone.nd (by rfl) (by first | exact Or.inl rfl | exact Or.inr rfl)) (dps_cons (dp_name (i := 5) sc__law_gone.nd (by rfl) (by first | exact Or.inl rfl | exact Or.inr rfl)) (dps_cons (dp_name (i := 6) sc__law_gone.nd (by rfl) (by first | exact Or.inl rfl | exact Or.inr rfl)) dps_nil))))) (dss_cons (ds_set (i := 7) sc__law_gone.nd rfl (by first | exact Or.inl rfl | exact Or.inr rfl) (de_lst (da_cons (de_tup (da_cons (de_var 1) (da_cons de_int da_nil))) da_nil))) (dss_cons (ds_for PassesOwn.never rfl (di_list (de_var 2)) (dp_name (i := 8) sc__law_gone.nd (by rfl) (by first | exact Or.inl rfl | exact Or.inr rfl)) (dss_cons (ds_set (i := 9) sc__law_gone.nd rfl (by first | exact Or.inl rfl | exact Or.inr rfl) (de_lstO da_nil)) (dss_cons (ds_for PassesOwn.never rfl (di_list (de_var 7)) (dp_tup (by rfl) (dps_cons (dp_name (i := 10) sc__law_gone.nd (by rfl) (by first | exact Or.inl rfl | exact Or.inr rfl)) (dps_cons (dp_name (i := 11) sc__law_gone.nd (by rfl) (by first | exact Or.inl rfl | exact Or.inr rfl)) dps_nil))) (dss_one (ds_if (dt_of (dw_or (dt_cmp (od_eq hr.u200) (de_var 8) de_int (nomark _)) (dw_or1 (dt_cmp (od_eq hr.u200) (de_var 8) de_int (nomark _))))) (dss_one (ds_expr (de_bm PySem.F.plainAttrs_list PySem.F.slot_list_append PySem.F.type_list_append md_append (de_var 9) (da_cons (de_tup (da_cons (de_tup (da_cons (de_ix (de_lst (da_cons de_str (da_cons de_str da_nil))) (de_op od_sub (de_var 8) de_int)) (da_cons (de_var 10) da_nil))) (da_cons (de_var 11) da_nil))) da_nil)))) (dss_cons (ds_set (i := 12) sc__law_gone.nd rfl (by first | exact Or.inl rfl | exact Or.inr rfl) (de_callNS n__law_all G__law_all hr (by rfl) (da_cons (de_var 0) (da_cons (de_var 8) (da_cons (de_tup (da_cons (de_var 4) (da_cons (de_op od_add (de_op od_sub (de_var 5) (de_var 11)) de_int) (da_cons (de_var 6) da_nil)))) da_nil))))) (dss_frz 9 (dss_one (ds_set (i := 9) sc__law_gone.nd rfl (by first | exact Or.inl rfl | exact Or.inr rfl) (de_op od_catO (de_var 9) (de_lc (by rfl) sc__law_gone.nd (di_list (de_var 12)) (blkOk_by (own := [("_law_other", 13), ("_law_more", 14)]) (N := N__law_gone) (sc := defScope s__law_gone) (by decide +kernel)) (fun _ _ _ _ _ => (dp_tup (by rfl) (dps_cons (dp_name (i := 13) sc__law_gone.nd (by rfl) (by first | exact Or.inl rfl | exact Or.inr rfl)) (dps_cons (dp_name (i := 14) sc__law_gone.nd (by rfl) (by first | exact Or.inl rfl | exact Or.inr rfl)) dps_nil)))) (fun _ _ _ _ _ => dts_nil) (fun _ _ _ _ _ => (de_tup (da_cons (de_tup (da_cons de_str (da_cons (de_var 10) (da_cons (de_var 13) da_nil)))) (da_cons (de_op od_add (de_var 11) (de_var 14)) da_nil))))))))))))) (dss_frz 9 (dss_one (ds_set (i := 7) sc__law_gone.nd rfl (by first | exact Or.inl rfl | exact Or.inr rfl) (de_callNS n__law_few G__law_few hr (by rfl) (da_cons (de_var 9) (da_cons (de_var 6) da_nil))))))))) (dss_one (ds_ret (de_var 7))))))
/-! ### law -/
abbrev s_law : Stmt := topS 37
abbrev N_law : List Str := ["_law_script", "_law_k", "_law_pool_here", "_law_row", "_law_kind_here", "_law_seen", "_law_some", "_law_handed", "_law_found", "_law_most", "_law_kept", "_law_program", "_law_size", "_law_one"]
abbrev P_law : List Str := ["_law_script"]
theorem sc_law : FnScope N_law P_law (defScope s_law) := ⟨rfl, rfl, rfl, by decide +kernel, rfl, by decide +kernel, by decide +kernel⟩
def g_law (sp__law_pool sp__law_case sp__law_all sp_counts_of sp__law_take : DSp) : GS :=
  (gSeq (gFor (fiRng1 (fCons (fCB rMax2 (fCons (fC (.int 1)) (fCons (fCB rMin2 (fCons (fCB rLenD (fCons (fVar 0) fNil)) (fCons (fC (.int 4)) fNil))) fNil))) fNil)) (.nm 1) (gSeq (gSet (fCall sp__law_pool (fCons (fVar 0) (fCons (fVar 1) fNil))) 2) (gSeq (gAsg (fCall sp__law_case (fCons (fVar 2) (fCons (fC (.int 8)) fNil))) (.tp [(.nm 3), (.nm 4)])) (gSeq (gSet (fDisp [("cut", (fC (.bl false))), ("told", fDicO)]) 5) (gSeq (gSet (fLc (fiList (fCall sp__law_all (fCons (fVar 3) (fCons (fVar 4) (fCons (fTup (fCons (fC (.int 0)) (fCons (fC (.int 5)) (fCons (fVar 5) fNil)))) fNil))))) (.tp [(.nm 11), (.nm 12)]) fYes (fVar 12) [11, 12]) 6) (gSeq (gSet (fCB rList1 (fCons (fVar 3) fNil)) 7) (gSeq (gSet (fCall sp_counts_of (fCons (fVar 7) (fCons (fVar 4) (fCons (fC (.int 5)) fNil)))) 8) (gSeq (gIf (fOr (fNot (fTest (fCB rIsiD (fCons (fVar 8) (fCons (fC (.ty "list")) fNil))))) (fOr (fTest (fOp (rEqD true) (fCB rLenD (fCons (fVar 8) fNil)) (fC (.int 6)))) (fTest (fOp (rEqD true) (fVar 7) (fVar 3))))) (gRet (fC (.bl false))) gNext) (gSeq (gIf (fTest (fOp (rEqD true) (fLcJ (fjList (fVar 8)) (.nm 13) (fOr (fNot (fTest (fCB rIsiD (fCons (fVar 13) (fCons (fC (.ty "int")) fNil))))) (fTest (fCB rIsiD (fCons (fVar 13) (fCons (fC (.ty "bool")) fNil))))) (fVar 13) [13]) (fLst fNil))) (gRet (fC (.bl false))) gNext) (gSeq (gIf (fAnd (fNot (fTest (fDGet (fVar 5) (fC (.str "cut"))))) (fTest (fOp (rEqD true) (fVar 8) (fLc (fiRng1 (fCons (fC (.int 6)) fNil)) (.nm 12) fYes (fBM "list" rCntLD (fVar 6) (fCons (fVar 12) fNil)) [12])))) (gRet (fC (.bl false))) gNext) (gSeq (gSet (fCall sp__law_take (fCons (fVar 2) (fCons (fC (.int 6)) fNil))) 9) (gSeq (gSet (fCB rList1 (fCons (fVar 8) fNil)) 10) (gSeq (gDrop (fBM0 "list" rClearD (fVar 8))) (gIf (fTest (fOp (rEqD true) (fCall sp_counts_of (fCons (fVar 7) (fCons (fVar 4) (fCons (fVar 9) fNil)))) (fSl rSlD (fVar 10) fNoPart (fPart (fOp rAddD (fVar 9) (fC (.int 1))))))) (gRet (fC (.bl false))) gNext)))))))))))))) (gRet (fC (.bl true))))
theorem der_law {P : Program} {w : World} {K : PySem.W.Frag} {mg : Str → Option Value} {base : Heap} {k : Nat} {f : Addr} {sp__law_pool sp__law_case sp__law_all sp_counts_of sp__law_take : DSp} {a__law_pool : Addr} {fd__law_pool : FuncData} (n__law_pool : Fn K mg "_law_pool" s__law_pool P__law_pool a__law_pool fd__law_pool) (G__law_pool : FnS P w K mg base CX0 k a__law_pool fd__law_pool P__law_pool (liftSp K sp__law_pool)) {a__law_case : Addr} {fd__law_case : FuncData} (n__law_case : Fn K mg "_law_case" s__law_case P__law_case a__law_case fd__law_case) (G__law_case : FnS P w K mg base CX0 k a__law_case fd__law_case P__law_case (liftSp K sp__law_case)) {a__law_all : Addr} {fd__law_all : FuncData} (n__law_all : Fn K mg "_law_all" s__law_all P__law_all a__law_all fd__law_all) (G__law_all : FnS P w K mg base CX0 k a__law_all fd__law_all P__law_all (liftSp K sp__law_all)) {a_counts_of : Addr} {fd_counts_of : FuncData} (n_counts_of : Fn K mg "counts_of" s_counts_of P_counts_of a_counts_of fd_counts_of) (G_counts_of : FnS P w K mg base CX0 k a_counts_of fd_counts_of P_counts_of (liftSp K sp_counts_of)) {a__law_take : Addr} {fd__law_take : FuncData} (n__law_take : Fn K mg "_law_take" s__law_take P__law_take a__law_take fd__law_take) (G__law_take : FnS P w K mg base CX0 k a__law_take fd__law_take P__law_take (liftSp K sp__law_take)) (m_range : mg "range" = none) (m_len : mg "len" = none) (m_min : mg "min" = none) (m_max : mg "max" = none) (m_list : mg "list" = none) (m_isinstance : mg "isinstance" = none) (m_int : mg "int" = none) (m_bool : mg "bool" = none)
    (cdv : Value) (A : Around) (outer : List Env) (s : Shared) (H : Hp) (E : XK) (hr : RoomS k (A.deeper (envOfC "law" (defScope s_law) s.heap.objs.size f cdv))) :
    DSs MT (cxOf CX0 P w K mg base N_law "law" (defScope s_law) f cdv A outer s H E).nox (defBody s_law) (g_law sp__law_pool sp__law_case sp__law_all sp_counts_of sp__law_take) :=
  (dss_cons (ds_for PassesOwn.never rfl (di_range1 (by rfl) m_range (da_cons (de_callB (cd_max2 (by rfl)) (by rfl) m_max bb_max (da_cons de_int (da_cons (de_callB (cd_min2 (by rfl)) (by rfl) m_min bb_min (da_cons (de_callB cd_len (by rfl) m_len bb_len (da_cons (de_var 0) da_nil)) (da_cons de_int da_nil))) da_nil))) da_nil)) (dp_name (i := 1) sc_law.nd (by rfl) (by first | exact Or.inl rfl | exact Or.inr rfl)) (dss_cons (ds_set (i := 2) sc_law.nd rfl (by first | exact Or.inl rfl | exact Or.inr rfl) (de_callNS n__law_pool G__law_pool hr (by rfl) (da_cons (de_var 0) (da_cons (de_var 1) da_nil)))) (dss_cons (ds_asg (de_callNS n__law_case G__law_case hr (by rfl) (da_cons (de_var 2) (da_cons de_int da_nil))) (dp_tup (by rfl) (dps_cons (dp_name (i := 3) sc_law.nd (by rfl) (by first | exact Or.inl rfl | exact Or.inr rfl)) (dps_cons (dp_name (i := 4) sc_law.nd (by rfl) (by first | exact Or.inl rfl | exact Or.inr rfl)) dps_nil)))) (dss_cons (ds_set (i := 5) sc_law.nd rfl (by first | exact Or.inl rfl | exact Or.inr rfl) (de_disp (dpr_cons de_bl (dpr_cons de_dicO dpr_nil)))) (dss_cons (ds_set (i := 6) sc_law.nd rfl (by first | exact Or.inl rfl | exact Or.inr rfl) (de_lc (by rfl) sc_law.nd (di_list (de_callNS n__law_all G__law_all hr (by rfl) (da_cons (de_var 3) (da_cons (de_var 4) (da_cons (de_tup (da_cons de_int (da_cons de_int (da_cons (de_var 5) da_nil)))) da_nil))))) (blkOk_by (own := [("_law_program", 11), ("_law_size", 12)]) (N := N_law) (sc := defScope s_law) (by decide +kernel)) (fun _ _ _ _ _ => (dp_tup (by rfl) (dps_cons (dp_name (i := 11) sc_law.nd (by rfl) (by first | exact Or.inl rfl | exact Or.inr rfl)) (dps_cons (dp_name (i := 12) sc_law.nd (by rfl) (by first | exact Or.inl rfl | exact Or.inr rfl)) dps_nil)))) (fun _ _ _ _ _ => dts_nil) (fun _ _ _ _ _ => (de_var 12)))) (dss_cons (ds_set (i := 7) sc_law.nd rfl (by first | exact Or.inl rfl | exact Or.inr rfl) (de_callTy cd_list1 (by rfl) m_list bb_list (da_cons (de_var 3) da_nil))) (dss_cons (ds_set (i := 8) sc_law.nd rfl (by first | exact Or.inl rfl | exact Or.inr rfl) (de_callNS n_counts_of G_counts_of hr (by rfl) (da_cons (de_var 7) (da_cons (de_var 4) (da_cons de_int da_nil))))) (dss_cons (ds_if (dt_of (dw_or (dt_not (dt_val (de_callB cd_isi (by rfl) m_isinstance bb_isinstance (da_cons (de_var 8) (da_cons (de_ty bb_list m_list (by rfl)) da_nil))))) (dw_or (dt_cmp (od_ne hr.u200) (de_callB cd_len (by rfl) m_len bb_len (da_cons (de_var 8) da_nil)) de_int (nomark _)) (dw_or1 (dt_cmp (od_ne hr.u200) (de_var 7) (de_var 3) (nomark _)))))) (dss_one (ds_ret de_bl)) dss_nil) (dss_cons (ds_if (dt_cmp (od_ne hr.u200) (de_lcJ (by rfl) sc_law.nd (dj_list (de_var 8)) (blkOk_by (own := [("_law_one", 13)]) (N := N_law) (sc := defScope s_law) (by decide +kernel)) (fun _ _ _ _ _ => (dp_name (i := 13) sc_law.nd (by rfl) (by first | exact Or.inl rfl | exact Or.inr rfl))) (fun _ _ _ _ _ => (dts_one (dt_of (dw_or (dt_not (dt_val (de_callB cd_isi (by rfl) m_isinstance bb_isinstance (da_cons (de_var 13) (da_cons (de_ty bb_int m_int (by rfl)) da_nil))))) (dw_or1 (dt_val (de_callB cd_isi (by rfl) m_isinstance bb_isinstance (da_cons (de_var 13) (da_cons (de_ty bb_bool m_bool (by rfl)) da_nil))))))))) (fun _ _ _ _ _ => (de_var 13))) (de_lst da_nil) (nomark _)) (dss_one (ds_ret de_bl)) dss_nil) (dss_cons (ds_if (dt_of (dw_and (dt_not (dt_val (de_dget hr.u200 (de_var 5) de_str))) (dw_and1 (dt_cmp (od_ne hr.u200) (de_var 8) (de_lc (by rfl) sc_law.nd (di_range1 (by rfl) m_range (da_cons de_int da_nil)) (blkOk_by (own := [("_law_size", 12)]) (N := N_law) (sc := defScope s_law) (by decide +kernel)) (fun _ _ _ _ _ => (dp_name (i := 12) sc_law.nd (by rfl) (by first | exact Or.inl rfl | exact Or.inr rfl))) (fun _ _ _ _ _ => dts_nil) (fun _ _ _ _ _ => (de_bm PySem.F.plainAttrs_list PySem.F.slot_list_count PySem.F.type_list_count md_cntL (de_var 6) (da_cons (de_var 12) da_nil)))) (nomark _))))) (dss_one (ds_ret de_bl)) dss_nil) (dss_cons (ds_set (i := 9) sc_law.nd rfl (by first | exact Or.inl rfl | exact Or.inr rfl) (de_callNS n__law_take G__law_take hr (by rfl) (da_cons (de_var 2) (da_cons de_int da_nil)))) (dss_cons (ds_set (i := 10) sc_law.nd rfl (by first | exact Or.inl rfl | exact Or.inr rfl) (de_callTy cd_list1 (by rfl) m_list bb_list (da_cons (de_var 8) da_nil))) (dss_cons (ds_expr (de_bm0 PySem.F.plainAttrs_list PySem.F.slot_list_clear PySem.F.type_list_clear md_clear (de_var 8))) (dss_one (ds_if (dt_cmp (od_ne hr.u200) (de_callNS n_counts_of G_counts_of hr (by rfl) (da_cons (de_var 7) (da_cons (de_var 4) (da_cons (de_var 9) da_nil)))) (de_slice (de_var 10) do_none (do_some (de_op od_add (de_var 9) de_int))) (nomark _)) (dss_one (ds_ret de_bl)) dss_nil))))))))))))))) (dss_one (ds_ret de_bl)))
/-! ### all facts of the text -/
structure TxW (w : World) (K : PySem.W.Frag) (mg : Str → Option Value) where
  C_Counter : Addr
  cl_Counter : Cls K C_Counter
  na_Counter_ways : NoAttr K C_Counter "ways"
  na_Counter_sums : NoAttr K C_Counter "sums"
  a_is_mark : Addr
  fd_is_mark : FuncData
  n_is_mark : Fn K mg "is_mark" s_is_mark P_is_mark a_is_mark fd_is_mark
  a_has_form : Addr
  fd_has_form : FuncData
  n_has_form : Fn K mg "has_form" s_has_form P_has_form a_has_form fd_has_form
  a_is_kind : Addr
  fd_is_kind : FuncData
  n_is_kind : Fn K mg "is_kind" s_is_kind P_is_kind a_is_kind fd_is_kind
  a_leaves_of : Addr
  fd_leaves_of : FuncData
  n_leaves_of : Fn K mg "leaves_of" s_leaves_of P_leaves_of a_leaves_of fd_leaves_of
  a_ends_of : Addr
  fd_ends_of : FuncData
  n_ends_of : Fn K mg "ends_of" s_ends_of P_ends_of a_ends_of fd_ends_of
  a_ways_of : Addr
  fd_ways_of : FuncData
  n_ways_of : Fn K mg "ways_of" s_ways_of P_ways_of a_ways_of fd_ways_of
  a_shown_kind : Addr
  fd_shown_kind : FuncData
  n_shown_kind : Fn K mg "shown_kind" s_shown_kind P_shown_kind a_shown_kind fd_shown_kind
  a_word_at : Addr
  fd_word_at : FuncData
  n_word_at : Fn K mg "word_at" s_word_at P_word_at a_word_at fd_word_at
  a_kind_from : Addr
  fd_kind_from : FuncData
  n_kind_from : Fn K mg "kind_from" s_kind_from P_kind_from a_kind_from fd_kind_from
  a_read_kind : Addr
  fd_read_kind : FuncData
  n_read_kind : Fn K mg "read_kind" s_read_kind P_read_kind a_read_kind fd_read_kind
  a_move_ends : Addr
  fd_move_ends : FuncData
  n_move_ends : Fn K mg "move_ends" s_move_ends P_move_ends a_move_ends fd_move_ends
  a_Counter___init__ : Addr
  fd_Counter___init__ : FuncData
  n_Counter___init__ : Mt K C_Counter "__init__" "Counter.__init__" s_Counter___init__ P_Counter___init__ a_Counter___init__ fd_Counter___init__
  a_Counter_ways_by : Addr
  fd_Counter_ways_by : FuncData
  n_Counter_ways_by : Mt K C_Counter "ways_by" "Counter.ways_by" s_Counter_ways_by P_Counter_ways_by a_Counter_ways_by fd_Counter_ways_by
  a_Counter_put_in : Addr
  fd_Counter_put_in : FuncData
  n_Counter_put_in : Mt K C_Counter "put_in" "Counter.put_in" s_Counter_put_in P_Counter_put_in a_Counter_put_in fd_Counter_put_in
  a_Counter_tasks : Addr
  fd_Counter_tasks : FuncData
  n_Counter_tasks : Mt K C_Counter "tasks" "Counter.tasks" s_Counter_tasks P_Counter_tasks a_Counter_tasks fd_Counter_tasks
  a_Counter_many : Addr
  fd_Counter_many : FuncData
  n_Counter_many : Mt K C_Counter "many" "Counter.many" s_Counter_many P_Counter_many a_Counter_many fd_Counter_many
  a_Counter_many_of : Addr
  fd_Counter_many_of : FuncData
  n_Counter_many_of : Mt K C_Counter "many_of" "Counter.many_of" s_Counter_many_of P_Counter_many_of a_Counter_many_of fd_Counter_many_of
  a_Counter_begun : Addr
  fd_Counter_begun : FuncData
  n_Counter_begun : Mt K C_Counter "begun" "Counter.begun" s_Counter_begun P_Counter_begun a_Counter_begun fd_Counter_begun
  a_counts_of : Addr
  fd_counts_of : FuncData
  n_counts_of : Fn K mg "counts_of" s_counts_of P_counts_of a_counts_of fd_counts_of
  a__law_pool : Addr
  fd__law_pool : FuncData
  n__law_pool : Fn K mg "_law_pool" s__law_pool P__law_pool a__law_pool fd__law_pool
  a__law_take : Addr
  fd__law_take : FuncData
  n__law_take : Fn K mg "_law_take" s__law_take P__law_take a__law_take fd__law_take
  a__law_kind : Addr
  fd__law_kind : FuncData
  n__law_kind : Fn K mg "_law_kind" s__law_kind P__law_kind a__law_kind fd__law_kind
  a__law_case : Addr
  fd__law_case : FuncData
  n__law_case : Fn K mg "_law_case" s__law_case P__law_case a__law_case fd__law_case
  a__law_ways : Addr
  fd__law_ways : FuncData
  n__law_ways : Fn K mg "_law_ways" s__law_ways P__law_ways a__law_ways fd__law_ways
  a__law_all : Addr
  fd__law_all : FuncData
  n__law_all : Fn K mg "_law_all" s__law_all P__law_all a__law_all fd__law_all
  a__law_few : Addr
  fd__law_few : FuncData
  n__law_few : Fn K mg "_law_few" s__law_few P__law_few a__law_few fd__law_few
  a__law_gone : Addr
  fd__law_gone : FuncData
  n__law_gone : Fn K mg "_law_gone" s__law_gone P__law_gone a__law_gone fd__law_gone
  a_law : Addr
  fd_law : FuncData
  n_law : Fn K mg "law" s_law P_law a_law fd_law
  m_len : mg "len" = none
  m_tuple : mg "tuple" = none
  m_isinstance : mg "isinstance" = none
  m_str : mg "str" = none
  m_sorted : mg "sorted" = none
  m_int : mg "int" = none
  m_range : mg "range" = none
  m_min : mg "min" = none
  m_max : mg "max" = none
  m_list : mg "list" = none
  m_bool : mg "bool" = none
  c_LETTERS : Cst K mg "LETTERS" (.str "abcdefghijklmnopqrstuvwxyz")
  c_LONGEST : Cst K mg "LONGEST" (.int 6)
  c_ONE : Cst K mg "ONE" (.tup [(.str "one")])
  c_MOST_DEPTH : Cst K mg "MOST_DEPTH" (.int 12)
  c_MOST_LEAVES : Cst K mg "MOST_LEAVES" (.int 24)
  c_DEEPEST : Cst K mg "DEEPEST" (.int 12)
  t_SIGNS : CDic K w mg "SIGNS" tab_SIGNS
  mk_Counter : MkN K mg "Counter" C_Counter a_Counter___init__
  C_NoKind : Addr
  x_NoKind : ExN K mg "NoKind" C_NoKind
section
variable {P : Program} {w : World} {K : PySem.W.Frag} {mg : Str → Option Value} {base : Heap}
abbrev FO_is_mark (P : Program) (w : World) (base : Heap) (T : TxW w K mg) (k : Nat) (sp : DSp) : Prop := FnOk P w K mg base CX0 k T.a_is_mark T.fd_is_mark P_is_mark (liftSp K sp)
abbrev FO_has_form (P : Program) (w : World) (base : Heap) (T : TxW w K mg) (k : Nat) (sp : DSp) : Prop := FnOk P w K mg base CX0 k T.a_has_form T.fd_has_form P_has_form (liftSp K sp)
abbrev FO_is_kind (P : Program) (w : World) (base : Heap) (T : TxW w K mg) (k : Nat) (sp : DSp) : Prop := FnOk P w K mg base CX0 k T.a_is_kind T.fd_is_kind P_is_kind (liftSp K sp)
abbrev FO_leaves_of (P : Program) (w : World) (base : Heap) (T : TxW w K mg) (k : Nat) (sp : DSp) : Prop := FnOk P w K mg base CX0 k T.a_leaves_of T.fd_leaves_of P_leaves_of (liftSp K sp)
abbrev FO_ends_of (P : Program) (w : World) (base : Heap) (T : TxW w K mg) (k : Nat) (sp : DSp) : Prop := FnOk P w K mg base CX0 k T.a_ends_of T.fd_ends_of P_ends_of (liftSp K sp)
abbrev FO_ways_of (P : Program) (w : World) (base : Heap) (T : TxW w K mg) (k : Nat) (sp : DSp) : Prop := FnOk P w K mg base CX0 k T.a_ways_of T.fd_ways_of P_ways_of (liftSp K sp)
abbrev FO_shown_kind (P : Program) (w : World) (base : Heap) (T : TxW w K mg) (k : Nat) (sp : DSp) : Prop := FnOk P w K mg base CX0 k T.a_shown_kind T.fd_shown_kind P_shown_kind (liftSp K sp)
abbrev FO_word_at (P : Program) (w : World) (base : Heap) (T : TxW w K mg) (k : Nat) (sp : DSp) : Prop := FnOk P w K mg base CX0 k T.a_word_at T.fd_word_at P_word_at (liftSp K sp)
abbrev FO_kind_from (P : Program) (w : World) (base : Heap) (T : TxW w K mg) (k : Nat) (sp : DSp) : Prop := FnOk P w K mg base CX0 k T.a_kind_from T.fd_kind_from P_kind_from (liftSp K sp)
abbrev FO_read_kind (P : Program) (w : World) (base : Heap) (T : TxW w K mg) (k : Nat) (sp : DSp) : Prop := FnOk P w K mg base (L2.CX P w) k T.a_read_kind T.fd_read_kind P_read_kind (liftSp K sp)
abbrev FO_move_ends (P : Program) (w : World) (base : Heap) (T : TxW w K mg) (k : Nat) (sp : DSp) : Prop := FnOk P w K mg base CX0 k T.a_move_ends T.fd_move_ends P_move_ends (liftSp K sp)
abbrev FO_Counter___init__ (P : Program) (w : World) (base : Heap) (T : TxW w K mg) (k : Nat) (sp : DSp) : Prop := FnOk P w K mg base CX0 k T.a_Counter___init__ T.fd_Counter___init__ P_Counter___init__ (liftSp K sp)
abbrev FO_Counter_ways_by (P : Program) (w : World) (base : Heap) (T : TxW w K mg) (k : Nat) (sp : DSp) : Prop := FnOk P w K mg base CX0 k T.a_Counter_ways_by T.fd_Counter_ways_by P_Counter_ways_by (liftSp K sp)
abbrev FO_Counter_put_in (P : Program) (w : World) (base : Heap) (T : TxW w K mg) (k : Nat) (sp : DSp) : Prop := FnOk P w K mg base CX0 k T.a_Counter_put_in T.fd_Counter_put_in P_Counter_put_in (liftSp K sp)
abbrev FO_Counter_tasks (P : Program) (w : World) (base : Heap) (T : TxW w K mg) (k : Nat) (sp : DSp) : Prop := FnOk P w K mg base CX0 k T.a_Counter_tasks T.fd_Counter_tasks P_Counter_tasks (liftSp K sp)
abbrev FO_Counter_many (P : Program) (w : World) (base : Heap) (T : TxW w K mg) (k : Nat) (sp : DSp) : Prop := FnOk P w K mg base CX0 k T.a_Counter_many T.fd_Counter_many P_Counter_many (liftSp K sp)
abbrev FO_Counter_many_of (P : Program) (w : World) (base : Heap) (T : TxW w K mg) (k : Nat) (sp : DSp) : Prop := FnOk P w K mg base CX0 k T.a_Counter_many_of T.fd_Counter_many_of P_Counter_many_of (liftSp K sp)
abbrev FO_Counter_begun (P : Program) (w : World) (base : Heap) (T : TxW w K mg) (k : Nat) (sp : DSp) : Prop := FnOk P w K mg base CX0 k T.a_Counter_begun T.fd_Counter_begun P_Counter_begun (liftSp K sp)
abbrev FO_counts_of (P : Program) (w : World) (base : Heap) (T : TxW w K mg) (k : Nat) (sp : DSp) : Prop := FnOk P w K mg base CX0 k T.a_counts_of T.fd_counts_of P_counts_of (liftSp K sp)
abbrev FT_counts_of (P : Program) (w : World) (base : Heap) (T : TxW w K mg) (k : Nat) (sp : DSp) : Prop := FnS P w K mg base CX0 k T.a_counts_of T.fd_counts_of P_counts_of (liftSp K sp)
abbrev FT__law_pool (P : Program) (w : World) (base : Heap) (T : TxW w K mg) (k : Nat) (sp : DSp) : Prop := FnS P w K mg base CX0 k T.a__law_pool T.fd__law_pool P__law_pool (liftSp K sp)
abbrev FO__law_take (P : Program) (w : World) (base : Heap) (T : TxW w K mg) (k : Nat) (sp : DSp) : Prop := FnOk P w K mg base CX0 k T.a__law_take T.fd__law_take P__law_take (liftSp K sp)
abbrev FT__law_take (P : Program) (w : World) (base : Heap) (T : TxW w K mg) (k : Nat) (sp : DSp) : Prop := FnS P w K mg base CX0 k T.a__law_take T.fd__law_take P__law_take (liftSp K sp)
abbrev FO__law_kind (P : Program) (w : World) (base : Heap) (T : TxW w K mg) (k : Nat) (sp : DSp) : Prop := FnOk P w K mg base CX0 k T.a__law_kind T.fd__law_kind P__law_kind (liftSp K sp)
abbrev FO__law_case (P : Program) (w : World) (base : Heap) (T : TxW w K mg) (k : Nat) (sp : DSp) : Prop := FnOk P w K mg base CX0 k T.a__law_case T.fd__law_case P__law_case (liftSp K sp)
abbrev FT__law_case (P : Program) (w : World) (base : Heap) (T : TxW w K mg) (k : Nat) (sp : DSp) : Prop := FnS P w K mg base CX0 k T.a__law_case T.fd__law_case P__law_case (liftSp K sp)
abbrev FO__law_ways (P : Program) (w : World) (base : Heap) (T : TxW w K mg) (k : Nat) (sp : DSp) : Prop := FnOk P w K mg base CX0 k T.a__law_ways T.fd__law_ways P__law_ways (liftSp K sp)
abbrev FT__law_ways (P : Program) (w : World) (base : Heap) (T : TxW w K mg) (k : Nat) (sp : DSp) : Prop := FnS P w K mg base CX0 k T.a__law_ways T.fd__law_ways P__law_ways (liftSp K sp)
abbrev FT__law_all (P : Program) (w : World) (base : Heap) (T : TxW w K mg) (k : Nat) (sp : DSp) : Prop := FnS P w K mg base CX0 k T.a__law_all T.fd__law_all P__law_all (liftSp K sp)
abbrev FO__law_few (P : Program) (w : World) (base : Heap) (T : TxW w K mg) (k : Nat) (sp : DSp) : Prop := FnOk P w K mg base CX0 k T.a__law_few T.fd__law_few P__law_few (liftSp K sp)
abbrev FT__law_few (P : Program) (w : World) (base : Heap) (T : TxW w K mg) (k : Nat) (sp : DSp) : Prop := FnS P w K mg base CX0 k T.a__law_few T.fd__law_few P__law_few (liftSp K sp)
abbrev FT__law_gone (P : Program) (w : World) (base : Heap) (T : TxW w K mg) (k : Nat) (sp : DSp) : Prop := FnS P w K mg base CX0 k T.a__law_gone T.fd__law_gone P__law_gone (liftSp K sp)
abbrev FT_law (P : Program) (w : World) (base : Heap) (T : TxW w K mg) (k : Nat) (sp : DSp) : Prop := FnS P w K mg base CX0 k T.a_law T.fd_law P_law (liftSp K sp)
theorem fnd_has_form {k : Nat} {dsp sp_is_mark sp_has_form : DSp} (T : TxW w K mg) (G_is_mark : FO_is_mark P w base T k sp_is_mark) (G_has_form : FO_has_form P w base T k sp_has_form)
    (len : ∀ ds O R RE, dsp ds O R RE → ds.length = 2) (hread : ∀ ds O R RE, dsp ds O R RE → g_has_form sp_is_mark sp_has_form (.tup [(.str "one")]) { nx := fun _ O' => R .non O', rt := R } (startD N_has_form ds) O) : FO_has_form P w base T (k + 1) dsp :=
  fn_d (g := g_has_form sp_is_mark sp_has_form (.tup [(.str "one")])) T.n_has_form.F sc_has_form len (der_has_form T.n_is_mark G_is_mark T.n_has_form G_has_form T.m_tuple T.m_isinstance T.m_len T.m_str T.c_ONE) hread
theorem fnd_is_kind {k : Nat} {dsp sp_has_form sp_leaves_of : DSp} (T : TxW w K mg) (G_has_form : FO_has_form P w base T k sp_has_form) (G_leaves_of : FO_leaves_of P w base T k sp_leaves_of)
    (len : ∀ ds O R RE, dsp ds O R RE → ds.length = 1) (hread : ∀ ds O R RE, dsp ds O R RE → g_is_kind sp_has_form sp_leaves_of (.int 12) (.int 24) { nx := fun _ O' => R .non O', rt := R } (startD N_is_kind ds) O) : FO_is_kind P w base T (k + 1) dsp :=
  fn_d (g := g_is_kind sp_has_form sp_leaves_of (.int 12) (.int 24)) T.n_is_kind.F sc_is_kind len (der_is_kind T.n_has_form G_has_form T.n_leaves_of G_leaves_of T.c_MOST_DEPTH T.c_MOST_LEAVES) hread
theorem fnd_ends_of {k : Nat} {dsp sp_ends_of : DSp} (T : TxW w K mg) (G_ends_of : FO_ends_of P w base T k sp_ends_of)
    (len : ∀ ds O R RE, dsp ds O R RE → ds.length = 1) (hread : ∀ ds O R RE, dsp ds O R RE → g_ends_of sp_ends_of (.tup [(.str "one")]) { nx := fun _ O' => R .non O', rt := R } (startD N_ends_of ds) O) : FO_ends_of P w base T (k + 1) dsp :=
  fn_d (g := g_ends_of sp_ends_of (.tup [(.str "one")])) T.n_ends_of.F sc_ends_of len (der_ends_of T.n_ends_of G_ends_of T.c_ONE) hread
theorem fnd_ways_of {k : Nat} {dsp sp_ways_of : DSp} (T : TxW w K mg) (G_ways_of : FO_ways_of P w base T k sp_ways_of)
    (len : ∀ ds O R RE, dsp ds O R RE → ds.length = 1) (hread : ∀ ds O R RE, dsp ds O R RE → g_ways_of sp_ways_of (.tup [(.str "one")]) { nx := fun _ O' => R .non O', rt := R } (startD N_ways_of ds) O) : FO_ways_of P w base T (k + 1) dsp :=
  fn_d (g := g_ways_of sp_ways_of (.tup [(.str "one")])) T.n_ways_of.F sc_ways_of len (der_ways_of T.n_ways_of G_ways_of T.c_ONE) hread
theorem fnd_shown_kind {k : Nat} {dsp sp_shown_kind : DSp} (T : TxW w K mg) (G_shown_kind : FO_shown_kind P w base T k sp_shown_kind)
    (len : ∀ ds O R RE, dsp ds O R RE → ds.length = 1) (hread : ∀ ds O R RE, dsp ds O R RE → g_shown_kind sp_shown_kind (.tup [(.str "one")]) { nx := fun _ O' => R .non O', rt := R } (startD N_shown_kind ds) O) : FO_shown_kind P w base T (k + 1) dsp :=
  fn_d (g := g_shown_kind sp_shown_kind (.tup [(.str "one")])) T.n_shown_kind.F sc_shown_kind len (der_shown_kind T.n_shown_kind G_shown_kind T.c_ONE) hread
theorem fnd_word_at {k : Nat} {dsp  : DSp} (T : TxW w K mg) 
    (len : ∀ ds O R RE, dsp ds O R RE → ds.length = 2) (hread : ∀ ds O R RE, dsp ds O R RE → g_word_at  { nx := fun _ O' => R .non O', rt := R } (startD N_word_at ds) O) : FO_word_at P w base T (k + 1) dsp :=
  fn_d (g := g_word_at ) T.n_word_at.F sc_word_at len (der_word_at T.m_len) hread
theorem fnd_kind_from {k : Nat} {dsp sp_word_at sp_is_mark sp_kind_from : DSp} (T : TxW w K mg) (G_word_at : FO_word_at P w base T k sp_word_at) (G_is_mark : FO_is_mark P w base T k sp_is_mark) (G_kind_from : FO_kind_from P w base T k sp_kind_from)
    (len : ∀ ds O R RE, dsp ds O R RE → ds.length = 3) (hread : ∀ ds O R RE, dsp ds O R RE → g_kind_from sp_word_at sp_is_mark sp_kind_from (.tup [(.str "one")]) { nx := fun _ O' => R .non O', rt := R } (startD N_kind_from ds) O) : FO_kind_from P w base T (k + 1) dsp :=
  fn_d (g := g_kind_from sp_word_at sp_is_mark sp_kind_from (.tup [(.str "one")])) T.n_kind_from.F sc_kind_from len (der_kind_from T.n_word_at G_word_at T.n_is_mark G_is_mark T.n_kind_from G_kind_from T.c_ONE T.t_SIGNS) hread
theorem fnd_read_kind {k : Nat} {dsp sp_kind_from sp_is_kind : DSp} (T : TxW w K mg) (G_kind_from : FO_kind_from P w base T k sp_kind_from) (G_is_kind : FO_is_kind P w base T k sp_is_kind)
    (len : ∀ ds O R RE, dsp ds O R RE → ds.length = 1) (hread : ∀ ds O R RE, dsp ds O R RE → g_read_kind sp_kind_from sp_is_kind (.int 12) T.C_NoKind (XG RE) { nx := fun _ O' => VG R .non O', rt := VG R } (startD N_read_kind ds) O) : FO_read_kind P w base T (k + 1) dsp :=
  fn_dX (g := g_read_kind sp_kind_from sp_is_kind (.int 12) T.C_NoKind) T.n_read_kind.F sc_read_kind len (der_read_kind T.n_kind_from G_kind_from T.n_is_kind G_is_kind T.m_len T.c_DEEPEST T.x_NoKind) hread
theorem fndG_move_ends {k : Nat} {dsp sp_ends_of : DSp} (T : TxW w K mg) (G_ends_of : FO_ends_of P w base T k sp_ends_of)
    (len : ∀ ds O R RE, dsp ds O R RE → ds.length = 1) (hread : ∀ ds O R RE, dsp ds O R RE → g_move_ends sp_ends_of { nx := fun _ O' => VG R .non O', rt := VG R } (startD N_move_ends ds) O) : FO_move_ends P w base T (k + 1) dsp :=
  fn_dG (g := g_move_ends sp_ends_of) T.n_move_ends.F sc_move_ends len (der_move_ends T.n_ends_of G_ends_of) hread
theorem fnd_Counter___init__ {k : Nat} {dsp  : DSp} (T : TxW w K mg) 
    (len : ∀ ds O R RE, dsp ds O R RE → ds.length = 1) (hread : ∀ ds O R RE, dsp ds O R RE → g_Counter___init__ T.C_Counter { nx := fun _ O' => R .non O', rt := R } (startD N_Counter___init__ ds) O) : FO_Counter___init__ P w base T (k + 1) dsp :=
  fn_d (g := g_Counter___init__ T.C_Counter) T.n_Counter___init__.F sc_Counter___init__ len (der_Counter___init__ T.cl_Counter T.na_Counter_ways T.na_Counter_sums) hread
theorem fnd_Counter_ways_by {k : Nat} {dsp sp_ways_of sp_read_kind : DSp} (T : TxW w K mg) (G_ways_of : FO_ways_of P w base T k sp_ways_of) (G_read_kind : FO_read_kind P w base T k sp_read_kind)
    (len : ∀ ds O R RE, dsp ds O R RE → ds.length = 2) (hread : ∀ ds O R RE, dsp ds O R RE → g_Counter_ways_by sp_ways_of sp_read_kind T.C_Counter { nx := fun _ O' => R .non O', rt := R } (startD N_Counter_ways_by ds) O) : FO_Counter_ways_by P w base T (k + 1) dsp :=
  fn_d (g := g_Counter_ways_by sp_ways_of sp_read_kind T.C_Counter) T.n_Counter_ways_by.F sc_Counter_ways_by len (der_Counter_ways_by T.n_ways_of G_ways_of T.n_read_kind G_read_kind T.cl_Counter T.na_Counter_ways) hread
theorem fnd_Counter_put_in {k : Nat} {dsp sp_shown_kind : DSp} (T : TxW w K mg) (G_shown_kind : FO_shown_kind P w base T k sp_shown_kind)
    (len : ∀ ds O R RE, dsp ds O R RE → ds.length = 3) (hread : ∀ ds O R RE, dsp ds O R RE → g_Counter_put_in sp_shown_kind { nx := fun _ O' => R .non O', rt := R } (startD N_Counter_put_in ds) O) : FO_Counter_put_in P w base T (k + 1) dsp :=
  fn_d (g := g_Counter_put_in sp_shown_kind) T.n_Counter_put_in.F sc_Counter_put_in len (der_Counter_put_in T.n_shown_kind G_shown_kind T.m_sorted) hread
theorem fnd_Counter_tasks {k : Nat} {dsp sp_Counter_put_in : DSp} (T : TxW w K mg) (G_Counter_put_in : FO_Counter_put_in P w base T k sp_Counter_put_in)
    (len : ∀ ds O R RE, dsp ds O R RE → ds.length = 3) (hread : ∀ ds O R RE, dsp ds O R RE → g_Counter_tasks sp_Counter_put_in T.C_Counter { nx := fun _ O' => R .non O', rt := R } (startD N_Counter_tasks ds) O) : FO_Counter_tasks P w base T (k + 1) dsp :=
  fn_d (g := g_Counter_tasks sp_Counter_put_in T.C_Counter) T.n_Counter_tasks.F sc_Counter_tasks len (der_Counter_tasks T.n_Counter_put_in G_Counter_put_in T.cl_Counter) hread
theorem fnd_Counter_many {k : Nat} {dsp sp_Counter_many_of sp_Counter_many : DSp} (T : TxW w K mg) (G_Counter_many_of : FO_Counter_many_of P w base T k sp_Counter_many_of) (G_Counter_many : FO_Counter_many P w base T k sp_Counter_many)
    (len : ∀ ds O R RE, dsp ds O R RE → ds.length = 3) (hread : ∀ ds O R RE, dsp ds O R RE → g_Counter_many sp_Counter_many_of sp_Counter_many T.C_Counter { nx := fun _ O' => R .non O', rt := R } (startD N_Counter_many ds) O) : FO_Counter_many P w base T (k + 1) dsp :=
  fn_d (g := g_Counter_many sp_Counter_many_of sp_Counter_many T.C_Counter) T.n_Counter_many.F sc_Counter_many len (der_Counter_many T.n_Counter_many_of G_Counter_many_of T.n_Counter_many G_Counter_many T.m_int T.m_range T.m_len T.cl_Counter) hread
theorem fnd_Counter_many_of {k : Nat} {dsp sp_Counter_ways_by sp_Counter_many sp_Counter_tasks sp_move_ends : DSp} (T : TxW w K mg) (G_Counter_ways_by : FO_Counter_ways_by P w base T k sp_Counter_ways_by) (G_Counter_many : FO_Counter_many P w base T k sp_Counter_many) (G_Counter_tasks : FO_Counter_tasks P w base T k sp_Counter_tasks) (G_move_ends : FO_move_ends P w base T k sp_move_ends)
    (len : ∀ ds O R RE, dsp ds O R RE → ds.length = 3) (hread : ∀ ds O R RE, dsp ds O R RE → g_Counter_many_of sp_Counter_ways_by sp_Counter_many sp_Counter_tasks sp_move_ends T.C_Counter { nx := fun _ O' => R .non O', rt := R } (startD N_Counter_many_of ds) O) : FO_Counter_many_of P w base T (k + 1) dsp :=
  fn_d (g := g_Counter_many_of sp_Counter_ways_by sp_Counter_many sp_Counter_tasks sp_move_ends T.C_Counter) T.n_Counter_many_of.F sc_Counter_many_of len (der_Counter_many_of T.n_Counter_ways_by G_Counter_ways_by T.n_Counter_many G_Counter_many T.n_Counter_tasks G_Counter_tasks T.n_move_ends G_move_ends T.m_str T.cl_Counter T.na_Counter_sums) hread
theorem fnd_Counter_begun {k : Nat} {dsp sp_Counter_tasks sp_shown_kind sp_ends_of : DSp} (T : TxW w K mg) (G_Counter_tasks : FO_Counter_tasks P w base T k sp_Counter_tasks) (G_shown_kind : FO_shown_kind P w base T k sp_shown_kind) (G_ends_of : FO_ends_of P w base T k sp_ends_of)
    (len : ∀ ds O R RE, dsp ds O R RE → ds.length = 3) (hread : ∀ ds O R RE, dsp ds O R RE → g_Counter_begun sp_Counter_tasks sp_shown_kind sp_ends_of T.C_Counter { nx := fun _ O' => R .non O', rt := R } (startD N_Counter_begun ds) O) : FO_Counter_begun P w base T (k + 1) dsp :=
  fn_d (g := g_Counter_begun sp_Counter_tasks sp_shown_kind sp_ends_of T.C_Counter) T.n_Counter_begun.F sc_Counter_begun len (der_Counter_begun T.n_Counter_tasks G_Counter_tasks T.n_shown_kind G_shown_kind T.n_ends_of G_ends_of T.cl_Counter) hread
theorem fndG_counts_of {k : Nat} {dsp sp_Counter___init__ sp_Counter_begun sp_Counter_many : DSp} (T : TxW w K mg) (G_Counter___init__ : FO_Counter___init__ P w base T (k - 1) sp_Counter___init__) (hk_Counter___init__ : 1 ≤ k) (G_Counter_begun : FO_Counter_begun P w base T k sp_Counter_begun) (G_Counter_many : FO_Counter_many P w base T k sp_Counter_many)
    (len : ∀ ds O R RE, dsp ds O R RE → ds.length = 3) (hread : ∀ ds O R RE, dsp ds O R RE → g_counts_of sp_Counter___init__ sp_Counter_begun sp_Counter_many T.C_Counter { nx := fun _ O' => VG R .non O', rt := VG R } (startD N_counts_of ds) O) : FO_counts_of P w base T (k + 1) dsp :=
  fn_dG (g := g_counts_of sp_Counter___init__ sp_Counter_begun sp_Counter_many T.C_Counter) T.n_counts_of.F sc_counts_of len (der_counts_of T.n_Counter___init__ G_Counter___init__ hk_Counter___init__ T.n_Counter_begun G_Counter_begun T.n_Counter_many G_Counter_many T.m_range T.cl_Counter T.mk_Counter) hread
theorem fnd__law_kind {k : Nat} {dsp sp__law_take sp__law_kind : DSp} (T : TxW w K mg) (G__law_take : FO__law_take P w base T k sp__law_take) (G__law_kind : FO__law_kind P w base T k sp__law_kind)
    (len : ∀ ds O R RE, dsp ds O R RE → ds.length = 3) (hread : ∀ ds O R RE, dsp ds O R RE → g__law_kind sp__law_take sp__law_kind { nx := fun _ O' => R .non O', rt := R } (startD N__law_kind ds) O) : FO__law_kind P w base T (k + 1) dsp :=
  fn_d (g := g__law_kind sp__law_take sp__law_kind) T.n__law_kind.F sc__law_kind len (der__law_kind T.n__law_take G__law_take T.n__law_kind G__law_kind T.m_len) hread
theorem fndG__law_case {k : Nat} {dsp sp__law_take sp__law_kind : DSp} (T : TxW w K mg) (G__law_take : FO__law_take P w base T k sp__law_take) (G__law_kind : FO__law_kind P w base T k sp__law_kind)
    (len : ∀ ds O R RE, dsp ds O R RE → ds.length = 2) (hread : ∀ ds O R RE, dsp ds O R RE → g__law_case sp__law_take sp__law_kind { nx := fun _ O' => VG R .non O', rt := VG R } (startD N__law_case ds) O) : FO__law_case P w base T (k + 1) dsp :=
  fn_dG (g := g__law_case sp__law_take sp__law_kind) T.n__law_case.F sc__law_case len (der__law_case T.n__law_take G__law_take T.n__law_kind G__law_kind) hread
theorem fnd__law_ways {k : Nat} {dsp sp__law_ways : DSp} (T : TxW w K mg) (G__law_ways : FO__law_ways P w base T k sp__law_ways)
    (len : ∀ ds O R RE, dsp ds O R RE → ds.length = 1) (hread : ∀ ds O R RE, dsp ds O R RE → g__law_ways sp__law_ways { nx := fun _ O' => R .non O', rt := R } (startD N__law_ways ds) O) : FO__law_ways P w base T (k + 1) dsp :=
  fn_d (g := g__law_ways sp__law_ways) T.n__law_ways.F sc__law_ways len (der__law_ways T.n__law_ways G__law_ways T.m_len) hread
theorem fnd__law_all {k : Nat} {dsp sp__law_all sp__law_few sp__law_ways sp__law_gone : DSp} (T : TxW w K mg) (G__law_all : FT__law_all P w base T k sp__law_all) (G__law_few : FT__law_few P w base T k sp__law_few) (G__law_ways : FT__law_ways P w base T k sp__law_ways) (G__law_gone : FT__law_gone P w base T k sp__law_gone)
    (len : ∀ ds O R RE, dsp ds O R RE → ds.length = 3) (hread : ∀ ds O R RE, dsp ds O R RE → g__law_all sp__law_all sp__law_few sp__law_ways sp__law_gone { nx := fun _ O' => R .non O', rt := R } (startD N__law_all ds) O) : FT__law_all P w base T (k + 1) dsp :=
  fn_dS (g := g__law_all sp__law_all sp__law_few sp__law_ways sp__law_gone) T.n__law_all.F sc__law_all len (der__law_all T.n__law_all G__law_all T.n__law_few G__law_few T.n__law_ways G__law_ways T.n__law_gone G__law_gone T.m_str) hread
theorem fnd__law_few {k : Nat} {dsp  : DSp} (T : TxW w K mg) 
    (len : ∀ ds O R RE, dsp ds O R RE → ds.length = 2) (hread : ∀ ds O R RE, dsp ds O R RE → g__law_few  { nx := fun _ O' => R .non O', rt := R } (startD N__law_few ds) O) : FO__law_few P w base T (k + 1) dsp :=
  fn_d (g := g__law_few ) T.n__law_few.F sc__law_few len (der__law_few T.m_len) hread
theorem fnd__law_gone {k : Nat} {dsp sp__law_all sp__law_few : DSp} (T : TxW w K mg) (G__law_all : FT__law_all P w base T k sp__law_all) (G__law_few : FT__law_few P w base T k sp__law_few)
    (len : ∀ ds O R RE, dsp ds O R RE → ds.length = 4) (hread : ∀ ds O R RE, dsp ds O R RE → g__law_gone sp__law_all sp__law_few { nx := fun _ O' => R .non O', rt := R } (startD N__law_gone ds) O) : FT__law_gone P w base T (k + 1) dsp :=
  fn_dS (g := g__law_gone sp__law_all sp__law_few) T.n__law_gone.F sc__law_gone len (der__law_gone T.n__law_all G__law_all T.n__law_few G__law_few) hread
theorem fnd_law {k : Nat} {dsp sp__law_pool sp__law_case sp__law_all sp_counts_of sp__law_take : DSp} (T : TxW w K mg) (G__law_pool : FT__law_pool P w base T k sp__law_pool) (G__law_case : FT__law_case P w base T k sp__law_case) (G__law_all : FT__law_all P w base T k sp__law_all) (G_counts_of : FT_counts_of P w base T k sp_counts_of) (G__law_take : FT__law_take P w base T k sp__law_take)
    (len : ∀ ds O R RE, dsp ds O R RE → ds.length = 1) (hread : ∀ ds O R RE, dsp ds O R RE → g_law sp__law_pool sp__law_case sp__law_all sp_counts_of sp__law_take { nx := fun _ O' => R .non O', rt := R } (startD N_law ds) O) : FT_law P w base T (k + 1) dsp :=
  fn_dS (g := g_law sp__law_pool sp__law_case sp__law_all sp_counts_of sp__law_take) T.n_law.F sc_law len (der_law T.n__law_pool G__law_pool T.n__law_case G__law_case T.n__law_all G__law_all T.n_counts_of G_counts_of T.n__law_take G__law_take T.m_range T.m_len T.m_min T.m_max T.m_list T.m_isinstance T.m_int T.m_bool) hread
end
end Kf
namespace Kf
open PySem PySem.Spec L2
open PyProof.Rows hiding St
/-! ### words -/
abbrev fig : Str := "0123456789"
theorem strOk_iff (z : Str) : PyData.strOk z = true ↔ ∀ c ∈ z.cps.toList, c < 1114112 := by
  unfold PyData.strOk
  rw [Array.all_eq_true_iff_forall_mem]
  simp
theorem tl_app (a b : Str) : (a ++ b).cps.toList = a.cps.toList ++ b.cps.toList := by
  show (a.cps ++ b.cps).toList = _
  simp
theorem len_app (a b : Str) : (a ++ b).length = a.length + b.length := Str.length_append a b
/-! ### marks, numbers, names -/
def letB (c : Nat) : Bool := decide (c ∈ abc.cps.toList)
def figB (c : Nat) : Bool := decide (c ∈ fig.cps.toList)
def isMarkB (z : Str) : Bool := z.cps.toList.all letB && (decide (1 ≤ z.length) && decide (z.length ≤ 6))
def isNumB (z : Str) : Bool := z.cps.toList.all figB && (decide (z.cps.toList = [48]) || (!decide (z.cps.toList = []) && !decide (z.cps.toList.head? = some 48)))
def isNameB (z : Str) : Bool := isMarkB z || (decide (cut z.cps.toList none (some 1) = [120]) && (decide (z.length ≤ 3) && isNumB (cutS z (some 1) none)))
def spIsMark : DSp := fun ds O R _ => ∃ z : Str, ds = [.str z] ∧ z.length ≤ 1000 ∧ R (.bl (isMarkB z)) O
/-- a walk that goes on as long as the signs are of a text -/
theorem for_in {j : Nat} {alph : Str} {R : DEnds} {ρ : DEnv} {O : Ow} (hj : j < ρ.length) : ∀ (cs : List Nat) (x : Option D),
    (cs.all (fun c => decide (c ∈ alph.cps.toList)) = true → ∀ x, R.nx (ρ.set j x) O) → (cs.all (fun c => decide (c ∈ alph.cps.toList)) = false → R.rt (.bl false) O) →
    forD (.nm j) (gIf (fTest (fOp (rInD true) (fVar j) (fC (.str alph)))) (gRet (fC (.bl false))) gNext) R (cs.map fun c => .str ⟨#[c]⟩) (ρ.set j x) O
  | [], x, h, _ => h rfl x
  | c :: cs, x, h, h' => by
    rw [List.map_cons]
    unfold forD
    rw [patD_nm, patGet_s, List.set_set]
    simp only [gIf, fTest, fOp, fVar, fC, List.getElem?_set_self hj, envGet_s]
    refine ⟨c, rfl, _, rfl, ?_⟩
    rw [List.all_cons] at h h'
    by_cases hc : c ∈ alph.cps.toList
    · simp only [hc, decide_true, notX, Bool.not_true, gNext, Bool.true_and] at h h' ⊢
      rw [if_neg Bool.false_ne_true]
      exact for_in hj cs _ h h'
    · simp only [hc, decide_false, notX, Bool.not_false, gRet, fC, Bool.false_and] at h h' ⊢
      rw [if_pos trivial]
      exact h' trivial
end Kf
namespace Kf
open PySem PySem.Spec L2
open PyProof.Rows hiding St
/-! ### things that may be kinds -/
def isPlain : D → Bool
  | .ref _ => false
  | .ty _ => false
  | .scr _ => false
  | .tupK _ => false
  | _ => true
def strB : D → Bool
  | .str s => isMarkB s
  | _ => false
def hf : Nat → D → Bool
  | 0, _ => false
  | _ + 1, .tup [x] => deq x (.str "one")
  | _ + 1, .tup [x, y] => deq x (.str "mark") && strB y
  | n + 1, .tup [x, y, z] => (deq x (.str "to") || deq x (.str "both")) && (hf n y && hf n z)
  | _, _ => false
def HdOk (x : D) : Prop := isPy x = true ∧ dp x ≤ 64
def StOk (y : D) : Prop := isPlain y = true ∧ ∀ s, y = .str s → s.length ≤ 1000 ∧ PyData.strOk s = true
def ThOk : Nat → D → Prop
  | 0, d => isPlain d = true
  | _ + 1, .tup [x] => HdOk x
  | _ + 1, .tup [x, y] => HdOk x ∧ StOk y
  | n + 1, .tup [x, y, z] => HdOk x ∧ ThOk n y ∧ ThOk n z
  | _ + 1, d => isPlain d = true
def ThAll (d : D) : Prop := ∀ n, ThOk n d
theorem deq_str {x : D} {a : Str} (h : isPy x = true) : deq x (.str a) = true ↔ x = .str a := by
  cases x with
  | str b => rw [deq_s, decide_eq_true_eq]; simp
  | non => simp [deq, toPy, PyData.eqv]
  | bl b => simp [deq, toPy, PyData.eqv]
  | int i => simp [deq, toPy, PyData.eqv]
  | tup ds => simp [deq_ts]
  | lst ds => simp [deq_ls]
  | ref a => simp [isPy] at h
  | ty a => simp [isPy] at h
  | scr a => simp [isPy] at h
  | edic => simp [isPy] at h
  | tupK a => simp [isPy] at h
/-- what has the form is a kind -/
theorem hf_kind : ∀ (n : Nat) (d : D), ThOk n d → hf n d = true → ∃ k : Kd, d = dK k ∧ k.depth < n ∧ k.ok = true ∧ ∀ m ∈ k.marks, isMarkB m = true := by
  intro n
  induction n with
  | zero => intro d _ h; cases h
  | succ n ih =>
    intro d hd h
    match d, hd, h with
    | .tup [x], hd, h =>
      simp only [hf] at h
      simp only [ThOk] at hd
      rw [(deq_str hd.1).mp h]
      exact ⟨.one, rfl, by simp [Kd.depth], rfl, by simp [Kd.marks]⟩
    | .tup [x, y], hd, h =>
      simp only [hf, Bool.and_eq_true] at h
      simp only [ThOk] at hd
      rw [(deq_str hd.1.1).mp h.1]
      obtain ⟨hd1, hd2, hd3⟩ := hd
      match y, h.2, hd3 with
      | .str s, h2, hd3 => exact ⟨.mk s, rfl, by simp [Kd.depth], (hd3 s rfl).2, by intro m hm; simp [Kd.marks] at hm; subst hm; exact h2⟩
    | .tup [x, y, z], hd, h =>
      simp only [hf, Bool.and_eq_true, Bool.or_eq_true] at h
      simp only [ThOk] at hd
      obtain ⟨k1, rfl, h1, o1, m1⟩ := ih y hd.2.1 h.2.1
      obtain ⟨k2, rfl, h2, o2, m2⟩ := ih z hd.2.2 h.2.2
      rcases h.1 with h3 | h3
      · rw [(deq_str hd.1.1).mp h3]
        exact ⟨.to k1 k2, rfl, by simp only [Kd.depth]; omega, by simp [Kd.ok, o1, o2], by intro m hm; simp [Kd.marks] at hm; exact hm.elim (m1 m) (m2 m)⟩
      · rw [(deq_str hd.1.1).mp h3]
        exact ⟨.both k1 k2, rfl, by simp only [Kd.depth]; omega, by simp [Kd.ok, o1, o2], by intro m hm; simp [Kd.marks] at hm; exact hm.elim (m1 m) (m2 m)⟩
theorem hd_str {s : Str} (h : PyData.strOk s = true) : HdOk (.str s) := ⟨by simp [isPy, h], by rw [dpS]; omega⟩
theorem th_dK : ∀ k : Kd, k.ok = true → (∀ m ∈ k.marks, m.length ≤ 1000) → ThAll (dK k)
  | .mk m, h, hl, n => by
    cases n with
    | zero => rfl
    | succ n => exact ⟨hd_str so_mark, rfl, fun s e => by cases e; exact ⟨hl m (by simp [Kd.marks]), h⟩⟩
  | .one, h, hl, n => by
    cases n with
    | zero => rfl
    | succ n => exact hd_str so_one
  | .to a b, h, hl, n => by
    simp only [Kd.ok, Bool.and_eq_true] at h
    cases n with
    | zero => rfl
    | succ n => exact ⟨hd_str so_to, th_dK a h.1 (fun m hm => hl m (by simp [Kd.marks, hm])) n, th_dK b h.2 (fun m hm => hl m (by simp [Kd.marks, hm])) n⟩
  | .both a b, h, hl, n => by
    simp only [Kd.ok, Bool.and_eq_true] at h
    cases n with
    | zero => rfl
    | succ n => exact ⟨hd_str so_both, th_dK a h.1 (fun m hm => hl m (by simp [Kd.marks, hm])) n, th_dK b h.2 (fun m hm => hl m (by simp [Kd.marks, hm])) n⟩
def spForm (n : Nat) : DSp := fun ds O R _ => ∃ (d : D) (r : Nat), ds = [d, .int ((r : Int) - 1)] ∧ r < n ∧ ThOk r d ∧ R (.bl (hf r d)) O
def spIsKd : DSp := fun ds O R _ => ∃ d : D, ds = [d] ∧ ThOk 13 d ∧ (hf 13 d = false → R (.bl false) O) ∧ ∀ k : Kd, d = dK k → hf 13 d = true → R (.bl (decide (k.leaves ≤ 24))) O
end Kf
/-! Kpg: programs as data. -/
namespace Kf
open PySem PySem.Spec L2
open PyProof.Rows hiding St
/-! ### words -/
section
variable {neg : Bool} {O : Ow} {Q : VD}
theorem rIn_ws {z : Str} {ts : List Str} (hz : PyData.strOk z = true) (h : ∀ t ∈ ts, PyData.strOk t = true) : rInD neg (.str z) (.tup (ts.map .str)) O Q = Q (.bl (neg ^^ decide (z ∈ ts))) O := by
  have h1 : isPys (ts.map D.str) = true := by
    rw [isPys_all, List.all_eq_true]
    intro d hd
    obtain ⟨t, ht, rfl⟩ := List.mem_map.mp hd
    simp only [isPy, h t ht]
  have h2 : (ts.map D.str).any (fun x => PyData.eqv (toPy x) (toPy (.str z))) = decide (z ∈ ts) := by
    clear h h1
    induction ts with
    | nil => simp
    | cons t ts ih =>
      have e : PyData.eqv (toPy (.str t)) (toPy (.str z)) = decide (t = z) := deq_s
      rw [List.map_cons, List.any_cons, ih, e]
      by_cases h : t = z
      · subst h; simp
      · have h' : ¬ z = t := fun q => h q.symm
        simp [h, h']
  simp only [rInD, deref_str, deref_tup, isPy, hz, h1, h2, true_and]
  first | rfl | simp [dp, toPy, PyData.depth]
theorem sw_name : PyData.strOk (Str.ofString "name") = true := by decide +kernel
theorem sw_thing : PyData.strOk (Str.ofString "thing") = true := by decide +kernel
theorem sw_take : PyData.strOk (Str.ofString "take") = true := by decide +kernel
theorem sw_give : PyData.strOk (Str.ofString "give") = true := by decide +kernel
theorem sw_pair : PyData.strOk (Str.ofString "pair") = true := by decide +kernel
theorem sw_first : PyData.strOk (Str.ofString "first") = true := by decide +kernel
theorem sw_second : PyData.strOk (Str.ofString "second") = true := by decide +kernel
theorem sw_mark : PyData.strOk (Str.ofString "mark") = true := by decide +kernel
theorem sw_one : PyData.strOk (Str.ofString "one") = true := by decide +kernel
theorem sw_to : PyData.strOk (Str.ofString "to") = true := by decide +kernel
theorem sw_both : PyData.strOk (Str.ofString "both") = true := by decide +kernel
theorem sw_at : PyData.strOk (Str.ofString "at") = true := by decide +kernel
theorem te_name_take : rEqD neg (.str (Str.ofString "name")) (.str (Str.ofString "take")) O Q = Q (.bl neg) O := by
  rw [rEq_s sw_name sw_take, show decide (Str.ofString "name" = Str.ofString "take") = false by decide +kernel]; cases neg <;> rfl
theorem te_name_give : rEqD neg (.str (Str.ofString "name")) (.str (Str.ofString "give")) O Q = Q (.bl neg) O := by
  rw [rEq_s sw_name sw_give, show decide (Str.ofString "name" = Str.ofString "give") = false by decide +kernel]; cases neg <;> rfl
theorem te_name_pair : rEqD neg (.str (Str.ofString "name")) (.str (Str.ofString "pair")) O Q = Q (.bl neg) O := by
  rw [rEq_s sw_name sw_pair, show decide (Str.ofString "name" = Str.ofString "pair") = false by decide +kernel]; cases neg <;> rfl
theorem te_name_first : rEqD neg (.str (Str.ofString "name")) (.str (Str.ofString "first")) O Q = Q (.bl neg) O := by
  rw [rEq_s sw_name sw_first, show decide (Str.ofString "name" = Str.ofString "first") = false by decide +kernel]; cases neg <;> rfl
theorem te_name_second : rEqD neg (.str (Str.ofString "name")) (.str (Str.ofString "second")) O Q = Q (.bl neg) O := by
  rw [rEq_s sw_name sw_second, show decide (Str.ofString "name" = Str.ofString "second") = false by decide +kernel]; cases neg <;> rfl
theorem te_name_to : rEqD neg (.str (Str.ofString "name")) (.str (Str.ofString "to")) O Q = Q (.bl neg) O := by
  rw [rEq_s sw_name sw_to, show decide (Str.ofString "name" = Str.ofString "to") = false by decide +kernel]; cases neg <;> rfl
theorem te_name_both : rEqD neg (.str (Str.ofString "name")) (.str (Str.ofString "both")) O Q = Q (.bl neg) O := by
  rw [rEq_s sw_name sw_both, show decide (Str.ofString "name" = Str.ofString "both") = false by decide +kernel]; cases neg <;> rfl
theorem te_name_one : rEqD neg (.str (Str.ofString "name")) (.str (Str.ofString "one")) O Q = Q (.bl neg) O := by
  rw [rEq_s sw_name sw_one, show decide (Str.ofString "name" = Str.ofString "one") = false by decide +kernel]; cases neg <;> rfl
theorem te_name_mark : rEqD neg (.str (Str.ofString "name")) (.str (Str.ofString "mark")) O Q = Q (.bl neg) O := by
  rw [rEq_s sw_name sw_mark, show decide (Str.ofString "name" = Str.ofString "mark") = false by decide +kernel]; cases neg <;> rfl
theorem te_name_name : rEqD neg (.str (Str.ofString "name")) (.str (Str.ofString "name")) O Q = Q (.bl !neg) O := by
  rw [rEq_s sw_name sw_name, show decide (Str.ofString "name" = Str.ofString "name") = true by decide +kernel]; cases neg <;> rfl
theorem te_name_thing : rEqD neg (.str (Str.ofString "name")) (.str (Str.ofString "thing")) O Q = Q (.bl neg) O := by
  rw [rEq_s sw_name sw_thing, show decide (Str.ofString "name" = Str.ofString "thing") = false by decide +kernel]; cases neg <;> rfl
theorem te_name_at : rEqD neg (.str (Str.ofString "name")) (.str (Str.ofString "at")) O Q = Q (.bl neg) O := by
  rw [rEq_s sw_name sw_at, show decide (Str.ofString "name" = Str.ofString "at") = false by decide +kernel]; cases neg <;> rfl
theorem te_thing_take : rEqD neg (.str (Str.ofString "thing")) (.str (Str.ofString "take")) O Q = Q (.bl neg) O := by
  rw [rEq_s sw_thing sw_take, show decide (Str.ofString "thing" = Str.ofString "take") = false by decide +kernel]; cases neg <;> rfl
theorem te_thing_give : rEqD neg (.str (Str.ofString "thing")) (.str (Str.ofString "give")) O Q = Q (.bl neg) O := by
  rw [rEq_s sw_thing sw_give, show decide (Str.ofString "thing" = Str.ofString "give") = false by decide +kernel]; cases neg <;> rfl
theorem te_thing_pair : rEqD neg (.str (Str.ofString "thing")) (.str (Str.ofString "pair")) O Q = Q (.bl neg) O := by
  rw [rEq_s sw_thing sw_pair, show decide (Str.ofString "thing" = Str.ofString "pair") = false by decide +kernel]; cases neg <;> rfl
theorem te_thing_first : rEqD neg (.str (Str.ofString "thing")) (.str (Str.ofString "first")) O Q = Q (.bl neg) O := by
  rw [rEq_s sw_thing sw_first, show decide (Str.ofString "thing" = Str.ofString "first") = false by decide +kernel]; cases neg <;> rfl
theorem te_thing_second : rEqD neg (.str (Str.ofString "thing")) (.str (Str.ofString "second")) O Q = Q (.bl neg) O := by
  rw [rEq_s sw_thing sw_second, show decide (Str.ofString "thing" = Str.ofString "second") = false by decide +kernel]; cases neg <;> rfl
theorem te_thing_to : rEqD neg (.str (Str.ofString "thing")) (.str (Str.ofString "to")) O Q = Q (.bl neg) O := by
  rw [rEq_s sw_thing sw_to, show decide (Str.ofString "thing" = Str.ofString "to") = false by decide +kernel]; cases neg <;> rfl
theorem te_thing_both : rEqD neg (.str (Str.ofString "thing")) (.str (Str.ofString "both")) O Q = Q (.bl neg) O := by
  rw [rEq_s sw_thing sw_both, show decide (Str.ofString "thing" = Str.ofString "both") = false by decide +kernel]; cases neg <;> rfl
theorem te_thing_one : rEqD neg (.str (Str.ofString "thing")) (.str (Str.ofString "one")) O Q = Q (.bl neg) O := by
  rw [rEq_s sw_thing sw_one, show decide (Str.ofString "thing" = Str.ofString "one") = false by decide +kernel]; cases neg <;> rfl
theorem te_thing_mark : rEqD neg (.str (Str.ofString "thing")) (.str (Str.ofString "mark")) O Q = Q (.bl neg) O := by
  rw [rEq_s sw_thing sw_mark, show decide (Str.ofString "thing" = Str.ofString "mark") = false by decide +kernel]; cases neg <;> rfl
theorem te_thing_name : rEqD neg (.str (Str.ofString "thing")) (.str (Str.ofString "name")) O Q = Q (.bl neg) O := by
  rw [rEq_s sw_thing sw_name, show decide (Str.ofString "thing" = Str.ofString "name") = false by decide +kernel]; cases neg <;> rfl
theorem te_thing_thing : rEqD neg (.str (Str.ofString "thing")) (.str (Str.ofString "thing")) O Q = Q (.bl !neg) O := by
  rw [rEq_s sw_thing sw_thing, show decide (Str.ofString "thing" = Str.ofString "thing") = true by decide +kernel]; cases neg <;> rfl
theorem te_thing_at : rEqD neg (.str (Str.ofString "thing")) (.str (Str.ofString "at")) O Q = Q (.bl neg) O := by
  rw [rEq_s sw_thing sw_at, show decide (Str.ofString "thing" = Str.ofString "at") = false by decide +kernel]; cases neg <;> rfl
theorem te_take_take : rEqD neg (.str (Str.ofString "take")) (.str (Str.ofString "take")) O Q = Q (.bl !neg) O := by
  rw [rEq_s sw_take sw_take, show decide (Str.ofString "take" = Str.ofString "take") = true by decide +kernel]; cases neg <;> rfl
theorem te_take_give : rEqD neg (.str (Str.ofString "take")) (.str (Str.ofString "give")) O Q = Q (.bl neg) O := by
  rw [rEq_s sw_take sw_give, show decide (Str.ofString "take" = Str.ofString "give") = false by decide +kernel]; cases neg <;> rfl
theorem te_take_pair : rEqD neg (.str (Str.ofString "take")) (.str (Str.ofString "pair")) O Q = Q (.bl neg) O := by
  rw [rEq_s sw_take sw_pair, show decide (Str.ofString "take" = Str.ofString "pair") = false by decide +kernel]; cases neg <;> rfl
theorem te_take_first : rEqD neg (.str (Str.ofString "take")) (.str (Str.ofString "first")) O Q = Q (.bl neg) O := by
  rw [rEq_s sw_take sw_first, show decide (Str.ofString "take" = Str.ofString "first") = false by decide +kernel]; cases neg <;> rfl
theorem te_take_second : rEqD neg (.str (Str.ofString "take")) (.str (Str.ofString "second")) O Q = Q (.bl neg) O := by
  rw [rEq_s sw_take sw_second, show decide (Str.ofString "take" = Str.ofString "second") = false by decide +kernel]; cases neg <;> rfl
theorem te_take_to : rEqD neg (.str (Str.ofString "take")) (.str (Str.ofString "to")) O Q = Q (.bl neg) O := by
  rw [rEq_s sw_take sw_to, show decide (Str.ofString "take" = Str.ofString "to") = false by decide +kernel]; cases neg <;> rfl
theorem te_take_both : rEqD neg (.str (Str.ofString "take")) (.str (Str.ofString "both")) O Q = Q (.bl neg) O := by
  rw [rEq_s sw_take sw_both, show decide (Str.ofString "take" = Str.ofString "both") = false by decide +kernel]; cases neg <;> rfl
theorem te_take_one : rEqD neg (.str (Str.ofString "take")) (.str (Str.ofString "one")) O Q = Q (.bl neg) O := by
  rw [rEq_s sw_take sw_one, show decide (Str.ofString "take" = Str.ofString "one") = false by decide +kernel]; cases neg <;> rfl
theorem te_take_mark : rEqD neg (.str (Str.ofString "take")) (.str (Str.ofString "mark")) O Q = Q (.bl neg) O := by
  rw [rEq_s sw_take sw_mark, show decide (Str.ofString "take" = Str.ofString "mark") = false by decide +kernel]; cases neg <;> rfl
theorem te_take_name : rEqD neg (.str (Str.ofString "take")) (.str (Str.ofString "name")) O Q = Q (.bl neg) O := by
  rw [rEq_s sw_take sw_name, show decide (Str.ofString "take" = Str.ofString "name") = false by decide +kernel]; cases neg <;> rfl
theorem te_take_thing : rEqD neg (.str (Str.ofString "take")) (.str (Str.ofString "thing")) O Q = Q (.bl neg) O := by
  rw [rEq_s sw_take sw_thing, show decide (Str.ofString "take" = Str.ofString "thing") = false by decide +kernel]; cases neg <;> rfl
theorem te_take_at : rEqD neg (.str (Str.ofString "take")) (.str (Str.ofString "at")) O Q = Q (.bl neg) O := by
  rw [rEq_s sw_take sw_at, show decide (Str.ofString "take" = Str.ofString "at") = false by decide +kernel]; cases neg <;> rfl
theorem te_give_take : rEqD neg (.str (Str.ofString "give")) (.str (Str.ofString "take")) O Q = Q (.bl neg) O := by
  rw [rEq_s sw_give sw_take, show decide (Str.ofString "give" = Str.ofString "take") = false by decide +kernel]; cases neg <;> rfl
theorem te_give_give : rEqD neg (.str (Str.ofString "give")) (.str (Str.ofString "give")) O Q = Q (.bl !neg) O := by
  rw [rEq_s sw_give sw_give, show decide (Str.ofString "give" = Str.ofString "give") = true by decide +kernel]; cases neg <;> rfl
theorem te_give_pair : rEqD neg (.str (Str.ofString "give")) (.str (Str.ofString "pair")) O Q = Q (.bl neg) O := by
  rw [rEq_s sw_give sw_pair, show decide (Str.ofString "give" = Str.ofString "pair") = false by decide +kernel]; cases neg <;> rfl
theorem te_give_first : rEqD neg (.str (Str.ofString "give")) (.str (Str.ofString "first")) O Q = Q (.bl neg) O := by
  rw [rEq_s sw_give sw_first, show decide (Str.ofString "give" = Str.ofString "first") = false by decide +kernel]; cases neg <;> rfl
theorem te_give_second : rEqD neg (.str (Str.ofString "give")) (.str (Str.ofString "second")) O Q = Q (.bl neg) O := by
  rw [rEq_s sw_give sw_second, show decide (Str.ofString "give" = Str.ofString "second") = false by decide +kernel]; cases neg <;> rfl
theorem te_give_to : rEqD neg (.str (Str.ofString "give")) (.str (Str.ofString "to")) O Q = Q (.bl neg) O := by
  rw [rEq_s sw_give sw_to, show decide (Str.ofString "give" = Str.ofString "to") = false by decide +kernel]; cases neg <;> rfl
theorem te_give_both : rEqD neg (.str (Str.ofString "give")) (.str (Str.ofString "both")) O Q = Q (.bl neg) O := by
  rw [rEq_s sw_give sw_both, show decide (Str.ofString "give" = Str.ofString "both") = false by decide +kernel]; cases neg <;> rfl
theorem te_give_one : rEqD neg (.str (Str.ofString "give")) (.str (Str.ofString "one")) O Q = Q (.bl neg) O := by
  rw [rEq_s sw_give sw_one, show decide (Str.ofString "give" = Str.ofString "one") = false by decide +kernel]; cases neg <;> rfl
theorem te_give_mark : rEqD neg (.str (Str.ofString "give")) (.str (Str.ofString "mark")) O Q = Q (.bl neg) O := by
  rw [rEq_s sw_give sw_mark, show decide (Str.ofString "give" = Str.ofString "mark") = false by decide +kernel]; cases neg <;> rfl
theorem te_give_name : rEqD neg (.str (Str.ofString "give")) (.str (Str.ofString "name")) O Q = Q (.bl neg) O := by
  rw [rEq_s sw_give sw_name, show decide (Str.ofString "give" = Str.ofString "name") = false by decide +kernel]; cases neg <;> rfl
theorem te_give_thing : rEqD neg (.str (Str.ofString "give")) (.str (Str.ofString "thing")) O Q = Q (.bl neg) O := by
  rw [rEq_s sw_give sw_thing, show decide (Str.ofString "give" = Str.ofString "thing") = false by decide +kernel]; cases neg <;> rfl
theorem te_give_at : rEqD neg (.str (Str.ofString "give")) (.str (Str.ofString "at")) O Q = Q (.bl neg) O := by
  rw [rEq_s sw_give sw_at, show decide (Str.ofString "give" = Str.ofString "at") = false by decide +kernel]; cases neg <;> rfl
theorem te_pair_take : rEqD neg (.str (Str.ofString "pair")) (.str (Str.ofString "take")) O Q = Q (.bl neg) O := by
  rw [rEq_s sw_pair sw_take, show decide (Str.ofString "pair" = Str.ofString "take") = false by decide +kernel]; cases neg <;> rfl
theorem te_pair_give : rEqD neg (.str (Str.ofString "pair")) (.str (Str.ofString "give")) O Q = Q (.bl neg) O := by
  rw [rEq_s sw_pair sw_give, show decide (Str.ofString "pair" = Str.ofString "give") = false by decide +kernel]; cases neg <;> rfl
theorem te_pair_pair : rEqD neg (.str (Str.ofString "pair")) (.str (Str.ofString "pair")) O Q = Q (.bl !neg) O := by
  rw [rEq_s sw_pair sw_pair, show decide (Str.ofString "pair" = Str.ofString "pair") = true by decide +kernel]; cases neg <;> rfl
theorem te_pair_first : rEqD neg (.str (Str.ofString "pair")) (.str (Str.ofString "first")) O Q = Q (.bl neg) O := by
  rw [rEq_s sw_pair sw_first, show decide (Str.ofString "pair" = Str.ofString "first") = false by decide +kernel]; cases neg <;> rfl
theorem te_pair_second : rEqD neg (.str (Str.ofString "pair")) (.str (Str.ofString "second")) O Q = Q (.bl neg) O := by
  rw [rEq_s sw_pair sw_second, show decide (Str.ofString "pair" = Str.ofString "second") = false by decide +kernel]; cases neg <;> rfl
theorem te_pair_to : rEqD neg (.str (Str.ofString "pair")) (.str (Str.ofString "to")) O Q = Q (.bl neg) O := by
  rw [rEq_s sw_pair sw_to, show decide (Str.ofString "pair" = Str.ofString "to") = false by decide +kernel]; cases neg <;> rfl
theorem te_pair_both : rEqD neg (.str (Str.ofString "pair")) (.str (Str.ofString "both")) O Q = Q (.bl neg) O := by
  rw [rEq_s sw_pair sw_both, show decide (Str.ofString "pair" = Str.ofString "both") = false by decide +kernel]; cases neg <;> rfl
theorem te_pair_one : rEqD neg (.str (Str.ofString "pair")) (.str (Str.ofString "one")) O Q = Q (.bl neg) O := by
  rw [rEq_s sw_pair sw_one, show decide (Str.ofString "pair" = Str.ofString "one") = false by decide +kernel]; cases neg <;> rfl
theorem te_pair_mark : rEqD neg (.str (Str.ofString "pair")) (.str (Str.ofString "mark")) O Q = Q (.bl neg) O := by
  rw [rEq_s sw_pair sw_mark, show decide (Str.ofString "pair" = Str.ofString "mark") = false by decide +kernel]; cases neg <;> rfl
theorem te_pair_name : rEqD neg (.str (Str.ofString "pair")) (.str (Str.ofString "name")) O Q = Q (.bl neg) O := by
  rw [rEq_s sw_pair sw_name, show decide (Str.ofString "pair" = Str.ofString "name") = false by decide +kernel]; cases neg <;> rfl
theorem te_pair_thing : rEqD neg (.str (Str.ofString "pair")) (.str (Str.ofString "thing")) O Q = Q (.bl neg) O := by
  rw [rEq_s sw_pair sw_thing, show decide (Str.ofString "pair" = Str.ofString "thing") = false by decide +kernel]; cases neg <;> rfl
theorem te_pair_at : rEqD neg (.str (Str.ofString "pair")) (.str (Str.ofString "at")) O Q = Q (.bl neg) O := by
  rw [rEq_s sw_pair sw_at, show decide (Str.ofString "pair" = Str.ofString "at") = false by decide +kernel]; cases neg <;> rfl
theorem te_first_take : rEqD neg (.str (Str.ofString "first")) (.str (Str.ofString "take")) O Q = Q (.bl neg) O := by
  rw [rEq_s sw_first sw_take, show decide (Str.ofString "first" = Str.ofString "take") = false by decide +kernel]; cases neg <;> rfl
theorem te_first_give : rEqD neg (.str (Str.ofString "first")) (.str (Str.ofString "give")) O Q = Q (.bl neg) O := by
  rw [rEq_s sw_first sw_give, show decide (Str.ofString "first" = Str.ofString "give") = false by decide +kernel]; cases neg <;> rfl
theorem te_first_pair : rEqD neg (.str (Str.ofString "first")) (.str (Str.ofString "pair")) O Q = Q (.bl neg) O := by
  rw [rEq_s sw_first sw_pair, show decide (Str.ofString "first" = Str.ofString "pair") = false by decide +kernel]; cases neg <;> rfl
theorem te_first_first : rEqD neg (.str (Str.ofString "first")) (.str (Str.ofString "first")) O Q = Q (.bl !neg) O := by
  rw [rEq_s sw_first sw_first, show decide (Str.ofString "first" = Str.ofString "first") = true by decide +kernel]; cases neg <;> rfl
theorem te_first_second : rEqD neg (.str (Str.ofString "first")) (.str (Str.ofString "second")) O Q = Q (.bl neg) O := by
  rw [rEq_s sw_first sw_second, show decide (Str.ofString "first" = Str.ofString "second") = false by decide +kernel]; cases neg <;> rfl
theorem te_first_to : rEqD neg (.str (Str.ofString "first")) (.str (Str.ofString "to")) O Q = Q (.bl neg) O := by
  rw [rEq_s sw_first sw_to, show decide (Str.ofString "first" = Str.ofString "to") = false by decide +kernel]; cases neg <;> rfl
theorem te_first_both : rEqD neg (.str (Str.ofString "first")) (.str (Str.ofString "both")) O Q = Q (.bl neg) O := by
  rw [rEq_s sw_first sw_both, show decide (Str.ofString "first" = Str.ofString "both") = false by decide +kernel]; cases neg <;> rfl
theorem te_first_one : rEqD neg (.str (Str.ofString "first")) (.str (Str.ofString "one")) O Q = Q (.bl neg) O := by
  rw [rEq_s sw_first sw_one, show decide (Str.ofString "first" = Str.ofString "one") = false by decide +kernel]; cases neg <;> rfl
theorem te_first_mark : rEqD neg (.str (Str.ofString "first")) (.str (Str.ofString "mark")) O Q = Q (.bl neg) O := by
  rw [rEq_s sw_first sw_mark, show decide (Str.ofString "first" = Str.ofString "mark") = false by decide +kernel]; cases neg <;> rfl
theorem te_first_name : rEqD neg (.str (Str.ofString "first")) (.str (Str.ofString "name")) O Q = Q (.bl neg) O := by
  rw [rEq_s sw_first sw_name, show decide (Str.ofString "first" = Str.ofString "name") = false by decide +kernel]; cases neg <;> rfl
theorem te_first_thing : rEqD neg (.str (Str.ofString "first")) (.str (Str.ofString "thing")) O Q = Q (.bl neg) O := by
  rw [rEq_s sw_first sw_thing, show decide (Str.ofString "first" = Str.ofString "thing") = false by decide +kernel]; cases neg <;> rfl
theorem te_first_at : rEqD neg (.str (Str.ofString "first")) (.str (Str.ofString "at")) O Q = Q (.bl neg) O := by
  rw [rEq_s sw_first sw_at, show decide (Str.ofString "first" = Str.ofString "at") = false by decide +kernel]; cases neg <;> rfl
theorem te_second_take : rEqD neg (.str (Str.ofString "second")) (.str (Str.ofString "take")) O Q = Q (.bl neg) O := by
  rw [rEq_s sw_second sw_take, show decide (Str.ofString "second" = Str.ofString "take") = false by decide +kernel]; cases neg <;> rfl
theorem te_second_give : rEqD neg (.str (Str.ofString "second")) (.str (Str.ofString "give")) O Q = Q (.bl neg) O := by
  rw [rEq_s sw_second sw_give, show decide (Str.ofString "second" = Str.ofString "give") = false by decide +kernel]; cases neg <;> rfl
theorem te_second_pair : rEqD neg (.str (Str.ofString "second")) (.str (Str.ofString "pair")) O Q = Q (.bl neg) O := by
  rw [rEq_s sw_second sw_pair, show decide (Str.ofString "second" = Str.ofString "pair") = false by decide +kernel]; cases neg <;> rfl
theorem te_second_first : rEqD neg (.str (Str.ofString "second")) (.str (Str.ofString "first")) O Q = Q (.bl neg) O := by
  rw [rEq_s sw_second sw_first, show decide (Str.ofString "second" = Str.ofString "first") = false by decide +kernel]; cases neg <;> rfl
theorem te_second_second : rEqD neg (.str (Str.ofString "second")) (.str (Str.ofString "second")) O Q = Q (.bl !neg) O := by
  rw [rEq_s sw_second sw_second, show decide (Str.ofString "second" = Str.ofString "second") = true by decide +kernel]; cases neg <;> rfl
theorem te_second_to : rEqD neg (.str (Str.ofString "second")) (.str (Str.ofString "to")) O Q = Q (.bl neg) O := by
  rw [rEq_s sw_second sw_to, show decide (Str.ofString "second" = Str.ofString "to") = false by decide +kernel]; cases neg <;> rfl
theorem te_second_both : rEqD neg (.str (Str.ofString "second")) (.str (Str.ofString "both")) O Q = Q (.bl neg) O := by
  rw [rEq_s sw_second sw_both, show decide (Str.ofString "second" = Str.ofString "both") = false by decide +kernel]; cases neg <;> rfl
theorem te_second_one : rEqD neg (.str (Str.ofString "second")) (.str (Str.ofString "one")) O Q = Q (.bl neg) O := by
  rw [rEq_s sw_second sw_one, show decide (Str.ofString "second" = Str.ofString "one") = false by decide +kernel]; cases neg <;> rfl
theorem te_second_mark : rEqD neg (.str (Str.ofString "second")) (.str (Str.ofString "mark")) O Q = Q (.bl neg) O := by
  rw [rEq_s sw_second sw_mark, show decide (Str.ofString "second" = Str.ofString "mark") = false by decide +kernel]; cases neg <;> rfl
theorem te_second_name : rEqD neg (.str (Str.ofString "second")) (.str (Str.ofString "name")) O Q = Q (.bl neg) O := by
  rw [rEq_s sw_second sw_name, show decide (Str.ofString "second" = Str.ofString "name") = false by decide +kernel]; cases neg <;> rfl
theorem te_second_thing : rEqD neg (.str (Str.ofString "second")) (.str (Str.ofString "thing")) O Q = Q (.bl neg) O := by
  rw [rEq_s sw_second sw_thing, show decide (Str.ofString "second" = Str.ofString "thing") = false by decide +kernel]; cases neg <;> rfl
theorem te_second_at : rEqD neg (.str (Str.ofString "second")) (.str (Str.ofString "at")) O Q = Q (.bl neg) O := by
  rw [rEq_s sw_second sw_at, show decide (Str.ofString "second" = Str.ofString "at") = false by decide +kernel]; cases neg <;> rfl
theorem te_mark_take : rEqD neg (.str (Str.ofString "mark")) (.str (Str.ofString "take")) O Q = Q (.bl neg) O := by
  rw [rEq_s sw_mark sw_take, show decide (Str.ofString "mark" = Str.ofString "take") = false by decide +kernel]; cases neg <;> rfl
theorem te_mark_give : rEqD neg (.str (Str.ofString "mark")) (.str (Str.ofString "give")) O Q = Q (.bl neg) O := by
  rw [rEq_s sw_mark sw_give, show decide (Str.ofString "mark" = Str.ofString "give") = false by decide +kernel]; cases neg <;> rfl
theorem te_mark_pair : rEqD neg (.str (Str.ofString "mark")) (.str (Str.ofString "pair")) O Q = Q (.bl neg) O := by
  rw [rEq_s sw_mark sw_pair, show decide (Str.ofString "mark" = Str.ofString "pair") = false by decide +kernel]; cases neg <;> rfl
theorem te_mark_first : rEqD neg (.str (Str.ofString "mark")) (.str (Str.ofString "first")) O Q = Q (.bl neg) O := by
  rw [rEq_s sw_mark sw_first, show decide (Str.ofString "mark" = Str.ofString "first") = false by decide +kernel]; cases neg <;> rfl
theorem te_mark_second : rEqD neg (.str (Str.ofString "mark")) (.str (Str.ofString "second")) O Q = Q (.bl neg) O := by
  rw [rEq_s sw_mark sw_second, show decide (Str.ofString "mark" = Str.ofString "second") = false by decide +kernel]; cases neg <;> rfl
theorem te_mark_to : rEqD neg (.str (Str.ofString "mark")) (.str (Str.ofString "to")) O Q = Q (.bl neg) O := by
  rw [rEq_s sw_mark sw_to, show decide (Str.ofString "mark" = Str.ofString "to") = false by decide +kernel]; cases neg <;> rfl
theorem te_mark_both : rEqD neg (.str (Str.ofString "mark")) (.str (Str.ofString "both")) O Q = Q (.bl neg) O := by
  rw [rEq_s sw_mark sw_both, show decide (Str.ofString "mark" = Str.ofString "both") = false by decide +kernel]; cases neg <;> rfl
theorem te_mark_one : rEqD neg (.str (Str.ofString "mark")) (.str (Str.ofString "one")) O Q = Q (.bl neg) O := by
  rw [rEq_s sw_mark sw_one, show decide (Str.ofString "mark" = Str.ofString "one") = false by decide +kernel]; cases neg <;> rfl
theorem te_mark_mark : rEqD neg (.str (Str.ofString "mark")) (.str (Str.ofString "mark")) O Q = Q (.bl !neg) O := by
  rw [rEq_s sw_mark sw_mark, show decide (Str.ofString "mark" = Str.ofString "mark") = true by decide +kernel]; cases neg <;> rfl
theorem te_mark_name : rEqD neg (.str (Str.ofString "mark")) (.str (Str.ofString "name")) O Q = Q (.bl neg) O := by
  rw [rEq_s sw_mark sw_name, show decide (Str.ofString "mark" = Str.ofString "name") = false by decide +kernel]; cases neg <;> rfl
theorem te_mark_thing : rEqD neg (.str (Str.ofString "mark")) (.str (Str.ofString "thing")) O Q = Q (.bl neg) O := by
  rw [rEq_s sw_mark sw_thing, show decide (Str.ofString "mark" = Str.ofString "thing") = false by decide +kernel]; cases neg <;> rfl
theorem te_mark_at : rEqD neg (.str (Str.ofString "mark")) (.str (Str.ofString "at")) O Q = Q (.bl neg) O := by
  rw [rEq_s sw_mark sw_at, show decide (Str.ofString "mark" = Str.ofString "at") = false by decide +kernel]; cases neg <;> rfl
theorem te_one_take : rEqD neg (.str (Str.ofString "one")) (.str (Str.ofString "take")) O Q = Q (.bl neg) O := by
  rw [rEq_s sw_one sw_take, show decide (Str.ofString "one" = Str.ofString "take") = false by decide +kernel]; cases neg <;> rfl
theorem te_one_give : rEqD neg (.str (Str.ofString "one")) (.str (Str.ofString "give")) O Q = Q (.bl neg) O := by
  rw [rEq_s sw_one sw_give, show decide (Str.ofString "one" = Str.ofString "give") = false by decide +kernel]; cases neg <;> rfl
theorem te_one_pair : rEqD neg (.str (Str.ofString "one")) (.str (Str.ofString "pair")) O Q = Q (.bl neg) O := by
  rw [rEq_s sw_one sw_pair, show decide (Str.ofString "one" = Str.ofString "pair") = false by decide +kernel]; cases neg <;> rfl
theorem te_one_first : rEqD neg (.str (Str.ofString "one")) (.str (Str.ofString "first")) O Q = Q (.bl neg) O := by
  rw [rEq_s sw_one sw_first, show decide (Str.ofString "one" = Str.ofString "first") = false by decide +kernel]; cases neg <;> rfl
theorem te_one_second : rEqD neg (.str (Str.ofString "one")) (.str (Str.ofString "second")) O Q = Q (.bl neg) O := by
  rw [rEq_s sw_one sw_second, show decide (Str.ofString "one" = Str.ofString "second") = false by decide +kernel]; cases neg <;> rfl
theorem te_one_to : rEqD neg (.str (Str.ofString "one")) (.str (Str.ofString "to")) O Q = Q (.bl neg) O := by
  rw [rEq_s sw_one sw_to, show decide (Str.ofString "one" = Str.ofString "to") = false by decide +kernel]; cases neg <;> rfl
theorem te_one_both : rEqD neg (.str (Str.ofString "one")) (.str (Str.ofString "both")) O Q = Q (.bl neg) O := by
  rw [rEq_s sw_one sw_both, show decide (Str.ofString "one" = Str.ofString "both") = false by decide +kernel]; cases neg <;> rfl
theorem te_one_one : rEqD neg (.str (Str.ofString "one")) (.str (Str.ofString "one")) O Q = Q (.bl !neg) O := by
  rw [rEq_s sw_one sw_one, show decide (Str.ofString "one" = Str.ofString "one") = true by decide +kernel]; cases neg <;> rfl
theorem te_one_mark : rEqD neg (.str (Str.ofString "one")) (.str (Str.ofString "mark")) O Q = Q (.bl neg) O := by
  rw [rEq_s sw_one sw_mark, show decide (Str.ofString "one" = Str.ofString "mark") = false by decide +kernel]; cases neg <;> rfl
theorem te_one_name : rEqD neg (.str (Str.ofString "one")) (.str (Str.ofString "name")) O Q = Q (.bl neg) O := by
  rw [rEq_s sw_one sw_name, show decide (Str.ofString "one" = Str.ofString "name") = false by decide +kernel]; cases neg <;> rfl
theorem te_one_thing : rEqD neg (.str (Str.ofString "one")) (.str (Str.ofString "thing")) O Q = Q (.bl neg) O := by
  rw [rEq_s sw_one sw_thing, show decide (Str.ofString "one" = Str.ofString "thing") = false by decide +kernel]; cases neg <;> rfl
theorem te_one_at : rEqD neg (.str (Str.ofString "one")) (.str (Str.ofString "at")) O Q = Q (.bl neg) O := by
  rw [rEq_s sw_one sw_at, show decide (Str.ofString "one" = Str.ofString "at") = false by decide +kernel]; cases neg <;> rfl
theorem te_to_take : rEqD neg (.str (Str.ofString "to")) (.str (Str.ofString "take")) O Q = Q (.bl neg) O := by
  rw [rEq_s sw_to sw_take, show decide (Str.ofString "to" = Str.ofString "take") = false by decide +kernel]; cases neg <;> rfl
theorem te_to_give : rEqD neg (.str (Str.ofString "to")) (.str (Str.ofString "give")) O Q = Q (.bl neg) O := by
  rw [rEq_s sw_to sw_give, show decide (Str.ofString "to" = Str.ofString "give") = false by decide +kernel]; cases neg <;> rfl
theorem te_to_pair : rEqD neg (.str (Str.ofString "to")) (.str (Str.ofString "pair")) O Q = Q (.bl neg) O := by
  rw [rEq_s sw_to sw_pair, show decide (Str.ofString "to" = Str.ofString "pair") = false by decide +kernel]; cases neg <;> rfl
theorem te_to_first : rEqD neg (.str (Str.ofString "to")) (.str (Str.ofString "first")) O Q = Q (.bl neg) O := by
  rw [rEq_s sw_to sw_first, show decide (Str.ofString "to" = Str.ofString "first") = false by decide +kernel]; cases neg <;> rfl
theorem te_to_second : rEqD neg (.str (Str.ofString "to")) (.str (Str.ofString "second")) O Q = Q (.bl neg) O := by
  rw [rEq_s sw_to sw_second, show decide (Str.ofString "to" = Str.ofString "second") = false by decide +kernel]; cases neg <;> rfl
theorem te_to_to : rEqD neg (.str (Str.ofString "to")) (.str (Str.ofString "to")) O Q = Q (.bl !neg) O := by
  rw [rEq_s sw_to sw_to, show decide (Str.ofString "to" = Str.ofString "to") = true by decide +kernel]; cases neg <;> rfl
theorem te_to_both : rEqD neg (.str (Str.ofString "to")) (.str (Str.ofString "both")) O Q = Q (.bl neg) O := by
  rw [rEq_s sw_to sw_both, show decide (Str.ofString "to" = Str.ofString "both") = false by decide +kernel]; cases neg <;> rfl
theorem te_to_one : rEqD neg (.str (Str.ofString "to")) (.str (Str.ofString "one")) O Q = Q (.bl neg) O := by
  rw [rEq_s sw_to sw_one, show decide (Str.ofString "to" = Str.ofString "one") = false by decide +kernel]; cases neg <;> rfl
theorem te_to_mark : rEqD neg (.str (Str.ofString "to")) (.str (Str.ofString "mark")) O Q = Q (.bl neg) O := by
  rw [rEq_s sw_to sw_mark, show decide (Str.ofString "to" = Str.ofString "mark") = false by decide +kernel]; cases neg <;> rfl
theorem te_to_name : rEqD neg (.str (Str.ofString "to")) (.str (Str.ofString "name")) O Q = Q (.bl neg) O := by
  rw [rEq_s sw_to sw_name, show decide (Str.ofString "to" = Str.ofString "name") = false by decide +kernel]; cases neg <;> rfl
theorem te_to_thing : rEqD neg (.str (Str.ofString "to")) (.str (Str.ofString "thing")) O Q = Q (.bl neg) O := by
  rw [rEq_s sw_to sw_thing, show decide (Str.ofString "to" = Str.ofString "thing") = false by decide +kernel]; cases neg <;> rfl
theorem te_to_at : rEqD neg (.str (Str.ofString "to")) (.str (Str.ofString "at")) O Q = Q (.bl neg) O := by
  rw [rEq_s sw_to sw_at, show decide (Str.ofString "to" = Str.ofString "at") = false by decide +kernel]; cases neg <;> rfl
theorem te_both_take : rEqD neg (.str (Str.ofString "both")) (.str (Str.ofString "take")) O Q = Q (.bl neg) O := by
  rw [rEq_s sw_both sw_take, show decide (Str.ofString "both" = Str.ofString "take") = false by decide +kernel]; cases neg <;> rfl
theorem te_both_give : rEqD neg (.str (Str.ofString "both")) (.str (Str.ofString "give")) O Q = Q (.bl neg) O := by
  rw [rEq_s sw_both sw_give, show decide (Str.ofString "both" = Str.ofString "give") = false by decide +kernel]; cases neg <;> rfl
theorem te_both_pair : rEqD neg (.str (Str.ofString "both")) (.str (Str.ofString "pair")) O Q = Q (.bl neg) O := by
  rw [rEq_s sw_both sw_pair, show decide (Str.ofString "both" = Str.ofString "pair") = false by decide +kernel]; cases neg <;> rfl
theorem te_both_first : rEqD neg (.str (Str.ofString "both")) (.str (Str.ofString "first")) O Q = Q (.bl neg) O := by
  rw [rEq_s sw_both sw_first, show decide (Str.ofString "both" = Str.ofString "first") = false by decide +kernel]; cases neg <;> rfl
theorem te_both_second : rEqD neg (.str (Str.ofString "both")) (.str (Str.ofString "second")) O Q = Q (.bl neg) O := by
  rw [rEq_s sw_both sw_second, show decide (Str.ofString "both" = Str.ofString "second") = false by decide +kernel]; cases neg <;> rfl
theorem te_both_to : rEqD neg (.str (Str.ofString "both")) (.str (Str.ofString "to")) O Q = Q (.bl neg) O := by
  rw [rEq_s sw_both sw_to, show decide (Str.ofString "both" = Str.ofString "to") = false by decide +kernel]; cases neg <;> rfl
theorem te_both_both : rEqD neg (.str (Str.ofString "both")) (.str (Str.ofString "both")) O Q = Q (.bl !neg) O := by
  rw [rEq_s sw_both sw_both, show decide (Str.ofString "both" = Str.ofString "both") = true by decide +kernel]; cases neg <;> rfl
theorem te_both_one : rEqD neg (.str (Str.ofString "both")) (.str (Str.ofString "one")) O Q = Q (.bl neg) O := by
  rw [rEq_s sw_both sw_one, show decide (Str.ofString "both" = Str.ofString "one") = false by decide +kernel]; cases neg <;> rfl
theorem te_both_mark : rEqD neg (.str (Str.ofString "both")) (.str (Str.ofString "mark")) O Q = Q (.bl neg) O := by
  rw [rEq_s sw_both sw_mark, show decide (Str.ofString "both" = Str.ofString "mark") = false by decide +kernel]; cases neg <;> rfl
theorem te_both_name : rEqD neg (.str (Str.ofString "both")) (.str (Str.ofString "name")) O Q = Q (.bl neg) O := by
  rw [rEq_s sw_both sw_name, show decide (Str.ofString "both" = Str.ofString "name") = false by decide +kernel]; cases neg <;> rfl
theorem te_both_thing : rEqD neg (.str (Str.ofString "both")) (.str (Str.ofString "thing")) O Q = Q (.bl neg) O := by
  rw [rEq_s sw_both sw_thing, show decide (Str.ofString "both" = Str.ofString "thing") = false by decide +kernel]; cases neg <;> rfl
theorem te_both_at : rEqD neg (.str (Str.ofString "both")) (.str (Str.ofString "at")) O Q = Q (.bl neg) O := by
  rw [rEq_s sw_both sw_at, show decide (Str.ofString "both" = Str.ofString "at") = false by decide +kernel]; cases neg <;> rfl
theorem te_at_take : rEqD neg (.str (Str.ofString "at")) (.str (Str.ofString "take")) O Q = Q (.bl neg) O := by
  rw [rEq_s sw_at sw_take, show decide (Str.ofString "at" = Str.ofString "take") = false by decide +kernel]; cases neg <;> rfl
theorem te_at_give : rEqD neg (.str (Str.ofString "at")) (.str (Str.ofString "give")) O Q = Q (.bl neg) O := by
  rw [rEq_s sw_at sw_give, show decide (Str.ofString "at" = Str.ofString "give") = false by decide +kernel]; cases neg <;> rfl
theorem te_at_pair : rEqD neg (.str (Str.ofString "at")) (.str (Str.ofString "pair")) O Q = Q (.bl neg) O := by
  rw [rEq_s sw_at sw_pair, show decide (Str.ofString "at" = Str.ofString "pair") = false by decide +kernel]; cases neg <;> rfl
theorem te_at_first : rEqD neg (.str (Str.ofString "at")) (.str (Str.ofString "first")) O Q = Q (.bl neg) O := by
  rw [rEq_s sw_at sw_first, show decide (Str.ofString "at" = Str.ofString "first") = false by decide +kernel]; cases neg <;> rfl
theorem te_at_second : rEqD neg (.str (Str.ofString "at")) (.str (Str.ofString "second")) O Q = Q (.bl neg) O := by
  rw [rEq_s sw_at sw_second, show decide (Str.ofString "at" = Str.ofString "second") = false by decide +kernel]; cases neg <;> rfl
theorem te_at_to : rEqD neg (.str (Str.ofString "at")) (.str (Str.ofString "to")) O Q = Q (.bl neg) O := by
  rw [rEq_s sw_at sw_to, show decide (Str.ofString "at" = Str.ofString "to") = false by decide +kernel]; cases neg <;> rfl
theorem te_at_both : rEqD neg (.str (Str.ofString "at")) (.str (Str.ofString "both")) O Q = Q (.bl neg) O := by
  rw [rEq_s sw_at sw_both, show decide (Str.ofString "at" = Str.ofString "both") = false by decide +kernel]; cases neg <;> rfl
theorem te_at_one : rEqD neg (.str (Str.ofString "at")) (.str (Str.ofString "one")) O Q = Q (.bl neg) O := by
  rw [rEq_s sw_at sw_one, show decide (Str.ofString "at" = Str.ofString "one") = false by decide +kernel]; cases neg <;> rfl
theorem te_at_mark : rEqD neg (.str (Str.ofString "at")) (.str (Str.ofString "mark")) O Q = Q (.bl neg) O := by
  rw [rEq_s sw_at sw_mark, show decide (Str.ofString "at" = Str.ofString "mark") = false by decide +kernel]; cases neg <;> rfl
theorem te_at_name : rEqD neg (.str (Str.ofString "at")) (.str (Str.ofString "name")) O Q = Q (.bl neg) O := by
  rw [rEq_s sw_at sw_name, show decide (Str.ofString "at" = Str.ofString "name") = false by decide +kernel]; cases neg <;> rfl
theorem te_at_thing : rEqD neg (.str (Str.ofString "at")) (.str (Str.ofString "thing")) O Q = Q (.bl neg) O := by
  rw [rEq_s sw_at sw_thing, show decide (Str.ofString "at" = Str.ofString "thing") = false by decide +kernel]; cases neg <;> rfl
theorem te_at_at : rEqD neg (.str (Str.ofString "at")) (.str (Str.ofString "at")) O Q = Q (.bl !neg) O := by
  rw [rEq_s sw_at sw_at, show decide (Str.ofString "at" = Str.ofString "at") = true by decide +kernel]; cases neg <;> rfl
theorem ti4_name : rInD neg (.str (Str.ofString "name")) (.tup [.str (Str.ofString "give"), .str (Str.ofString "pair"), .str (Str.ofString "first"), .str (Str.ofString "second")]) O Q = Q (.bl neg) O := by
  have e := rIn_ws (neg := neg) (O := O) (Q := Q) (z := Str.ofString "name") (ts := [Str.ofString "give", Str.ofString "pair", Str.ofString "first", Str.ofString "second"]) (by decide +kernel) (by decide +kernel)
  rw [show decide (Str.ofString "name" ∈ ([Str.ofString "give", Str.ofString "pair", Str.ofString "first", Str.ofString "second"] : List Str)) = false by decide +kernel] at e
  exact e.trans (by cases neg <;> rfl)
theorem ti4_thing : rInD neg (.str (Str.ofString "thing")) (.tup [.str (Str.ofString "give"), .str (Str.ofString "pair"), .str (Str.ofString "first"), .str (Str.ofString "second")]) O Q = Q (.bl neg) O := by
  have e := rIn_ws (neg := neg) (O := O) (Q := Q) (z := Str.ofString "thing") (ts := [Str.ofString "give", Str.ofString "pair", Str.ofString "first", Str.ofString "second"]) (by decide +kernel) (by decide +kernel)
  rw [show decide (Str.ofString "thing" ∈ ([Str.ofString "give", Str.ofString "pair", Str.ofString "first", Str.ofString "second"] : List Str)) = false by decide +kernel] at e
  exact e.trans (by cases neg <;> rfl)
theorem ti4_take : rInD neg (.str (Str.ofString "take")) (.tup [.str (Str.ofString "give"), .str (Str.ofString "pair"), .str (Str.ofString "first"), .str (Str.ofString "second")]) O Q = Q (.bl neg) O := by
  have e := rIn_ws (neg := neg) (O := O) (Q := Q) (z := Str.ofString "take") (ts := [Str.ofString "give", Str.ofString "pair", Str.ofString "first", Str.ofString "second"]) (by decide +kernel) (by decide +kernel)
  rw [show decide (Str.ofString "take" ∈ ([Str.ofString "give", Str.ofString "pair", Str.ofString "first", Str.ofString "second"] : List Str)) = false by decide +kernel] at e
  exact e.trans (by cases neg <;> rfl)
theorem ti4_give : rInD neg (.str (Str.ofString "give")) (.tup [.str (Str.ofString "give"), .str (Str.ofString "pair"), .str (Str.ofString "first"), .str (Str.ofString "second")]) O Q = Q (.bl !neg) O := by
  have e := rIn_ws (neg := neg) (O := O) (Q := Q) (z := Str.ofString "give") (ts := [Str.ofString "give", Str.ofString "pair", Str.ofString "first", Str.ofString "second"]) (by decide +kernel) (by decide +kernel)
  rw [show decide (Str.ofString "give" ∈ ([Str.ofString "give", Str.ofString "pair", Str.ofString "first", Str.ofString "second"] : List Str)) = true by decide +kernel] at e
  exact e.trans (by cases neg <;> rfl)
theorem ti4_pair : rInD neg (.str (Str.ofString "pair")) (.tup [.str (Str.ofString "give"), .str (Str.ofString "pair"), .str (Str.ofString "first"), .str (Str.ofString "second")]) O Q = Q (.bl !neg) O := by
  have e := rIn_ws (neg := neg) (O := O) (Q := Q) (z := Str.ofString "pair") (ts := [Str.ofString "give", Str.ofString "pair", Str.ofString "first", Str.ofString "second"]) (by decide +kernel) (by decide +kernel)
  rw [show decide (Str.ofString "pair" ∈ ([Str.ofString "give", Str.ofString "pair", Str.ofString "first", Str.ofString "second"] : List Str)) = true by decide +kernel] at e
  exact e.trans (by cases neg <;> rfl)
theorem ti4_first : rInD neg (.str (Str.ofString "first")) (.tup [.str (Str.ofString "give"), .str (Str.ofString "pair"), .str (Str.ofString "first"), .str (Str.ofString "second")]) O Q = Q (.bl !neg) O := by
  have e := rIn_ws (neg := neg) (O := O) (Q := Q) (z := Str.ofString "first") (ts := [Str.ofString "give", Str.ofString "pair", Str.ofString "first", Str.ofString "second"]) (by decide +kernel) (by decide +kernel)
  rw [show decide (Str.ofString "first" ∈ ([Str.ofString "give", Str.ofString "pair", Str.ofString "first", Str.ofString "second"] : List Str)) = true by decide +kernel] at e
  exact e.trans (by cases neg <;> rfl)
theorem ti4_second : rInD neg (.str (Str.ofString "second")) (.tup [.str (Str.ofString "give"), .str (Str.ofString "pair"), .str (Str.ofString "first"), .str (Str.ofString "second")]) O Q = Q (.bl !neg) O := by
  have e := rIn_ws (neg := neg) (O := O) (Q := Q) (z := Str.ofString "second") (ts := [Str.ofString "give", Str.ofString "pair", Str.ofString "first", Str.ofString "second"]) (by decide +kernel) (by decide +kernel)
  rw [show decide (Str.ofString "second" ∈ ([Str.ofString "give", Str.ofString "pair", Str.ofString "first", Str.ofString "second"] : List Str)) = true by decide +kernel] at e
  exact e.trans (by cases neg <;> rfl)
theorem ti2_name : rInD neg (.str (Str.ofString "name")) (.tup [.str (Str.ofString "first"), .str (Str.ofString "second")]) O Q = Q (.bl neg) O := by
  have e := rIn_ws (neg := neg) (O := O) (Q := Q) (z := Str.ofString "name") (ts := [Str.ofString "first", Str.ofString "second"]) (by decide +kernel) (by decide +kernel)
  rw [show decide (Str.ofString "name" ∈ ([Str.ofString "first", Str.ofString "second"] : List Str)) = false by decide +kernel] at e
  exact e.trans (by cases neg <;> rfl)
theorem ti2_thing : rInD neg (.str (Str.ofString "thing")) (.tup [.str (Str.ofString "first"), .str (Str.ofString "second")]) O Q = Q (.bl neg) O := by
  have e := rIn_ws (neg := neg) (O := O) (Q := Q) (z := Str.ofString "thing") (ts := [Str.ofString "first", Str.ofString "second"]) (by decide +kernel) (by decide +kernel)
  rw [show decide (Str.ofString "thing" ∈ ([Str.ofString "first", Str.ofString "second"] : List Str)) = false by decide +kernel] at e
  exact e.trans (by cases neg <;> rfl)
theorem ti2_take : rInD neg (.str (Str.ofString "take")) (.tup [.str (Str.ofString "first"), .str (Str.ofString "second")]) O Q = Q (.bl neg) O := by
  have e := rIn_ws (neg := neg) (O := O) (Q := Q) (z := Str.ofString "take") (ts := [Str.ofString "first", Str.ofString "second"]) (by decide +kernel) (by decide +kernel)
  rw [show decide (Str.ofString "take" ∈ ([Str.ofString "first", Str.ofString "second"] : List Str)) = false by decide +kernel] at e
  exact e.trans (by cases neg <;> rfl)
theorem ti2_give : rInD neg (.str (Str.ofString "give")) (.tup [.str (Str.ofString "first"), .str (Str.ofString "second")]) O Q = Q (.bl neg) O := by
  have e := rIn_ws (neg := neg) (O := O) (Q := Q) (z := Str.ofString "give") (ts := [Str.ofString "first", Str.ofString "second"]) (by decide +kernel) (by decide +kernel)
  rw [show decide (Str.ofString "give" ∈ ([Str.ofString "first", Str.ofString "second"] : List Str)) = false by decide +kernel] at e
  exact e.trans (by cases neg <;> rfl)
theorem ti2_pair : rInD neg (.str (Str.ofString "pair")) (.tup [.str (Str.ofString "first"), .str (Str.ofString "second")]) O Q = Q (.bl neg) O := by
  have e := rIn_ws (neg := neg) (O := O) (Q := Q) (z := Str.ofString "pair") (ts := [Str.ofString "first", Str.ofString "second"]) (by decide +kernel) (by decide +kernel)
  rw [show decide (Str.ofString "pair" ∈ ([Str.ofString "first", Str.ofString "second"] : List Str)) = false by decide +kernel] at e
  exact e.trans (by cases neg <;> rfl)
theorem ti2_first : rInD neg (.str (Str.ofString "first")) (.tup [.str (Str.ofString "first"), .str (Str.ofString "second")]) O Q = Q (.bl !neg) O := by
  have e := rIn_ws (neg := neg) (O := O) (Q := Q) (z := Str.ofString "first") (ts := [Str.ofString "first", Str.ofString "second"]) (by decide +kernel) (by decide +kernel)
  rw [show decide (Str.ofString "first" ∈ ([Str.ofString "first", Str.ofString "second"] : List Str)) = true by decide +kernel] at e
  exact e.trans (by cases neg <;> rfl)
theorem ti2_second : rInD neg (.str (Str.ofString "second")) (.tup [.str (Str.ofString "first"), .str (Str.ofString "second")]) O Q = Q (.bl !neg) O := by
  have e := rIn_ws (neg := neg) (O := O) (Q := Q) (z := Str.ofString "second") (ts := [Str.ofString "first", Str.ofString "second"]) (by decide +kernel) (by decide +kernel)
  rw [show decide (Str.ofString "second" ∈ ([Str.ofString "first", Str.ofString "second"] : List Str)) = true by decide +kernel] at e
  exact e.trans (by cases neg <;> rfl)
end
/-! ### small sizes -/
theorem szT_0 : ((0 : Nat) ≤ sizeLine) = True := eq_true (sz_small (by decide))
theorem szT_1 : ((1 : Nat) ≤ sizeLine) = True := eq_true (sz_small (by decide))
theorem szT_2 : ((2 : Nat) ≤ sizeLine) = True := eq_true (sz_small (by decide))
theorem szT_3 : ((3 : Nat) ≤ sizeLine) = True := eq_true (sz_small (by decide))
theorem szT_4 : ((4 : Nat) ≤ sizeLine) = True := eq_true (sz_small (by decide))
theorem szT_5 : ((5 : Nat) ≤ sizeLine) = True := eq_true (sz_small (by decide))
theorem szT_6 : ((6 : Nat) ≤ sizeLine) = True := eq_true (sz_small (by decide))
theorem szT_7 : ((7 : Nat) ≤ sizeLine) = True := eq_true (sz_small (by decide))
theorem szT_8 : ((8 : Nat) ≤ sizeLine) = True := eq_true (sz_small (by decide))
theorem szT_9 : ((9 : Nat) ≤ sizeLine) = True := eq_true (sz_small (by decide))
theorem szT_10 : ((10 : Nat) ≤ sizeLine) = True := eq_true (sz_small (by decide))
theorem szT_11 : ((11 : Nat) ≤ sizeLine) = True := eq_true (sz_small (by decide))
theorem szT_12 : ((12 : Nat) ≤ sizeLine) = True := eq_true (sz_small (by decide))
/-! ### programs -/
inductive Pg where
  | nm (x : Str) | thing | take (x : Str) (k : Kd) (b : Pg) | give (f a : Pg) | pair (a b : Pg) | first (p : Pg) | second (p : Pg)
  deriving DecidableEq, Inhabited
def dP : Pg → D
  | .nm x => .tup [.str "name", .str x]
  | .thing => .tup [.str "thing"]
  | .take x k b => .tup [.str "take", .str x, dK k, dP b]
  | .give f a => .tup [.str "give", dP f, dP a]
  | .pair a b => .tup [.str "pair", dP a, dP b]
  | .first p => .tup [.str "first", dP p]
  | .second p => .tup [.str "second", dP p]
def Pg.ins : Pg → List Pg
  | .nm _ => []
  | .thing => []
  | .take _ _ b => [b]
  | .give f a => [f, a]
  | .pair a b => [a, b]
  | .first p => [p]
  | .second p => [p]
def Pg.hgt : Pg → Nat
  | .nm _ => 0
  | .thing => 0
  | .take _ _ b => b.hgt + 1
  | .give f a => max f.hgt a.hgt + 1
  | .pair a b => max a.hgt b.hgt + 1
  | .first p => p.hgt + 1
  | .second p => p.hgt + 1
def Pg.isTake : Pg → Bool
  | .take .. => true
  | _ => false
def Pg.isPair : Pg → Bool
  | .pair .. => true
  | _ => false
def Pg.can : Pg → Bool
  | .give f _ => f.isTake
  | .first p => p.isPair
  | .second p => p.isPair
  | _ => false
theorem sz_21 {n : Nat} (h : n ≤ 4194304) : n ≤ sizeLine := Nat.le_trans h (by decide)
abbrev dI (q : List Int) : D := .lst (q.map .int)
/-! ### rows of names -/
/-- what a name is by a row: the last one counts -/
def envOf (kn : List (Str × Kd)) (x : Str) : Option Kd := (kn.reverse.find? fun q => decide (q.1 = x)).map (·.2)
theorem envOf_snoc (kn : List (Str × Kd)) (y : Str) (k : Kd) (x : Str) : envOf (kn ++ [(y, k)]) x = if y = x then some k else envOf kn x := by
  unfold envOf
  rw [List.reverse_append, List.reverse_singleton, List.singleton_append, List.find?_cons]
  by_cases h : y = x
  · simp [h]
  · simp [h]
end Kf
/-! Ktx: texts of kinds. -/
namespace Kf
open PySem PySem.Spec L2
open PyProof.Rows hiding St
abbrev bl1 : Str := " "
/-! ### joining and splitting -/
theorem join_app {sep : Str} : ∀ (a b : List Str), a ≠ [] → b ≠ [] → Str.join sep (a ++ b) = Str.join sep a ++ sep ++ Str.join sep b
  | [], _, h, _ => absurd rfl h
  | [x], y :: b, _, _ => rfl
  | [x], [], _, h => absurd rfl h
  | x :: z :: a, b, _, hb => by
    have ih := join_app (sep := sep) (z :: a) b (by simp) hb
    show x ++ sep ++ Str.join sep (z :: (a ++ b)) = (x ++ sep ++ Str.join sep (z :: a)) ++ sep ++ Str.join sep b
    rw [show z :: (a ++ b) = z :: a ++ b from rfl, ih]
    apply str_ext
    simp only [tl_app, List.append_assoc]
theorem join_cons {sep : Str} (x : Str) (b : List Str) (h : b ≠ []) : Str.join sep (x :: b) = x ++ sep ++ Str.join sep b := join_app [x] b (by simp) h
theorem split_words {ws : List Str} (h : ws ≠ []) (hp : ∀ w ∈ ws, 32 ∉ w.cps.toList) : Txt.split (Str.join bl1 ws) bl1 = ws := by
  rw [← TL.join_eq]
  exact TL.split_join (y := bl1) (s := 32) (S := []) (by decide +kernel) (by decide +kernel) h hp
/-! ### kinds by words -/
def kwords : Kd → List Str
  | .mk m => [m]
  | .one => ["1"]
  | .to a b => [Str.ofString "("] ++ kwords a ++ [Str.ofString "->"] ++ kwords b ++ [Str.ofString ")"]
  | .both a b => [Str.ofString "("] ++ kwords a ++ [Str.ofString "*"] ++ kwords b ++ [Str.ofString ")"]
def kshow : Kd → Str
  | .mk m => m
  | .one => "1"
  | .to a b => Str.ofString "( " ++ kshow a ++ Str.ofString " " ++ Str.ofString "->" ++ Str.ofString " " ++ kshow b ++ Str.ofString " )"
  | .both a b => Str.ofString "( " ++ kshow a ++ Str.ofString " " ++ Str.ofString "*" ++ Str.ofString " " ++ kshow b ++ Str.ofString " )"
theorem kwords_ne (k : Kd) : kwords k ≠ [] := by cases k <;> simp [kwords]
theorem tlop : (Str.ofString "( ").cps.toList = (Str.ofString "(").cps.toList ++ bl1.cps.toList := by decide +kernel
theorem tlcl : (Str.ofString " )").cps.toList = bl1.cps.toList ++ (Str.ofString ")").cps.toList := by decide +kernel
theorem join5 (a b : List Str) (s : Str) (ha : a ≠ []) (hb : b ≠ []) : Str.join bl1 ([Str.ofString "("] ++ a ++ [s] ++ b ++ [Str.ofString ")"]) = Str.ofString "( " ++ Str.join bl1 a ++ Str.ofString " " ++ s ++ Str.ofString " " ++ Str.join bl1 b ++ Str.ofString " )" := by
  rw [join_app _ _ (by simp) (by simp), join_app _ _ (by simp) hb, join_app _ _ (by simp) (by simp), join_app _ _ (by simp) ha]
  show Str.ofString "(" ++ bl1 ++ _ ++ bl1 ++ s ++ bl1 ++ _ ++ bl1 ++ Str.ofString ")" = _
  apply str_ext
  simp only [tl_app, tlop, tlcl, List.append_assoc]
theorem kshow_eq : ∀ k : Kd, kshow k = Str.join bl1 (kwords k)
  | .mk _ => rfl
  | .one => rfl
  | .to a b => by simp only [kshow, kwords, kshow_eq a, kshow_eq b]; rw [join5 _ _ _ (kwords_ne a) (kwords_ne b)]
  | .both a b => by simp only [kshow, kwords, kshow_eq a, kshow_eq b]; rw [join5 _ _ _ (kwords_ne a) (kwords_ne b)]
def Kd.mks (k : Kd) : Prop := ∀ m ∈ k.marks, isMarkB m = true
theorem mark_sp {m : Str} (h : isMarkB m = true) : 32 ∉ m.cps.toList := by
  unfold isMarkB at h
  simp only [Bool.and_eq_true, List.all_eq_true] at h
  intro h2
  have := h.1 32 h2
  revert this
  decide +kernel
theorem kwords_sp : ∀ k : Kd, k.mks → ∀ w ∈ kwords k, 32 ∉ w.cps.toList
  | .mk m, h, w, hw => by
    simp only [kwords, List.mem_singleton] at hw
    subst hw
    exact mark_sp (h w (by simp [Kd.marks]))
  | .one, h, w, hw => by
    simp only [kwords, List.mem_singleton] at hw
    subst hw
    decide +kernel
  | .to a b, h, w, hw => by
    simp only [kwords, List.mem_append, List.mem_singleton] at hw
    rcases hw with (((rfl | hw) | rfl) | hw) | rfl
    · decide +kernel
    · exact kwords_sp a (fun m hm => h m (by simp [Kd.marks, hm])) w hw
    · decide +kernel
    · exact kwords_sp b (fun m hm => h m (by simp [Kd.marks, hm])) w hw
    · decide +kernel
  | .both a b, h, w, hw => by
    simp only [kwords, List.mem_append, List.mem_singleton] at hw
    rcases hw with (((rfl | hw) | rfl) | hw) | rfl
    · decide +kernel
    · exact kwords_sp a (fun m hm => h m (by simp [Kd.marks, hm])) w hw
    · decide +kernel
    · exact kwords_sp b (fun m hm => h m (by simp [Kd.marks, hm])) w hw
    · decide +kernel
theorem split_kshow {k : Kd} (h : k.mks) : Txt.split (kshow k) bl1 = kwords k := by rw [kshow_eq, split_words (kwords_ne k) (kwords_sp k h)]
theorem mark_len {m : Str} (h : isMarkB m = true) : m.length ≤ 6 := by
  unfold isMarkB at h
  simp only [Bool.and_eq_true, decide_eq_true_eq] at h
  exact h.2.2
theorem kshow_len : ∀ k : Kd, k.mks → (kshow k).length + 8 ≤ 14 * k.leaves
  | .mk m, h => by have := mark_len (h m (by simp [Kd.marks])); simp only [kshow, Kd.leaves]; omega
  | .one, _ => by simp only [kshow, Kd.leaves]; decide +kernel
  | .to a b, h => by
    have h1 := kshow_len a fun m hm => h m (by simp [Kd.marks, hm])
    have h2 := kshow_len b fun m hm => h m (by simp [Kd.marks, hm])
    have e1 : (Str.ofString "( ").length = 2 := by decide +kernel
    have e2 : (Str.ofString " ").length = 1 := by decide +kernel
    have e3 : (Str.ofString "->").length = 2 := by decide +kernel
    have e4 : (Str.ofString " )").length = 2 := by decide +kernel
    simp only [kshow, Kd.leaves, len_app, e1, e2, e3, e4]; omega
  | .both a b, h => by
    have h1 := kshow_len a fun m hm => h m (by simp [Kd.marks, hm])
    have h2 := kshow_len b fun m hm => h m (by simp [Kd.marks, hm])
    have e1 : (Str.ofString "( ").length = 2 := by decide +kernel
    have e2 : (Str.ofString " ").length = 1 := by decide +kernel
    have e3 : (Str.ofString "*").length = 1 := by decide +kernel
    have e4 : (Str.ofString " )").length = 2 := by decide +kernel
    simp only [kshow, Kd.leaves, len_app, e1, e2, e3, e4]; omega
def kwd : Kd → Str
  | .mk _ => "mark"
  | .one => "one"
  | .to .. => "to"
  | .both .. => "both"
/-! ### reading -/
def sg (s : Str) : Option (Kd → Kd → Kd) := if s = "->" then some .to else if s = "*" then some .both else none
/-- a leaf's word -/
def lfw (w : Str) : Option Kd := if w = "1" then some .one else if isMarkB w = true then some (.mk w) else none
def kp : Nat → List Str → Option (Kd × List Str)
  | _, [] => none
  | 0, w :: r => (lfw w).map fun k => (k, r)
  | n + 1, w :: r => match lfw w with
    | some k => some (k, r)
    | none => if w = "(" then match kp n r with
        | some (a, s :: r2) => match sg s with
          | some f => match kp n r2 with
            | some (b, c :: r3) => if c = ")" then some (f a b, r3) else none
            | _ => none
          | none => none
        | _ => none
      else none
theorem lfw_op : lfw "(" = none := by decide +kernel
def kpo (n : Nat) (l : List Str) : Option (Kd × List Str) := match kp n l with
  | some (a, s :: r2) => match sg s with
    | some f => match kp n r2 with
      | some (b, c :: r3) => if c = Str.ofString ")" then some (f a b, r3) else none
      | _ => none
    | none => none
  | _ => none
theorem kp_op (n : Nat) (l : List Str) : kp (n + 1) (Str.ofString "(" :: l) = kpo n l := by
  unfold kpo
  rw [kp, lfw_op]
  simp only [if_true]
theorem sg_e : sg (Str.ofString "") = none := by unfold sg; rw [if_neg (by decide +kernel), if_neg (by decide +kernel)]
/-- what is read is the rest's beginning -/
theorem kp_words : ∀ (n : Nat) (l : List Str) (k : Kd) (r : List Str), kp n l = some (k, r) → l = kwords k ++ r ∧ k.mks ∧ k.depth ≤ n
  | n, [], k, r, h => by cases n <;> simp [kp] at h
  | 0, w :: l, k, r, h => by
    simp only [kp] at h
    obtain ⟨k', e1, e2⟩ := Option.map_eq_some_iff.mp h
    cases e2
    unfold lfw at e1
    split at e1
    · rename_i e; cases e1; subst e; exact ⟨rfl, by simp [Kd.mks, Kd.marks], by simp [Kd.depth]⟩
    · split at e1
      · rename_i e; cases e1; exact ⟨rfl, by intro m hm; simp [Kd.marks] at hm; subst hm; exact e, by simp [Kd.depth]⟩
      · cases e1
  | n + 1, w :: l, k, r, h => by
    unfold kp at h
    cases hl : lfw w with
    | some k' =>
      rw [hl] at h
      cases h
      unfold lfw at hl
      split at hl
      · rename_i e; cases hl; subst e; exact ⟨rfl, by simp [Kd.mks, Kd.marks], by simp [Kd.depth]⟩
      · split at hl
        · rename_i e; cases hl; exact ⟨rfl, by intro m hm; simp [Kd.marks] at hm; subst hm; exact e, by simp [Kd.depth]⟩
        · cases hl
    | none =>
      rw [hl] at h
      dsimp only at h
      split at h
      · rename_i ew
        subst ew
        split at h
        · rename_i a s r2 e1
          obtain ⟨w1, m1, d1⟩ := kp_words n l a _ e1
          split at h
          · rename_i f e2
            split at h
            · rename_i b c r3 e3
              obtain ⟨w2, m2, d2⟩ := kp_words n r2 b _ e3
              split at h
              · rename_i ec
                subst ec
                cases h
                unfold sg at e2
                split at e2
                · rename_i es
                  cases e2
                  subst es
                  refine ⟨by rw [w1, w2]; simp [kwords], ?_, by simp only [Kd.depth]; omega⟩
                  intro m hm
                  simp only [Kd.marks, List.mem_append] at hm
                  exact hm.elim (m1 m) (m2 m)
                · split at e2
                  · rename_i es
                    cases e2
                    subst es
                    refine ⟨by rw [w1, w2]; simp [kwords], ?_, by simp only [Kd.depth]; omega⟩
                    intro m hm
                    simp only [Kd.marks, List.mem_append] at hm
                    exact hm.elim (m1 m) (m2 m)
                  · cases e2
              · cases h
            · cases h
          · cases h
        · cases h
      · cases h
theorem lfw_mk {m : Str} (h : isMarkB m = true) : lfw m = some (.mk m) := by
  unfold lfw
  rw [if_neg, if_pos h]
  rintro rfl
  revert h
  decide +kernel
/-- a kind's words are read -/
theorem kp_read : ∀ (k : Kd) (n : Nat) (r : List Str), k.mks → k.depth ≤ n → kp n (kwords k ++ r) = some (k, r)
  | .mk m, n, r, h, _ => by
    have := lfw_mk (h m (by simp [Kd.marks]))
    cases n <;> simp [kwords, kp, this]
  | .one, n, r, h, _ => by
    have : lfw "1" = some .one := by decide +kernel
    cases n <;> simp [kwords, kp, this]
  | .to a b, n, r, h, hd => by
    cases n with
    | zero => simp [Kd.depth] at hd
    | succ n =>
      simp only [Kd.depth] at hd
      have i1 := kp_read a n ([Str.ofString "->"] ++ (kwords b ++ ([Str.ofString ")"] ++ r))) (fun m hm => h m (by simp [Kd.marks, hm])) (by omega)
      have i2 := kp_read b n ([Str.ofString ")"] ++ r) (fun m hm => h m (by simp [Kd.marks, hm])) (by omega)
      have e : kwords (.to a b) ++ r = Str.ofString "(" :: (kwords a ++ ([Str.ofString "->"] ++ (kwords b ++ ([Str.ofString ")"] ++ r)))) := by simp [kwords]
      have hs : sg "->" = some .to := by unfold sg; rw [if_pos rfl]
      rw [e]
      unfold kp
      rw [lfw_op]
      simp only [if_true, i1]
      simp only [List.singleton_append, hs, List.append_eq]
      rw [List.singleton_append] at i2
      rw [i2]
      simp
  | .both a b, n, r, h, hd => by
    cases n with
    | zero => simp [Kd.depth] at hd
    | succ n =>
      simp only [Kd.depth] at hd
      have i1 := kp_read a n ([Str.ofString "*"] ++ (kwords b ++ ([Str.ofString ")"] ++ r))) (fun m hm => h m (by simp [Kd.marks, hm])) (by omega)
      have i2 := kp_read b n ([Str.ofString ")"] ++ r) (fun m hm => h m (by simp [Kd.marks, hm])) (by omega)
      have e : kwords (.both a b) ++ r = Str.ofString "(" :: (kwords a ++ ([Str.ofString "*"] ++ (kwords b ++ ([Str.ofString ")"] ++ r)))) := by simp [kwords]
      have hs : sg "*" = some .both := by unfold sg; rw [if_neg (by decide +kernel), if_pos rfl]
      rw [e]
      unfold kp
      rw [lfw_op]
      simp only [if_true, i1]
      simp only [List.singleton_append, hs, List.append_eq]
      rw [List.singleton_append] at i2
      rw [i2]
      simp
/-- the kind of a text -/
def rk (t : Str) : Option Kd := match kp 12 (Txt.split t bl1) with
  | some (k, []) => if k.leaves ≤ 24 then some k else none
  | _ => none
theorem hf_of : ∀ (k : Kd) (n : Nat), k.mks → k.depth < n → hf n (dK k) = true
  | .mk m, n, h, hd => by
    cases n with
    | zero => omega
    | succ n => simp only [dK, hf, deq_s, decide_true, strB, h m (by simp [Kd.marks]), Bool.and_self]
  | .one, n, h, hd => by
    cases n with
    | zero => omega
    | succ n => simp only [dK, hf, deq_s, decide_true]
  | .to a b, n, h, hd => by
    cases n with
    | zero => omega
    | succ n =>
      simp only [Kd.depth] at hd
      simp only [dK, hf, deq_s, decide_true, Bool.true_or, Bool.true_and, hf_of a n (fun m hm => h m (by simp [Kd.marks, hm])) (by omega), hf_of b n (fun m hm => h m (by simp [Kd.marks, hm])) (by omega), Bool.and_self]
  | .both a b, n, h, hd => by
    cases n with
    | zero => omega
    | succ n =>
      simp only [Kd.depth] at hd
      simp only [dK, hf, deq_s, decide_true, Bool.or_true, Bool.true_and, hf_of a n (fun m hm => h m (by simp [Kd.marks, hm])) (by omega), hf_of b n (fun m hm => h m (by simp [Kd.marks, hm])) (by omega), Bool.and_self]
theorem mark_so {m : Str} (h : isMarkB m = true) : PyData.strOk m = true := by
  rw [strOk_iff]
  unfold isMarkB at h
  simp only [Bool.and_eq_true, List.all_eq_true] at h
  intro c hc
  have h1 := h.1 c hc
  unfold letB at h1
  have h2 : ∀ c ∈ abc.cps.toList, c < 1114112 := by decide +kernel
  exact h2 c (of_decide_eq_true h1)
theorem mks_ok : ∀ k : Kd, k.mks → k.ok = true
  | .mk m, h => mark_so (h m (by simp [Kd.marks]))
  | .one, _ => rfl
  | .to a b, h => by simp only [Kd.ok, mks_ok a fun m hm => h m (by simp [Kd.marks, hm]), mks_ok b fun m hm => h m (by simp [Kd.marks, hm]), Bool.and_self]
  | .both a b, h => by simp only [Kd.ok, mks_ok a fun m hm => h m (by simp [Kd.marks, hm]), mks_ok b fun m hm => h m (by simp [Kd.marks, hm]), Bool.and_self]
theorem mks_th {k : Kd} (h : k.mks) : ThAll (dK k) := th_dK k (mks_ok k h) fun m hm => by have := mark_len (h m hm); omega
end Kf
namespace Kf
open PySem PySem.Spec L2
open PyProof.Rows hiding St
local macro_rules | `(tactic| walk_at "kf") => `(tactic| simp (config := { failIfUnchanged := false }) only [startD, ap_fiEnumT, asT1_t, ap_fKGet, asStr_s, ap_fKIn, ap_fKIx, ap_gAsgL, rUnl_l, ap_fiRng3, asR3_i, rSplitO_s, ap_fOrL, rOrL_l, ap_fLcK, ap_gForK, ap_fMaxD, rMaxD_l, rMaxL_l, ap_fCallXD, ap_gForE, asLE_l, ap_fFrz, ap_fDicO, ap_fDGet, ap_fDGet1, ap_fDGet2, ap_gDPut, ap_fIsiT, ap_gForR, rRep_l, isT_i, isT_s, isT_b, isT_n, isT_t, isT_l, ap_gSeq, ap_gIf, ap_gRet, ap_gNext, ap_gSet, ap_gAsg, ap_gPar, ap_gDrop, ap_gRetF, ap_gRetN, ap_gFor, ap_gSetIx, ap_gBreak, ap_fRev, ap_fiRevR, asIR_i, rRev_l, ap_fCallX, ap_gRaise, ap_gTry, ap_gTryAs, ap_gNever, ap_fEdic, ap_fTest, ap_fOp, ap_fVar, envGet_s, patGet_s, ap_fC, ap_fCB, ap_fCons, ap_fNil, ap_fCall, ap_fAnd, ap_fOr, ap_fNot, ap_fAndV, ap_fOrV, ap_fNotV, ap_fIf, ap_fTup, ap_fLst, ap_fLstO, ap_fChain, ap_fUn, ap_fBM, ap_fBM0, ap_fPool, rPool_i, ap_fSl, ap_fPart, ap_fNoPart, asI_i, rSl_l, ap_fiRng1, ap_fiRng2, ap_fiList, ap_fiTup, ap_fiStr, ap_fiEnum, ap_fiZip, ap_fiRev, asL_l, asT_t, asSg_s, asR1_i, asR2_i, asL1_l, asL2_l, ap_fLc, ap_fLcO, ap_fYes, wipeD, lcD, isi_i_int, isi_i_bool, isi_i_str, isi_i_tuple, isi_i_list, isi_i_dict, isi_b_int, isi_b_bool, isi_b_str, isi_b_tuple, isi_b_list, isi_b_dict, isi_s_int, isi_s_bool, isi_s_str, isi_s_tuple, isi_s_list, isi_s_dict, isi_t_int, isi_t_bool, isi_t_str, isi_t_tuple, isi_t_list, isi_t_dict, isi_l_int, isi_l_bool, isi_l_str, isi_l_tuple, isi_l_list, isi_l_dict, isi_n_int, isi_n_bool, isi_n_str, isi_n_tuple, isi_n_list, isi_n_dict, isi_d_int, isi_d_bool, isi_d_str, isi_d_tuple, isi_d_list, isi_d_dict,
  deref_tup, deref_lst, deref_int, deref_str, deref_bl, deref_non, deref_scr, rLt_i, rLt_s, rLe_i, rLe_s, rInts_i, rInts0_i, rAdd_i, rAdd_s, rAdd_l, rAdd_t, rCatO_l, rNeg_i, rLen_t, rLen_l, rLen_c, rLen_s, rMax_i, rMin_i, rInt_i, rInt_b, rDivmod_i, ap_gAug, rStr_i, rList_l, rList_t, rListO_l, rListO_t, rTup_l, rTup_t,
  rIx_t0, rIx_t1, rIx_t2, rIx_t3, rIx_l0, rIx_l1, rIx_l2, rIsN_x, isNon_t, isNon_n, isNon_i, isNon_s, isNon_l, rEq_i, rEq_b, rEq_i2, rEq_b2, rJoin_m, rSplit_s, tyOk_l, tyOk_s, patD_nm, patD_tp, patDs_nil, patDs_cons, Option.bind_some, notX, notX',
  List.map_cons, List.map_nil, List.length_cons, List.length_nil, List.cons_append, List.nil_append, List.append_nil, List.replicate, List.getElem?_cons_zero, List.getElem?_cons_succ, List.set_cons_zero, List.set_cons_succ, updO_same, updO_updO,
  Nat.reduceSub, Nat.reduceAdd, Nat.reduceLeDiff, Nat.zero_add, Int.cast_ofNat_Int, Int.natCast_zero, Int.natCast_one, Int.reduceLT, Int.reduceLE, Int.reduceEq, Int.reduceAdd, Int.reduceSub, Int.reduceNeg, decide_true, decide_false, if_true, if_false, Bool.false_eq_true, eq_self, reduceIte, Bool.true_eq_false, decide_eq_true_eq, Bool.not_true, Bool.not_false, Bool.not_eq_true', decide_eq_false_iff_not, exists_eq_left', exists_eq_left, D.bl.injEq, true_and, and_true, not_true_eq_false, not_false_eq_true])
local macro_rules | `(tactic| walk_at "len") => `(tactic| (intro ds O R RE h; first | (obtain ⟨e, _⟩ := h; subst e; rfl) | (obtain ⟨_, e, _⟩ := h; subst e; rfl) | (obtain ⟨_, _, e, _⟩ := h; subst e; rfl) | (obtain ⟨_, _, _, e, _⟩ := h; subst e; rfl) | (obtain ⟨_, _, _, _, e, _⟩ := h; subst e; rfl) | (obtain ⟨_, _, _, _, _, e, _⟩ := h; subst e; rfl) | (obtain ⟨_, _, _, _, _, _, e, _⟩ := h; subst e; rfl) | (obtain ⟨_, _, _, _, _, _, _, e, _⟩ := h; subst e; rfl) | (obtain ⟨_, _, _, _, _, _, _, _, e, _⟩ := h; subst e; rfl) | (obtain ⟨_, _, _, _, _, _, _, _, _, e, _⟩ := h; subst e; rfl)))
local macro_rules | `(tactic| walk_at "kf1") => `(tactic| simp (config := { failIfUnchanged := false }) only [startD, ap_fiEnumT, asT1_t, ap_fKGet, asStr_s, ap_fKIn, ap_fKIx, ap_gAsgL, rUnl_l, ap_fiRng3, asR3_i, rSplitO_s, ap_fOrL, rOrL_l, ap_fLcK, ap_gForK, ap_fMaxD, rMaxD_l, rMaxL_l, ap_fCallXD, ap_gForE, asLE_l, ap_fFrz, ap_fDicO, ap_fDGet, ap_fDGet1, ap_fDGet2, ap_gDPut, ap_fIsiT, ap_gForR, rRep_l, isT_i, isT_s, isT_b, isT_n, isT_t, isT_l, ap_gIf, ap_gRet, ap_gNext, ap_gSet, ap_gAsg, ap_gPar, ap_gDrop, ap_gRetF, ap_gRetN, ap_gFor, ap_gSetIx, ap_gBreak, ap_fRev, ap_fiRevR, asIR_i, rRev_l, ap_fCallX, ap_gRaise, ap_gTry, ap_gTryAs, ap_gNever, ap_fEdic, ap_fTest, ap_fOp, ap_fVar, envGet_s, patGet_s, ap_fC, ap_fCB, ap_fCons, ap_fNil, ap_fCall, ap_fAnd, ap_fOr, ap_fNot, ap_fAndV, ap_fOrV, ap_fNotV, ap_fIf, ap_fTup, ap_fLst, ap_fLstO, ap_fChain, ap_fUn, ap_fBM, ap_fBM0, ap_fPool, rPool_i, ap_fSl, ap_fPart, ap_fNoPart, asI_i, rSl_l, ap_fiRng1, ap_fiRng2, ap_fiList, ap_fiTup, ap_fiStr, ap_fiEnum, ap_fiZip, ap_fiRev, asL_l, asT_t, asSg_s, asR1_i, asR2_i, asL1_l, asL2_l, ap_fLc, ap_fLcO, ap_fYes, wipeD, lcD, isi_i_int, isi_i_bool, isi_i_str, isi_i_tuple, isi_i_list, isi_i_dict, isi_b_int, isi_b_bool, isi_b_str, isi_b_tuple, isi_b_list, isi_b_dict, isi_s_int, isi_s_bool, isi_s_str, isi_s_tuple, isi_s_list, isi_s_dict, isi_t_int, isi_t_bool, isi_t_str, isi_t_tuple, isi_t_list, isi_t_dict, isi_l_int, isi_l_bool, isi_l_str, isi_l_tuple, isi_l_list, isi_l_dict, isi_n_int, isi_n_bool, isi_n_str, isi_n_tuple, isi_n_list, isi_n_dict, isi_d_int, isi_d_bool, isi_d_str, isi_d_tuple, isi_d_list, isi_d_dict,
  deref_tup, deref_lst, deref_int, deref_str, deref_bl, deref_non, deref_scr, rLt_i, rLt_s, rLe_i, rLe_s, rInts_i, rInts0_i, rAdd_i, rAdd_s, rAdd_l, rAdd_t, rCatO_l, rNeg_i, rLen_t, rLen_l, rLen_c, rLen_s, rMax_i, rMin_i, rInt_i, rInt_b, rDivmod_i, ap_gAug, rStr_i, rList_l, rList_t, rListO_l, rListO_t, rTup_l, rTup_t,
  rIx_t0, rIx_t1, rIx_t2, rIx_t3, rIx_l0, rIx_l1, rIx_l2, rIsN_x, isNon_t, isNon_n, isNon_i, isNon_s, isNon_l, rEq_i, rEq_b, rEq_i2, rEq_b2, rJoin_m, rSplit_s, tyOk_l, tyOk_s, patD_nm, patD_tp, patDs_nil, patDs_cons, Option.bind_some, notX, notX',
  List.map_cons, List.map_nil, List.length_cons, List.length_nil, List.cons_append, List.nil_append, List.append_nil, List.replicate, List.getElem?_cons_zero, List.getElem?_cons_succ, List.set_cons_zero, List.set_cons_succ, updO_same, updO_updO,
  Nat.reduceSub, Nat.reduceAdd, Nat.reduceLeDiff, Nat.zero_add, Int.cast_ofNat_Int, Int.natCast_zero, Int.natCast_one, Int.reduceLT, Int.reduceLE, Int.reduceEq, Int.reduceAdd, Int.reduceSub, Int.reduceNeg, decide_true, decide_false, if_true, if_false, Bool.false_eq_true, eq_self, reduceIte, Bool.true_eq_false, decide_eq_true_eq, Bool.not_true, Bool.not_false, Bool.not_eq_true', decide_eq_false_iff_not, exists_eq_left', exists_eq_left, D.bl.injEq, true_and, and_true, not_true_eq_false, not_false_eq_true])
section
variable {P : Program} {w : World} {K : PySem.W.Frag} {mg : Str → Option Value} {base : Heap}
local macro_rules | `(tactic| walk_at "tg") => `(tactic| simp (config := { failIfUnchanged := false }) only [te_name_take, te_name_give, te_name_pair, te_name_first, te_name_second, te_name_to, te_name_both, te_name_one, te_name_mark, te_name_name, te_name_thing, te_name_at, te_thing_take, te_thing_give, te_thing_pair, te_thing_first, te_thing_second, te_thing_to, te_thing_both, te_thing_one, te_thing_mark, te_thing_name, te_thing_thing, te_thing_at, te_take_take, te_take_give, te_take_pair, te_take_first, te_take_second, te_take_to, te_take_both, te_take_one, te_take_mark, te_take_name, te_take_thing, te_take_at, te_give_take, te_give_give, te_give_pair, te_give_first, te_give_second, te_give_to, te_give_both, te_give_one, te_give_mark, te_give_name, te_give_thing, te_give_at, te_pair_take, te_pair_give, te_pair_pair, te_pair_first, te_pair_second, te_pair_to, te_pair_both, te_pair_one, te_pair_mark, te_pair_name, te_pair_thing, te_pair_at, te_first_take, te_first_give, te_first_pair, te_first_first, te_first_second, te_first_to, te_first_both, te_first_one, te_first_mark, te_first_name, te_first_thing, te_first_at, te_second_take, te_second_give, te_second_pair, te_second_first, te_second_second, te_second_to, te_second_both, te_second_one, te_second_mark, te_second_name, te_second_thing, te_second_at, te_mark_take, te_mark_give, te_mark_pair, te_mark_first, te_mark_second, te_mark_to, te_mark_both, te_mark_one, te_mark_mark, te_mark_name, te_mark_thing, te_mark_at, te_one_take, te_one_give, te_one_pair, te_one_first, te_one_second, te_one_to, te_one_both, te_one_one, te_one_mark, te_one_name, te_one_thing, te_one_at, te_to_take, te_to_give, te_to_pair, te_to_first, te_to_second, te_to_to, te_to_both, te_to_one, te_to_mark, te_to_name, te_to_thing, te_to_at, te_both_take, te_both_give, te_both_pair, te_both_first, te_both_second, te_both_to, te_both_both, te_both_one, te_both_mark, te_both_name, te_both_thing, te_both_at, te_at_take, te_at_give, te_at_pair, te_at_first, te_at_second, te_at_to, te_at_both, te_at_one, te_at_mark, te_at_name, te_at_thing, te_at_at, ti4_name, ti4_thing, ti4_take, ti4_give, ti4_pair, ti4_first, ti4_second, ti2_name, ti2_thing, ti2_take, ti2_give, ti2_pair, ti2_first, ti2_second, szT_0, szT_1, szT_2, szT_3, szT_4, szT_5, szT_6, szT_7, szT_8, szT_9, szT_10, szT_11, szT_12, Bool.not_true, Bool.not_false, true_and])
theorem ok_is_mark {a : Addr} {fd : FuncData} {k : Nat} (N : Fn K mg "is_mark" s_is_mark P_is_mark a fd) (m_len : mg "len" = none) (c1 : Cst K mg "LETTERS" (.str abc)) (c2 : Cst K mg "LONGEST" (.int 6)) : FnOk P w K mg base CX0 (k + 1) a fd P_is_mark (liftSp K spIsMark) := by
  refine fn_d (g := g_is_mark (.str abc) (.int 6)) N.F sc_is_mark (fun ds O R RE ⟨z, e, _⟩ => by rw [e]; rfl) (der_is_mark m_len c1 c2) ?_
  rintro ds O R RE ⟨z, rfl, hz, hR⟩
  unfold g_is_mark
  simp only [gSeq, gFor]
  walk_at "kf"
  refine for_in (j := 1) (ρ := [some (.str z), none]) (by simp) z.cps.toList none (fun h x => ?_) (fun h => ?_)
  · walk_at "kf"
    refine ⟨sz_small (by omega), ?_⟩
    unfold isMarkB at hR
    rw [show z.cps.toList.all letB = true from h, Bool.true_and] at hR
    by_cases c : (1 : Int) ≤ z.length
    · have c' : 1 ≤ z.length := by omega
      simp only [c, c', decide_true, Bool.true_and, if_true] at hR ⊢
      have e : decide ((z.length : Int) ≤ 6) = decide (z.length ≤ 6) := by
        by_cases q : z.length ≤ 6
        · rw [decide_eq_true q, decide_eq_true (by omega)]
        · rw [decide_eq_false q, decide_eq_false (by omega)]
      rw [e]; exact hR
    · have c' : ¬ 1 ≤ z.length := by omega
      simp only [c, c', decide_false, Bool.false_and] at hR ⊢
      exact hR
  · unfold isMarkB at hR
    rw [show z.cps.toList.all letB = false from h, Bool.false_and] at hR
    exact hR
theorem ok_leaves_of {a : Addr} {fd : FuncData} (N : Fn K mg "leaves_of" s_leaves_of P_leaves_of a fd) (m_len : mg "len" = none) : ∀ n, FnOk P w K mg base CX0 n a fd P_leaves_of (liftSp K (spLeaves n))
  | 0 => none_left fun ds O R RE ⟨k, _, h, _⟩ => by omega
  | n + 1 => by
    refine fn_d (g := g_leaves_of (spLeaves n)) N.F sc_leaves_of (fun ds O R RE ⟨k, e, _⟩ => by rw [e]; rfl) (der_leaves_of N (ok_leaves_of N m_len n) m_len) ?_
    rintro ds O R RE ⟨k, rfl, hd, hR⟩
    unfold g_leaves_of
    cases k <;> simp only [dK, Kd.leaves, Kd.depth, Int.natCast_add] at hR hd ⊢ <;> walk_at "kf"
    · exact hR
    · exact hR
    all_goals
      refine ⟨_, rfl, by omega, ⟨_, rfl, by omega, ?_⟩⟩
      walk_at "kf"
      exact hR
theorem rEq_h {neg : Bool} {x : D} {a : Str} {O : Ow} {Q : VD} (h : HdOk x) (ha : PyData.strOk a = true) : rEqD neg x (.str a) O Q = Q (.bl (neg ^^ deq x (.str a))) O := by
  have hx : deref O x = x := by
    have := h.1
    cases x <;> first | rfl | (simp [isPy] at this)
  rw [rEq_d (by rw [hx]; exact h.1) (by simp [deref, isPy, ha]) (by rw [hx]; have := h.2; omega), hx, deref_str]
theorem rIn_h {neg : Bool} {x : D} {O : Ow} {Q : VD} (h : HdOk x) : rInD neg x (.tup [.str "to", .str "both"]) O Q = Q (.bl (neg ^^ (deq x (.str "to") || deq x (.str "both")))) O := by
  have hx : deref O x = x := by
    have := h.1
    cases x <;> first | rfl | (simp [isPy] at this)
  have h1 : isPys [D.str "to", .str "both"] = true := by simp [isPys, isPy, so_to, so_both]
  have hc : ∀ a : Str, PyData.eqv (toPy (.str a)) (toPy x) = deq x (.str a) := fun a => by
    have h0 := h.1
    by_cases e : x = .str a
    · subst e; rfl
    · have h2 : deq x (.str a) = false := by
        rw [Bool.eq_false_iff]; exact fun q => e ((deq_str h.1).mp q)
      rw [h2]
      cases x with
      | str b =>
        show deq (.str a) (.str b) = false
        rw [deq_s, decide_eq_false]
        intro q; exact e (by rw [q])
      | non => simp [toPy, PyData.eqv]
      | bl b => simp [toPy, PyData.eqv]
      | int i => simp [toPy, PyData.eqv]
      | tup ds => exact deq_st
      | lst ds => exact deq_sl
      | ref a => simp [isPy] at h0
      | ty a => simp [isPy] at h0
      | scr a => simp [isPy] at h0
      | edic => simp [isPy] at h0
      | tupK _ => simp [isPy] at h0
  have hd : dp x ≤ 190 := by have := h.2; omega
  simp only [rInD, deref_tup, hx, h.1, h1, true_and, hd, List.any_cons, List.any_nil, Bool.or_false, hc]
theorem ok_form (T : TxW w K mg) : ∀ n, FO_has_form P w base T (n + 1) (spForm n)
  | 0 => fnUp (none_left fun ds O R RE ⟨d, r, _, h, _⟩ => by omega) (Nat.zero_le _)
  | n + 1 => by
    refine fnd_has_form T (ok_is_mark T.n_is_mark T.m_len T.c_LETTERS T.c_LONGEST) (ok_form T n) (by walk_at "len") ?_
    rintro ds O R RE ⟨d, r, rfl, hr, hd, hR⟩
    unfold g_has_form
    have fls : ∀ (c : Prop), hf r d = false → R (.bl false) O := fun _ h => by rw [h] at hR; exact hR
    have pl : isPlain d = true := by
      cases r with
      | zero => exact hd
      | succ r =>
        cases d <;> first | rfl | (simp only [ThOk, isPlain] at hd; cases hd)
    cases d with
    | ref a => cases pl
    | ty a => cases pl
    | scr a => cases pl
    | tupK a => cases pl
    | tup xs =>
      walk_at "kf"
      cases r with
      | zero => rw [if_pos (by omega)]; exact hR
      | succ r =>
        rw [if_neg (by omega)]
        match xs, hd, hR with
        | [], hd, hR => walk_at "kf"; exact hR
        | [x], hd, hR =>
          simp only [ThOk] at hd
          simp only [hf] at hR
          walk_at "kf"
          rw [rEq_d (by simp [deref, isPy, isPys, hd.1]) (by simp [deref, isPy, isPys, so_one]) (by rw [deref_tup, dpT, dpC, dpN]; have := hd.2; omega), deref_tup, deref_tup, deq_t, deqs_cc, deqs_nn, Bool.and_true]
          walk_at "kf"
          exact hR
        | [x, y], hd, hR =>
          simp only [ThOk] at hd
          simp only [hf] at hR
          walk_at "kf"
          rw [rEq_h hd.1 so_mark]
          walk_at "kf"
          cases e : deq x (.str "mark") with
          | false => rw [e, Bool.false_and] at hR; walk_at "kf"; exact hR
          | true =>
            rw [e, Bool.true_and] at hR
            walk_at "kf"
            cases y with
            | str s =>
              walk_at "kf"
              exact ⟨s, rfl, (hd.2.2 s rfl).1, hR⟩
            | ref a => cases hd.2.1
            | ty a => cases hd.2.1
            | scr a => cases hd.2.1
            | tupK a => cases hd.2.1
            | _ => walk_at "kf"; exact hR
        | [x, y, z], hd, hR =>
          simp only [ThOk] at hd
          simp only [hf] at hR
          walk_at "kf"
          refine ⟨sz_small (by decide), ?_⟩
          rw [rIn_h hd.1]
          walk_at "kf"
          cases e : (deq x (.str "to") || deq x (.str "both")) with
          | false => rw [e, Bool.false_and] at hR; walk_at "kf"; exact hR
          | true =>
            rw [e, Bool.true_and] at hR
            walk_at "kf"
            rw [show ((r + 1 : Nat) : Int) - 1 - 1 = (r : Int) - 1 by omega]
            refine ⟨y, r, rfl, by omega, hd.2.1, ?_⟩
            walk_at "kf"
            cases e2 : hf r y with
            | false => rw [e2, Bool.false_and] at hR; walk_at "kf"; exact hR
            | true =>
              rw [e2, Bool.true_and] at hR
              walk_at "kf"
              exact ⟨z, r, rfl, by omega, hd.2.2, hR⟩
        | x :: y :: z :: u :: us, hd, hR =>
          have e4 : ((us.length + 1 + 1 + 1 + 1 : Nat) : Int) = (us.length : Int) + 4 := by omega
          walk_at "kf"
          rw [if_neg (by omega)]
          walk_at "kf"
          rw [if_neg (by omega)]
          walk_at "kf"
          rw [if_pos (by omega)]
          exact hR
    | _ => walk_at "kf"; exact fls True (by cases r <;> rfl)
theorem ok_is_kind (T : TxW w K mg) {k : Nat} : FO_is_kind P w base T (k + 16) spIsKd := by
  refine fnd_is_kind T (fnUp (ok_form T 14) (by omega)) (fnUp (ok_leaves_of T.n_leaves_of T.m_len 14) (by omega)) (by walk_at "len") ?_
  rintro ds O R RE ⟨d, rfl, hd, hR1, hR2⟩
  unfold g_is_kind
  walk_at "kf"
  refine ⟨d, 13, rfl, by decide, hd, ?_⟩
  walk_at "kf"
  cases e : hf 13 d with
  | false => walk_at "kf"; exact hR1 e
  | true =>
    walk_at "kf"
    obtain ⟨kk, rfl, h1, h2, h3⟩ := hf_kind 13 d hd e
    refine ⟨kk, rfl, by omega, ?_⟩
    walk_at "kf"
    have := hR2 kk rfl e
    rw [show decide ((kk.leaves : Int) ≤ 24) = decide (kk.leaves ≤ 24) by rw [decide_eq_decide]; omega]
    exact this
def wsOk (ws : List Str) : Prop := ∀ w ∈ ws, PyData.strOk w = true ∧ w.length ≤ 1000
def wat (ws : List Str) (j : Nat) : Str := (ws[j]?).getD (Str.ofString "")
def spWordAt : DSp := fun ds O R _ => ∃ (ws : List Str) (j : Nat), ds = [.lst (ws.map .str), .int j] ∧ R (.str (wat ws j)) O
theorem ok_word_at (T : TxW w K mg) : FO_word_at P w base T 1 spWordAt := by
  refine fnd_word_at T (by walk_at "len") ?_
  rintro ds O R RE ⟨ws, j, rfl, hR⟩
  unfold g_word_at
  walk_at "kf"
  rw [List.length_map]
  unfold wat at hR
  by_cases h : j < ws.length
  · rw [if_pos (by omega)]
    rw [List.getElem?_eq_getElem h] at hR
    rw [rIx_l (show atI (ws.map D.str) (j : Int) = some (.str ws[j]) from atI_nat (by rw [List.getElem?_map, List.getElem?_eq_getElem h]; rfl))]
    exact hR
  · rw [if_neg (by omega)]
    rw [List.getElem?_eq_none (by omega)] at hR
    exact hR
theorem wat_drop (ws : List Str) (j : Nat) : wat ws j = (ws.drop j).headD (Str.ofString "") := by
  unfold wat
  cases h : ws.drop j with
  | nil =>
    have : ws.length ≤ j := by simpa using h
    rw [List.getElem?_eq_none this]; rfl
  | cons a r =>
    have : ws[j]? = some a := by
      have := congrArg (fun l => l[0]?) h
      simpa using this
    rw [this]; rfl
theorem wat_ok {ws : List Str} (h : wsOk ws) (j : Nat) : PyData.strOk (wat ws j) = true ∧ (wat ws j).length ≤ 1000 := by
  unfold wat
  cases e : ws[j]? with
  | none => exact ⟨by decide +kernel, by decide +kernel⟩
  | some a => exact h a (List.mem_of_getElem? e)
theorem so_op : PyData.strOk (Str.ofString "(") = true := by decide +kernel
theorem so_cl : PyData.strOk (Str.ofString ")") = true := by decide +kernel
theorem so_1 : PyData.strOk (Str.ofString "1") = true := by decide +kernel
theorem tab_sg (z : Str) : tabD tab_SIGNS z = match sg z with
    | some f => .str (kwd (f .one .one))
    | none => .non := by
  have h1 : tabF tab_SIGNS z = if z = Str.ofString "->" then some (Str.ofString "to") else if z = Str.ofString "*" then some (Str.ofString "both") else none := by
    unfold tabF tab_SIGNS
    simp only [List.find?_cons, List.find?_nil]
    by_cases c1 : z = Str.ofString "->"
    · subst c1; simp
    · have c1' : ¬ Str.ofString "->" = z := fun q => c1 q.symm
      by_cases c2 : z = Str.ofString "*"
      · subst c2; simp [c1, c1']
      · have c2' : ¬ Str.ofString "*" = z := fun q => c2 q.symm
        simp [c1, c1', c2, c2']
  unfold tabD sg
  rw [h1]
  by_cases c1 : z = Str.ofString "->"
  · rw [if_pos c1, if_pos c1]; rfl
  · rw [if_neg c1, if_neg c1]
    by_cases c2 : z = Str.ofString "*"
    · rw [if_pos c2, if_pos c2]; rfl
    · rw [if_neg c2, if_neg c2]
theorem sg_dK {z : Str} {f : Kd → Kd → Kd} (h : sg z = some f) (a b : Kd) : D.tup [.str (kwd (f .one .one)), dK a, dK b] = dK (f a b) := by
  unfold sg at h
  split at h
  · cases h; rfl
  · split at h
    · cases h; rfl
    · cases h
def spKf (n : Nat) : DSp := fun ds O R _ => ∃ (ws : List Str) (j r : Nat), ds = [.lst (ws.map .str), .int j, .int r] ∧ r < n ∧ wsOk ws ∧ (∀ k rest, kp r (ws.drop j) = some (k, rest) → R (.tup [dK k, .int ((ws.length - rest.length : Nat) : Int)]) O) ∧ (kp r (ws.drop j) = none → ∀ i : Nat, R (.tup [.non, .int i]) O)
theorem drop_suf {α : Type} {ws rest pre : List α} {j : Nat} (h : ws.drop j = pre ++ rest) : ws.drop (ws.length - rest.length) = rest := by
  have h1 : ws = ws.take j ++ (pre ++ rest) := by rw [← h]; exact (List.take_append_drop j ws).symm
  have h2 : ws = (ws.take j ++ pre) ++ rest := by rw [List.append_assoc]; exact h1
  generalize ws.take j ++ pre = q at h2
  subst h2
  rw [List.length_append, Nat.add_sub_cancel, List.drop_left]
theorem ok_kf (T : TxW w K mg) : ∀ n, FO_kind_from P w base T (n + 2) (spKf n)
  | 0 => fnUp (none_left fun ds O R RE ⟨ws, j, r, _, h, _⟩ => by omega) (Nat.zero_le _)
  | n + 1 => by
    refine fnd_kind_from T (fnUp (ok_word_at T) (by omega)) (ok_is_mark T.n_is_mark T.m_len T.c_LETTERS T.c_LONGEST) (ok_kf T n) (by walk_at "len") ?_
    rintro ds O R RE ⟨ws, j, r, rfl, hr, hws, hS, hN⟩
    unfold g_kind_from
    refine gSeq_step ?_
    walk_at "kf1"
    refine ⟨ws, j, rfl, ?_⟩
    have hw := wat_ok hws j
    have hdr := wat_drop ws j
    try dsimp only
    have sz : ∀ {l rest : List Str}, ws.drop j = l ++ rest → True := fun _ => trivial
    have jlt : ∀ (a : Str) (l : List Str), ws.drop j = a :: l → j < ws.length ∧ ws.length - l.length = j + 1 := fun a l h => by
      have := congrArg List.length h
      rw [List.length_drop, List.length_cons] at this
      omega
    refine gSeq_step ?_
    walk_at "kf1"
    rw [rEq_s hw.1 so_1]
    by_cases c1 : wat ws j = Str.ofString "1"
    · simp only [c1, decide_true, Bool.false_xor]
      walk_at "kf1"
      walk_at "tg"
      cases hd : ws.drop j with
      | nil => rw [hdr, hd] at c1; exact absurd c1 (by decide +kernel)
      | cons a l =>
        rw [hdr, hd] at c1
        have ea : a = Str.ofString "1" := c1
        have := hS .one l (by rw [hd, ea]; have : lfw (Str.ofString "1") = some .one := by decide +kernel
                              cases r <;> simp [kp, this])
        rw [(jlt a l hd).2] at this
        exact this
    · simp only [c1, decide_false, Bool.false_xor]
      walk_at "kf1"
      refine gSeq_step ?_
      walk_at "kf1"
      refine ⟨wat ws j, rfl, hw.2, ?_⟩
      cases hm : isMarkB (wat ws j) with
      | true =>
        walk_at "kf1"
        walk_at "tg"
        cases hd : ws.drop j with
        | nil => rw [hdr, hd] at hm; exact absurd hm (by decide +kernel)
        | cons a l =>
          rw [hdr, hd] at hm ⊢
          have hm' : isMarkB a = true := hm
          have := hS (.mk a) l (by rw [hd]; cases r <;> simp [kp, lfw_mk hm'])
          rw [(jlt a l hd).2] at this
          exact this
      | false =>
        have hlf : lfw (wat ws j) = none := by unfold lfw; rw [if_neg c1, if_neg (by rw [hm]; simp)]
        walk_at "kf1"
        refine gSeq_step ?_
        walk_at "kf1"
        rw [rEq_s hw.1 so_op]
        by_cases c2 : wat ws j = Str.ofString "("
        · simp only [c2, decide_true, Bool.true_xor, Bool.not_true]
          walk_at "kf1"
          cases r with
          | zero =>
            walk_at "kf1"
            walk_at "tg"
            refine hN ?_ j
            cases hd : ws.drop j with
            | nil => rfl
            | cons a l =>
              rw [hdr, hd] at hlf
              have : lfw a = none := hlf
              simp [kp, this]
          | succ r =>
            rw [if_neg (show ¬ (((r + 1 : Nat) : Int) = 0) by omega)]
            cases hd : ws.drop j with
            | nil => rw [hdr, hd] at c2; exact absurd c2 (by decide +kernel)
            | cons a l =>
              have ea : a = Str.ofString "(" := by rw [hdr, hd] at c2; exact c2
              have hl := (jlt a l hd)
              have el : ws.drop (j + 1) = l := by
                rw [← List.drop_drop, hd]; rfl
              have kpe : kp (r + 1) (ws.drop j) = kpo r l := by rw [hd, ea, kp_op]
              rw [kpe] at hS hN
              unfold kpo at hS hN
              refine gSeq_step ?_
              walk_at "kf1"
              rw [show (j : Int) + 1 = ((j + 1 : Nat) : Int) by omega, show (((r + 1 : Nat) : Int) - 1) = (r : Int) by omega]
              refine ⟨ws, j + 1, r, rfl, by omega, hws, fun k1 rest1 e1 => ?_, fun e1 i => ?_⟩
              · rw [el] at e1
                obtain ⟨w1, m1, d1⟩ := kp_words r l k1 rest1 e1
                have ed1 : ws.drop (ws.length - rest1.length) = rest1 := drop_suf (pre := kwords k1) (j := j + 1) (by rw [el, w1])
                rw [e1] at hS hN
                generalize hj1 : ws.length - rest1.length = j1 at ed1
                have hw1 := wat_ok hws j1
                have hdr1 := wat_drop ws j1
                rw [ed1] at hdr1
                walk_at "kf1"
                refine gSeq_step ?_
                walk_at "kf1"
                refine ⟨ws, j1, rfl, ?_⟩
                walk_at "kf1"
                rw [tab_sg]
                refine gSeq_step ?_
                walk_at "kf1"
                rw [show isNon (dK k1) = false by cases k1 <;> rfl]
                walk_at "kf1"
                cases hs1 : sg (wat ws j1) with
                | none =>
                  simp only
                  walk_at "kf1"
                  walk_at "tg"
                  refine hN ?_ j1
                  cases rest1 with
                  | nil => rfl
                  | cons s r2 =>
                    have : sg s = none := by rw [hdr1] at hs1; exact hs1
                    simp only [this]
                | some f =>
                  simp only
                  walk_at "kf1"
                  cases rest1 with
                  | nil => rw [hdr1] at hs1; exact absurd (show sg (Str.ofString "") = some f from hs1) (by rw [sg_e]; simp)
                  | cons s r2 =>
                    have hsf : sg s = some f := by rw [hdr1] at hs1; exact hs1
                    simp only [hsf] at hS hN
                    have ed2 : ws.drop (j1 + 1) = r2 := by rw [← List.drop_drop, ed1]; rfl
                    refine gSeq_step ?_
                    walk_at "kf1"
                    rw [show (j1 : Int) + 1 = ((j1 + 1 : Nat) : Int) by omega, show (((r + 1 : Nat) : Int) - 1) = (r : Int) by omega]
                    refine ⟨ws, j1 + 1, r, rfl, by omega, hws, fun k2 rest2 e2 => ?_, fun e2 i => ?_⟩
                    · rw [ed2] at e2
                      obtain ⟨w2, m2, d2⟩ := kp_words r r2 k2 rest2 e2
                      have ed3 : ws.drop (ws.length - rest2.length) = rest2 := drop_suf (pre := kwords k2) (j := j1 + 1) (by rw [ed2, w2])
                      rw [e2] at hS hN
                      generalize hj2 : ws.length - rest2.length = j2 at ed3
                      have hw2 := wat_ok hws j2
                      have hdr2 := wat_drop ws j2
                      rw [ed3] at hdr2
                      walk_at "kf1"
                      refine gSeq_step ?_
                      walk_at "kf1"
                      rw [show isNon (dK k2) = false by cases k2 <;> rfl]
                      walk_at "kf1"
                      refine ⟨ws, j2, rfl, ?_⟩
                      dsimp only
                      rw [rEq_s hw2.1 so_cl]
                      by_cases c3 : wat ws j2 = Str.ofString ")"
                      · simp only [c3, decide_true, Bool.true_xor, Bool.not_true]
                        walk_at "kf1"
                        walk_at "tg"
                        cases rest2 with
                        | nil => rw [hdr2] at c3; exact absurd c3 (by decide +kernel)
                        | cons c r3 =>
                          have ec : c = Str.ofString ")" := by rw [hdr2] at c3; exact c3
                          have := hS (f k1 k2) r3 (by simp only [ec, if_true])
                          have hl3 : ws.length - r3.length = j2 + 1 := by
                            have := congrArg List.length ed3
                            rw [List.length_drop, List.length_cons] at this
                            omega
                          rw [hl3] at this
                          rw [sg_dK hsf]
                          exact this
                      · simp only [c3, decide_false, Bool.true_xor, Bool.not_false]
                        walk_at "kf1"
                        walk_at "tg"
                        refine hN ?_ j2
                        cases rest2 with
                        | nil => rfl
                        | cons c r3 =>
                          have ec : ¬ c = Str.ofString ")" := by rw [hdr2] at c3; exact c3
                          simp only [ec, if_false]
                    · rw [ed2] at e2
                      rw [e2] at hN
                      walk_at "kf1"
                      refine gSeq_step ?_
                      walk_at "kf1"
                      walk_at "tg"
                      exact hN rfl i
              · rw [el] at e1
                rw [e1] at hN
                walk_at "kf1"
                refine gSeq_step ?_
                walk_at "kf1"
                refine ⟨ws, i, rfl, ?_⟩
                try dsimp only
                walk_at "kf1"
                refine gSeq_step ?_
                walk_at "kf1"
                walk_at "tg"
                exact hN rfl i
        · simp only [c2, decide_false, Bool.true_xor, Bool.not_false]
          walk_at "kf1"
          walk_at "tg"
          refine hN ?_ j
          cases hd : ws.drop j with
          | nil => cases r <;> rfl
          | cons a l =>
            rw [hdr, hd] at hlf c2
            have h1 : lfw a = none := hlf
            have h2 : ¬ a = Str.ofString "(" := c2
            cases r with
            | zero => simp [kp, h1]
            | succ r => simp [kp, h1, h2]
def spRead (C : Addr) : DSp := fun ds O R RE => ∃ t : Str, ds = [.str t] ∧ t.length ≤ 10000 ∧ wsOk (Txt.split t bl1) ∧ (∀ k, rk t = some k → k.mks → k.depth ≤ 12 → k.leaves ≤ 24 → R (dK k) O) ∧ (rk t = none → RE (.ref C) none O)
theorem ok_read (T : TxW w K mg) : FO_read_kind P w base T 20 (spRead T.C_NoKind) := by
  refine fnd_read_kind T (fnUp (ok_kf T 13) (by omega)) (fnUp (ok_is_kind T (k := 0)) (by omega)) (by walk_at "len") ?_
  rintro ds O R RE ⟨t, rfl, hl, hws, hS, hN⟩
  have raise : ∀ ρ : DEnv, rk t = none → XG RE (.ref T.C_NoKind) none ρ O := fun ρ h => ⟨O, Sub.refl _, hN h⟩
  unfold g_read_kind
  refine gSeq_step ?_
  walk_at "kf1"
  refine ⟨by decide +kernel, sz_21 (by omega), ?_⟩
  refine gSeq_step ?_
  walk_at "kf1"
  refine ⟨Txt.split t bl1, 0, 12, rfl, by omega, hws, fun k rest e => ?_, fun e i => ?_⟩
  · rw [List.drop_zero] at e
    obtain ⟨w1, m1, d1⟩ := kp_words 12 _ k rest e
    walk_at "kf1"
    refine gSeq_step ?_
    walk_at "kf1"
    rw [show isNon (dK k) = false by cases k <;> rfl]
    walk_at "kf1"
    rw [List.length_map, show Txt.split t (Str.ofString " ") = Txt.split t bl1 from rfl]
    have hne := kwords_ne k
    have hlen := congrArg List.length w1
    rw [List.length_append] at hlen
    have hpos : 0 < (kwords k).length := List.length_pos_iff.mpr hne
    by_cases c : rest = []
    · subst c
      rw [if_neg (by rw [List.length_nil]; omega)]
      refine ⟨dK k, rfl, mks_th m1 13, fun h => ?_, fun k' ek h => ?_⟩
      · rw [hf_of k 13 m1 (by omega)] at h; cases h
      · have hkk : k = k' := by
          have h1 := deq_K k k'
          rw [← ek] at h1
          have h2 := deq_K k k
          exact of_decide_eq_true (by rw [← h1, h2]; simp)
        subst hkk
        by_cases c2 : k.leaves ≤ 24
        · simp only [c2, decide_true]
          walk_at "kf1"
          exact .at (hS k (by unfold rk; rw [e]; simp [c2]) m1 d1 c2)
        · simp only [c2, decide_false]
          walk_at "kf1"
          exact raise _ (by unfold rk; rw [e]; simp [c2])
    · have hr : 0 < rest.length := List.length_pos_iff.mpr c
      rw [if_pos (by omega)]
      refine raise _ ?_
      unfold rk
      rw [e]
      cases rest with
      | nil => exact absurd rfl c
      | cons _ _ => rfl
  · rw [List.drop_zero] at e
    walk_at "kf1"
    refine gSeq_step ?_
    walk_at "kf1"
    exact raise _ (by unfold rk; rw [e])
end
end Kf
namespace Kf
open PySem PySem.Spec L2
open PyProof.Rows hiding St
/-! ### ends, patterns -/
def ends : Kd → List (List Kd × Str)
  | .mk m => [([], m)]
  | .one => []
  | .both a b => ends a ++ ends b
  | .to a b => (ends b).map fun e => (a :: e.1, e.2)
def dEnd (e : List Kd × Str) : D := .tup [.lst (e.1.map dK), .str e.2]
theorem ends_len : ∀ k : Kd, (ends k).length ≤ k.leaves
  | .mk _ => by simp [ends, Kd.leaves]
  | .one => by simp [ends, Kd.leaves]
  | .both a b => by have := ends_len a; have := ends_len b; simp only [ends, Kd.leaves, List.length_append]; omega
  | .to a b => by have := ends_len b; simp only [ends, Kd.leaves, List.length_map]; omega
/-- what is taken is less deep, and has fewer leaves -/
theorem ends_in : ∀ (k : Kd) (e : List Kd × Str), e ∈ ends k → (∀ x ∈ e.1, x.depth < k.depth ∧ (k.ok = true → x.ok = true)) ∧ (e.1.map Kd.leaves).sum < k.leaves ∧ (k.ok = true → PyData.strOk e.2 = true) ∧ e.2 ∈ k.marks
  | .mk m, e, h => by simp [ends] at h; subst h; simp [Kd.leaves, Kd.marks, Kd.ok]
  | .one, e, h => by simp [ends] at h
  | .both a b, e, h => by
    simp only [ends, List.mem_append] at h
    have ha := leaves_pos a
    have hb := leaves_pos b
    rcases h with h | h
    · obtain ⟨h1, h2, h3, h4⟩ := ends_in a e h
      refine ⟨fun x hx => ⟨by have := (h1 x hx).1; simp only [Kd.depth]; omega, fun ho => (h1 x hx).2 (by simp [Kd.ok] at ho; exact ho.1)⟩, by simp only [Kd.leaves]; omega, fun ho => h3 (by simp [Kd.ok] at ho; exact ho.1), by simp [Kd.marks, h4]⟩
    · obtain ⟨h1, h2, h3, h4⟩ := ends_in b e h
      refine ⟨fun x hx => ⟨by have := (h1 x hx).1; simp only [Kd.depth]; omega, fun ho => (h1 x hx).2 (by simp [Kd.ok] at ho; exact ho.2)⟩, by simp only [Kd.leaves]; omega, fun ho => h3 (by simp [Kd.ok] at ho; exact ho.2), by simp [Kd.marks, h4]⟩
  | .to a b, e, h => by
    simp only [ends, List.mem_map] at h
    obtain ⟨e', h, rfl⟩ := h
    obtain ⟨h1, h2, h3, h4⟩ := ends_in b e' h
    refine ⟨fun x hx => ?_, ?_, fun ho => h3 (by simp [Kd.ok] at ho; exact ho.2), by simp [Kd.marks, h4]⟩
    · rcases List.mem_cons.mp hx with rfl | hx
      · exact ⟨by simp only [Kd.depth]; omega, fun ho => by simp [Kd.ok] at ho; exact ho.1⟩
      · exact ⟨by have := (h1 x hx).1; simp only [Kd.depth]; omega, fun ho => (h1 x hx).2 (by simp [Kd.ok] at ho; exact ho.2)⟩
    · simp only [List.map_cons, List.sum_cons, Kd.leaves]; omega
/-! the order of texts -/
def leS (a b : Str) : Bool := !decide (b.cps.toList < a.cps.toList)
def srt (xs : List Str) : List Str := xs.mergeSort leS
theorem leS_iff {a b : Str} : leS a b = true ↔ ¬ b.cps.toList < a.cps.toList := by unfold leS; simp
theorem srt_perm (xs : List Str) : (srt xs).Perm xs := List.mergeSort_perm xs leS
theorem srt_pw (xs : List Str) : (srt xs).Pairwise fun a b => ¬ b.cps.toList < a.cps.toList := by
  have := List.pairwise_mergeSort (le := leS) (fun a b c h1 h2 => leS_iff.mpr (cps_le_trans (leS_iff.mp h1) (leS_iff.mp h2))) (fun a b => by
    simp only [Bool.or_eq_true, leS_iff]
    rcases Decidable.em (b.cps.toList < a.cps.toList) with h | h
    · exact .inr fun q => absurd (List.lt_trans h q) (List.lt_irrefl _)
    · exact .inl h) xs
  exact this.imp fun h => leS_iff.mp h
theorem pw_uniq {a b : List Str} (h : a.Pairwise fun x y => ¬ y.cps.toList < x.cps.toList) (h' : b.Pairwise fun x y => ¬ y.cps.toList < x.cps.toList) (p : a.Perm b) : a = b := by
  refine List.Perm.eq_of_pairwise (le := fun (x y : Str) => ¬ y.cps.toList < x.cps.toList) ?_ h h' p
  intro x y _ _ h1 h2
  exact str_ext (List.le_antisymm (as := x.cps.toList) (bs := y.cps.toList) h1 h2)
theorem srt_of {xs ys : List Str} (p : ys.Perm xs) (h : sortedS ys = true) : ys = srt xs := pw_uniq (sortedS_pw h) (srt_pw xs) (p.trans (srt_perm xs).symm)
theorem srt_congr {xs ys : List Str} (p : xs.Perm ys) : srt xs = srt ys := pw_uniq (srt_pw xs) (srt_pw ys) ((srt_perm xs).trans (p.trans (srt_perm ys).symm))
/-- the text of one end -/
def pat (ins : List Str) (m : Str) : Str := Str.ofString "<" ++ Str.join (Str.ofString " ") (srt ins) ++ Str.ofString ">" ++ m
def epa : Kd → List Str → List Str
  | .mk m, acc => [pat acc m]
  | .one, _ => []
  | .both a b, acc => epa a acc ++ epa b acc
  | .to a b, acc => epa b (acc ++ epa a [])
theorem epa_perm : ∀ (k : Kd) {acc acc' : List Str}, acc.Perm acc' → epa k acc = epa k acc'
  | .mk m, acc, acc', h => by rw [epa, epa, pat, pat, srt_congr h]
  | .one, _, _, _ => rfl
  | .both a b, acc, acc', h => by rw [epa, epa, epa_perm a h, epa_perm b h]
  | .to a b, acc, acc', h => by rw [epa, epa, epa_perm b (h.append_right _)]
/-- kinds that are alike -/
def Iso (k k' : Kd) : Prop := ∀ acc, (epa k acc).Perm (epa k' acc)
theorem Iso.refl (k : Kd) : Iso k k := fun _ => List.Perm.refl _
theorem Iso.symm {a b : Kd} (h : Iso a b) : Iso b a := fun acc => (h acc).symm
theorem Iso.trans {a b c : Kd} (h : Iso a b) (h' : Iso b c) : Iso a c := fun acc => (h acc).trans (h' acc)
theorem Iso.both {a a' b b' : Kd} (h : Iso a a') (h' : Iso b b') : Iso (.both a b) (.both a' b') := fun acc => by
  rw [epa, epa]; exact (h acc).append (h' acc)
theorem Iso.to {a a' b b' : Kd} (h : Iso a a') (h' : Iso b b') : Iso (.to a b) (.to a' b') := fun acc => by
  rw [epa, epa, epa_perm b ((h []).append_left acc)]; exact h' _
/-! how long -/
def spEnds (n : Nat) : DSp := fun ds O R _ => ∃ k : Kd, ds = [dK k] ∧ k.depth < n ∧ k.depth < 190 ∧ k.ok = true ∧ k.leaves ≤ 1000 ∧ R (.lst ((ends k).map dEnd)) O
/-! the word of a kind -/
def Kd.word : Kd → Str
  | .mk _ => "mark"
  | .one => "one"
  | .to _ _ => "to"
  | .both _ _ => "both"
theorem len_sum : ∀ l : List Kd, l.length ≤ (l.map Kd.leaves).sum
  | [] => by simp
  | k :: l => by have := len_sum l; have := leaves_pos k; simp only [List.length_cons, List.map_cons, List.sum_cons]; omega
theorem ends_marks : ∀ (k : Kd) (e : List Kd × Str), e ∈ ends k → ∀ x ∈ e.1, ∀ m ∈ x.marks, m ∈ k.marks
  | .mk m, e, h, x, hx, _, _ => by simp [ends] at h; subst h; cases hx
  | .one, e, h, _, _, _, _ => by simp [ends] at h
  | .both a b, e, h, x, hx, m, hm => by
    simp only [ends, List.mem_append] at h
    simp only [Kd.marks, List.mem_append]
    exact h.imp (fun h => ends_marks a e h x hx m hm) (fun h => ends_marks b e h x hx m hm)
  | .to a b, e, h, x, hx, m, hm => by
    simp only [ends, List.mem_map] at h
    obtain ⟨e', h, rfl⟩ := h
    simp only [Kd.marks, List.mem_append]
    rcases List.mem_cons.mp hx with rfl | hx
    · exact .inl hm
    · exact .inr (ends_marks b e' h x hx m hm)
theorem le_sum {n : Nat} : ∀ {l : List Nat}, n ∈ l → n ≤ l.sum
  | x :: l, h => by
    rw [List.sum_cons]
    rcases List.mem_cons.mp h with rfl | h
    · omega
    · have := le_sum h; omega
end Kf
/-! Kfm: the pattern of a kind and its form tell kinds apart alike. -/
namespace Kf
open PySem PySem.Spec L2
open PyProof.Rows hiding St
/-! ### codes -/
def cds (s : Str) : List Nat := s.cps.toList
def joinL : List (List Nat) → List Nat
  | [] => []
  | [w] => w
  | w :: x :: r => w ++ 32 :: joinL (x :: r)
def plainC (m : List Nat) : Prop := ∀ c ∈ m, c ≠ 32 ∧ c ≠ 60 ∧ c ≠ 62
inductive Lg : List Nat → Prop
  | mk (ws : List (List Nat)) (m : List Nat) : (∀ w ∈ ws, Lg w) → plainC m → Lg (60 :: (joinL ws ++ 62 :: m))
/-! ### trees -/
inductive Ft where
  | nd : List Ft → Str → Ft
mutual
def Ft.gd : Ft → Prop
  | .nd ts m => Fts ts ∧ plainC (cds m) ∧ PyData.strOk m = true
def Fts : List Ft → Prop
  | [] => True
  | t :: r => t.gd ∧ Fts r
end
mutual
def Ft.sz : Ft → Nat
  | .nd ts _ => szs ts + 1
def szs : List Ft → Nat
  | [] => 0
  | t :: r => t.sz + szs r
end
mutual
def Ft.ht : Ft → Nat
  | .nd ts _ => hts ts + 1
def hts : List Ft → Nat
  | [] => 0
  | t :: r => max t.ht (hts r)
end
theorem lvs_pos : ∀ k : Kd, 1 ≤ k.leaves
  | .mk _ => Nat.le_refl _
  | .one => Nat.le_refl _
  | .to a b => by have := lvs_pos a; simp only [Kd.leaves]; omega
  | .both a b => by have := lvs_pos a; simp only [Kd.leaves]; omega
/-! ### texts and forms -/
end Kf
/-! Kfn: texts of trees are alike just where their forms are. -/
namespace Kf
open PySem PySem.Spec L2
open PyProof.Rows hiding St
/-! ### what sorted() asks -/
end Kf
/-! Kfo: forms by ends; marks. -/
namespace Kf
open PySem PySem.Spec L2
open PyProof.Rows hiding St
theorem ex_map {α β : Type} {f : α → β} : ∀ {L : List β} {xs : List α}, L.Perm (xs.map f) → ∃ ys : List α, ys.Perm xs ∧ L = ys.map f
  | [], xs, p => by
    have := p.length_eq
    rw [List.length_nil, List.length_map] at this
    rw [List.length_eq_zero_iff.mp this.symm]
    exact ⟨[], .nil, rfl⟩
  | l :: L, xs, p => by
    have hm : l ∈ xs.map f := p.mem_iff.mp (by simp)
    obtain ⟨x, hx, rfl⟩ := List.mem_map.mp hm
    obtain ⟨a, b, rfl⟩ := List.append_of_mem hx
    have p2 : L.Perm ((a ++ b).map f) := by
      have p3 : (f x :: L).Perm (f x :: (a ++ b).map f) := by
        refine p.trans ?_
        rw [List.map_append, List.map_cons, List.map_append]
        exact List.perm_middle
      exact p3.cons_inv
    obtain ⟨ys, h1, rfl⟩ := ex_map p2
    exact ⟨x :: ys, (h1.cons x).trans List.perm_middle.symm, rfl⟩
theorem mem_sum {x : Kd} {l : List Kd} (h : x ∈ l) : x.leaves ≤ (l.map Kd.leaves).sum := le_sum (List.mem_map.mpr ⟨x, h, rfl⟩)
/-! ### nested takes -/
end Kf
/-! Kdc: tables, rows of names. -/
namespace Kf
open PySem PySem.Spec L2
open PyProof.Rows hiding St
theorem valD_pos {κ : Type} [DecidableEq κ] {p : κ × D} {r : List (κ × D)} {k : κ} (e : p.1 = k) : valD (p :: r) k = some p.2 := by simp [valD, List.find?_cons, e]
theorem valD_neg {κ : Type} [DecidableEq κ] {p : κ × D} {r : List (κ × D)} {k : κ} (e : ¬ p.1 = k) : valD (p :: r) k = valD r k := by simp [valD, List.find?_cons, e]
theorem valD_any {κ : Type} [DecidableEq κ] (k : κ) : ∀ kvs : List (κ × D), (kvs.any fun kv => decide (kv.1 = k)) = (valD kvs k).isSome
  | [] => rfl
  | p :: r => by
    rw [List.any_cons]
    by_cases e : p.1 = k
    · simp only [valD_pos e, decide_eq_true e, Bool.true_or, Option.isSome_some]
    · rw [valD_neg e, decide_eq_false e, Bool.false_or]; exact valD_any k r
theorem valD_map {κ : Type} [DecidableEq κ] (k j : κ) (y : D) : ∀ kvs : List (κ × D), valD (kvs.map fun kv => if kv.1 = k then (kv.1, y) else kv) j = (valD kvs j).map fun x => if j = k then y else x
  | [] => rfl
  | p :: r => by
    have ih := valD_map k j y r
    rw [List.map_cons]
    by_cases h : p.1 = k
    · rw [if_pos h]
      by_cases e : p.1 = j
      · rw [valD_pos (p := (p.1, y)) e, valD_pos e, Option.map_some, if_pos (e.symm.trans h)]
      · rw [valD_neg (p := (p.1, y)) e, valD_neg e, ih]
    · rw [if_neg h]
      by_cases e : p.1 = j
      · rw [valD_pos (p := p) e, valD_pos e, Option.map_some, if_neg (fun z => h (e.trans z))]
      · rw [valD_neg (p := p) e, valD_neg e, ih]
theorem valD_snoc {κ : Type} [DecidableEq κ] (k j : κ) (y : D) : ∀ kvs : List (κ × D), valD kvs k = none → valD (kvs ++ [(k, y)]) j = if j = k then some y else valD kvs j
  | [], _ => by
    by_cases e : k = j
    · rw [if_pos e.symm]; exact valD_pos (p := (k, y)) e
    · rw [if_neg (fun z => e z.symm)]; exact valD_neg (p := (k, y)) e
  | p :: r, hn => by
    rw [List.cons_append]
    have hk : ¬ p.1 = k := fun z => by rw [valD_pos z] at hn; cases hn
    rw [valD_neg hk] at hn
    have ih := valD_snoc k j y r hn
    by_cases e : p.1 = j
    · rw [valD_pos e, valD_pos e, if_neg (fun z => hk (e.trans z))]
    · rw [valD_neg e, valD_neg e, ih]
theorem valD_put {κ : Type} [DecidableEq κ] (kvs : List (κ × D)) (k j : κ) (d : D) : valD (putD kvs k d) j = if j = k then some d else valD kvs j := by
  unfold putD
  rw [valD_any]
  cases h : valD kvs k with
  | none => rw [if_neg (by simp)]; exact valD_snoc k j d kvs h
  | some x =>
    rw [if_pos (by rfl), valD_map]
    by_cases e : j = k
    · subst e; rw [if_pos rfl, h]; simp
    · rw [if_neg e]; simp [e]
theorem keys_put {κ : Type} [DecidableEq κ] (kvs : List (κ × D)) (k : κ) (d : D) : (putD kvs k d).map (·.1) = if (valD kvs k).isSome then kvs.map (·.1) else kvs.map (·.1) ++ [k] := by
  unfold putD
  rw [valD_any]
  split
  · rw [List.map_map]
    refine List.map_congr_left fun p _ => ?_
    show (if p.1 = k then (p.1, d) else p).1 = p.1
    split <;> rfl
  · rw [List.map_append]; rfl
theorem valD_mem {κ : Type} [DecidableEq κ] {kvs : List (κ × D)} {k : κ} : k ∈ kvs.map (·.1) ↔ (valD kvs k).isSome = true := by
  rw [← valD_any, List.any_eq_true, List.mem_map]
  constructor
  · rintro ⟨p, h1, h2⟩; exact ⟨p, h1, decide_eq_true h2⟩
  · rintro ⟨p, h1, h2⟩; exact ⟨p, h1, of_decide_eq_true h2⟩
theorem nodup_le {α : Type} [DecidableEq α] : ∀ {ts us : List α}, ts.Nodup → (∀ t ∈ ts, t ∈ us) → ts.length ≤ us.length
  | [], _, _, _ => Nat.zero_le _
  | t :: ts, us, hn, h => by
    have h1 := List.nodup_cons.mp hn
    have ht := h t List.mem_cons_self
    have ih := nodup_le (us := us.erase t) h1.2 fun u hu => by
      have hne : u ≠ t := fun q => h1.1 (q ▸ hu)
      exact (List.mem_erase_of_ne hne).mpr (h u (List.mem_cons_of_mem _ hu))
    rw [List.length_erase_of_mem ht] at ih
    have := List.length_pos_of_mem ht
    rw [List.length_cons]; omega
/-! ### rows -/
abbrev kv (q : Str × Kd) : D := .tup [.str q.1, dK q.2]
def ANames : List Str := ["pa", "fa", "pb", "fb", "x0", "x1", "x2", "y", "z", "x7"]
def XNames : List Str := ["x0", "x1", "x2", "y", "z", "x7"]
abbrev AB : List Str := ["a", "b"]
theorem xnames : ∀ x ∈ XNames, x ∈ ANames ∧ x ≠ "pa" ∧ x ≠ "pb" ∧ x ≠ "fa" ∧ x ≠ "fb" := by decide +kernel
structure RowOk (kn : List (Str × Kd)) : Prop where
  nm : ∀ q ∈ kn, q.1 ∈ ANames ∧ q.2.over AB ∧ q.2.leaves ≤ 3
  pa : envOf kn "pa" = some (.mk "a")
  pb : envOf kn "pb" = some (.mk "b")
  fa : envOf kn "fa" = some (.to (.mk "a") (.mk "a"))
  fb : envOf kn "fb" = some (.to (.mk "b") (.mk "b"))
theorem RowOk.snoc {kn : List (Str × Kd)} (h : RowOk kn) {x : Str} {k : Kd} (hx : x ∈ XNames) (ho : k.over AB) (hl : k.leaves ≤ 3) : RowOk (kn ++ [(x, k)]) := by
  obtain ⟨h0, h1, h2, h3, h4⟩ := xnames x hx
  refine ⟨fun q hq => ?_, ?_, ?_, ?_, ?_⟩
  · rcases List.mem_append.mp hq with hq | hq
    · exact h.nm q hq
    · rw [List.mem_singleton.mp hq]; exact ⟨h0, ho, hl⟩
  · rw [envOf_snoc, if_neg h1]; exact h.pa
  · rw [envOf_snoc, if_neg h2]; exact h.pb
  · rw [envOf_snoc, if_neg h3]; exact h.fa
  · rw [envOf_snoc, if_neg h4]; exact h.fb
/-- what the names' table holds behind a row's first ones -/
structure DInv (pre : List (Str × Kd)) (kvs : List (Key × D)) (ts : List Str) : Prop where
  ks : kvs.map (·.1) = ts.map Sum.inr
  nd : ts.Nodup
  an : ∀ t ∈ ts, t ∈ ANames
  vl : ∀ x : Str, valD kvs (.inr x) = (envOf pre x).map dK
theorem DInv.nil : DInv [] [] [] := ⟨rfl, List.nodup_nil, fun _ h => (nomatch h), fun _ => rfl⟩
theorem DInv.len {pre : List (Str × Kd)} {kvs : List (Key × D)} {ts : List Str} (h : DInv pre kvs ts) : ts.length ≤ 10 ∧ kvs.length ≤ 10 := by
  have h1 : ts.length ≤ 10 := nodup_le (us := ANames) h.nd h.an
  have h2 : kvs.length = ts.length := by have := congrArg List.length h.ks; simpa using this
  omega
theorem DInv.put {pre : List (Str × Kd)} {kvs : List (Key × D)} {ts : List Str} (h : DInv pre kvs ts) {x : Str} {k : Kd} (hx : x ∈ ANames) : ∃ ts', DInv (pre ++ [(x, k)]) (putD kvs (.inr x) (dK k)) ts' := by
  have hv : ∀ y : Str, valD (putD kvs (.inr x) (dK k)) (.inr y) = (envOf (pre ++ [(x, k)]) y).map dK := fun y => by
    rw [valD_put, envOf_snoc]
    by_cases e : x = y
    · subst e; simp
    · rw [if_neg (fun q => e (Sum.inr.inj q).symm), if_neg e, h.vl]
  have hk := keys_put kvs (.inr x) (dK k)
  by_cases c : (valD kvs (.inr x)).isSome = true
  · rw [if_pos c] at hk
    exact ⟨ts, hk.trans h.ks, h.nd, h.an, hv⟩
  · rw [if_neg c] at hk
    refine ⟨ts ++ [x], by rw [hk, h.ks, List.map_append]; rfl, ?_, ?_, hv⟩
    · refine List.nodup_append.mpr ⟨h.nd, by simp, fun a ha b hb e => c ?_⟩
      rw [List.mem_singleton.mp hb] at e
      subst e
      exact valD_mem.mp (by rw [h.ks]; exact List.mem_map.mpr ⟨a, ha, rfl⟩)
    · intro t ht
      rcases List.mem_append.mp ht with ht | ht
      · exact h.an t ht
      · rw [List.mem_singleton.mp ht]; exact hx
theorem DInv.has {pre : List (Str × Kd)} {kvs : List (Key × D)} {ts : List Str} (h : DInv pre kvs ts) {x : Str} (hx : x ∈ ts) : ∃ k, envOf pre x = some k := by
  have h1 := valD_mem.mp (show Sum.inr x ∈ kvs.map (·.1) by rw [h.ks]; exact List.mem_map.mpr ⟨x, hx, rfl⟩)
  rw [h.vl] at h1
  cases e : envOf pre x with
  | none => rw [e] at h1; simp at h1
  | some k => exact ⟨k, rfl⟩
end Kf
/-! Kdw: as Kdb, to 512: programs with names told by how many takes stand between; steps. -/
namespace Kf
open PySem PySem.Spec L2
open PyProof.Rows hiding St
inductive Db where
  | at (i : Nat) | nm (x : Str) | thing | take (k : Kd) (b : Db) | give (f a : Db) | pair (a b : Db) | first (p : Db) | second (p : Db)
  deriving DecidableEq, Inhabited
/-- x and a number -/
def xn (k : Nat) : Str := Str.ofString "x" ++ Str.ofString (toString (k : Int))
/-- the number of a name -/
def numX (x : Str) : Nat := (x.cps.toList.drop 1).foldl (fun a c => 10 * a + (c - 48)) 0
theorem numX_xn : ∀ k, k < 512 → numX (xn k) = k := by
  have h : ∀ k ∈ List.range 512, numX (xn k) = k := by decide +kernel
  exact fun k hk => h k (List.mem_range.mpr hk)
theorem xn_inj64 (i : Nat) (hi : i < 512) (j : Nat) (hj : j < 512) (e : xn i = xn j) : i = j := by
  rw [← numX_xn i hi, ← numX_xn j hj, e]
/-- a name that is none of these -/
def Fr (x : Str) : Prop := ∀ k, k < 512 → xn k ≠ x
/-- the nearest one called x, the nearest first -/
def ri : List Str → Str → Option Nat
  | [], _ => none
  | y :: r, x => if y = x then some 0 else (ri r x).map (· + 1)
def bare : Pg → List Str → Db
  | .nm x, c => match ri c x with
    | some i => .at i
    | none => .nm x
  | .thing, _ => .thing
  | .take x k b, c => .take k (bare b (x :: c))
  | .give f a, c => .give (bare f c) (bare a c)
  | .pair a b, c => .pair (bare a c) (bare b c)
  | .first p, c => .first (bare p c)
  | .second p, c => .second (bare p c)
def moved : Db → Nat → Nat → Db
  | .at i, f, n => .at (i + if f ≤ i then n else 0)
  | .nm x, _, _ => .nm x
  | .thing, _, _ => .thing
  | .take k b, f, n => .take k (moved b (f + 1) n)
  | .give g a, f, n => .give (moved g f n) (moved a f n)
  | .pair a b, f, n => .pair (moved a f n) (moved b f n)
  | .first p, f, n => .first (moved p f n)
  | .second p, f, n => .second (moved p f n)
def put : Db → Nat → Db → Db
  | .at i, t, g => if i = t then moved g 0 t else .at (i - if t < i then 1 else 0)
  | .nm x, _, _ => .nm x
  | .thing, _, _ => .thing
  | .take k b, t, g => .take k (put b (t + 1) g)
  | .give f a, t, g => .give (put f t g) (put a t g)
  | .pair a b, t, g => .pair (put a t g) (put b t g)
  | .first p, t, g => .first (put p t g)
  | .second p, t, g => .second (put p t g)
def Wf : Db → Nat → Prop
  | .at i, m => i < m
  | .nm x, _ => Fr x
  | .thing, _ => True
  | .take _ b, m => Wf b (m + 1)
  | .give f a, m => Wf f m ∧ Wf a m
  | .pair a b, m => Wf a m ∧ Wf b m
  | .first p, m => Wf p m
  | .second p, m => Wf p m
/-! ### where names stand -/
def xr : Nat → List Str
  | 0 => []
  | m + 1 => xn m :: xr m
def mid (m : Nat) : Nat → List Str
  | 0 => xr m
  | j + 1 => xn (m + j + 1) :: mid m j
def own (m j : Nat) : Nat → List Str
  | 0 => mid m j
  | e + 1 => xn (m + e) :: own m j e
/-! ### dressed and bare again -/
/-! ### steps -/
/-! ### places -/
/-! ### well formed -/
end Kf
/-! Kls: lists of lists of numbers, owned ones too. -/
namespace Kf
open PySem PySem.Spec L2
open PyProof.Rows hiding St
theorem isPys_ints (q : List Int) : isPys (q.map D.int) = true := by
  rw [isPys_all, List.all_eq_true]
  intro d hd
  obtain ⟨t, _, rfl⟩ := List.mem_map.mp hd
  simp only [isPy]
theorem isPy_dI (q : List Int) : isPy (dI q) = true := by simp only [dI, isPy, isPys_ints]
theorem deqs_ints : ∀ q : List Int, deqs (q.map D.int) (q.map D.int) = true
  | [] => deqs_nn
  | a :: q => by rw [List.map_cons, deqs_cc, deqs_ints q, deq_i]; simp
theorem dp_ints (q : List Int) : dp (.lst (q.map D.int)) ≤ 1 := by
  simp only [dp, toPy, PyData.depth]
  have : ∀ q : List Int, PyData.depthAll (toPys (q.map D.int)) = 0 := by
    intro q
    induction q with
    | nil => simp [toPys, PyData.depthAll]
    | cons a q ih => simp [toPys, PyData.depthAll, toPy, PyData.depth, ih]
  rw [this]; decide
section
variable {O : Ow} {neg : Bool} {Q : VD}
theorem rEq_ints (q : List Int) : rEqD neg (dI q) (dI q) O Q = Q (.bl (!neg)) O := by
  rw [rEq_d (by rw [show deref O (dI q) = dI q from rfl]; exact isPy_dI q) (by rw [show deref O (dI q) = dI q from rfl]; exact isPy_dI q) (by rw [show deref O (dI q) = dI q from rfl]; have := dp_ints q; simp only [dI]; omega), show deref O (dI q) = dI q from rfl]
  simp only [dI, deq_l, deqs_ints]
  cases neg <;> rfl
end
/-! ### the lists within a thing -/
def Ls (O : Ow) : Nat → D → List Addr → Prop
  | _, .int _, rs => rs = []
  | n + 1, .ref a, rs => ∃ ds rss, O a = some (.lst ds) ∧ Paired (fun d r => Ls O n d r) ds rss ∧ rs = a :: rss.flatten
  | _, _, _ => False
theorem Ls.mono {O O' : Ow} (s : Sub O O') : ∀ {n : Nat} {x : D} {rs : List Addr}, Ls O n x rs → Ls O' n x rs
  | n, .int _, rs, h => by cases n <;> simpa only [Ls] using h
  | n + 1, .ref a, rs, h => by
    simp only [Ls] at h ⊢
    obtain ⟨ds, rss, h1, h2, h3⟩ := h
    exact ⟨ds, rss, s _ _ h1, Paired.mapP h2 fun _ _ z => Ls.mono s z, h3⟩
  | 0, .ref a, rs, h => by simp [Ls] at h
  | n, .non, rs, h => by cases n <;> simp [Ls] at h
  | n, .bl _, rs, h => by cases n <;> simp [Ls] at h
  | n, .str _, rs, h => by cases n <;> simp [Ls] at h
  | n, .tup _, rs, h => by cases n <;> simp [Ls] at h
  | n, .lst _, rs, h => by cases n <;> simp [Ls] at h
  | n, .ty _, rs, h => by cases n <;> simp [Ls] at h
  | n, .scr _, rs, h => by cases n <;> simp [Ls] at h
  | n, .edic, rs, h => by cases n <;> simp [Ls] at h
  | n, .tupK _, rs, h => by cases n <;> simp [Ls] at h
end Kf
/-! Kpw: the parts of a program, put back. -/
namespace Kf
open PySem PySem.Spec L2
open PyProof.Rows hiding St
end Kf
/-! Krn: steps one behind another, names told by numbers; how many parts. -/
namespace Kf
open PySem PySem.Spec L2
open PyProof.Rows hiding St
def Db.hgt : Db → Nat
  | .at _ => 0
  | .nm _ => 0
  | .thing => 0
  | .take _ b => b.hgt + 1
  | .give f a => max f.hgt a.hgt + 1
  | .pair a b => max a.hgt b.hgt + 1
  | .first p => p.hgt + 1
  | .second p => p.hgt + 1
/-! ### steps with names told by numbers -/
def Db.ins : Db → List Db
  | .take _ b => [b]
  | .give f a => [f, a]
  | .pair a b => [a, b]
  | .first p => [p]
  | .second p => [p]
  | _ => []
def Db.isTake : Db → Bool
  | .take .. => true
  | _ => false
def Db.isPair : Db → Bool
  | .pair .. => true
  | _ => false
def Db.can : Db → Bool
  | .give f _ => f.isTake
  | .first p => p.isPair
  | .second p => p.isPair
  | _ => false
/-! ### how many parts -/
def Pg.psz : Pg → Nat
  | .nm _ => 1
  | .thing => 1
  | .take _ _ b => b.psz + 1
  | .give f a => f.psz + a.psz + 1
  | .pair a b => a.psz + b.psz + 1
  | .first p => p.psz + 1
  | .second p => p.psz + 1
def Db.psz : Db → Nat
  | .at _ => 1
  | .nm _ => 1
  | .thing => 1
  | .take _ b => b.psz + 1
  | .give f a => f.psz + a.psz + 1
  | .pair a b => a.psz + b.psz + 1
  | .first p => p.psz + 1
  | .second p => p.psz + 1
/-! ### names and kinds are right ones -/
def Db.ok : Db → Prop
  | .at _ => True
  | .nm x => PyData.strOk x = true
  | .thing => True
  | .take k b => k.ok = true ∧ k.depth ≤ 12 ∧ b.ok
  | .give f a => f.ok ∧ a.ok
  | .pair f a => f.ok ∧ a.ok
  | .first p => p.ok
  | .second p => p.ok
/-! ### runs -/
structure Good (b : Db) : Prop where
  wf : Wf b 0
  ok : b.ok
  hg : b.hgt ≤ 100
  sz : b.psz ≤ 4194304
end Kf
/-! Kcf: whichever steps are done, the end is one. -/
namespace Kf
open PySem PySem.Spec L2
open PyProof.Rows hiding St
theorem mv_at_lo {i f n : Nat} (h : i < f) : moved (.at i) f n = .at i := by simp only [moved]; rw [if_neg (by omega)]; rfl
theorem mv_at_hi {i f n : Nat} (h : f ≤ i) : moved (.at i) f n = .at (i + n) := by simp only [moved]; rw [if_pos h]
theorem pt_at_lo {i t : Nat} {g : Db} (h : i < t) : put (.at i) t g = .at i := by simp only [put]; rw [if_neg (by omega), if_neg (by omega)]; rfl
theorem pt_at_eq {t : Nat} {g : Db} : put (.at t) t g = moved g 0 t := by simp [put]
theorem pt_at_hi {i t : Nat} {g : Db} (h : t < i) : put (.at i) t g = .at (i - 1) := by simp only [put]; rw [if_neg (by omega), if_pos h]
theorem mv_mv : ∀ (a : Db) {f f' n m : Nat}, f ≤ f' → f' ≤ f + n → moved (moved a f n) f' m = moved a f (n + m)
  | .at i, f, f', n, m, h1, h2 => by
    by_cases c : f ≤ i
    · rw [mv_at_hi c, mv_at_hi c, mv_at_hi (by omega)]; congr 1; omega
    · rw [mv_at_lo (by omega), mv_at_lo (by omega), mv_at_lo (by omega)]
  | .nm x, _, _, _, _, _, _ => rfl
  | .thing, _, _, _, _, _, _ => rfl
  | .take k b, f, f', n, m, h1, h2 => by simp only [moved]; rw [mv_mv b (by omega) (by omega)]
  | .give g a, f, f', n, m, h1, h2 => by simp only [moved]; rw [mv_mv g h1 h2, mv_mv a h1 h2]
  | .pair g a, f, f', n, m, h1, h2 => by simp only [moved]; rw [mv_mv g h1 h2, mv_mv a h1 h2]
  | .first p, f, f', n, m, h1, h2 => by simp only [moved]; rw [mv_mv p h1 h2]
  | .second p, f, f', n, m, h1, h2 => by simp only [moved]; rw [mv_mv p h1 h2]
theorem mv_comm : ∀ (a : Db) {e f j n : Nat}, e ≤ f → moved (moved a e j) (f + j) n = moved (moved a f n) e j
  | .at i, e, f, j, n, h => by
    by_cases c : f ≤ i
    · rw [mv_at_hi (show e ≤ i by omega), mv_at_hi c, mv_at_hi (by omega), mv_at_hi (by omega)]; congr 1; omega
    · rw [mv_at_lo (show i < f by omega)]
      by_cases d : e ≤ i
      · rw [mv_at_hi d, mv_at_lo (by omega)]
      · rw [mv_at_lo (by omega), mv_at_lo (by omega)]
  | .nm x, _, _, _, _, _ => rfl
  | .thing, _, _, _, _, _ => rfl
  | .take k b, e, f, j, n, h => by
    simp only [moved]
    have := mv_comm b (e := e + 1) (f := f + 1) (j := j) (n := n) (by omega)
    rw [show f + j + 1 = f + 1 + j by omega, this]
  | .give g a, e, f, j, n, h => by simp only [moved]; rw [mv_comm g h, mv_comm a h]
  | .pair g a, e, f, j, n, h => by simp only [moved]; rw [mv_comm g h, mv_comm a h]
  | .first p, e, f, j, n, h => by simp only [moved]; rw [mv_comm p h]
  | .second p, e, f, j, n, h => by simp only [moved]; rw [mv_comm p h]
theorem mv_put : ∀ (b : Db) {a : Db} {j f n : Nat}, moved (put b j a) (f + j) n = put (moved b (f + 1 + j) n) j (moved a f n)
  | .at i, a, j, f, n => by
    by_cases c : i = j
    · subst c
      rw [pt_at_eq, mv_at_lo (show i < f + 1 + i by omega), pt_at_eq, mv_comm a (Nat.zero_le _)]
    · by_cases d : i < j
      · rw [pt_at_lo d, mv_at_lo (by omega), mv_at_lo (by omega), pt_at_lo d]
      · rw [pt_at_hi (by omega)]
        by_cases e : f + 1 + j ≤ i
        · rw [mv_at_hi (by omega), mv_at_hi e, pt_at_hi (by omega)]; congr 1; omega
        · rw [mv_at_lo (by omega), mv_at_lo (by omega), pt_at_hi (by omega)]
  | .nm x, _, _, _, _ => rfl
  | .thing, _, _, _, _ => rfl
  | .take k b, a, j, f, n => by
    simp only [moved, put]
    have := mv_put b (a := a) (j := j + 1) (f := f) (n := n)
    rw [show f + j + 1 = f + (j + 1) by omega, this, show f + 1 + (j + 1) = f + 1 + j + 1 by omega]
  | .give g c, a, j, f, n => by simp only [moved, put]; rw [mv_put g, mv_put c]
  | .pair g c, a, j, f, n => by simp only [moved, put]; rw [mv_put g, mv_put c]
  | .first p, a, j, f, n => by simp only [moved, put]; rw [mv_put p]
  | .second p, a, j, f, n => by simp only [moved, put]; rw [mv_put p]
theorem pt_mv : ∀ (a : Db) {g : Db} {e n t : Nat}, e ≤ t → t ≤ e + n → put (moved a e (n + 1)) t g = moved a e n
  | .at i, g, e, n, t, h1, h2 => by
    by_cases c : e ≤ i
    · rw [mv_at_hi c, mv_at_hi c, pt_at_hi (by omega)]; congr 1
    · rw [mv_at_lo (by omega), mv_at_lo (by omega), pt_at_lo (by omega)]
  | .nm x, _, _, _, _, _, _ => rfl
  | .thing, _, _, _, _, _, _ => rfl
  | .take k b, g, e, n, t, h1, h2 => by simp only [moved, put]; rw [pt_mv b (by omega) (by omega)]
  | .give f a, g, e, n, t, h1, h2 => by simp only [moved, put]; rw [pt_mv f h1 h2, pt_mv a h1 h2]
  | .pair f a, g, e, n, t, h1, h2 => by simp only [moved, put]; rw [pt_mv f h1 h2, pt_mv a h1 h2]
  | .first p, g, e, n, t, h1, h2 => by simp only [moved, put]; rw [pt_mv p h1 h2]
  | .second p, g, e, n, t, h1, h2 => by simp only [moved, put]; rw [pt_mv p h1 h2]
theorem pt_mv2 : ∀ (a : Db) {g : Db} {e j t : Nat}, e ≤ t → put (moved a e j) (t + j) g = moved (put a t g) e j
  | .at i, g, e, j, t, h => by
    by_cases c : i = t
    · subst c
      rw [mv_at_hi h, pt_at_eq, pt_at_eq, mv_mv g (Nat.zero_le _) (by omega)]
    · by_cases d : i < t
      · rw [pt_at_lo d]
        by_cases e' : e ≤ i
        · rw [mv_at_hi e', pt_at_lo (by omega)]
        · rw [mv_at_lo (by omega), pt_at_lo (by omega)]
      · rw [pt_at_hi (by omega), mv_at_hi (by omega), mv_at_hi (by omega), pt_at_hi (by omega)]; congr 1; omega
  | .nm x, _, _, _, _, _ => rfl
  | .thing, _, _, _, _, _ => rfl
  | .take k b, g, e, j, t, h => by
    simp only [moved, put]
    have := pt_mv2 b (g := g) (e := e + 1) (j := j) (t := t + 1) (by omega)
    rw [show t + j + 1 = t + 1 + j by omega, this]
  | .give f a, g, e, j, t, h => by simp only [moved, put]; rw [pt_mv2 f h, pt_mv2 a h]
  | .pair f a, g, e, j, t, h => by simp only [moved, put]; rw [pt_mv2 f h, pt_mv2 a h]
  | .first p, g, e, j, t, h => by simp only [moved, put]; rw [pt_mv2 p h]
  | .second p, g, e, j, t, h => by simp only [moved, put]; rw [pt_mv2 p h]
theorem pt_pt : ∀ (b : Db) {a g : Db} {j t : Nat}, put (put b j a) (t + j) g = put (put b (t + j + 1) g) j (put a t g)
  | .at i, a, g, j, t => by
    by_cases c : i = j
    · subst c
      rw [pt_at_eq, pt_at_lo (show i < t + i + 1 by omega), pt_at_eq, pt_mv2 a (Nat.zero_le _)]
    · by_cases d : i < j
      · rw [pt_at_lo d, pt_at_lo (by omega), pt_at_lo (by omega), pt_at_lo d]
      · rw [pt_at_hi (show j < i by omega)]
        by_cases e : i = t + j + 1
        · subst e
          rw [show t + j + 1 - 1 = t + j by omega, pt_at_eq, pt_at_eq, pt_mv g (Nat.zero_le _) (by omega)]
        · by_cases e2 : i < t + j + 1
          · rw [pt_at_lo (by omega), pt_at_lo (by omega), pt_at_hi (by omega)]
          · rw [pt_at_hi (by omega), pt_at_hi (by omega), pt_at_hi (by omega)]
  | .nm x, _, _, _, _ => rfl
  | .thing, _, _, _, _ => rfl
  | .take k b, a, g, j, t => by
    simp only [put]
    have := pt_pt b (a := a) (g := g) (j := j + 1) (t := t)
    rw [show t + j + 1 = t + (j + 1) by omega, this]
  | .give f c, a, g, j, t => by simp only [put]; rw [pt_pt f, pt_pt c]
  | .pair f c, a, g, j, t => by simp only [put]; rw [pt_pt f, pt_pt c]
  | .first p, a, g, j, t => by simp only [put]; rw [pt_pt p]
  | .second p, a, g, j, t => by simp only [put]; rw [pt_pt p]
/-- some of the steps that can be done, all at once -/
inductive Par : Db → Db → Prop
  | at (i : Nat) : Par (.at i) (.at i)
  | nm (x : Str) : Par (.nm x) (.nm x)
  | thing : Par .thing .thing
  | take (k : Kd) {b b' : Db} : Par b b' → Par (.take k b) (.take k b')
  | give {f f' a a' : Db} : Par f f' → Par a a' → Par (.give f a) (.give f' a')
  | pair {f f' a a' : Db} : Par f f' → Par a a' → Par (.pair f a) (.pair f' a')
  | first {p p' : Db} : Par p p' → Par (.first p) (.first p')
  | second {p p' : Db} : Par p p' → Par (.second p) (.second p')
  | beta (k : Kd) {b b' a a' : Db} : Par b b' → Par a a' → Par (.give (.take k b) a) (put b' 0 a')
  | fst {a a' : Db} (c : Db) : Par a a' → Par (.first (.pair a c)) a'
  | snd {a a' : Db} (c : Db) : Par a a' → Par (.second (.pair c a)) a'
theorem Par.refl : ∀ b : Db, Par b b
  | .at i => .at i
  | .nm x => .nm x
  | .thing => .thing
  | .take k b => .take k (Par.refl b)
  | .give f a => .give (Par.refl f) (Par.refl a)
  | .pair f a => .pair (Par.refl f) (Par.refl a)
  | .first p => .first (Par.refl p)
  | .second p => .second (Par.refl p)
theorem Par.mv {b b' : Db} (h : Par b b') : ∀ (f n : Nat), Par (moved b f n) (moved b' f n) := by
  induction h with
  | «at» i => intro f n; exact Par.refl _
  | nm x => intro f n; exact Par.refl _
  | thing => intro f n; exact Par.refl _
  | take k _ ih => intro f n; exact .take k (ih (f + 1) n)
  | give _ _ ih1 ih2 => intro f n; exact .give (ih1 f n) (ih2 f n)
  | pair _ _ ih1 ih2 => intro f n; exact .pair (ih1 f n) (ih2 f n)
  | first _ ih => intro f n; exact .first (ih f n)
  | second _ ih => intro f n; exact .second (ih f n)
  | @beta k b b' a a' _ _ ih1 ih2 =>
    intro f n
    have e := mv_put b' (a := a') (j := 0) (f := f) (n := n)
    rw [Nat.add_zero, Nat.add_zero] at e
    rw [e]
    exact .beta k (ih1 (f + 1) n) (ih2 f n)
  | fst c _ ih => intro f n; exact .fst _ (ih f n)
  | snd c _ ih => intro f n; exact .snd _ (ih f n)
theorem Par.pt {b b' : Db} (h : Par b b') : ∀ {a a' : Db} (t : Nat), Par a a' → Par (put b t a) (put b' t a') := by
  induction h with
  | «at» i =>
    intro a a' t ha
    by_cases c : i = t
    · subst c; rw [pt_at_eq, pt_at_eq]; exact ha.mv 0 i
    · by_cases d : i < t
      · rw [pt_at_lo d, pt_at_lo d]; exact .at i
      · rw [pt_at_hi (by omega), pt_at_hi (by omega)]; exact .at _
  | nm x => intro a a' t ha; exact .nm x
  | thing => intro a a' t ha; exact .thing
  | take k _ ih => intro a a' t ha; exact .take k (ih (t + 1) ha)
  | give _ _ ih1 ih2 => intro a a' t ha; exact .give (ih1 t ha) (ih2 t ha)
  | pair _ _ ih1 ih2 => intro a a' t ha; exact .pair (ih1 t ha) (ih2 t ha)
  | first _ ih => intro a a' t ha; exact .first (ih t ha)
  | second _ ih => intro a a' t ha; exact .second (ih t ha)
  | @beta k b b' c c' _ _ ih1 ih2 =>
    intro a a' t ha
    have e := pt_pt b' (a := c') (g := a') (j := 0) (t := t)
    rw [Nat.add_zero] at e
    rw [e]
    exact .beta k (ih1 (t + 1) ha) (ih2 t ha)
  | fst c _ ih => intro a a' t ha; exact .fst _ (ih t ha)
  | snd c _ ih => intro a a' t ha; exact .snd _ (ih t ha)
/-- one after another -/
inductive Pars : Db → Db → Prop
  | nil (b : Db) : Pars b b
  | cons {a b c : Db} : Par a b → Pars b c → Pars a c
theorem Pars.trans {a b c : Db} (h : Pars a b) (h' : Pars b c) : Pars a c := by
  induction h with
  | nil _ => exact h'
  | cons h1 _ ih => exact .cons h1 (ih h')
end Kf
/-! Ksz: how great a program becomes by one step; places of a tidied program. -/
namespace Kf
open PySem PySem.Spec L2
open PyProof.Rows hiding St
end Kf
/-! Kty: kinds of programs whose names are numbers; steps keep them. -/
namespace Kf
open PySem PySem.Spec L2
open PyProof.Rows hiding St
section
variable {e : Str → Option Kd}
/-! ### kinds are small -/
def EOk (e : Str → Option Kd) : Prop := ∀ x k, e x = some k → k.ok = true ∧ k.depth ≤ 12
theorem EOk.ext {e : Str → Option Kd} (h : EOk e) {x : Str} {a : Kd} (h1 : a.ok = true) (h2 : a.depth ≤ 12) : EOk (fun y => if x = y then some a else e y) := fun y k q => by
  dsimp only at q
  split at q
  · cases q; exact ⟨h1, h2⟩
  · exact h y k q
/-! ### the kind here -/
/-! ### going along a run -/
end
end Kf
/-! Kgen: what the laws about any programs draw. -/
namespace Kf
open PySem PySem.Spec L2
open PyProof.Rows hiding St
def UN : List Str := ["p", "q", "f", "g", "u", "v", "x0", "x7"]
def TN : List Str := ["u", "v", "x0", "x7", "f"]
theorem tn_un : ∀ t ∈ TN, t ∈ UN ∧ t ≠ "p" ∧ t ≠ "q" := by decide +kernel
structure RowU (kn : List (Str × Kd)) : Prop where
  nm : ∀ q ∈ kn, q.1 ∈ UN ∧ q.2.over AB ∧ q.2.leaves ≤ 4
  ep : envOf kn "p" = some (.mk "a")
  eq : envOf kn "q" = some (.mk "b")
theorem RowU.snoc {kn : List (Str × Kd)} (h : RowU kn) {x : Str} {k : Kd} (hx : x ∈ TN) (ho : k.over AB) (hl : k.leaves ≤ 4) : RowU (kn ++ [(x, k)]) := by
  obtain ⟨h1, h2, h3⟩ := tn_un x hx
  refine ⟨fun q hq => ?_, ?_, ?_⟩
  · rcases List.mem_append.mp hq with hq | hq
    · exact h.nm q hq
    · rw [List.mem_singleton.mp hq]; exact ⟨h1, ho, hl⟩
  · rw [envOf_snoc, if_neg h2]; exact h.ep
  · rw [envOf_snoc, if_neg h3]; exact h.eq
/-- what the names' table holds behind a row's first ones -/
structure DInvU (pre : List (Str × Kd)) (kvs : List (Key × D)) (ts : List Str) : Prop where
  ks : kvs.map (·.1) = ts.map Sum.inr
  nd : ts.Nodup
  an : ∀ t ∈ ts, t ∈ UN
  vl : ∀ x : Str, valD kvs (.inr x) = (envOf pre x).map dK
theorem DInvU.nil : DInvU [] [] [] := ⟨rfl, List.nodup_nil, fun _ h => (nomatch h), fun _ => rfl⟩
theorem DInvU.len {pre : List (Str × Kd)} {kvs : List (Key × D)} {ts : List Str} (h : DInvU pre kvs ts) : ts.length ≤ 8 ∧ kvs.length ≤ 8 := by
  have h1 : ts.length ≤ 8 := nodup_le (us := UN) h.nd h.an
  have h2 : kvs.length = ts.length := by have := congrArg List.length h.ks; simpa using this
  omega
theorem DInvU.put {pre : List (Str × Kd)} {kvs : List (Key × D)} {ts : List Str} (h : DInvU pre kvs ts) {x : Str} {k : Kd} (hx : x ∈ UN) : ∃ ts', DInvU (pre ++ [(x, k)]) (putD kvs (.inr x) (dK k)) ts' := by
  have hv : ∀ y : Str, valD (putD kvs (.inr x) (dK k)) (.inr y) = (envOf (pre ++ [(x, k)]) y).map dK := fun y => by
    rw [valD_put, envOf_snoc]
    by_cases e : x = y
    · subst e; simp
    · rw [if_neg (fun q => e (Sum.inr.inj q).symm), if_neg e, h.vl]
  have hk := keys_put kvs (.inr x) (dK k)
  by_cases c : (valD kvs (.inr x)).isSome = true
  · rw [if_pos c] at hk
    exact ⟨ts, hk.trans h.ks, h.nd, h.an, hv⟩
  · rw [if_neg c] at hk
    refine ⟨ts ++ [x], by rw [hk, h.ks, List.map_append]; rfl, ?_, ?_, hv⟩
    · refine List.nodup_append.mpr ⟨h.nd, by simp, fun a ha b hb e => c ?_⟩
      rw [List.mem_singleton.mp hb] at e
      subst e
      exact valD_mem.mp (by rw [h.ks]; exact List.mem_map.mpr ⟨a, ha, rfl⟩)
    · intro t ht
      rcases List.mem_append.mp ht with ht | ht
      · exact h.an t ht
      · rw [List.mem_singleton.mp ht]; exact hx
theorem DInvU.has {pre : List (Str × Kd)} {kvs : List (Key × D)} {ts : List Str} (h : DInvU pre kvs ts) {x : Str} (hx : x ∈ ts) : ∃ k, envOf pre x = some k := by
  have h1 := valD_mem.mp (show Sum.inr x ∈ kvs.map (·.1) by rw [h.ks]; exact List.mem_map.mpr ⟨x, hx, rfl⟩)
  rw [h.vl] at h1
  cases e : envOf pre x with
  | none => rw [e] at h1; simp at h1
  | some k => exact ⟨k, rfl⟩
/-! ### uses of a name -/
inductive Mv where
  | k (k : Kd) | one | two
def dMv : Mv → D
  | .k k => dK k
  | .one => .int 1
  | .two => .int 2
/-! ### names and kinds as drawn -/
/-! ### a program's word, a kind's word -/
def kw : Kd → Str
  | .mk _ => "mark"
  | .one => "one"
  | .to .. => "to"
  | .both .. => "both"
section
variable {O : Ow} {Q : VD} {neg : Bool}
theorem rEq_Ki {k : Kd} {i : Int} (hk : k.ok = true) : rEqD neg (dK k) (.int i) O Q = Q (.bl neg) O := by
  have e : deq (dK k) (.int i) = false := by cases k <;> exact deq_ti
  rw [rEq_dr (by rw [deref_dK, isPy_dK]; exact hk) (by simp [deref, isPy]) (by simp [deref, dpI]), deref_dK, deref_int, e]
  cases neg <;> rfl
end
end Kf
/-! Klg: plain long programs, ways, spellings. -/
namespace Kf
open PySem PySem.Spec L2
open PyProof.Rows hiding St
/-- the ways of a kind -/
def wys : Kd → List (List Mv × Str)
  | .one => []
  | .mk m => [([], m)]
  | .to a b => (wys b).map fun w => (Mv.k a :: w.1, w.2)
  | .both a b => (wys a).map (fun w => (Mv.one :: w.1, w.2)) ++ (wys b).map (fun w => (Mv.two :: w.1, w.2))
section
variable (kn : List (Str × Kd)) (t : Nat)
end
/-! ### how a name is gone along -/
inductive Sp1 where
  | one | two | gv (a : Pg)
def Pg.hd : Pg → Str
  | .nm x => x
  | .first q => q.hd
  | .second q => q.hd
  | .give f _ => f.hd
  | _ => Str.ofString ""
def Pg.st : Pg → List Sp1
  | .first q => q.st ++ [.one]
  | .second q => q.st ++ [.two]
  | .give f a => f.st ++ [.gv a]
  | _ => []
/-! ### spellings -/
end Kf
/-! Kct: how many plain long programs; they depend on the forms of what is there alone. -/
namespace Kf
open PySem PySem.Spec L2
open PyProof.Rows hiding St
/-! ### sums -/
def sm : Nat → (Nat → Nat) → Nat
  | 0, _ => 0
  | n + 1, f => sm n f + f n
theorem sm_congr : ∀ {n : Nat} {f g : Nat → Nat}, (∀ i, i < n → f i = g i) → sm n f = sm n g
  | 0, _, _, _ => rfl
  | n + 1, f, g, h => by rw [sm, sm, sm_congr (n := n) fun i hi => h i (by omega), h n (by omega)]
theorem sm_zero : ∀ {n : Nat} {f : Nat → Nat}, (∀ i, i < n → f i = 0) → sm n f = 0
  | 0, _, _ => rfl
  | n + 1, f, h => by rw [sm, sm_zero (n := n) fun i hi => h i (by omega), h n (by omega)]
theorem sm_add : ∀ (n : Nat) (f g : Nat → Nat), sm n (fun i => f i + g i) = sm n f + sm n g
  | 0, _, _ => rfl
  | n + 1, f, g => by rw [sm, sm, sm, sm_add n]; omega
theorem sm_mul : ∀ (n c : Nat) (f : Nat → Nat), sm n (fun i => c * f i) = c * sm n f
  | 0, c, _ => by simp [sm]
  | n + 1, c, f => by rw [sm, sm, sm_mul n, Nat.mul_add]
theorem sm_const0 (n : Nat) : sm n (fun _ => 0) = 0 := sm_zero fun _ _ => rfl
theorem sm_comm (n m : Nat) (f : Nat → Nat → Nat) : sm n (fun i => sm m fun j => f i j) = sm m fun j => sm n fun i => f i j := by
  induction n with
  | zero => simp only [sm]; exact (sm_const0 m).symm
  | succ n ih => simp only [sm]; rw [ih, ← sm_add]
/-- a short sum as a long one -/
theorem sm_cut : ∀ (n k : Nat) (f : Nat → Nat), k ≤ n → sm k f = sm n fun i => if i < k then f i else 0
  | 0, k, f, h => by
    have : k = 0 := by omega
    subst this; rfl
  | n + 1, k, f, h => by
    by_cases e : k = n + 1
    · subst e
      exact sm_congr fun i hi => (if_pos hi).symm
    · rw [sm, ← sm_cut n k f (by omega), if_neg (by omega)]; omega
theorem sm_tail : ∀ (n k : Nat) (f : Nat → Nat), k ≤ n → (∀ i, k ≤ i → i < n → f i = 0) → sm n f = sm k f := fun n k f h hz => by
  rw [sm_cut n k f h]
  refine sm_congr fun i hi => ?_
  split
  · rfl
  · exact hz i (by omega) hi
/-! ### ways to share a size -/
def cmy : List (Nat → Nat) → Nat → Nat
  | [], s => if s = 0 then 1 else 0
  | f :: fs, s => sm s fun a => f (a + 1) * cmy fs (s - 1 - a)
theorem cmy_short : ∀ (fs : List (Nat → Nat)) (s : Nat), s < fs.length → cmy fs s = 0
  | [], s, h => by cases h
  | f :: fs, s, h => by
    rw [cmy]
    refine sm_zero fun a ha => ?_
    rw [List.length_cons] at h
    rw [cmy_short fs (s - 1 - a) (by omega), Nat.mul_zero]
/-- what the code sums -/
theorem cmy_code (f : Nat → Nat) (fs : List (Nat → Nat)) (s : Nat) (h : fs.length + 1 ≤ s) : cmy (f :: fs) s = sm (s - fs.length) fun a => f (a + 1) * cmy fs (s - 1 - a) := by
  rw [cmy]
  refine sm_tail _ _ _ (by omega) fun i h1 h2 => ?_
  rw [cmy_short fs (s - 1 - i) (by omega), Nat.mul_zero]
/-- alike up to s -/
theorem cmy_congr {α : Type} {f g : α → Nat → Nat} : ∀ (l : List α) (s : Nat), (∀ x ∈ l, ∀ a, 1 ≤ a → a ≤ s → f x a = g x a) → cmy (l.map f) s = cmy (l.map g) s
  | [], _, _ => rfl
  | x :: l, s, h => by
    rw [List.map_cons, List.map_cons, cmy, cmy]
    refine sm_congr fun a ha => ?_
    rw [h x List.mem_cons_self (a + 1) (by omega) (by omega), cmy_congr l (s - 1 - a) fun y hy b h1 h2 => h y (List.mem_cons_of_mem _ hy) b h1 (by omega)]
/-! ### how many programs -/
def cof : Nat → Nat → List Kd → Str → Nat
  | 0, _, _, _ => 0
  | f + 1, n, L, m => ((L.flatMap ends).map fun e => if e.2 = m then cmy ((e.1.flatMap ends).map fun t one => cof f one (L ++ t.1) t.2) (n - 1) else 0).sum
theorem cof_fuel : ∀ (f n : Nat) (L : List Kd) (m : Str), 1 ≤ n → n ≤ f → cof f n L m = cof n n L m := by
  intro f
  induction f using Nat.strongRecOn with
  | _ f ih =>
    intro n L m h1 h2
    obtain ⟨f, rfl⟩ : ∃ g, f = g + 1 := ⟨f - 1, by omega⟩
    obtain ⟨n, rfl⟩ : ∃ g, n = g + 1 := ⟨n - 1, by omega⟩
    rw [cof, cof]
    congr 1
    refine List.map_congr_left fun e _ => ?_
    split
    · refine cmy_congr _ _ fun t _ a ha hs => ?_
      rw [ih f (by omega) a _ _ ha (by omega), ih n (by omega) a _ _ ha (by omega)]
    · rfl
def cntP (n : Nat) (L : List Kd) (m : Str) : Nat := cof n n L m
def tks (L : List Kd) (ts : List (List Kd × Str)) : List (Nat → Nat) := ts.map fun t one => cntP one (L ++ t.1) t.2
theorem cntP_eq {n : Nat} (h : 1 ≤ n) (L : List Kd) (m : Str) : cntP n L m = ((L.flatMap ends).map fun e => if e.2 = m then cmy (tks L (e.1.flatMap ends)) (n - 1) else 0).sum := by
  obtain ⟨n, rfl⟩ : ∃ g, n = g + 1 := ⟨n - 1, by omega⟩
  unfold cntP
  rw [cof]
  congr 1
  refine List.map_congr_left fun e _ => ?_
  split
  · refine cmy_congr _ _ fun t _ a ha hs => ?_
    exact cof_fuel n a _ _ ha (by omega)
  · rfl
/-! ### by the forms alone -/
theorem cof_perm : ∀ (f n : Nat) {L L' : List Kd} (m : Str), L.Perm L' → cof f n L m = cof f n L' m
  | 0, _, _, _, _, _ => rfl
  | f + 1, n, L, L', m, h => by
    rw [cof, cof]
    refine List.Perm.sum_nat ?_
    have e : (fun (e : List Kd × Str) => if e.2 = m then cmy ((e.1.flatMap ends).map fun t one => cof f one (L ++ t.1) t.2) (n - 1) else 0) = fun e => if e.2 = m then cmy ((e.1.flatMap ends).map fun t one => cof f one (L' ++ t.1) t.2) (n - 1) else 0 := by
      funext e
      split
      · congr 1
        refine List.map_congr_left fun t _ => ?_
        funext one
        exact cof_perm f one _ (h.append_right _)
      · rfl
    rw [e]
    exact (h.flatMap_right _).map _
theorem cntP_perm {n : Nat} {L L' : List Kd} {m : Str} (h : L.Perm L') : cntP n L m = cntP n L' m := cof_perm n n m h
end Kf
/-! Kcu: bounds for counts and for the work, the text by which a count is kept. -/
namespace Kf
open PySem PySem.Spec L2
open PyProof.Rows hiding St
/-! ### the key -/
def rst : List Kd → List Str
  | [] => []
  | k :: r => Str.ofString ";" :: (kwords k ++ rst r)
def wsL : List Kd → List Str
  | [] => [Str.ofString ""]
  | k :: r => kwords k ++ rst r
theorem wsL_ne (L : List Kd) : wsL L ≠ [] := by
  cases L with
  | nil => simp [wsL]
  | cons k r => simp [wsL, kwords_ne]
theorem join_rst : ∀ (k : Kd) (r : List Kd), Str.join (Str.ofString " ; ") ((k :: r).map kshow) = Str.join bl1 (kwords k ++ rst r)
  | k, [] => by simp [rst, Str.join, kshow_eq]
  | k, j :: r => by
    have ih := join_rst j r
    have e : Str.join (Str.ofString " ; ") ((k :: j :: r).map kshow) = kshow k ++ Str.ofString " ; " ++ Str.join (Str.ofString " ; ") ((j :: r).map kshow) := rfl
    have hne : kwords j ++ rst r ≠ [] := by simp [kwords_ne]
    rw [e, ih, rst, join_app _ _ (kwords_ne k) (by simp), join_cons _ _ hne, kshow_eq]
    apply str_ext
    have h3 : (Str.ofString " ; ").cps.toList = bl1.cps.toList ++ (Str.ofString ";").cps.toList ++ bl1.cps.toList := by decide +kernel
    simp only [tl_app, h3, List.append_assoc]
def nstr (n : Nat) : Str := Str.ofString (toString (n : Int))
def ckey (L : List Kd) (m : Str) (n : Nat) : Str := Str.join (Str.ofString " ; ") (L.map kshow) ++ Str.ofString " : " ++ m ++ Str.ofString " " ++ nstr n
theorem ckey_eq (L : List Kd) (m : Str) (n : Nat) : ckey L m n = Str.join bl1 (wsL L ++ [Str.ofString ":", m, nstr n]) := by
  have e : Str.join bl1 [Str.ofString ":", m, nstr n] = Str.ofString ":" ++ bl1 ++ (m ++ bl1 ++ nstr n) := rfl
  rw [join_app _ _ (wsL_ne L) (by simp), e]
  have h1 : Str.join (Str.ofString " ; ") (L.map kshow) = Str.join bl1 (wsL L) := by
    cases L with
    | nil => rfl
    | cons k r => rw [join_rst]; rfl
  unfold ckey
  rw [h1]
  apply str_ext
  have h3 : (Str.ofString " : ").cps.toList = bl1.cps.toList ++ (Str.ofString ":").cps.toList ++ bl1.cps.toList := by decide +kernel
  have h4 : (Str.ofString " ").cps.toList = bl1.cps.toList := by decide +kernel
  simp only [tl_app, h3, h4, List.append_assoc]
theorem rst_sp : ∀ L : List Kd, (∀ k ∈ L, k.mks) → ∀ w ∈ rst L, 32 ∉ w.cps.toList
  | [], _, w, h => by cases h
  | k :: r, hm, w, h => by
    simp only [rst, List.mem_cons, List.mem_append] at h
    rcases h with rfl | h | h
    · decide +kernel
    · exact kwords_sp k (hm k List.mem_cons_self) w h
    · exact rst_sp r (fun x hx => hm x (List.mem_cons_of_mem _ hx)) w h
theorem wsL_sp (L : List Kd) (hm : ∀ k ∈ L, k.mks) : ∀ w ∈ wsL L, 32 ∉ w.cps.toList := fun w h => by
  cases L with
  | nil =>
    simp only [wsL, List.mem_singleton] at h
    subst h; decide +kernel
  | cons k r =>
    rcases List.mem_append.mp h with h | h
    · exact kwords_sp k (hm k List.mem_cons_self) w h
    · exact rst_sp r (fun x hx => hm x (List.mem_cons_of_mem _ hx)) w h
theorem rst_inj : ∀ {L L' : List Kd}, (∀ k ∈ L, k.mks ∧ k.depth ≤ 12) → (∀ k ∈ L', k.mks ∧ k.depth ≤ 12) → rst L = rst L' → L = L'
  | [], [], _, _, _ => rfl
  | [], k :: r, _, _, e => by simp [rst] at e
  | k :: r, [], _, _, e => by simp [rst] at e
  | k :: r, k' :: r', h, h', e => by
    simp only [rst, List.cons.injEq, true_and] at e
    have h1 := kp_read k 12 (rst r) (h k List.mem_cons_self).1 (h k List.mem_cons_self).2
    have h2 := kp_read k' 12 (rst r') (h' k' List.mem_cons_self).1 (h' k' List.mem_cons_self).2
    rw [e, h2] at h1
    simp only [Option.some.injEq, Prod.mk.injEq] at h1
    rw [h1.1, rst_inj (fun x hx => h x (List.mem_cons_of_mem _ hx)) (fun x hx => h' x (List.mem_cons_of_mem _ hx)) h1.2.symm]
theorem kp_nil : kp 12 [Str.ofString ""] = none := by decide +kernel
theorem wsL_inj {L L' : List Kd} (h : ∀ k ∈ L, k.mks ∧ k.depth ≤ 12) (h' : ∀ k ∈ L', k.mks ∧ k.depth ≤ 12) (e : wsL L = wsL L') : L = L' := by
  cases L with
  | nil => cases L' with
    | nil => rfl
    | cons k r =>
      have h1 := kp_read k 12 (rst r) (h' k List.mem_cons_self).1 (h' k List.mem_cons_self).2
      simp only [wsL] at e
      rw [← e, kp_nil] at h1
      cases h1
  | cons k r => cases L' with
    | nil =>
      have h1 := kp_read k 12 (rst r) (h k List.mem_cons_self).1 (h k List.mem_cons_self).2
      simp only [wsL] at e
      rw [e, kp_nil] at h1
      cases h1
    | cons k' r' =>
      refine rst_inj h h' ?_
      simp only [wsL] at e
      simp only [rst, e]
theorem nstr_ok : ∀ n : Nat, n < 512 → 32 ∉ (nstr n).cps.toList ∧ (nstr n).length ≤ 100 := by
  have h : ∀ k ∈ List.range 512, 32 ∉ (nstr k).cps.toList ∧ (nstr k).length ≤ 100 := by decide +kernel
  exact fun k hk => h k (List.mem_range.mpr hk)
theorem nstr_inj {i j : Nat} (hi : i < 512) (hj : j < 512) (e : nstr i = nstr j) : i = j := xn_inj64 i hi j hj (by unfold xn; rw [show Str.ofString (toString (i : Int)) = nstr i from rfl, e]; rfl)
def LK (L : List Kd) : Prop := ∀ k ∈ L, k.mks ∧ k.depth ≤ 12
theorem ckey_inj {L L' : List Kd} {m m' : Str} {n n' : Nat} (h : LK L) (h' : LK L') (hm : isMarkB m = true) (hm' : isMarkB m' = true) (hn : n < 512) (hn' : n' < 512) (e : ckey L m n = ckey L' m' n') : L = L' ∧ m = m' ∧ n = n' := by
  rw [ckey_eq, ckey_eq] at e
  have sp : ∀ {L : List Kd} {m : Str} {n : Nat}, LK L → isMarkB m = true → n < 512 → ∀ w ∈ wsL L ++ [Str.ofString ":", m, nstr n], 32 ∉ w.cps.toList := fun {L m n} h hm hn w hw => by
    simp only [List.mem_append, List.mem_cons, List.not_mem_nil, or_false] at hw
    rcases hw with hw | rfl | rfl | rfl
    · exact wsL_sp L (fun k hk => (h k hk).1) w hw
    · decide +kernel
    · exact mark_sp hm
    · exact (nstr_ok n hn).1
  have s1 := split_words (ws := wsL L ++ [Str.ofString ":", m, nstr n]) (by simp) (sp h hm hn)
  have s2 := split_words (ws := wsL L' ++ [Str.ofString ":", m', nstr n']) (by simp) (sp h' hm' hn')
  rw [e, s2] at s1
  obtain ⟨e1, e2⟩ := List.append_inj' s1.symm rfl
  simp only [List.cons.injEq, and_true, true_and] at e2
  exact ⟨wsL_inj h h' e1, e2.1, nstr_inj hn hn' e2.2⟩
theorem kshow_inj {k k' : Kd} (h : k.mks ∧ k.depth ≤ 12) (h' : k'.mks ∧ k'.depth ≤ 12) (e : kshow k = kshow k') : k = k' := by
  have h1 := split_kshow h.1
  rw [e, split_kshow h'.1] at h1
  have r1 := kp_read k 12 [] h.1 h.2
  have r2 := kp_read k' 12 [] h'.1 h'.2
  rw [h1, r1] at r2
  simp only [Option.some.injEq, Prod.mk.injEq, and_true] at r2
  exact r2
/-! ### bounds -/
def lvs (L : List Kd) : Nat := (L.map Kd.leaves).sum
theorem lvs_app (a b : List Kd) : lvs (a ++ b) = lvs a + lvs b := by simp [lvs]
theorem lvs_len : ∀ L : List Kd, L.length ≤ lvs L
  | [] => Nat.le_refl _
  | k :: r => by
    have := lvs_len r
    have := lvs_pos k
    simp only [lvs, List.length_cons, List.map_cons, List.sum_cons] at *; omega
theorem flat_ends_len : ∀ L : List Kd, (L.flatMap ends).length ≤ lvs L
  | [] => Nat.le_refl _
  | k :: r => by
    have := flat_ends_len r
    have := ends_len k
    simp only [lvs, List.flatMap_cons, List.length_append, List.map_cons, List.sum_cons] at *; omega
/-- what there is: the most leaves of one, of all together -/
structure LB (v e : Nat) (L : List Kd) : Prop where
  lk : LK L
  v : ∀ k ∈ L, k.leaves ≤ v
  e : lvs L ≤ e
/-- one of the tasks of a way -/
structure TB (v : Nat) (t : List Kd × Str) : Prop where
  lb : LB v v t.1
  m : isMarkB t.2 = true
/-! numbers that bound -/
def mb (g : Nat → Nat) : Nat → Nat → Nat
  | 0, _ => 1
  | f + 1, s => if s = 0 then 1 else sm s fun a => g (a + 1) * mb g f (s - 1 - a)
def cb : Nat → Nat → Nat → Nat → Nat
  | 0, _, _, _ => 0
  | f + 1, v, e, n => e * mb (cb f v (e + v)) f (n - 1)
theorem sum_le_mul {α : Type} (c : Nat) (F : α → Nat) : ∀ l : List α, (∀ x ∈ l, F x ≤ c) → (l.map F).sum ≤ l.length * c
  | [], _ => by simp
  | x :: l, h => by
    have := sum_le_mul c F l fun y hy => h y (List.mem_cons_of_mem _ hy)
    have := h x List.mem_cons_self
    rw [List.map_cons, List.sum_cons, List.length_cons, Nat.add_mul]; omega
/-- how often something is asked -/
def mc (g : Nat → Nat) : Nat → Nat → Nat
  | 0, _ => 0
  | f + 1, s => sm s fun a => g (a + 1) + mc g f (s - 1 - a)
def cc : Nat → Nat → Nat → Nat → Nat
  | 0, _, _, _ => 0
  | f + 1, v, e, n => 1 + e + e * mc (cc f v (e + v)) f (n - 1)
theorem n1 : cb 5 6 6 5 < 2 ^ 60 ∧ mc (cc 5 6 6) 5 5 < 2 ^ 21 := by decide +kernel
end Kf
/-! Klj: walks along lists that may be owned. -/
namespace Kf
open PySem PySem.Spec L2
open PyProof.Rows hiding St
section
variable {p : Pat} {ft : FT} {fe : FE} {ρ : DEnv} {O : Ow} {α β : Type} {A : List (Addr × List D)}
theorem lcJ_filter (b : α → Bool) (f g : α → D) (hk : keepO A O) : ∀ (xs : List α) (acc : List D) (Q : List D → Ow → Prop), acc.length + xs.length ≤ sizeLine →
    (∀ x ∈ xs, ∀ (Q1 : VD) (Q2 : Ow → Prop), (b x = true → Q1 (g x) O) → (b x = false → Q2 O) → patGet (patD p (f x) ρ) fun ρ1 => ft ρ1 O fun k O1 => if k = true then fe ρ1 O1 Q1 else Q2 O1) → Q (acc ++ (xs.filter b).map g) O → lcJ A p ft fe ρ (xs.map f) acc O Q
  | [], acc, Q, _, _, q => by simpa [lcJ, hk] using q
  | x :: xs, acc, Q, hl, hs, q => by
    rw [List.length_cons] at hl
    have z := hs x List.mem_cons_self (fun e O2 => acc.length < sizeLine ∧ lcJ A p ft fe ρ (xs.map f) (acc ++ [e]) O2 Q) (fun O2 => lcJ A p ft fe ρ (xs.map f) acc O2 Q)
      (fun hb => ⟨by omega, lcJ_filter b f g hk xs _ Q (by rw [List.length_append, List.length_singleton]; omega) (fun d' hd => hs d' (List.mem_cons_of_mem _ hd)) (by simpa [List.filter_cons, hb] using q)⟩)
      (fun hb => lcJ_filter b f g hk xs _ Q (by omega) (fun d' hd => hs d' (List.mem_cons_of_mem _ hd)) (by simpa [List.filter_cons, hb] using q))
    rw [List.map_cons]
    unfold lcJ
    exact ⟨hk, z⟩
end
end Kf
namespace Kf
open PySem PySem.Spec L2
open PyProof.Rows hiding St
local macro_rules | `(tactic| walk_at "kf") => `(tactic| simp (config := { failIfUnchanged := false }) only [startD, ap_fiEnumT, asT1_t, ap_fKGet, asStr_s, ap_fKIn, ap_fKIx, ap_gAsgL, rUnl_l, ap_fiRng3, asR3_i, rSplitO_s, ap_fOrL, rOrL_l, ap_fLcK, ap_gForK, ap_fMaxD, rMaxD_l, rMaxL_l, ap_fCallXD, ap_gForE, asLE_l, ap_fFrz, ap_fDicO, ap_fDGet, ap_fDGet1, ap_fDGet2, ap_gDPut, ap_fIsiT, ap_gForR, rRep_l, isT_i, isT_s, isT_b, isT_n, isT_t, isT_l, ap_gSeq, ap_gIf, ap_gRet, ap_gNext, ap_gSet, ap_gAsg, ap_gPar, ap_gDrop, ap_gRetF, ap_gRetN, ap_gFor, ap_gSetIx, ap_gBreak, ap_fRev, ap_fiRevR, asIR_i, rRev_l, ap_fCallX, ap_gRaise, ap_gTry, ap_gTryAs, ap_gNever, ap_fEdic, ap_fTest, ap_fOp, ap_fVar, envGet_s, patGet_s, ap_fC, ap_fCB, ap_fCons, ap_fNil, ap_fCall, ap_fAnd, ap_fOr, ap_fNot, ap_fAndV, ap_fOrV, ap_fNotV, ap_fIf, ap_fTup, ap_fLst, ap_fLstO, ap_fChain, ap_fUn, ap_fBM, ap_fBM0, ap_fPool, rPool_i, ap_fSl, ap_fPart, ap_fNoPart, asI_i, rSl_l, ap_fiRng1, ap_fiRng2, ap_fiList, ap_fiTup, ap_fiStr, ap_fiEnum, ap_fiZip, ap_fiRev, asL_l, asT_t, asSg_s, asR1_i, asR2_i, asL1_l, asL2_l, ap_fLc, ap_fLcO, ap_fYes, wipeD, lcD, isi_i_int, isi_i_bool, isi_i_str, isi_i_tuple, isi_i_list, isi_i_dict, isi_b_int, isi_b_bool, isi_b_str, isi_b_tuple, isi_b_list, isi_b_dict, isi_s_int, isi_s_bool, isi_s_str, isi_s_tuple, isi_s_list, isi_s_dict, isi_t_int, isi_t_bool, isi_t_str, isi_t_tuple, isi_t_list, isi_t_dict, isi_l_int, isi_l_bool, isi_l_str, isi_l_tuple, isi_l_list, isi_l_dict, isi_n_int, isi_n_bool, isi_n_str, isi_n_tuple, isi_n_list, isi_n_dict, isi_d_int, isi_d_bool, isi_d_str, isi_d_tuple, isi_d_list, isi_d_dict,
  deref_tup, deref_lst, deref_int, deref_str, deref_bl, deref_non, deref_scr, rLt_i, rLt_s, rLe_i, rLe_s, rInts_i, rInts0_i, rAdd_i, rAdd_s, rAdd_l, rAdd_t, rCatO_l, rNeg_i, rLen_t, rLen_l, rLen_c, rLen_s, rMax_i, rMin_i, rInt_i, rInt_b, rDivmod_i, ap_gAug, rStr_i, rList_l, rList_t, rListO_l, rListO_t, rTup_l, rTup_t,
  rIx_t0, rIx_t1, rIx_t2, rIx_t3, rIx_l0, rIx_l1, rIx_l2, rIsN_x, isNon_t, isNon_n, isNon_i, isNon_s, isNon_l, rEq_i, rEq_b, rEq_i2, rEq_b2, rJoin_m, rSplit_s, tyOk_l, tyOk_s, patD_nm, patD_tp, patDs_nil, patDs_cons, Option.bind_some, notX, notX',
  List.map_cons, List.map_nil, List.length_cons, List.length_nil, List.cons_append, List.nil_append, List.append_nil, List.replicate, List.getElem?_cons_zero, List.getElem?_cons_succ, List.set_cons_zero, List.set_cons_succ, updO_same, updO_updO,
  Nat.reduceSub, Nat.reduceAdd, Nat.reduceLeDiff, Nat.zero_add, Int.cast_ofNat_Int, Int.natCast_zero, Int.natCast_one, Int.reduceLT, Int.reduceLE, Int.reduceEq, Int.reduceAdd, Int.reduceSub, Int.reduceNeg, decide_true, decide_false, if_true, if_false, Bool.false_eq_true, eq_self, reduceIte, Bool.true_eq_false, decide_eq_true_eq, Bool.not_true, Bool.not_false, Bool.not_eq_true', decide_eq_false_iff_not, exists_eq_left', exists_eq_left, D.bl.injEq, true_and, and_true, not_true_eq_false, not_false_eq_true])
local macro_rules | `(tactic| walk_at "len") => `(tactic| (intro ds O R RE h; first | (obtain ⟨e, _⟩ := h; subst e; rfl) | (obtain ⟨_, e, _⟩ := h; subst e; rfl) | (obtain ⟨_, _, e, _⟩ := h; subst e; rfl) | (obtain ⟨_, _, _, e, _⟩ := h; subst e; rfl) | (obtain ⟨_, _, _, _, e, _⟩ := h; subst e; rfl) | (obtain ⟨_, _, _, _, _, e, _⟩ := h; subst e; rfl) | (obtain ⟨_, _, _, _, _, _, e, _⟩ := h; subst e; rfl) | (obtain ⟨_, _, _, _, _, _, _, e, _⟩ := h; subst e; rfl) | (obtain ⟨_, _, _, _, _, _, _, _, e, _⟩ := h; subst e; rfl) | (obtain ⟨_, _, _, _, _, _, _, _, _, e, _⟩ := h; subst e; rfl)))
local macro_rules | `(tactic| walk_at "kf1") => `(tactic| simp (config := { failIfUnchanged := false }) only [startD, ap_fiEnumT, asT1_t, ap_fKGet, asStr_s, ap_fKIn, ap_fKIx, ap_gAsgL, rUnl_l, ap_fiRng3, asR3_i, rSplitO_s, ap_fOrL, rOrL_l, ap_fLcK, ap_gForK, ap_fMaxD, rMaxD_l, rMaxL_l, ap_fCallXD, ap_gForE, asLE_l, ap_fFrz, ap_fDicO, ap_fDGet, ap_fDGet1, ap_fDGet2, ap_gDPut, ap_fIsiT, ap_gForR, rRep_l, isT_i, isT_s, isT_b, isT_n, isT_t, isT_l, ap_gIf, ap_gRet, ap_gNext, ap_gSet, ap_gAsg, ap_gPar, ap_gDrop, ap_gRetF, ap_gRetN, ap_gFor, ap_gSetIx, ap_gBreak, ap_fRev, ap_fiRevR, asIR_i, rRev_l, ap_fCallX, ap_gRaise, ap_gTry, ap_gTryAs, ap_gNever, ap_fEdic, ap_fTest, ap_fOp, ap_fVar, envGet_s, patGet_s, ap_fC, ap_fCB, ap_fCons, ap_fNil, ap_fCall, ap_fAnd, ap_fOr, ap_fNot, ap_fAndV, ap_fOrV, ap_fNotV, ap_fIf, ap_fTup, ap_fLst, ap_fLstO, ap_fChain, ap_fUn, ap_fBM, ap_fBM0, ap_fPool, rPool_i, ap_fSl, ap_fPart, ap_fNoPart, asI_i, rSl_l, ap_fiRng1, ap_fiRng2, ap_fiList, ap_fiTup, ap_fiStr, ap_fiEnum, ap_fiZip, ap_fiRev, asL_l, asT_t, asSg_s, asR1_i, asR2_i, asL1_l, asL2_l, ap_fLc, ap_fLcO, ap_fYes, wipeD, lcD, isi_i_int, isi_i_bool, isi_i_str, isi_i_tuple, isi_i_list, isi_i_dict, isi_b_int, isi_b_bool, isi_b_str, isi_b_tuple, isi_b_list, isi_b_dict, isi_s_int, isi_s_bool, isi_s_str, isi_s_tuple, isi_s_list, isi_s_dict, isi_t_int, isi_t_bool, isi_t_str, isi_t_tuple, isi_t_list, isi_t_dict, isi_l_int, isi_l_bool, isi_l_str, isi_l_tuple, isi_l_list, isi_l_dict, isi_n_int, isi_n_bool, isi_n_str, isi_n_tuple, isi_n_list, isi_n_dict, isi_d_int, isi_d_bool, isi_d_str, isi_d_tuple, isi_d_list, isi_d_dict,
  deref_tup, deref_lst, deref_int, deref_str, deref_bl, deref_non, deref_scr, rLt_i, rLt_s, rLe_i, rLe_s, rInts_i, rInts0_i, rAdd_i, rAdd_s, rAdd_l, rAdd_t, rCatO_l, rNeg_i, rLen_t, rLen_l, rLen_c, rLen_s, rMax_i, rMin_i, rInt_i, rInt_b, rDivmod_i, ap_gAug, rStr_i, rList_l, rList_t, rListO_l, rListO_t, rTup_l, rTup_t,
  rIx_t0, rIx_t1, rIx_t2, rIx_t3, rIx_l0, rIx_l1, rIx_l2, rIsN_x, isNon_t, isNon_n, isNon_i, isNon_s, isNon_l, rEq_i, rEq_b, rEq_i2, rEq_b2, rJoin_m, rSplit_s, tyOk_l, tyOk_s, patD_nm, patD_tp, patDs_nil, patDs_cons, Option.bind_some, notX, notX',
  List.map_cons, List.map_nil, List.length_cons, List.length_nil, List.cons_append, List.nil_append, List.append_nil, List.replicate, List.getElem?_cons_zero, List.getElem?_cons_succ, List.set_cons_zero, List.set_cons_succ, updO_same, updO_updO,
  Nat.reduceSub, Nat.reduceAdd, Nat.reduceLeDiff, Nat.zero_add, Int.cast_ofNat_Int, Int.natCast_zero, Int.natCast_one, Int.reduceLT, Int.reduceLE, Int.reduceEq, Int.reduceAdd, Int.reduceSub, Int.reduceNeg, decide_true, decide_false, if_true, if_false, Bool.false_eq_true, eq_self, reduceIte, Bool.true_eq_false, decide_eq_true_eq, Bool.not_true, Bool.not_false, Bool.not_eq_true', decide_eq_false_iff_not, exists_eq_left', exists_eq_left, D.bl.injEq, true_and, and_true, not_true_eq_false, not_false_eq_true])
section
variable {P : Program} {w : World} {K : PySem.W.Frag} {mg : Str → Option Value} {base : Heap}
local macro_rules | `(tactic| walk_at "tg") => `(tactic| simp (config := { failIfUnchanged := false }) only [te_name_take, te_name_give, te_name_pair, te_name_first, te_name_second, te_name_to, te_name_both, te_name_one, te_name_mark, te_name_name, te_name_thing, te_name_at, te_thing_take, te_thing_give, te_thing_pair, te_thing_first, te_thing_second, te_thing_to, te_thing_both, te_thing_one, te_thing_mark, te_thing_name, te_thing_thing, te_thing_at, te_take_take, te_take_give, te_take_pair, te_take_first, te_take_second, te_take_to, te_take_both, te_take_one, te_take_mark, te_take_name, te_take_thing, te_take_at, te_give_take, te_give_give, te_give_pair, te_give_first, te_give_second, te_give_to, te_give_both, te_give_one, te_give_mark, te_give_name, te_give_thing, te_give_at, te_pair_take, te_pair_give, te_pair_pair, te_pair_first, te_pair_second, te_pair_to, te_pair_both, te_pair_one, te_pair_mark, te_pair_name, te_pair_thing, te_pair_at, te_first_take, te_first_give, te_first_pair, te_first_first, te_first_second, te_first_to, te_first_both, te_first_one, te_first_mark, te_first_name, te_first_thing, te_first_at, te_second_take, te_second_give, te_second_pair, te_second_first, te_second_second, te_second_to, te_second_both, te_second_one, te_second_mark, te_second_name, te_second_thing, te_second_at, te_mark_take, te_mark_give, te_mark_pair, te_mark_first, te_mark_second, te_mark_to, te_mark_both, te_mark_one, te_mark_mark, te_mark_name, te_mark_thing, te_mark_at, te_one_take, te_one_give, te_one_pair, te_one_first, te_one_second, te_one_to, te_one_both, te_one_one, te_one_mark, te_one_name, te_one_thing, te_one_at, te_to_take, te_to_give, te_to_pair, te_to_first, te_to_second, te_to_to, te_to_both, te_to_one, te_to_mark, te_to_name, te_to_thing, te_to_at, te_both_take, te_both_give, te_both_pair, te_both_first, te_both_second, te_both_to, te_both_both, te_both_one, te_both_mark, te_both_name, te_both_thing, te_both_at, te_at_take, te_at_give, te_at_pair, te_at_first, te_at_second, te_at_to, te_at_both, te_at_one, te_at_mark, te_at_name, te_at_thing, te_at_at, ti4_name, ti4_thing, ti4_take, ti4_give, ti4_pair, ti4_first, ti4_second, ti2_name, ti2_thing, ti2_take, ti2_give, ti2_pair, ti2_first, ti2_second, szT_0, szT_1, szT_2, szT_3, szT_4, szT_5, szT_6, szT_7, szT_8, szT_9, szT_10, szT_11, szT_12, Bool.not_true, Bool.not_false, true_and])
theorem ok_pool {a : Addr} {fd : FuncData} {k : Nat} (N : Fn K mg "_law_pool" s__law_pool P__law_pool a fd) (m_len : mg "len" = none) : FnOk P w K mg base CX0 (k + 1) a fd P__law_pool (liftSp K spPool) := by
  refine fn_d (g := g__law_pool) N.F sc__law_pool (fun ds O R RE ⟨ns, k, e, _⟩ => by rw [e]; rfl) (der__law_pool m_len) ?_
  rintro ds O R RE ⟨ns, k, rfl, h0, h1, hR⟩
  unfold g__law_pool
  walk_at "kf"
  have c1 : CMul 104729 k := Or.inl ⟨by decide, by decide⟩
  have c2 : CMul (104729 * k) k := Or.inr ⟨by omega, by omega⟩
  have c3 : CPow 10 18 := ⟨by decide, by decide, by decide⟩
  have e18 : (10 : Int) ^ Int.toNat 18 = 1000000000000000000 := by decide
  split
  · obtain ⟨n, e1, _⟩ := atI_some (xs := ns) h0 (by assumption)
    simp only [rIx_c e1]
    walk_at "kf"
    refine ⟨c1, c2, poolNum n h0 h1, c3, ?_⟩
    rw [e18]
    split
    · exact ⟨(poolMod _).1, (poolMod _).2, hR⟩
    · exact ⟨by omega, (poolMod _).1, (poolMod _).2, hR⟩
  · refine ⟨c1, c2, poolNum 0 h0 h1, c3, (poolMod _).1, (poolMod _).2, hR⟩
theorem ok_take {a : Addr} {fd : FuncData} {k : Nat} (N : Fn K mg "_law_take" s__law_take P__law_take a fd) : FnOk P w K mg base CX0 (k + 1) a fd P__law_take (liftSp K spTake) := by
  refine fn_d (g := g__law_take) N.F sc__law_take (fun ds O R RE ⟨ns, k, e, _⟩ => by rw [e]; rfl) der__law_take ?_
  rintro ds O R RE ⟨p, m, rfl, hp, h0, h1, hR⟩
  unfold g__law_take
  walk_at "kf"
  simp only [rIx_p0 hp, rIx_p1 hp]
  intro x hx
  walk_at "kf"
  split
  · simp only [rIx_p0 hp]
    intro y hy
    walk_at "kf"
    refine ⟨h0, ?_⟩
    simp only [rIx_p0 hp]
    intro z hz
    walk_at "kf"
    refine ⟨⟨h0, h1⟩, ?_⟩
    simp only [rSet_p0 hp]
    exact ⟨Int.ediv_nonneg hz (by omega), hR _ (Int.emod_nonneg _ (by omega)) (Int.emod_lt_of_pos _ h0)⟩
  · simp only [rIx_p1 hp]
    intro y hy hy2
    walk_at "kf"
    refine ⟨Or.inr ⟨by decide, by decide⟩, ?_⟩
    simp only [rSet_p1 hp]
    refine ⟨poolMod _, ?_⟩
    walk_at "kf"
    simp only [rIx_p1 hp]
    intro z hz hz2
    intro u hu hu2
    walk_at "kf"
    exact ⟨Or.inl ⟨by omega, by omega⟩, ⟨by decide, by decide⟩, h0, hR _ (Int.emod_nonneg _ (by omega)) (Int.emod_lt_of_pos _ h0)⟩
/-- the law's own kinds: three words -/
def spLKind (n : Nat) : DSp := fun ds O R _ => ∃ (p : Addr) (l : Nat) (ms : List Str), ds = [.ref p, .int l, .lst (ms.map .str)] ∧ O p = some .pool ∧ 1 ≤ l ∧ l ≤ n ∧ l ≤ 1000 ∧ 1 ≤ ms.length ∧ ms.length ≤ 1000 ∧ ∀ k : Kd, k.leaves = l → k.over ms → R (dK k) O
theorem ok_lkind (T : TxW w K mg) : ∀ n, FO__law_kind P w base T (n + 1) (spLKind n)
  | 0 => fnUp (none_left fun ds O R RE ⟨p, l, ms, _, _, h1, h2, _⟩ => by omega) (Nat.zero_le _)
  | n + 1 => by
    refine fnd__law_kind T (ok_take T.n__law_take) (ok_lkind T n) (by walk_at "len") ?_
    rintro ds O R RE ⟨p, l, ms, rfl, hp, h1, hn, h1000, hm1, hm2, hR⟩
    unfold g__law_kind
    walk_at "kf"
    by_cases hl : l = 1
    · subst hl
      walk_at "kf"
      refine take_of hp (by decide) (by decide) fun r hr0 hr1 => ?_
      walk_at "kf"
      split
      · exact ⟨sz_small (by decide), hR .one rfl trivial⟩
      · rw [List.length_map]
        refine take_of hp (by omega) (by omega) fun r hr0 hr1 => ?_
        obtain ⟨v, e1, e2⟩ := atI_some (xs := ms) hr0 hr1
        rw [rIx_l (by rw [atI_map, e1]; rfl)]
        exact ⟨sz_small (by decide), hR (.mk v) rfl e2⟩
    · rw [if_neg (by omega)]
      refine take_of hp (by omega) (by omega) fun r hr0 hr1 => ?_
      walk_at "kf"
      obtain ⟨f, hf⟩ : ∃ f : Nat, 1 + r = (f : Int) := ⟨(1 + r).toNat, by omega⟩
      rw [hf]
      refine ⟨sz_small (by decide), ?_⟩
      refine take_of hp (by decide) (by decide) fun r hr0 hr1 => ?_
      have h3 : r = 0 ∨ r = 1 ∨ r = 2 := by omega
      have fin : ∀ z : Str, (∀ k1 k2 : Kd, k1.leaves + k2.leaves = l → k1.over ms → k2.over ms → R (.tup [.str z, dK k1, dK k2]) O) →
          spLKind n [.ref p, .int f, .lst (ms.map .str)] O (fun x O1 => spLKind n [.ref p, .int ((l : Int) - f), .lst (ms.map .str)] O1 (fun x_1 O1 => 3 ≤ sizeLine ∧ R (.tup [.str z, x, x_1]) O1) X0) X0 := by
        intro z hz
        refine ⟨p, f, ms, rfl, hp, by omega, by omega, by omega, hm1, hm2, fun k1 hk1 ho1 => ?_⟩
        dsimp only
        rw [show (l : Int) - (f : Int) = ((l - f : Nat) : Int) by omega]
        refine ⟨p, l - f, ms, rfl, hp, by omega, by omega, by omega, hm1, hm2, fun k2 hk2 ho2 => ?_⟩
        exact ⟨sz_small (by decide), hz k1 k2 (by omega) ho1 ho2⟩
      have hto := fin "to" fun k1 k2 h o1 o2 => hR (.to k1 k2) (by simp only [Kd.leaves]; omega) ⟨o1, o2⟩
      have hbo := fin "both" fun k1 k2 h o1 o2 => hR (.both k1 k2) (by simp only [Kd.leaves]; omega) ⟨o1, o2⟩
      rcases h3 with rfl | rfl | rfl <;> walk_at "kf" <;> first | exact hto | exact hbo
theorem ok_ends (T : TxW w K mg) : ∀ n, FO_ends_of P w base T n (spEnds n)
  | 0 => none_left fun ds O R RE ⟨k, _, h, _⟩ => by omega
  | n + 1 => by
    refine fnd_ends_of T (ok_ends T n) (by walk_at "len") ?_
    rintro ds O R RE ⟨k, rfl, hd, h190, hok, hl, hR⟩
    unfold g_ends_of
    walk_at "kf"
    rw [show (D.tup [.str "one"]) = dK .one from rfl, rEq_K (a := k) (b := .one) hok rfl h190]
    cases k with
    | one =>
      walk_at "kf"
      exact ⟨sz_small (by decide), hR⟩
    | mk m =>
      simp only [reduceCtorEq, decide_false, dK]
      walk_at "kf"
      rw [rEq_s so_mark so_mark]
      walk_at "kf"
      exact ⟨sz_small (by decide), sz_small (by decide), sz_small (by decide), hR⟩
    | both a b =>
      simp only [reduceCtorEq, decide_false, dK]
      simp only [Kd.depth, Kd.leaves] at hd h190 hl
      simp only [Kd.ok, Bool.and_eq_true] at hok
      have ha := ends_len a
      have hb := ends_len b
      walk_at "kf"
      rw [rEq_s so_both so_mark, sd_bm]
      walk_at "kf"
      rw [rEq_s so_both so_both]
      walk_at "kf"
      refine ⟨a, rfl, by omega, by omega, hok.1, by omega, ?_⟩
      refine ⟨b, rfl, by omega, by omega, hok.2, by omega, ?_⟩
      walk_at "kf"
      refine ⟨sz_small (by simp only [List.length_map]; omega), ?_⟩
      rw [← List.map_append]
      exact hR
    | to a b =>
      simp only [reduceCtorEq, decide_false, dK]
      simp only [Kd.depth, Kd.leaves] at hd h190 hl
      simp only [Kd.ok, Bool.and_eq_true] at hok
      have hb := ends_len b
      walk_at "kf"
      rw [rEq_s so_to so_mark, sd_tm]
      walk_at "kf"
      rw [rEq_s so_to so_both, sd_tb]
      walk_at "kf"
      refine ⟨b, rfl, by omega, by omega, hok.2, by omega, ?_⟩
      walk_at "kf"
      refine lcA_map dEnd (fun e => dEnd (a :: e.1, e.2)) (ends b) _ _ (sz_small (by simp only [List.length_nil]; omega)) ?_ ?_
      · intro e he Q' hQ
        obtain ⟨h1, h2, h3, h4⟩ := ends_in b e he
        have h5 : e.1.length ≤ (e.1.map Kd.leaves).sum := len_sum e.1
        simp only [dEnd] at hQ ⊢
        walk_at "kf"
        refine ⟨sz_small (by decide), ?_⟩
        refine ⟨sz_small (by simp only [List.length_map, List.length_cons, List.length_nil]; omega), sz_small (by decide), ?_⟩
        exact hQ
      · rw [List.nil_append]
        have e : (ends b).map (fun e => dEnd (a :: e.1, e.2)) = (ends (.to a b)).map dEnd := by rw [ends, List.map_map]; rfl
        rw [e]
        exact hR
def dWy (w : List Mv × Str) : D := .tup [.lst (w.1.map dMv), .str w.2]
theorem wys_len : ∀ k : Kd, (wys k).length ≤ k.leaves
  | .one => Nat.zero_le _
  | .mk _ => Nat.le_refl _
  | .to a b => by have := wys_len b; simp only [wys, List.length_map, Kd.leaves]; omega
  | .both a b => by have := wys_len a; have := wys_len b; simp only [wys, List.length_append, List.length_map, Kd.leaves]; omega
theorem wys_mvl : ∀ (k : Kd), ∀ w ∈ wys k, w.1.length ≤ k.depth
  | .one, w, h => by cases h
  | .mk m, w, h => by simp only [wys, List.mem_singleton] at h; subst h; exact Nat.zero_le _
  | .to a b, w, h => by
    simp only [wys, List.mem_map] at h
    obtain ⟨w', h1, rfl⟩ := h
    have := wys_mvl b w' h1
    simp only [List.length_cons, Kd.depth]; omega
  | .both a b, w, h => by
    simp only [wys, List.mem_append, List.mem_map] at h
    rcases h with ⟨w', h1, rfl⟩ | ⟨w', h1, rfl⟩
    · have := wys_mvl a w' h1
      simp only [List.length_cons, Kd.depth]; omega
    · have := wys_mvl b w' h1
      simp only [List.length_cons, Kd.depth]; omega
def spWys (n : Nat) : DSp := fun ds O R _ => ∃ k : Kd, ds = [dK k] ∧ k.depth < n ∧ k.depth ≤ 100 ∧ k.leaves ≤ 200 ∧ k.ok = true ∧ R (.lst ((wys k).map dWy)) O
theorem ok_ways (T : TxW w K mg) : ∀ n, FO_ways_of P w base T (n + 1) (spWys n)
  | 0 => fnUp (none_left fun ds O R RE ⟨k, _, h, _⟩ => by omega) (Nat.zero_le _)
  | n + 1 => by
    refine fnd_ways_of T (ok_ways T n) (by walk_at "len") ?_
    rintro ds O R RE ⟨k, rfl, hd, h100, hl, ho, hR⟩
    unfold g_ways_of
    have hone : ∀ Q : VD, rEqD false (dK k) (.tup [.str (Str.ofString "one")]) O Q = Q (.bl (decide (k = .one))) O := fun Q => by
      rw [show D.tup [.str (Str.ofString "one")] = dK .one from rfl, rEq_K ho rfl (by omega), Bool.false_xor]
    cases k with
    | one =>
      refine gSeq_step ?_
      walk_at "kf1"
      rw [hone]
      simp only [decide_true]
      walk_at "kf1"
      exact ⟨sz_small (by decide), hR⟩
    | mk m =>
      refine gSeq_step ?_
      walk_at "kf1"
      rw [hone]
      simp only [show ¬ Kd.mk m = Kd.one from (fun e => nomatch e), decide_false]
      walk_at "kf1"
      simp only [dK]
      walk_at "kf"
      walk_at "tg"
      walk_at "kf"
      exact hR
    | to a b =>
      refine gSeq_step ?_
      walk_at "kf1"
      rw [hone]
      simp only [show ¬ Kd.to a b = Kd.one from (fun e => nomatch e), decide_false]
      walk_at "kf1"
      simp only [Kd.depth] at hd h100
      simp only [Kd.leaves] at hl
      simp only [Kd.ok, Bool.and_eq_true] at ho
      have hbl := wys_len b
      simp only [dK]
      walk_at "kf"
      walk_at "tg"
      walk_at "kf"
      walk_at "tg"
      walk_at "kf"
      refine ⟨b, rfl, by omega, by omega, by omega, ho.2, ?_⟩
      walk_at "kf"
      refine lcA_map dWy (fun e => dWy (Mv.k a :: e.1, e.2)) (wys b) _ _ (sz_small (by simp only [List.length_nil]; omega)) ?_ ?_
      · intro e he Q' hQ
        have := wys_mvl b e he
        simp only [dWy]
        walk_at "kf"
        exact ⟨sz_small (by decide), sz_small (by simp only [List.length_map, List.length_singleton]; omega), sz_small (by decide), hQ⟩
      · rw [List.nil_append]
        rw [wys, List.map_map] at hR
        exact hR
    | both a b =>
      refine gSeq_step ?_
      walk_at "kf1"
      rw [hone]
      simp only [show ¬ Kd.both a b = Kd.one from (fun e => nomatch e), decide_false]
      walk_at "kf1"
      simp only [Kd.depth] at hd h100
      simp only [Kd.leaves] at hl
      simp only [Kd.ok, Bool.and_eq_true] at ho
      have hal := wys_len a
      have hbl := wys_len b
      simp only [dK]
      walk_at "kf"
      walk_at "tg"
      walk_at "kf"
      walk_at "tg"
      walk_at "kf"
      refine ⟨a, rfl, by omega, by omega, by omega, ho.1, ?_⟩
      walk_at "kf"
      refine lcA_map dWy (fun e => dWy (Mv.one :: e.1, e.2)) (wys a) _ _ (sz_small (by simp only [List.length_nil]; omega)) ?_ ?_
      · intro e he Q' hQ
        have := wys_mvl a e he
        simp only [dWy]
        walk_at "kf"
        exact ⟨sz_small (by decide), sz_small (by simp only [List.length_map, List.length_singleton]; omega), sz_small (by decide), hQ⟩
      · rw [List.nil_append]
        walk_at "kf"
        refine ⟨b, rfl, by omega, by omega, by omega, ho.2, ?_⟩
        walk_at "kf"
        refine lcA_map dWy (fun e => dWy (Mv.two :: e.1, e.2)) (wys b) _ _ (sz_small (by simp only [List.length_nil]; omega)) ?_ ?_
        · intro e he Q' hQ
          have := wys_mvl b e he
          simp only [dWy]
          walk_at "kf"
          exact ⟨sz_small (by decide), sz_small (by simp only [List.length_map, List.length_singleton]; omega), sz_small (by decide), hQ⟩
        · rw [List.nil_append]
          walk_at "kf"
          rw [List.length_map, List.length_map]
          refine ⟨sz_small (by omega), ?_⟩
          rw [wys, List.map_append, List.map_map, List.map_map] at hR
          exact hR
def spShowK (n : Nat) : DSp := fun ds O R _ => ∃ k : Kd, ds = [dK k] ∧ k.depth < n ∧ k.depth ≤ 100 ∧ k.mks ∧ k.leaves ≤ 1000 ∧ R (.str (kshow k)) O
theorem ok_showK (T : TxW w K mg) : ∀ n, FO_shown_kind P w base T (n + 1) (spShowK n)
  | 0 => none_left fun ds O R RE ⟨k, _, h, _⟩ => by omega
  | n + 1 => by
    refine fnd_shown_kind T (ok_showK T n) (by walk_at "len") ?_
    rintro ds O R RE ⟨k, rfl, hd, hd2, hm, hl, hR⟩
    unfold g_shown_kind
    have e1 : (Str.ofString "( ").length = 2 := by decide +kernel
    have e2 : (Str.ofString " ").length = 1 := by decide +kernel
    have e3 : (Str.ofString "->").length = 2 := by decide +kernel
    have e3' : (Str.ofString "*").length = 1 := by decide +kernel
    have e4 : (Str.ofString " )").length = 2 := by decide +kernel
    refine gSeq_step ?_
    walk_at "kf1"
    rw [show D.tup [.str (Str.ofString "one")] = dK .one from rfl, rEq_K (mks_ok k hm) rfl (by omega)]
    cases k with
    | mk m =>
      simp only [reduceCtorEq, decide_false, Bool.false_xor]
      simp only [dK, kshow] at hR ⊢; walk_at "kf"; walk_at "tg"; walk_at "kf"; exact hR
    | one =>
      simp only [decide_true, Bool.false_xor]
      walk_at "kf"; exact hR
    | to a b =>
      simp only [Kd.depth, Kd.leaves] at hd hl hd2
      have ma : a.mks := fun m h => hm m (by simp [Kd.marks, h])
      have mb : b.mks := fun m h => hm m (by simp [Kd.marks, h])
      have la := kshow_len a ma
      have lb := kshow_len b mb
      simp only [reduceCtorEq, decide_false, Bool.false_xor]
      simp only [dK, kshow] at hR ⊢
      walk_at "kf"
      walk_at "tg"
      walk_at "kf"
      walk_at "tg"
      walk_at "kf"
      refine ⟨a, rfl, by omega, by omega, ma, by omega, ?_⟩
      walk_at "kf"
      refine ⟨sz_21 (by omega), sz_21 (by simp only [len_app]; omega), sz_21 (by simp only [len_app]; omega), sz_21 (by simp only [len_app]; omega), ?_⟩
      refine ⟨b, rfl, by omega, by omega, mb, by omega, ?_⟩
      walk_at "kf"
      refine ⟨sz_21 (by simp only [len_app]; omega), sz_21 (by simp only [len_app]; omega), ?_⟩
      exact hR
    | both a b =>
      simp only [Kd.depth, Kd.leaves] at hd hl hd2
      have ma : a.mks := fun m h => hm m (by simp [Kd.marks, h])
      have mb : b.mks := fun m h => hm m (by simp [Kd.marks, h])
      have la := kshow_len a ma
      have lb := kshow_len b mb
      simp only [reduceCtorEq, decide_false, Bool.false_xor]
      simp only [dK, kshow] at hR ⊢
      walk_at "kf"
      walk_at "tg"
      walk_at "kf"
      walk_at "tg"
      walk_at "kf"
      refine ⟨a, rfl, by omega, by omega, ma, by omega, ?_⟩
      walk_at "kf"
      refine ⟨sz_21 (by omega), sz_21 (by simp only [len_app]; omega), sz_21 (by simp only [len_app]; omega), sz_21 (by simp only [len_app]; omega), ?_⟩
      refine ⟨b, rfl, by omega, by omega, mb, by omega, ?_⟩
      walk_at "kf"
      refine ⟨sz_21 (by simp only [len_app]; omega), sz_21 (by simp only [len_app]; omega), ?_⟩
      exact hR
end
end Kf
/-! Kpp: texts of programs. -/
namespace Kf
open PySem PySem.Spec L2
open PyProof.Rows hiding St
/-- programs, gaps too -/
inductive Pq where
  | nm (x : Str) | thing | gap (k : Kd) | take (x : Str) (k : Kd) (b : Pq) | give (f a : Pq) | pair (a b : Pq) | first (p : Pq) | second (p : Pq)
  deriving DecidableEq, Inhabited
def Pg.q : Pg → Pq
  | .nm x => .nm x
  | .thing => .thing
  | .take x k b => .take x k b.q
  | .give f a => .give f.q a.q
  | .pair f a => .pair f.q a.q
  | .first p => .first p.q
  | .second p => .second p.q
def Pq.ins : Pq → List Pq
  | .take _ _ b => [b]
  | .give f a => [f, a]
  | .pair a b => [a, b]
  | .first p => [p]
  | .second p => [p]
  | _ => []
def Pq.hgt : Pq → Nat
  | .take _ _ b => b.hgt + 1
  | .give f a => max f.hgt a.hgt + 1
  | .pair a b => max a.hgt b.hgt + 1
  | .first p => p.hgt + 1
  | .second p => p.hgt + 1
  | _ => 0
def Pq.sz : Pq → Nat
  | .take _ _ b => b.sz + 1
  | .give f a => f.sz + a.sz + 1
  | .pair a b => a.sz + b.sz + 1
  | .first p => p.sz + 1
  | .second p => p.sz + 1
  | _ => 1
/-- a kind as is_kind lets by -/
def Kd.kk (k : Kd) : Prop := k.mks ∧ k.depth ≤ 12 ∧ k.leaves ≤ 24
/-! ### words -/
/-! ### names are words -/
/-- words are well made and short -/
def wOk (w : Str) : Prop := PyData.strOk w = true ∧ w.length ≤ 1000
theorem wOk_c {w : Str} (h : (PyData.strOk w && decide (w.length ≤ 1000)) = true) : wOk w := by
  rw [Bool.and_eq_true, decide_eq_true_eq] at h
  exact h
theorem kwords_ok : ∀ k : Kd, k.mks → ∀ w ∈ kwords k, wOk w
  | .mk m, h, w, hw => by
    simp only [kwords, List.mem_singleton] at hw
    subst hw
    have := mark_len (h w (by simp [Kd.marks]))
    exact ⟨mark_so (h w (by simp [Kd.marks])), by omega⟩
  | .one, h, w, hw => by
    simp only [kwords, List.mem_singleton] at hw
    subst hw
    exact wOk_c (by decide +kernel)
  | .to a b, h, w, hw => by
    simp only [kwords, List.mem_append, List.mem_singleton] at hw
    rcases hw with (((rfl | hw) | rfl) | hw) | rfl
    · exact wOk_c (by decide +kernel)
    · exact kwords_ok a (fun m hm => h m (by simp [Kd.marks, hm])) w hw
    · exact wOk_c (by decide +kernel)
    · exact kwords_ok b (fun m hm => h m (by simp [Kd.marks, hm])) w hw
    · exact wOk_c (by decide +kernel)
  | .both a b, h, w, hw => by
    simp only [kwords, List.mem_append, List.mem_singleton] at hw
    rcases hw with (((rfl | hw) | rfl) | hw) | rfl
    · exact wOk_c (by decide +kernel)
    · exact kwords_ok a (fun m hm => h m (by simp [Kd.marks, hm])) w hw
    · exact wOk_c (by decide +kernel)
    · exact kwords_ok b (fun m hm => h m (by simp [Kd.marks, hm])) w hw
    · exact wOk_c (by decide +kernel)
/-! ### reading -/
/-- halves behind a program -/
def hlv : Pq → List Str → Pq × List Str
  | q, [] => (q, [])
  | q, w :: r => if w = Str.ofString ".1" then hlv (.first q) r else if w = Str.ofString ".2" then hlv (.second q) r else (q, w :: r)
/-- a kind within a program's text -/
def kpk (l : List Str) : Option (Kd × List Str) := match kp 12 l with
  | some (k, r) => if k.leaves ≤ 24 then some (k, r) else none
  | none => none
abbrev Rd := List Str → Option (Pq × List Str)
def gapF (l : List Str) : Option (Pq × List Str) := match kpk l with
  | some (k, c :: r) => if c = Str.ofString "]" then some (.gap k, r) else none
  | _ => none
def aft (am : Str) (r : List Str) : Option (List Str) := if am = Str.ofString "" then some r else match r with
  | c :: r1 => if c = am then some r1 else none
  | [] => none
def twoF (pf : Rd) (con : Pq → Pq → Pq) (am en : Str) (l : List Str) : Option (Pq × List Str) := match pf l with
  | some (a, r) => match aft am r with
    | some r1 => match pf r1 with
      | some (b, c :: r2) => if c = en then some (con a b, r2) else none
      | _ => none
    | none => none
  | none => none
/-- behind the colon -/
def takeF (pf : Rd) (x : Str) (l : List Str) : Option (Pq × List Str) := match kpk l with
  | some (k, c :: r2) => if c = Str.ofString "=>" then match pf r2 with
      | some (b, d :: r3) => if d = Str.ofString ")" then some (.take x k b, r3) else none
      | _ => none
    else none
  | _ => none
def tkh : List Str → Bool
  | x :: c :: _ => isNameB x && decide (c = Str.ofString ":")
  | _ => false
def hlo (x : Option (Pq × List Str)) : Option (Pq × List Str) := x.map fun y => hlv y.1 y.2
def opF (pf : Rd) (l : List Str) : Option (Pq × List Str) := if tkh l then takeF pf (l.headD (Str.ofString "")) (l.drop 2) else twoF pf .give (Str.ofString "") (Str.ofString ")") l
def bgF (pf : Rd) : List Str → Option (Pq × List Str)
  | [] => none
  | w :: r => if w = Str.ofString "#" then some (.thing, r) else if isNameB w = true then some (.nm w, r) else if w = Str.ofString "[" then gapF r
    else if w = Str.ofString "{" then twoF pf .pair (Str.ofString ",") (Str.ofString "}") r else if w = Str.ofString "(" then opF pf r else none
def pb : Nat → List Str → Option (Pq × List Str)
  | 0, _ => none
  | n + 1, l => bgF (fun l => hlo (pb n l)) l
def pf (n : Nat) (l : List Str) : Option (Pq × List Str) := hlo (pb n l)
/-! ### a program's words are read -/
/-! ### how many parts are left -/
end Kf
/-! Khv: what can be had from kinds that are there; trees that bar. -/
namespace Kf
open PySem PySem.Spec L2
open PyProof.Rows hiding St
/-! ### had -/
inductive Had : List Kd → Str → Prop
  | mk {S : List Kd} {k : Kd} {e : List Kd × Str} (hk : k ∈ S) (he : e ∈ ends k) (h : ∀ a ∈ e.1, ∀ t ∈ ends a, Had (S ++ t.1) t.2) : Had S e.2
def HadK (S : List Kd) (k : Kd) : Prop := ∀ t ∈ ends k, Had (S ++ t.1) t.2
theorem Had.weak {S S' : List Kd} {m : Str} (h : Had S m) : (∀ x ∈ S, x ∈ S') → Had S' m := by
  induction h generalizing S' with
  | mk hk he _ ih =>
    intro s
    refine .mk (s _ hk) he fun a ha t ht => ih a ha t ht fun x hx => ?_
    rcases List.mem_append.mp hx with hx | hx
    · exact List.mem_append_left _ (s x hx)
    · exact List.mem_append_right _ hx
theorem HadK.weak {S S' : List Kd} {k : Kd} (h : HadK S k) (s : ∀ x ∈ S, x ∈ S') : HadK S' k := fun t ht => (h t ht).weak fun x hx => (List.mem_append.mp hx).elim (fun hx => List.mem_append_left _ (s x hx)) (List.mem_append_right _)
def SameK (S S' : List Kd) : Prop := ∀ x, x ∈ S ↔ x ∈ S'
/-! ### what holds, by the ends -/
theorem forces_ends : ∀ (k : Kd) (t : Tr), MonoT t → (forces k t = true ↔ ∀ e ∈ ends k, ∀ s ∈ subs t, (∀ x ∈ e.1, forces x s = true) → e.2 ∈ s.ms)
  | .mk m, t, mt => by
    simp only [forces, decide_eq_true_iff, ends, List.mem_singleton, forall_eq]
    constructor
    · intro h s hs _
      exact (mono_sub t s mt hs).2 m h
    · intro h
      exact h t (subs_self t) (fun x hx => by cases hx)
  | .one, t, _ => by simp [forces, ends]
  | .both a b, t, mt => by
    simp only [forces, Bool.and_eq_true, forces_ends a t mt, forces_ends b t mt, ends, List.mem_append]
    constructor
    · rintro ⟨h1, h2⟩ e (he | he)
      · exact h1 e he
      · exact h2 e he
    · exact fun h => ⟨fun e he => h e (.inl he), fun e he => h e (.inr he)⟩
  | .to a b, t, mt => by
    rw [forces_to]
    simp only [ends, List.mem_map]
    constructor
    · rintro h e ⟨e', he', rfl⟩ s hs hx
      have h1 := h s hs (hx a List.mem_cons_self)
      exact (forces_ends b s (mono_sub t s mt hs).1).mp h1 e' he' s (subs_self s) fun x hx' => hx x (List.mem_cons_of_mem _ hx')
    · intro h s hs ha
      refine (forces_ends b s (mono_sub t s mt hs).1).mpr fun e he u hu hx => ?_
      refine h (a :: e.1, e.2) ⟨e, he, rfl⟩ u (subs_trans t s u hs hu) fun x hx' => ?_
      rcases List.mem_cons.mp hx' with rfl | hx'
      · exact forces_mono _ s u (mono_sub t s mt hs).1 ha hu
      · exact hx x hx'
/-! ### trees told with what is there -/
inductive ST where
  | nd (S : List Kd) (ms : List Str) (ts : List ST)
def ST.S : ST → List Kd
  | .nd S _ _ => S
def ST.ms : ST → List Str
  | .nd _ ms _ => ms
def ST.ts : ST → List ST
  | .nd _ _ ts => ts
mutual
def stT : ST → Tr
  | .nd _ ms ts => .nd ms (stTs ts)
def stTs : List ST → List Tr
  | [] => []
  | t :: ts => stT t :: stTs ts
end
mutual
def sbs : ST → List ST
  | .nd S ms ts => .nd S ms ts :: sbss ts
def sbss : List ST → List ST
  | [] => []
  | t :: ts => sbs t ++ sbss ts
end
theorem sbs_self (t : ST) : t ∈ sbs t := by cases t; rw [sbs]; exact List.mem_cons_self
theorem mem_sbss {s : ST} : ∀ {ts : List ST}, s ∈ sbss ts ↔ ∃ t ∈ ts, s ∈ sbs t
  | [] => by simp [sbss]
  | t :: ts => by rw [sbss, List.mem_append, mem_sbss]; simp
mutual
theorem subs_stT : ∀ t : ST, subs (stT t) = (sbs t).map stT
  | .nd S ms ts => by rw [stT, subs, sbs, List.map_cons, subss_stTs ts, stT]
theorem subss_stTs : ∀ ts : List ST, subss (stTs ts) = (sbss ts).map stT
  | [] => rfl
  | t :: ts => by rw [stTs, subss, sbss, List.map_append, subs_stT t, subss_stTs ts]
end
theorem stT_ms (t : ST) : (stT t).ms = t.ms := by cases t; rfl
mutual
theorem sbs_trans : ∀ (t s u : ST), s ∈ sbs t → u ∈ sbs s → u ∈ sbs t
  | .nd S ms ts, s, u, h, k => by
    rw [sbs] at h
    rcases List.mem_cons.mp h with rfl | h
    · exact k
    · rw [sbs]; exact List.mem_cons_of_mem _ (sbss_trans ts s u h k)
theorem sbss_trans : ∀ (ts : List ST) (s u : ST), s ∈ sbss ts → u ∈ sbs s → u ∈ sbss ts
  | [], s, u, h, k => by rw [sbss] at h; cases h
  | t :: ts, s, u, h, k => by
    rw [sbss] at h ⊢
    rcases List.mem_append.mp h with h | h
    · exact List.mem_append_left _ (sbs_trans t s u h k)
    · exact List.mem_append_right _ (sbss_trans ts s u h k)
end
/-- one world is as it should be -/
structure Loc (u : ST) : Prop where
  ms : ∀ m, m ∈ u.ms ↔ Had u.S m
  up : ∀ c ∈ u.ts, ∀ x ∈ u.S, x ∈ c.S
  no : ∀ k ∈ u.S, ∀ e ∈ ends k, ¬ Had u.S e.2 → ∃ a ∈ e.1, ∃ t ∈ ends a, ¬ Had (u.S ++ t.1) t.2 ∧ ((∀ x ∈ t.1, x ∈ u.S) ∨ ∃ c ∈ u.ts, SameK c.S (u.S ++ t.1))
def GoodS (t : ST) : Prop := ∀ u ∈ sbs t, Loc u
theorem GoodS.sub {t u : ST} (h : GoodS t) (hu : u ∈ sbs t) : GoodS u := fun v hv => h v (sbs_trans t u v hu hv)
theorem ts_sbs {t c : ST} (h : c ∈ t.ts) : c ∈ sbs t := by
  cases t with
  | nd S ms ts => rw [sbs]; exact List.mem_cons_of_mem _ (mem_sbss.mpr ⟨c, h, sbs_self c⟩)
mutual
theorem good_up : ∀ (t : ST), GoodS t → ∀ u ∈ sbs t, ∀ x ∈ t.S, x ∈ u.S
  | .nd S ms ts, h, u, hu, x, hx => by
    rw [sbs] at hu
    rcases List.mem_cons.mp hu with rfl | hu
    · exact hx
    · exact goods_up ts S (fun c hc => (h _ (sbs_self _)).up c hc) (fun c hc => h.sub (ts_sbs hc)) u hu x hx
theorem goods_up : ∀ (ts : List ST) (S : List Kd), (∀ c ∈ ts, ∀ x ∈ S, x ∈ c.S) → (∀ c ∈ ts, GoodS c) → ∀ u ∈ sbss ts, ∀ x ∈ S, x ∈ u.S
  | [], S, _, _, u, hu, x, hx => by rw [sbss] at hu; cases hu
  | t :: ts, S, h1, h2, u, hu, x, hx => by
    rw [sbss] at hu
    rcases List.mem_append.mp hu with hu | hu
    · exact good_up t (h2 t List.mem_cons_self) u hu x (h1 t List.mem_cons_self x hx)
    · exact goods_up ts S (fun c hc => h1 c (List.mem_cons_of_mem _ hc)) (fun c hc => h2 c (List.mem_cons_of_mem _ hc)) u hu x hx
end
mutual
theorem good_mono : ∀ (t : ST), GoodS t → MonoT (stT t)
  | .nd S ms ts, h => by
    rw [stT, MonoT]
    have h0 := h _ (sbs_self _)
    refine goods_mono ts ms (fun c hc m hm => ?_) (fun c hc => h.sub (ts_sbs hc))
    exact ((h.sub (ts_sbs (t := .nd S ms ts) hc)) c (sbs_self c)).ms m |>.mpr (((h0.ms m).mp hm).weak (h0.up c hc))
theorem goods_mono : ∀ (ts : List ST) (ms : List Str), (∀ c ∈ ts, ∀ m ∈ ms, m ∈ c.ms) → (∀ c ∈ ts, GoodS c) → MonoTs ms (stTs ts)
  | [], ms, _, _ => by rw [stTs, MonoTs]; trivial
  | t :: ts, ms, h1, h2 => by
    rw [stTs, MonoTs]
    exact ⟨by rw [stT_ms]; exact h1 t List.mem_cons_self, good_mono t (h2 t List.mem_cons_self), goods_mono ts ms (fun c hc => h1 c (List.mem_cons_of_mem _ hc)) (fun c hc => h2 c (List.mem_cons_of_mem _ hc))⟩
end
/-! ### in such a tree all that is there holds -/
def ksz : Kd → Nat
  | .mk _ => 1
  | .one => 1
  | .to a b => ksz a + ksz b + 1
  | .both a b => ksz a + ksz b + 1
theorem ends_ksz : ∀ (k : Kd) (e : List Kd × Str), e ∈ ends k → ∀ x ∈ e.1, ksz x < ksz k
  | .mk m, e, h, x, hx => by rw [ends, List.mem_singleton] at h; subst h; cases hx
  | .one, e, h, x, hx => by rw [ends] at h; cases h
  | .both a b, e, h, x, hx => by
    rw [ends, List.mem_append] at h
    rw [ksz]
    rcases h with h | h
    · have := ends_ksz a e h x hx; omega
    · have := ends_ksz b e h x hx; omega
  | .to a b, e, h, x, hx => by
    rw [ends, List.mem_map] at h
    obtain ⟨e', he', rfl⟩ := h
    rw [ksz]
    rcases List.mem_cons.mp hx with rfl | hx
    · omega
    · have := ends_ksz b e' he' x hx; omega
theorem good_holds {st : ST} (h : GoodS st) : ∀ (n : Nat) (x : Kd), ksz x ≤ n → ∀ u ∈ sbs st, x ∈ u.S → forces x (stT u) = true := by
  intro n
  induction n with
  | zero => intro x hx; cases x <;> simp [ksz] at hx
  | succ n ih =>
    intro x hx u hu hxu
    refine (forces_ends x _ (good_mono u (h.sub hu))).mpr fun e he s hs hy => ?_
    rw [subs_stT] at hs
    obtain ⟨v, hv, rfl⟩ := List.mem_map.mp hs
    have hv' : v ∈ sbs st := sbs_trans st u v hu hv
    have hxv := good_up u (h.sub hu) v hv x hxu
    have hl := h v hv'
    rw [stT_ms]
    refine (hl.ms _).mpr (Classical.byContradiction fun hn => ?_)
    obtain ⟨a, ha, t, ht, hnot, hc⟩ := hl.no x hxv e he hn
    have hsa := ends_ksz x e he a ha
    have hfa := (forces_ends a _ (good_mono v (h.sub hv'))).mp (hy a ha) t ht
    rcases hc with hc | ⟨c, hc, hS⟩
    · have h1 := hfa (stT v) (subs_self _) fun y hy' => by
        have := ends_ksz a t ht y hy'
        exact ih y (by omega) v hv' (hc y hy')
      rw [stT_ms] at h1
      exact hnot (((hl.ms _).mp h1).weak fun x hx => List.mem_append_left _ hx)
    · have hcv := ts_sbs hc
      have hcs : c ∈ sbs st := sbs_trans st v c hv' hcv
      have h1 := hfa (stT c) (by rw [subs_stT]; exact List.mem_map_of_mem hcv) fun y hy' => by
        have := ends_ksz a t ht y hy'
        exact ih y (by omega) c hcs ((hS y).mpr (List.mem_append_right _ hy'))
      rw [stT_ms] at h1
      exact hnot ((((h c hcs).ms _).mp h1).weak fun x hx => (hS x).mp hx)
/-- a tree of what is there with an end's taken bars the kind -/
theorem good_bars {st : ST} (h : GoodS st) {S : List Kd} {k : Kd} {t : List Kd × Str} (ht : t ∈ ends k) (hS : SameK st.S (S ++ t.1)) (hn : ¬ Had (S ++ t.1) t.2) : (∀ x ∈ S, forces x (stT st) = true) ∧ forces k (stT st) = false := by
  have h0 : ∀ x ∈ S ++ t.1, forces x (stT st) = true := fun x hx => good_holds h _ x (Nat.le_refl _) st (sbs_self st) ((hS x).mpr hx)
  refine ⟨fun x hx => h0 x (List.mem_append_left _ hx), ?_⟩
  cases e : forces k (stT st) with
  | false => rfl
  | true =>
    have h1 := (forces_ends k _ (good_mono st h)).mp e t ht _ (subs_self _) fun x hx => h0 x (List.mem_append_right _ hx)
    rw [stT_ms] at h1
    exact absurd ((((h st (sbs_self st)).ms _).mp h1).weak fun x hx => (hS x).mp hx) hn
/-! ### what may be put in -/
def hd : Kd → Bool
  | .mk _ => true
  | .one => false
  | .to _ _ => false
  | .both a b => hd a || hd b
mutual
def tyR : Kd → List (List Kd)
  | .mk _ => []
  | .one => []
  | .both a b => tyR a ++ tyR b
  | .to a b => tyI [] a ++ tyR b
def tyI : List Kd → Kd → List (List Kd)
  | _, .mk _ => []
  | _, .one => []
  | p, .both a b => tyI p a ++ tyI p b
  | p, .to c d => tyR c ++ ((if hd d = true then [p ++ [c]] else []) ++ tyI (p ++ [c]) d)
end
mutual
theorem tyR_len : ∀ k : Kd, 2 * (tyR k).length + 1 ≤ k.leaves
  | .mk _ => by simp [tyR, Kd.leaves]
  | .one => by simp [tyR, Kd.leaves]
  | .both a b => by
    have := tyR_len a; have := tyR_len b
    simp only [tyR, Kd.leaves, List.length_append]; omega
  | .to a b => by
    have := tyI_len [] a; have := tyR_len b
    simp only [tyR, Kd.leaves, List.length_append]; omega
theorem tyI_len : ∀ (p : List Kd) (k : Kd), 2 * (tyI p k).length + (if hd k = true then 1 else 0) ≤ k.leaves
  | p, .mk _ => by simp [tyI, hd, Kd.leaves]
  | p, .one => by simp [tyI, hd, Kd.leaves]
  | p, .both a b => by
    have := tyI_len p a; have := tyI_len p b
    simp only [tyI, hd, Kd.leaves, List.length_append, Bool.or_eq_true]
    split
    · rename_i h
      rcases h with h | h
      · rw [if_pos h] at *; omega
      · rw [if_pos h] at *; omega
    · omega
  | p, .to c d => by
    have := tyR_len c; have := tyI_len (p ++ [c]) d
    simp only [tyI, hd, Kd.leaves, List.length_append]
    cases h : hd d <;> simp [h] at * <;> omega
end
theorem end_ty : ∀ (p : List Kd) (k : Kd) (t : List Kd × Str), t ∈ ends k → (t.1 = [] ∧ hd k = true) ∨ p ++ t.1 ∈ tyI p k
  | p, .mk m, t, h => by rw [ends, List.mem_singleton] at h; subst h; exact .inl ⟨rfl, rfl⟩
  | p, .one, t, h => by rw [ends] at h; cases h
  | p, .both a b, t, h => by
    rw [ends, List.mem_append] at h
    rw [tyI, hd]
    rcases h with h | h
    · rcases end_ty p a t h with ⟨h1, h2⟩ | h1
      · exact .inl ⟨h1, by rw [h2]; rfl⟩
      · exact .inr (List.mem_append_left _ h1)
    · rcases end_ty p b t h with ⟨h1, h2⟩ | h1
      · exact .inl ⟨h1, by rw [h2, Bool.or_true]⟩
      · exact .inr (List.mem_append_right _ h1)
  | p, .to c d, t, h => by
    rw [ends, List.mem_map] at h
    obtain ⟨e, he, rfl⟩ := h
    rw [tyI]
    refine .inr (List.mem_append_right _ ?_)
    have e1 : p ++ (c :: e.1) = (p ++ [c]) ++ e.1 := by simp
    show p ++ (c :: e.1) ∈ _
    rw [e1]
    rcases end_ty (p ++ [c]) d e he with ⟨h1, h2⟩ | h1
    · rw [h1, List.append_nil, if_pos h2]; exact List.mem_append_left _ (List.mem_singleton.mpr rfl)
    · exact List.mem_append_right _ h1
/-- the ways' kinds -/
theorem way_ty : ∀ (k : Kd) (e : List Kd × Str), e ∈ ends k → ∀ a ∈ e.1, ∀ r ∈ tyI [] a, r ∈ tyR k
  | .mk m, e, h, a, ha, r, hr => by rw [ends, List.mem_singleton] at h; subst h; cases ha
  | .one, e, h, a, ha, r, hr => by rw [ends] at h; cases h
  | .both c d, e, h, a, ha, r, hr => by
    rw [ends, List.mem_append] at h
    rw [tyR]
    rcases h with h | h
    · exact List.mem_append_left _ (way_ty c e h a ha r hr)
    · exact List.mem_append_right _ (way_ty d e h a ha r hr)
  | .to c d, e, h, a, ha, r, hr => by
    rw [ends, List.mem_map] at h
    obtain ⟨e', he, rfl⟩ := h
    rw [tyR]
    rcases List.mem_cons.mp ha with rfl | ha
    · exact List.mem_append_left _ hr
    · exact List.mem_append_right _ (way_ty d e' he a ha r hr)
/-- what is there, with what may be put in -/
def ClT (Ts : List (List Kd)) (S : List Kd) : Prop := ∀ k ∈ S, ∀ r ∈ tyR k, r ∈ Ts
theorem ClT.ty {Ts : List (List Kd)} {S : List Kd} (h : ClT Ts S) {k : Kd} (hk : k ∈ S) {e : List Kd × Str} (he : e ∈ ends k) {a : Kd} (ha : a ∈ e.1) {t : List Kd × Str} (ht : t ∈ ends a) : t.1 = [] ∨ t.1 ∈ Ts := by
  rcases end_ty [] a t ht with h1 | h1
  · exact .inl h1.1
  · exact .inr (h k hk _ (way_ty k e he a ha _ h1))
end Kf
/-! Khx: the kinds among moves; ways and ends. -/
namespace Kf
open PySem PySem.Spec L2
open PyProof.Rows hiding St
def mvT : List Mv → List Kd
  | [] => []
  | .k a :: r => a :: mvT r
  | .one :: r => mvT r
  | .two :: r => mvT r
theorem mvT_app : ∀ a b : List Mv, mvT (a ++ b) = mvT a ++ mvT b
  | [], _ => rfl
  | .k _ :: r, b => by simp only [List.cons_append, mvT, mvT_app r b]
  | .one :: r, b => by simp only [List.cons_append, mvT, mvT_app r b]
  | .two :: r, b => by simp only [List.cons_append, mvT, mvT_app r b]
def wyE (w : List Mv × Str) : List Kd × Str := (mvT w.1, w.2)
theorem wys_ends : ∀ k : Kd, (wys k).map wyE = ends k
  | .one => rfl
  | .mk _ => rfl
  | .to a b => by rw [wys, ends, ← wys_ends b, List.map_map, List.map_map]; rfl
  | .both a b => by rw [wys, ends, ← wys_ends a, ← wys_ends b, List.map_append, List.map_map, List.map_map]; rfl
end Kf
/-! Kcx: what a counter keeps: how many keys there can be, how great counts can be. -/
namespace Kf
open PySem PySem.Spec L2
open PyProof.Rows hiding St
/-! ### lists of numbers with so much together -/
def vecs : Nat → Nat → List (List Nat)
  | 0, _ => [[]]
  | g + 1, s => (List.range (s + 1)).flatMap fun i => (vecs g (s - i)).map (i :: ·)
theorem mem_vecs : ∀ (g s : Nat) (v : List Nat), v.length = g → v.sum ≤ s → v ∈ vecs g s
  | 0, s, v, h, _ => by
    rw [List.length_eq_zero_iff.mp h]; simp [vecs]
  | g + 1, s, [], h, _ => by simp at h
  | g + 1, s, i :: v, h, hs => by
    simp only [List.length_cons, Nat.add_right_cancel_iff, List.sum_cons] at h hs
    rw [vecs, List.mem_flatMap]
    exact ⟨i, List.mem_range.mpr (by omega), List.mem_map.mpr ⟨v, mem_vecs g (s - i) v h (by omega), rfl⟩⟩
def vsum (f : Nat → Nat) : Nat → Nat
  | 0 => f 0
  | s + 1 => vsum f s + f (s + 1)
def vlen : Nat → Nat → Nat
  | 0, _ => 1
  | g + 1, s => vsum (vlen g) s
theorem vsum_up (f : Nat → Nat) : ∀ s, f s ≤ vsum f s
  | 0 => Nat.le_refl _
  | s + 1 => Nat.le_add_left _ _
theorem vsum_le (f : Nat → Nat) : ∀ {s s' : Nat}, s ≤ s' → vsum f s ≤ vsum f s'
  | s, 0, h => by rw [show s = 0 by omega]; exact Nat.le_refl _
  | s, s' + 1, h => by
    by_cases e : s = s' + 1
    · rw [e]; exact Nat.le_refl _
    · exact Nat.le_trans (vsum_le f (by omega)) (Nat.le_add_right _ _)
theorem range_rev_sum (f : Nat → Nat) : ∀ s, ((List.range (s + 1)).map fun i => f (s - i)).sum = vsum f s
  | 0 => by simp [vsum]
  | s + 1 => by
    rw [List.range_succ_eq_map, List.map_cons, List.sum_cons, List.map_map, vsum, ← range_rev_sum f s, Nat.add_comm]
    congr 1
    congr 1
    refine List.map_congr_left fun i _ => ?_
    show f (s + 1 - (i + 1)) = f (s - i)
    congr 1; omega
theorem vecs_len : ∀ g s, (vecs g s).length = vlen g s
  | 0, _ => rfl
  | g + 1, s => by
    rw [vecs, List.length_flatMap, vlen, ← range_rev_sum]
    congr 1
    refine List.map_congr_left fun i _ => ?_
    rw [List.length_map, vecs_len g]
theorem vlen_s : ∀ (g : Nat) {s s' : Nat}, s ≤ s' → vlen g s ≤ vlen g s'
  | 0, _, _, _ => Nat.le_refl _
  | g + 1, s, s', h => vsum_le _ h
theorem vlen_g1 : ∀ (g s : Nat), vlen g s ≤ vlen (g + 1) s := fun g s => vsum_up (vlen g) s
theorem vlen_g {s : Nat} : ∀ {g g' : Nat}, g ≤ g' → vlen g s ≤ vlen g' s
  | g, 0, h => by rw [show g = 0 by omega]; exact Nat.le_refl _
  | g, g' + 1, h => by
    by_cases e : g = g' + 1
    · rw [e]; exact Nat.le_refl _
    · exact Nat.le_trans (vlen_g (by omega)) (vlen_g1 g' s)
theorem vlen_top : vlen 6 17 = 100947 := by decide +kernel
/-! ### groups put in so often -/
def expd : List (List Kd) → List Nat → List Kd
  | t :: ts, n :: v => (List.replicate n t).flatten ++ expd ts v
  | _, _ => []
theorem mem_expd {x : Kd} : ∀ {Ts : List (List Kd)} {v : List Nat}, x ∈ expd Ts v → x ∈ Ts.flatten
  | [], v, h => by cases v <;> simp [expd] at h
  | t :: ts, [], h => by simp [expd] at h
  | t :: ts, n :: v, h => by
    rw [expd, List.mem_append] at h
    rw [List.flatten_cons, List.mem_append]
    rcases h with h | h
    · obtain ⟨l, h1, h2⟩ := List.mem_flatten.mp h
      exact .inl ((List.mem_replicate.mp h1).2 ▸ h2)
    · exact .inr (mem_expd h)
theorem expd_add {r : List Kd} : ∀ {Ts : List (List Kd)} {v : List Nat}, r ∈ Ts → v.length = Ts.length → ∃ v', v'.length = Ts.length ∧ v'.sum = v.sum + 1 ∧ (expd Ts v').Perm (expd Ts v ++ r)
  | [], v, h, _ => by cases h
  | t :: ts, [], h, e => by simp at e
  | t :: ts, n :: v, h, e => by
    simp only [List.length_cons, Nat.add_right_cancel_iff] at e
    rcases List.mem_cons.mp h with rfl | h
    · refine ⟨(n + 1) :: v, by simp [e], by simp only [List.sum_cons]; omega, ?_⟩
      simp only [expd, List.replicate_succ, List.flatten_cons]
      rw [List.append_assoc]
      exact List.perm_append_comm.trans (by rw [List.append_assoc])
    · obtain ⟨v', h1, h2, h3⟩ := expd_add h e
      refine ⟨n :: v', by simp [h1], by simp only [List.sum_cons]; omega, ?_⟩
      simp only [expd, List.append_assoc]
      exact h3.append_left _
theorem expd_zero : ∀ Ts : List (List Kd), expd Ts (Ts.map fun _ => 0) = []
  | [] => rfl
  | t :: ts => by simp [expd, expd_zero ts]
/-! ### no more keys than codes -/
theorem le_of_rel {α β : Type} [DecidableEq β] {R : α → β → Prop} : ∀ {ks : List α} {cs : List β}, ks.Nodup → (∀ k ∈ ks, ∃ c ∈ cs, R k c) → (∀ k k' c, R k c → R k' c → k = k') → ks.length ≤ cs.length
  | [], _, _, _, _ => Nat.zero_le _
  | k :: ks, cs, hn, h, hu => by
    obtain ⟨h1, h2⟩ := List.nodup_cons.mp hn
    obtain ⟨c, hc, hr⟩ := h k List.mem_cons_self
    have ih := le_of_rel (cs := cs.erase c) h2 (fun q hq => by
      obtain ⟨d, hd, hr'⟩ := h q (List.mem_cons_of_mem _ hq)
      have hne : d ≠ c := fun e => h1 (by rw [e] at hr'; rw [hu k q c hr hr']; exact hq)
      exact ⟨d, (List.mem_erase_of_ne hne).mpr hd, hr'⟩) hu
    rw [List.length_erase_of_mem hc] at ih
    have := List.length_pos_of_mem hc
    rw [List.length_cons]; omega
def KB {κ : Type} (A : κ → Prop) (kvs : List (κ × D)) : Prop := (kvs.map (·.1)).Nodup ∧ ∀ q ∈ kvs.map (·.1), A q
theorem KB.nil {κ : Type} {A : κ → Prop} : KB A [] := ⟨by simp, fun q h => by cases h⟩
theorem valD_none {κ : Type} [DecidableEq κ] {kvs : List (κ × D)} {k : κ} (h : ¬ (valD kvs k).isSome = true) : k ∉ kvs.map (·.1) := fun hk => by
  rw [← valD_any] at h
  obtain ⟨p, hp, e⟩ := List.mem_map.mp hk
  exact h (List.any_eq_true.mpr ⟨p, hp, decide_eq_true e⟩)
theorem KB.put {κ : Type} [DecidableEq κ] {A : κ → Prop} {kvs : List (κ × D)} (h : KB A kvs) {k : κ} (hk : A k) (d : D) : KB A (putD kvs k d) := by
  unfold KB
  rw [keys_put]
  split
  · exact h
  · rename_i c
    have hn := valD_none c
    refine ⟨List.nodup_append.mpr ⟨h.1, by simp, fun x hx y hy e => ?_⟩, fun q hq => ?_⟩
    · rw [List.mem_singleton] at hy
      subst hy; subst e
      exact hn hx
    · rcases List.mem_append.mp hq with hq | hq
      · exact h.2 q hq
      · rw [List.mem_singleton.mp hq]; exact hk
/-! ### what a counter can meet -/
def U0 (S0 : List Kd) (Ts : List (List Kd)) : List Kd := S0 ++ Ts.flatten
structure Cu (S0 : List Kd) (Ts : List (List Kd)) (Ms : List Str) (v N : Nat) : Prop where
  lk : LK (U0 S0 Ts)
  lv : ∀ k ∈ U0 S0 Ts, k.leaves ≤ v
  v1 : 1 ≤ v
  v12 : v ≤ 12
  cl : ClT Ts (U0 S0 Ts)
  mks : ∀ k ∈ U0 S0 Ts, ∀ m ∈ k.marks, m ∈ Ms
  mm : ∀ m ∈ Ms, isMarkB m = true
  ts : Ts.length ≤ 6
  ml : Ms.length ≤ 3
  n : N ≤ 17
  ul : (U0 S0 Ts).length ≤ 1000
structure InC (S0 : List Kd) (Ts : List (List Kd)) (v N : Nat) (L : List Kd) (n : Nat) : Prop where
  ex : ∃ c, c.length = Ts.length ∧ c.sum + n ≤ N ∧ L.Perm (S0 ++ expd Ts c)
  ln : L.length + (v - 2) * n ≤ 60
section
variable {S0 : List Kd} {Ts : List (List Kd)} {Ms : List Str} {v N n : Nat} {L : List Kd}
theorem InC.u (h : InC S0 Ts v N L n) : ∀ x ∈ L, x ∈ U0 S0 Ts := fun x hx => by
  obtain ⟨c, _, _, hp⟩ := h.ex
  rcases List.mem_append.mp (hp.mem_iff.mp hx) with h | h
  · exact List.mem_append_left _ h
  · exact List.mem_append_right _ (mem_expd h)
theorem InC.perm (h : InC S0 Ts v N L n) {L' : List Kd} (p : L'.Perm L) : InC S0 Ts v N L' n := by
  obtain ⟨c, h1, h2, h3⟩ := h.ex
  exact ⟨⟨c, h1, h2, p.trans h3⟩, by rw [p.length_eq]; exact h.ln⟩
theorem InC.mono (h : InC S0 Ts v N L n) {n' : Nat} (hn : n' ≤ n) : InC S0 Ts v N L n' := by
  obtain ⟨c, h1, h2, h3⟩ := h.ex
  refine ⟨⟨c, h1, by omega, h3⟩, ?_⟩
  have := Nat.mul_le_mul_left (v - 2) hn
  have := h.ln
  omega
theorem InC.len (h : InC S0 Ts v N L n) : L.length ≤ 60 := by have := h.ln; omega
theorem InC.lk (h : InC S0 Ts v N L n) (u : Cu S0 Ts Ms v N) : LK L := fun k hk => u.lk k (h.u k hk)
/-- the tasks of a way of one that is there -/
structure TaskOk (Ms : List Str) (v : Nat) (t : List Kd × Str) : Prop where
  lk : LK t.1
  lv : lvs t.1 ≤ v - 2
  m : t.2 ∈ Ms
theorem Cu.task (u : Cu S0 Ts Ms v N) {k : Kd} (hk : k ∈ U0 S0 Ts) {e : List Kd × Str} (he : e ∈ ends k) {a : Kd} (ha : a ∈ e.1) {t : List Kd × Str} (ht : t ∈ ends a) : TaskOk Ms v t := by
  have h1 := ends_in k e he
  have h2 := ends_in a t ht
  have h3 := u.lk k hk
  have h4 := u.lv k hk
  have ha1 : a.leaves ≤ (e.1.map Kd.leaves).sum := mem_sum ha
  refine ⟨fun x hx => ⟨fun m hm => h3.1 m (ends_marks k e he a ha m (ends_marks a t ht x hx m hm)), ?_⟩, ?_, u.mks k hk _ (ends_marks k e he a ha _ h2.2.2.2)⟩
  · have := (h2.1 x hx).1; have := (h1.1 a ha).1; have := h3.2; omega
  · unfold lvs; omega
theorem InC.step (h : InC S0 Ts v N L n) (u : Cu S0 Ts Ms v N) (hn : 1 ≤ n) {k : Kd} (hk : k ∈ L) {e : List Kd × Str} (he : e ∈ ends k) {a : Kd} (ha : a ∈ e.1) {t : List Kd × Str} (ht : t ∈ ends a) : InC S0 Ts v N (L ++ t.1) (n - 1) := by
  obtain ⟨c, h1, h2, h3⟩ := h.ex
  have hkU := h.u k hk
  have h4 := u.task hkU he ha ht
  have h5 := lvs_len t.1
  have h6 := h.ln
  have h7 := h4.lv
  refine ⟨?_, ?_⟩
  · rcases u.cl.ty hkU he ha ht with q | q
    · exact ⟨c, h1, by omega, by rw [q, List.append_nil]; exact h3⟩
    · obtain ⟨c', g1, g2, g3⟩ := expd_add q h1
      exact ⟨c', g1, by omega, (h3.append_right _).trans (by rw [List.append_assoc]; exact (g3.symm).append_left _)⟩
  · obtain ⟨n, rfl⟩ : ∃ j, n = j + 1 := ⟨n - 1, by omega⟩
    rw [Nat.mul_succ] at h6
    rw [List.length_append, Nat.add_sub_cancel]
    omega
theorem InC.lvs (h : InC S0 Ts v N L n) (u : Cu S0 Ts Ms v N) : lvs L ≤ 720 := by
  have h1 := h.len
  have h2 : ∀ (l : List Kd), (∀ x ∈ l, x.leaves ≤ 12) → Kf.lvs l ≤ l.length * 12 := by
    intro l
    induction l with
    | nil => intro _; exact Nat.le_refl _
    | cons x r ih =>
      intro hh
      have := ih fun y hy => hh y (List.mem_cons_of_mem _ hy)
      have := hh x List.mem_cons_self
      simp only [Kf.lvs, List.map_cons, List.sum_cons, List.length_cons, Nat.add_mul] at *
      omega
  have := h2 L fun x hx => by have := u.lv x (h.u x hx); have := u.v12; omega
  omega
/-! ### how great counts can be -/
theorem cmy_bits {α : Type} (F : α → Nat → Nat) : ∀ (l : List α) (s : Nat), s ≤ 32 → (∀ x ∈ l, ∀ a, 1 ≤ a → a ≤ s → F x a ≤ 2 ^ (20 * (a * a))) → cmy (l.map F) s ≤ 2 ^ (5 * s + 20 * (s * s))
  | [], s, _, _ => by
    simp only [List.map_nil, cmy]
    have : 1 ≤ 2 ^ (5 * s + 20 * (s * s)) := Nat.one_le_two_pow
    split <;> omega
  | x :: l, s, hs, h => by
    rw [List.map_cons, cmy]
    by_cases e0 : s = 0
    · subst e0; exact Nat.zero_le _
    have hb : ∀ a, a < s → F x (a + 1) * cmy (l.map F) (s - 1 - a) ≤ 2 ^ (5 * (s - 1) + 20 * (s * s)) := fun a ha => by
      have h1 := h x List.mem_cons_self (a + 1) (by omega) (by omega)
      have h2 := cmy_bits F l (s - 1 - a) (by omega) fun y hy b g1 g2 => h y (List.mem_cons_of_mem _ hy) b g1 (by omega)
      refine Nat.le_trans (Nat.mul_le_mul h1 h2) ?_
      rw [← Nat.pow_add]
      refine Nat.pow_le_pow_right (by decide) ?_
      obtain ⟨b, hb⟩ : ∃ b, s = a + 1 + b := ⟨s - 1 - a, by omega⟩
      have e1 : s - 1 - a = b := by omega
      rw [e1]
      have e2 : s * s = (a + 1) * (a + 1) + 2 * ((a + 1) * b) + b * b := by
        rw [hb]
        generalize a + 1 = q
        rw [Nat.add_mul, Nat.mul_add, Nat.mul_add, Nat.mul_comm b q]; omega
      rw [e2]
      omega
    have hsum : ∀ (n : Nat) (f : Nat → Nat) (c : Nat), (∀ i, i < n → f i ≤ c) → sm n f ≤ n * c := by
      intro n
      induction n with
      | zero => intro f c _; exact Nat.zero_le _
      | succ n ih =>
        intro f c hc
        have := ih f c fun i hi => hc i (by omega)
        have := hc n (by omega)
        rw [sm, Nat.add_mul]; omega
    refine Nat.le_trans (hsum s _ _ hb) ?_
    refine Nat.le_trans (Nat.mul_le_mul_right _ (show s ≤ 2 ^ 5 from hs)) ?_
    rw [← Nat.pow_add]
    exact Nat.pow_le_pow_right (by decide) (by omega)
theorem cntP_bits (u : Cu S0 Ts Ms v N) : ∀ (n : Nat) (L : List Kd) (m : Str), 1 ≤ n → n ≤ 17 → InC S0 Ts v N L n → cntP n L m ≤ 2 ^ (20 * (n * n)) := by
  intro n
  induction n using Nat.strongRecOn with
  | _ n ih =>
    intro L m h1 hn hL
    rw [cntP_eq h1]
    have hE : (L.flatMap ends).length ≤ 2 ^ 10 := by
      have := flat_ends_len L
      have := hL.lvs u
      omega
    have hb : ∀ w ∈ L.flatMap ends, (if w.2 = m then cmy (tks L (w.1.flatMap ends)) (n - 1) else 0) ≤ 2 ^ (5 * (n - 1) + 20 * ((n - 1) * (n - 1))) := fun w hw => by
      split
      · obtain ⟨k, hk, hw⟩ := List.mem_flatMap.mp hw
        refine cmy_bits _ _ _ (by omega) fun t ht a g1 g2 => ?_
        obtain ⟨b, hb, ht⟩ := List.mem_flatMap.mp ht
        exact ih a (by omega) _ _ g1 (by omega) ((hL.step u h1 hk hw hb ht).mono g2)
      · exact Nat.zero_le _
    refine Nat.le_trans (sum_le_mul _ _ _ hb) (Nat.le_trans (Nat.mul_le_mul_right _ hE) ?_)
    rw [← Nat.pow_add]
    refine Nat.pow_le_pow_right (by decide) ?_
    obtain ⟨j, rfl⟩ : ∃ j, n = j + 1 := ⟨n - 1, by omega⟩
    rw [Nat.add_sub_cancel]
    have : (j + 1) * (j + 1) = j * j + 2 * j + 1 := by rw [Nat.add_mul, Nat.mul_add]; omega
    omega
theorem cmyP_bits (u : Cu S0 Ts Ms v N) {ts : List (List Kd × Str)} {s : Nat} (hs : s ≤ 17) (h : ∀ t ∈ ts, InC S0 Ts v N t.1 s) : cmy (ts.map fun t one => cntP one t.1 t.2) s < 2 ^ 6000 := by
  refine Nat.lt_of_le_of_lt (cmy_bits (fun (t : List Kd × Str) one => cntP one t.1 t.2) ts s (by omega) fun t ht a g1 g2 => cntP_bits u a _ _ g1 (by omega) ((h t ht).mono g2)) (Nat.pow_lt_pow_right (by decide) ?_)
  have : s * s ≤ 17 * 17 := Nat.mul_le_mul hs hs
  omega
/-! ### the keys -/
def Codes (Ts : List (List Kd)) (Ms : List Str) (N : Nat) : List (List Nat × Str × Nat) := (vecs Ts.length N).flatMap fun c => Ms.flatMap fun m => (List.range (N + 1)).map fun n => (c, m, n)
theorem codes_len (Ts : List (List Kd)) (Ms : List Str) (N : Nat) : (Codes Ts Ms N).length = vlen Ts.length N * (Ms.length * (N + 1)) := by
  unfold Codes
  rw [List.length_flatMap]
  have h1 : ∀ c : List Nat, (Ms.flatMap fun m => (List.range (N + 1)).map fun n => (c, m, n)).length = Ms.length * (N + 1) := fun c => by
    rw [List.length_flatMap]
    induction Ms with
    | nil => simp
    | cons m r ih => rw [List.map_cons, List.sum_cons, ih, List.length_map, List.length_range, List.length_cons, Nat.add_mul]; omega
  have h2 : ∀ l : List (List Nat), (l.map fun c => (Ms.flatMap fun m => (List.range (N + 1)).map fun n => (c, m, n)).length).sum = l.length * (Ms.length * (N + 1)) := fun l => by
    induction l with
    | nil => simp
    | cons c r ih => rw [List.map_cons, List.sum_cons, ih, h1, List.length_cons, Nat.add_mul]; omega
  rw [h2, vecs_len]
theorem codes_small (u : Cu S0 Ts Ms v N) : (Codes Ts Ms N).length < 2 ^ 23 := by
  rw [codes_len]
  have h1 : vlen Ts.length N ≤ 100947 := by
    rw [← vlen_top]
    exact Nat.le_trans (vlen_g u.ts) (vlen_s 6 u.n)
  have h2 : Ms.length * (N + 1) ≤ 3 * 18 := Nat.mul_le_mul u.ml (by have := u.n; omega)
  exact Nat.lt_of_le_of_lt (Nat.mul_le_mul h1 h2) (by decide)
theorem mem_codes {c : List Nat} {m : Str} {n : Nat} (hc : c.length = Ts.length) (hs : c.sum ≤ N) (hm : m ∈ Ms) (hn : n ≤ N) : (c, m, n) ∈ Codes Ts Ms N :=
  List.mem_flatMap.mpr ⟨c, mem_vecs _ _ c hc hs, List.mem_flatMap.mpr ⟨m, hm, List.mem_map.mpr ⟨n, List.mem_range.mpr (by omega), rfl⟩⟩⟩
/-- a key made of texts in order, a mark and a size -/
def KeyC {κ : Type} (f : List Str → Str → Nat → κ) (S0 : List Kd) (Ts : List (List Kd)) (q : κ) (c : List Nat × Str × Nat) : Prop := q = f (srt ((S0 ++ expd Ts c.1).map kshow)) c.2.1 c.2.2
def KeyA {κ : Type} (f : List Str → Str → Nat → κ) (S0 : List Kd) (Ts : List (List Kd)) (Ms : List Str) (N : Nat) (q : κ) : Prop := ∃ c ∈ Codes Ts Ms N, KeyC f S0 Ts q c
theorem keyA_len {κ : Type} {f : List Str → Str → Nat → κ} {kvs : List (κ × D)} (u : Cu S0 Ts Ms v N) (h : KB (KeyA f S0 Ts Ms N) kvs) : kvs.length < 2 ^ 23 := by
  have := le_of_rel (R := KeyC f S0 Ts) h.1 h.2 fun k k' c h1 h2 => h1.trans h2.symm
  rw [List.length_map] at this
  exact Nat.lt_of_le_of_lt this (codes_small u)
theorem InC.key {κ : Type} (f : List Str → Str → Nat → κ) (h : InC S0 Ts v N L n) {m : Str} (hm : m ∈ Ms) {ys : List Str} (hy : ys.Perm (L.map kshow)) (hs : sortedS ys = true) : KeyA f S0 Ts Ms N (f ys m n) := by
  obtain ⟨c, h1, h2, h3⟩ := h.ex
  exact ⟨(c, m, n), mem_codes h1 (by omega) hm (by omega), by unfold KeyC; rw [srt_of (hy.trans (h3.map kshow)) hs]⟩
def WayA (S0 : List Kd) (Ts : List (List Kd)) (q : Key) : Prop := ∃ k ∈ U0 S0 Ts, q = .inr (kshow k)
theorem wayA_len {kvs : List (Key × D)} (u : Cu S0 Ts Ms v N) (h : KB (WayA S0 Ts) kvs) : kvs.length ≤ 1000 := by
  have := le_of_rel (R := fun (q : Key) (k : Kd) => q = .inr (kshow k)) h.1 h.2 fun k k' c h1 h2 => h1.trans h2.symm
  rw [List.length_map] at this
  exact Nat.le_trans this u.ul
end
end Kf
namespace Kf
open PySem PySem.Spec L2
open PyProof.Rows hiding St
local macro_rules | `(tactic| walk_at "kf") => `(tactic| simp (config := { failIfUnchanged := false }) only [startD, ap_fiEnumT, asT1_t, ap_fKGet, asStr_s, ap_fKIn, ap_fKIx, ap_gAsgL, rUnl_l, ap_fiRng3, asR3_i, rSplitO_s, ap_fOrL, rOrL_l, ap_fLcK, ap_gForK, ap_fMaxD, rMaxD_l, rMaxL_l, ap_fCallXD, ap_gForE, asLE_l, ap_fFrz, ap_fDicO, ap_fDGet, ap_fDGet1, ap_fDGet2, ap_gDPut, ap_fIsiT, ap_gForR, rRep_l, isT_i, isT_s, isT_b, isT_n, isT_t, isT_l, ap_gSeq, ap_gIf, ap_gRet, ap_gNext, ap_gSet, ap_gAsg, ap_gPar, ap_gDrop, ap_gRetF, ap_gRetN, ap_gFor, ap_gSetIx, ap_gBreak, ap_fRev, ap_fiRevR, asIR_i, rRev_l, ap_fCallX, ap_gRaise, ap_gTry, ap_gTryAs, ap_gNever, ap_fEdic, ap_fTest, ap_fOp, ap_fVar, envGet_s, patGet_s, ap_fC, ap_fCB, ap_fCons, ap_fNil, ap_fCall, ap_fAnd, ap_fOr, ap_fNot, ap_fAndV, ap_fOrV, ap_fNotV, ap_fIf, ap_fTup, ap_fLst, ap_fLstO, ap_fChain, ap_fUn, ap_fBM, ap_fBM0, ap_fPool, rPool_i, ap_fSl, ap_fPart, ap_fNoPart, asI_i, rSl_l, ap_fiRng1, ap_fiRng2, ap_fiList, ap_fiTup, ap_fiStr, ap_fiEnum, ap_fiZip, ap_fiRev, asL_l, asT_t, asSg_s, asR1_i, asR2_i, asL1_l, asL2_l, ap_fLc, ap_fLcO, ap_fYes, wipeD, lcD, isi_i_int, isi_i_bool, isi_i_str, isi_i_tuple, isi_i_list, isi_i_dict, isi_b_int, isi_b_bool, isi_b_str, isi_b_tuple, isi_b_list, isi_b_dict, isi_s_int, isi_s_bool, isi_s_str, isi_s_tuple, isi_s_list, isi_s_dict, isi_t_int, isi_t_bool, isi_t_str, isi_t_tuple, isi_t_list, isi_t_dict, isi_l_int, isi_l_bool, isi_l_str, isi_l_tuple, isi_l_list, isi_l_dict, isi_n_int, isi_n_bool, isi_n_str, isi_n_tuple, isi_n_list, isi_n_dict, isi_d_int, isi_d_bool, isi_d_str, isi_d_tuple, isi_d_list, isi_d_dict,
  deref_tup, deref_lst, deref_int, deref_str, deref_bl, deref_non, deref_scr, rLt_i, rLt_s, rLe_i, rLe_s, rInts_i, rInts0_i, rAdd_i, rAdd_s, rAdd_l, rAdd_t, rCatO_l, rNeg_i, rLen_t, rLen_l, rLen_c, rLen_s, rMax_i, rMin_i, rInt_i, rInt_b, rDivmod_i, ap_gAug, rStr_i, rList_l, rList_t, rListO_l, rListO_t, rTup_l, rTup_t,
  rIx_t0, rIx_t1, rIx_t2, rIx_t3, rIx_l0, rIx_l1, rIx_l2, rIsN_x, isNon_t, isNon_n, isNon_i, isNon_s, isNon_l, rEq_i, rEq_b, rEq_i2, rEq_b2, rJoin_m, rSplit_s, tyOk_l, tyOk_s, patD_nm, patD_tp, patDs_nil, patDs_cons, Option.bind_some, notX, notX',
  List.map_cons, List.map_nil, List.length_cons, List.length_nil, List.cons_append, List.nil_append, List.append_nil, List.replicate, List.getElem?_cons_zero, List.getElem?_cons_succ, List.set_cons_zero, List.set_cons_succ, updO_same, updO_updO,
  Nat.reduceSub, Nat.reduceAdd, Nat.reduceLeDiff, Nat.zero_add, Int.cast_ofNat_Int, Int.natCast_zero, Int.natCast_one, Int.reduceLT, Int.reduceLE, Int.reduceEq, Int.reduceAdd, Int.reduceSub, Int.reduceNeg, decide_true, decide_false, if_true, if_false, Bool.false_eq_true, eq_self, reduceIte, Bool.true_eq_false, decide_eq_true_eq, Bool.not_true, Bool.not_false, Bool.not_eq_true', decide_eq_false_iff_not, exists_eq_left', exists_eq_left, D.bl.injEq, true_and, and_true, not_true_eq_false, not_false_eq_true])
local macro_rules | `(tactic| walk_at "len") => `(tactic| (intro ds O R RE h; first | (obtain ⟨e, _⟩ := h; subst e; rfl) | (obtain ⟨_, e, _⟩ := h; subst e; rfl) | (obtain ⟨_, _, e, _⟩ := h; subst e; rfl) | (obtain ⟨_, _, _, e, _⟩ := h; subst e; rfl) | (obtain ⟨_, _, _, _, e, _⟩ := h; subst e; rfl) | (obtain ⟨_, _, _, _, _, e, _⟩ := h; subst e; rfl) | (obtain ⟨_, _, _, _, _, _, e, _⟩ := h; subst e; rfl) | (obtain ⟨_, _, _, _, _, _, _, e, _⟩ := h; subst e; rfl) | (obtain ⟨_, _, _, _, _, _, _, _, e, _⟩ := h; subst e; rfl) | (obtain ⟨_, _, _, _, _, _, _, _, _, e, _⟩ := h; subst e; rfl)))
local macro_rules | `(tactic| walk_at "kf1") => `(tactic| simp (config := { failIfUnchanged := false }) only [startD, ap_fiEnumT, asT1_t, ap_fKGet, asStr_s, ap_fKIn, ap_fKIx, ap_gAsgL, rUnl_l, ap_fiRng3, asR3_i, rSplitO_s, ap_fOrL, rOrL_l, ap_fLcK, ap_gForK, ap_fMaxD, rMaxD_l, rMaxL_l, ap_fCallXD, ap_gForE, asLE_l, ap_fFrz, ap_fDicO, ap_fDGet, ap_fDGet1, ap_fDGet2, ap_gDPut, ap_fIsiT, ap_gForR, rRep_l, isT_i, isT_s, isT_b, isT_n, isT_t, isT_l, ap_gIf, ap_gRet, ap_gNext, ap_gSet, ap_gAsg, ap_gPar, ap_gDrop, ap_gRetF, ap_gRetN, ap_gFor, ap_gSetIx, ap_gBreak, ap_fRev, ap_fiRevR, asIR_i, rRev_l, ap_fCallX, ap_gRaise, ap_gTry, ap_gTryAs, ap_gNever, ap_fEdic, ap_fTest, ap_fOp, ap_fVar, envGet_s, patGet_s, ap_fC, ap_fCB, ap_fCons, ap_fNil, ap_fCall, ap_fAnd, ap_fOr, ap_fNot, ap_fAndV, ap_fOrV, ap_fNotV, ap_fIf, ap_fTup, ap_fLst, ap_fLstO, ap_fChain, ap_fUn, ap_fBM, ap_fBM0, ap_fPool, rPool_i, ap_fSl, ap_fPart, ap_fNoPart, asI_i, rSl_l, ap_fiRng1, ap_fiRng2, ap_fiList, ap_fiTup, ap_fiStr, ap_fiEnum, ap_fiZip, ap_fiRev, asL_l, asT_t, asSg_s, asR1_i, asR2_i, asL1_l, asL2_l, ap_fLc, ap_fLcO, ap_fYes, wipeD, lcD, isi_i_int, isi_i_bool, isi_i_str, isi_i_tuple, isi_i_list, isi_i_dict, isi_b_int, isi_b_bool, isi_b_str, isi_b_tuple, isi_b_list, isi_b_dict, isi_s_int, isi_s_bool, isi_s_str, isi_s_tuple, isi_s_list, isi_s_dict, isi_t_int, isi_t_bool, isi_t_str, isi_t_tuple, isi_t_list, isi_t_dict, isi_l_int, isi_l_bool, isi_l_str, isi_l_tuple, isi_l_list, isi_l_dict, isi_n_int, isi_n_bool, isi_n_str, isi_n_tuple, isi_n_list, isi_n_dict, isi_d_int, isi_d_bool, isi_d_str, isi_d_tuple, isi_d_list, isi_d_dict,
  deref_tup, deref_lst, deref_int, deref_str, deref_bl, deref_non, deref_scr, rLt_i, rLt_s, rLe_i, rLe_s, rInts_i, rInts0_i, rAdd_i, rAdd_s, rAdd_l, rAdd_t, rCatO_l, rNeg_i, rLen_t, rLen_l, rLen_c, rLen_s, rMax_i, rMin_i, rInt_i, rInt_b, rDivmod_i, ap_gAug, rStr_i, rList_l, rList_t, rListO_l, rListO_t, rTup_l, rTup_t,
  rIx_t0, rIx_t1, rIx_t2, rIx_t3, rIx_l0, rIx_l1, rIx_l2, rIsN_x, isNon_t, isNon_n, isNon_i, isNon_s, isNon_l, rEq_i, rEq_b, rEq_i2, rEq_b2, rJoin_m, rSplit_s, tyOk_l, tyOk_s, patD_nm, patD_tp, patDs_nil, patDs_cons, Option.bind_some, notX, notX',
  List.map_cons, List.map_nil, List.length_cons, List.length_nil, List.cons_append, List.nil_append, List.append_nil, List.replicate, List.getElem?_cons_zero, List.getElem?_cons_succ, List.set_cons_zero, List.set_cons_succ, updO_same, updO_updO,
  Nat.reduceSub, Nat.reduceAdd, Nat.reduceLeDiff, Nat.zero_add, Int.cast_ofNat_Int, Int.natCast_zero, Int.natCast_one, Int.reduceLT, Int.reduceLE, Int.reduceEq, Int.reduceAdd, Int.reduceSub, Int.reduceNeg, decide_true, decide_false, if_true, if_false, Bool.false_eq_true, eq_self, reduceIte, Bool.true_eq_false, decide_eq_true_eq, Bool.not_true, Bool.not_false, Bool.not_eq_true', decide_eq_false_iff_not, exists_eq_left', exists_eq_left, D.bl.injEq, true_and, and_true, not_true_eq_false, not_false_eq_true])
section
variable {P : Program} {w : World} {K : PySem.W.Frag} {mg : Str → Option Value} {base : Heap}
local macro_rules | `(tactic| walk_at "tg") => `(tactic| simp (config := { failIfUnchanged := false }) only [te_name_take, te_name_give, te_name_pair, te_name_first, te_name_second, te_name_to, te_name_both, te_name_one, te_name_mark, te_name_name, te_name_thing, te_name_at, te_thing_take, te_thing_give, te_thing_pair, te_thing_first, te_thing_second, te_thing_to, te_thing_both, te_thing_one, te_thing_mark, te_thing_name, te_thing_thing, te_thing_at, te_take_take, te_take_give, te_take_pair, te_take_first, te_take_second, te_take_to, te_take_both, te_take_one, te_take_mark, te_take_name, te_take_thing, te_take_at, te_give_take, te_give_give, te_give_pair, te_give_first, te_give_second, te_give_to, te_give_both, te_give_one, te_give_mark, te_give_name, te_give_thing, te_give_at, te_pair_take, te_pair_give, te_pair_pair, te_pair_first, te_pair_second, te_pair_to, te_pair_both, te_pair_one, te_pair_mark, te_pair_name, te_pair_thing, te_pair_at, te_first_take, te_first_give, te_first_pair, te_first_first, te_first_second, te_first_to, te_first_both, te_first_one, te_first_mark, te_first_name, te_first_thing, te_first_at, te_second_take, te_second_give, te_second_pair, te_second_first, te_second_second, te_second_to, te_second_both, te_second_one, te_second_mark, te_second_name, te_second_thing, te_second_at, te_mark_take, te_mark_give, te_mark_pair, te_mark_first, te_mark_second, te_mark_to, te_mark_both, te_mark_one, te_mark_mark, te_mark_name, te_mark_thing, te_mark_at, te_one_take, te_one_give, te_one_pair, te_one_first, te_one_second, te_one_to, te_one_both, te_one_one, te_one_mark, te_one_name, te_one_thing, te_one_at, te_to_take, te_to_give, te_to_pair, te_to_first, te_to_second, te_to_to, te_to_both, te_to_one, te_to_mark, te_to_name, te_to_thing, te_to_at, te_both_take, te_both_give, te_both_pair, te_both_first, te_both_second, te_both_to, te_both_both, te_both_one, te_both_mark, te_both_name, te_both_thing, te_both_at, te_at_take, te_at_give, te_at_pair, te_at_first, te_at_second, te_at_to, te_at_both, te_at_one, te_at_mark, te_at_name, te_at_thing, te_at_at, ti4_name, ti4_thing, ti4_take, ti4_give, ti4_pair, ti4_first, ti4_second, ti2_name, ti2_thing, ti2_take, ti2_give, ti2_pair, ti2_first, ti2_second, szT_0, szT_1, szT_2, szT_3, szT_4, szT_5, szT_6, szT_7, szT_8, szT_9, szT_10, szT_11, szT_12, Bool.not_true, Bool.not_false, true_and])
local macro_rules | `(tactic| walk_at "ki") => `(tactic| (walk_at "kf1"; simp (config := { failIfUnchanged := false }) only [ap_fMeth, ap_fFld, ap_gFld, ap_fMake]; walk_at "kf1"))
/-! ### comprehensions, more -/
theorem lcA_rel {p : Pat} {fe : FE} {ρ : DEnv} {O : Ow} {α β : Type} (G : α → β → Prop) (f : α → D) (g : β → D) : ∀ (xs : List α) (acc : List D) (Q : List D → Ow → Prop), acc.length + xs.length ≤ sizeLine →
    (∀ x ∈ xs, ∀ Q' : VD, (∀ y, G x y → Q' (g y) O) → patGet (patD p (f x) ρ) fun ρ1 => fe ρ1 O Q') → (∀ ys : List β, Paired G xs ys → Q (acc ++ ys.map g) O) → lcD p fYes fe ρ (xs.map f) acc O Q
  | [], acc, Q, _, _, q => by have := q [] .nil; simpa [lcD] using this
  | x :: xs, acc, Q, hl, hs, q => by
    rw [List.length_cons] at hl
    have z := hs x List.mem_cons_self (fun e O2 => acc.length < sizeLine ∧ lcD p fYes fe ρ (xs.map f) (acc ++ [e]) O2 Q) fun y hy => ⟨by omega, lcA_rel G f g xs _ Q (by rw [List.length_append, List.length_singleton]; omega) (fun d' hd => hs d' (List.mem_cons_of_mem _ hd)) fun ys h1 => by
      have := q (y :: ys) (.cons hy h1)
      simpa using this⟩
    rw [List.map_cons]
    unfold lcD
    simpa [fYes] using z
theorem lcA_st {p : Pat} {fe : FE} {ρ : DEnv} {α : Type} (J : Nat → Ow → Prop) (f g : α → D) : ∀ (xs : List α) (acc : List D) (n : Nat) (O : Ow) (Q : List D → Ow → Prop), J n O → acc.length + xs.length ≤ sizeLine →
    (∀ x ∈ xs, ∀ i O, i < n + xs.length → J i O → ∀ Q' : VD, (∀ O', J (i + 1) O' → Q' (g x) O') → patGet (patD p (f x) ρ) fun ρ1 => fe ρ1 O Q') → (∀ O', J (n + xs.length) O' → Q (acc ++ xs.map g) O') → lcD p fYes fe ρ (xs.map f) acc O Q
  | [], acc, n, O, Q, h, _, _, q => by have := q O h; simpa [lcD] using this
  | x :: xs, acc, n, O, Q, h, hl, hs, q => by
    rw [List.length_cons] at hl
    have z := hs x List.mem_cons_self n O (by rw [List.length_cons]; omega) h (fun e O2 => acc.length < sizeLine ∧ lcD p fYes fe ρ (xs.map f) (acc ++ [e]) O2 Q) fun O2 h2 => ⟨by omega, lcA_st J f g xs _ (n + 1) O2 Q h2 (by rw [List.length_append, List.length_singleton]; omega) (fun d' hd i O hi => hs d' (List.mem_cons_of_mem _ hd) i O (by rw [List.length_cons]; omega)) fun O' h' => by
      have := q O' (by rw [List.length_cons, show n + (xs.length + 1) = n + 1 + xs.length by omega]; exact h')
      simpa using this⟩
    rw [List.map_cons]
    unfold lcD
    simpa [fYes] using z
/-! ### ends of moves -/
def spMvE : DSp := fun ds O R _ => ∃ w : List Mv, ds = [.lst (w.map dMv)] ∧ (∀ k ∈ mvT w, k.ok = true ∧ k.depth < 40) ∧ lvs (mvT w) ≤ 1000 ∧ R (.lst (((mvT w).flatMap ends).map dEnd)) O
theorem mem_mvT {a : Kd} {pre rest : List Mv} {w : List Mv} (e : w = pre ++ .k a :: rest) : a ∈ mvT w ∧ ((mvT pre).flatMap ends).length + (ends a).length ≤ lvs (mvT w) ∧ a.leaves ≤ lvs (mvT w) := by
  subst e
  have h1 := flat_ends_len (mvT pre)
  have h2 := ends_len a
  rw [mvT_app, lvs_app, mvT]
  have h3 : lvs (a :: mvT rest) = a.leaves + lvs (mvT rest) := by simp [lvs]
  refine ⟨by simp, by rw [h3]; omega, by rw [h3]; omega⟩
theorem ok_mve (T : TxW w K mg) : FO_move_ends P w base T 42 spMvE := by
  refine fndG_move_ends T (fnUp (ok_ends T 40) (by decide)) (by walk_at "len") ?_
  rintro ds O R RE ⟨w, rfl, h, hl, hR⟩
  unfold g_move_ends
  walk_at "kf"
  refine ⟨sz_small (by decide), fun f hf => ?_⟩
  refine forA_ix dMv (fun pre rest ρ O' => ∃ x2, ρ = [some (.lst (w.map dMv)), some (.ref f), x2] ∧ O' = updO O f (.lst (((mvT pre).flatMap ends).map dEnd))) w [] _ _ ⟨_, rfl, rfl⟩ ?_ ?_
  · rintro ρ O' ⟨x2, rfl, rfl⟩
    walk_at "kf"
    exact ⟨O, fun a d e => by
      have q : a ≠ f := fun q => by rw [q, hf] at e; cases e
      unfold delO
      rw [if_neg q, updO_ne q]
      exact e, hR⟩
  · rintro pre mv rest e ρ O' ⟨x2, rfl, rfl⟩ N hN
    rw [List.nil_append] at e
    cases mv with
    | k a =>
      obtain ⟨h1, h2, h3⟩ := mem_mvT e
      obtain ⟨ho, hd⟩ := h a h1
      simp only [dMv]
      walk_at "kf"
      rw [rEq_Ki ho]
      walk_at "kf"
      rw [rEq_Ki ho]
      walk_at "kf"
      refine ⟨tyOk_r updO_same, a, rfl, hd, by omega, ho, by omega, ?_⟩
      dsimp only
      rw [rExt_r updO_same rfl]
      refine ⟨sz_small (by simp only [List.length_map]; omega), ?_⟩
      rw [updO_updO]
      refine hN _ _ ⟨_, rfl, ?_⟩
      rw [mvT_app]
      simp [mvT]
    | one =>
      simp only [dMv]
      walk_at "kf"
      refine hN _ _ ⟨_, rfl, ?_⟩
      rw [mvT_app]
      simp [mvT]
    | two =>
      simp only [dMv]
      walk_at "kf"
      refine hN _ _ ⟨_, rfl, ?_⟩
      rw [mvT_app]
      simp [mvT]
/-! ### the counter -/
def ctI (C dW dS : Addr) : Cell := .ins C [(Str.ofString "ways", .ref dW), (Str.ofString "sums", .ref dS)]
def WOk (kw : List (Key × D)) : Prop := ∀ k : Kd, k.mks → k.depth ≤ 12 → ∀ d, valD kw (.inr (kshow k)) = some d → d = .lst ((wys k).map dWy)
def SOk (ks : List (Key × D)) : Prop := ∀ (L : List Kd) (m : Str) (n : Nat), LK L → isMarkB m = true → n < 512 → ∀ d, valD ks (.inr (ckey L m n)) = some d → d = .int (cntP n L m)
structure Ct (C s dW dS : Addr) (kw ks : List (Key × D)) (O : Ow) : Prop where
  i : O s = some (ctI C dW dS)
  w : O dW = some (.dic kw)
  s : O dS = some (.dic ks)
  ne : dW ≠ dS
  wo : WOk kw
  so : SOk ks
def upC (O : Ow) (dW dS : Addr) (kw ks : List (Key × D)) : Ow := updO (updO O dW (.dic kw)) dS (.dic ks)
theorem Ct.n1 {C s dW dS : Addr} {kw ks : List (Key × D)} {O : Ow} (h : Ct C s dW dS kw ks O) : s ≠ dW := fun e => by have := h.i; rw [e, h.w] at this; cases this
theorem Ct.n2 {C s dW dS : Addr} {kw ks : List (Key × D)} {O : Ow} (h : Ct C s dW dS kw ks O) : s ≠ dS := fun e => by have := h.i; rw [e, h.s] at this; cases this
theorem Ct.up {C s dW dS : Addr} {kw ks kw' ks' : List (Key × D)} {O : Ow} (h : Ct C s dW dS kw ks O) (h1 : WOk kw') (h2 : SOk ks') : Ct C s dW dS kw' ks' (upC O dW dS kw' ks') :=
  ⟨by unfold upC; rw [updO_ne h.n2, updO_ne h.n1]; exact h.i, by unfold upC; rw [updO_ne h.ne]; exact updO_same, updO_same, h.ne, h1, h2⟩
theorem upd_ext {O : Ow} {a : Addr} {c : Cell} (h : O a = some c) : updO O a c = O := by
  funext x
  by_cases e : x = a
  · subst e; rw [updO_same, h]
  · rw [updO_ne e]
theorem upC_self {C s dW dS : Addr} {kw ks : List (Key × D)} {O : Ow} (h : Ct C s dW dS kw ks O) : upC O dW dS kw ks = O := by
  unfold upC
  rw [upd_ext h.w, upd_ext h.s]
theorem upC_upC {O : Ow} {dW dS : Addr} (ne : dW ≠ dS) (kw ks kw' ks' : List (Key × D)) : upC (upC O dW dS kw ks) dW dS kw' ks' = upC O dW dS kw' ks' := by
  funext x
  unfold upC
  by_cases e : x = dS
  · subst e; rw [updO_same, updO_same]
  · rw [updO_ne e, updO_ne e]
    by_cases e2 : x = dW
    · subst e2; rw [updO_same, updO_same]
    · rw [updO_ne e2, updO_ne e, updO_ne e2, updO_ne e2]
theorem Ct.putW {C s dW dS : Addr} {kw ks kw' : List (Key × D)} {O : Ow} (h : Ct C s dW dS kw ks O) : updO O dW (.dic kw') = upC O dW dS kw' ks := by
  unfold upC
  rw [upd_ext (O := updO O dW (.dic kw')) (a := dS) (by rw [updO_ne h.ne.symm]; exact h.s)]
theorem Ct.putS {C s dW dS : Addr} {kw ks ks' : List (Key × D)} {O : Ow} (h : Ct C s dW dS kw ks O) : updO O dS (.dic ks') = upC O dW dS kw ks' := by
  unfold upC
  rw [upd_ext h.w]
theorem put_len (kvs : List (Key × D)) (k : Key) (d : D) : (putD kvs k d).length ≤ kvs.length + 1 := by
  have := congrArg List.length (keys_put kvs k d)
  rw [List.length_map] at this
  rw [this]
  split <;> simp
theorem WOk.put {kw : List (Key × D)} (h : WOk kw) {k : Kd} (hm : k.mks) (hd : k.depth ≤ 12) : WOk (putD kw (.inr (kshow k)) (.lst ((wys k).map dWy))) := fun k' h1 h2 d e => by
  rw [valD_put] at e
  split at e
  · rename_i q
    injection q with q
    rw [kshow_inj ⟨h1, h2⟩ ⟨hm, hd⟩ q]
    injection e with e; exact e.symm
  · exact h k' h1 h2 d e
theorem SOk.put {ks : List (Key × D)} (h : SOk ks) {L : List Kd} {m : Str} {n : Nat} (hL : LK L) (hm : isMarkB m = true) (hn : n < 512) : SOk (putD ks (.inr (ckey L m n)) (.int (cntP n L m))) := fun L' m' n' h1 h2 h3 d e => by
  rw [valD_put] at e
  split at e
  · rename_i q
    injection q with q
    obtain ⟨rfl, rfl, rfl⟩ := ckey_inj h1 hL h2 hm h3 hn q
    injection e with e; exact e.symm
  · exact h L' m' n' h1 h2 h3 d e
theorem rk_show {k : Kd} (hm : k.mks) (hd : k.depth ≤ 12) (hl : k.leaves ≤ 24) : rk (kshow k) = some k := by
  have h1 := kp_read k 12 [] hm hd
  rw [List.append_nil] at h1
  unfold rk
  rw [split_kshow hm, h1]
  simp only [if_pos hl]
theorem kshow_ws {k : Kd} (hm : k.mks) : wsOk (Txt.split (kshow k) bl1) := fun w hw => by
  rw [split_kshow hm] at hw
  have := kwords_ok k hm w hw
  exact ⟨this.1, by have := this.2; omega⟩
theorem kshow_so {k : Kd} (hm : k.mks) : PyData.strOk (kshow k) = true := by
  rw [kshow_eq]; exact okJoin (by decide +kernel) fun w hw => (kwords_ok k hm w hw).1
theorem sz_23 {n : Nat} (h : n < 2 ^ 23) : n < sizeLine := Nat.lt_of_lt_of_le h (by decide)
def spWaysBy (C : Addr) : DSp := fun ds O R _ => ∃ (s dW dS : Addr) (kw ks : List (Key × D)) (k : Kd), ds = [.ref s, .str (kshow k)] ∧ Ct C s dW dS kw ks O ∧ k.mks ∧ k.depth ≤ 12 ∧ k.leaves ≤ 24 ∧ kw.length < 2 ^ 23 ∧ ∀ kw', WOk kw' → (∀ {S0 : List Kd} {Ts : List (List Kd)}, KB (WayA S0 Ts) kw → k ∈ U0 S0 Ts → KB (WayA S0 Ts) kw') → R (.lst ((wys k).map dWy)) (upC O dW dS kw' ks)
theorem ok_wby (T : TxW w K mg) : FO_Counter_ways_by P w base T 42 (spWaysBy T.C_Counter) := by
  refine fnd_Counter_ways_by T (fnUp (ok_ways T 40) (by decide)) (fnUp (ok_read T) (by decide)) (by walk_at "len") ?_
  rintro ds O R RE ⟨s, dW, dS, kw, ks, k, rfl, hc, hm, hd, hl, hlen, hR⟩
  unfold g_Counter_ways_by
  refine gSeq_step ?_
  walk_at "ki"
  refine ⟨isIns_of hc.i, ?_⟩
  rw [rFld_of hc.i (d := .ref dW) (by simp [List.lookup])]
  simp only [rDIn, rKey_s hc.w]
  cases e : valD kw (.inr (kshow k)) with
  | some d =>
    walk_at "ki"
    rw [if_neg (by simp)]
    refine ⟨isIns_of hc.i, ?_⟩
    rw [rFld_of hc.i (d := .ref dW) (by simp [List.lookup])]
    simp only [rDGet, rKey_s hc.w, e]
    rw [hc.wo k hm hd d e]
    have := hR kw hc.wo (fun h _ => h)
    rw [upC_self hc] at this
    exact this
  | none =>
    walk_at "ki"
    rw [if_pos (by simp)]
    have hkl := kshow_len k hm
    refine ⟨kshow k, rfl, by omega, kshow_ws hm, fun k' hk' _ _ _ => ?_, fun h => ?_⟩
    · rw [rk_show hm hd hl] at hk'
      injection hk' with hk'
      subst hk'
      refine ⟨k, rfl, by omega, by omega, by omega, mks_ok k hm, ?_⟩
      dsimp only
      refine ⟨isIns_of hc.i, ?_⟩
      rw [rFld_of hc.i (d := .ref dW) (by simp [List.lookup]), rDPut_s hc.w]
      refine ⟨sz_23 (by omega), ?_⟩
      rw [hc.putW]
      have hc' := hc.up (hc.wo.put hm hd) hc.so
      walk_at "ki"
      refine ⟨isIns_of hc'.i, ?_⟩
      rw [rFld_of hc'.i (d := .ref dW) (by simp [List.lookup])]
      simp only [rDGet, rKey_s hc'.w, valD_put, if_pos]
      exact hR _ (hc.wo.put hm hd) (fun h hu => h.put ⟨k, hu, rfl⟩ _)
    · rw [rk_show hm hd hl] at h; cases h
end
end Kf
namespace Kf
open PySem PySem.Spec L2
open PyProof.Rows hiding St
local macro_rules | `(tactic| walk_at "kf") => `(tactic| simp (config := { failIfUnchanged := false }) only [startD, ap_fiEnumT, asT1_t, ap_fKGet, asStr_s, ap_fKIn, ap_fKIx, ap_gAsgL, rUnl_l, ap_fiRng3, asR3_i, rSplitO_s, ap_fOrL, rOrL_l, ap_fLcK, ap_gForK, ap_fMaxD, rMaxD_l, rMaxL_l, ap_fCallXD, ap_gForE, asLE_l, ap_fFrz, ap_fDicO, ap_fDGet, ap_fDGet1, ap_fDGet2, ap_gDPut, ap_fIsiT, ap_gForR, rRep_l, isT_i, isT_s, isT_b, isT_n, isT_t, isT_l, ap_gSeq, ap_gIf, ap_gRet, ap_gNext, ap_gSet, ap_gAsg, ap_gPar, ap_gDrop, ap_gRetF, ap_gRetN, ap_gFor, ap_gSetIx, ap_gBreak, ap_fRev, ap_fiRevR, asIR_i, rRev_l, ap_fCallX, ap_gRaise, ap_gTry, ap_gTryAs, ap_gNever, ap_fEdic, ap_fTest, ap_fOp, ap_fVar, envGet_s, patGet_s, ap_fC, ap_fCB, ap_fCons, ap_fNil, ap_fCall, ap_fAnd, ap_fOr, ap_fNot, ap_fAndV, ap_fOrV, ap_fNotV, ap_fIf, ap_fTup, ap_fLst, ap_fLstO, ap_fChain, ap_fUn, ap_fBM, ap_fBM0, ap_fPool, rPool_i, ap_fSl, ap_fPart, ap_fNoPart, asI_i, rSl_l, ap_fiRng1, ap_fiRng2, ap_fiList, ap_fiTup, ap_fiStr, ap_fiEnum, ap_fiZip, ap_fiRev, asL_l, asT_t, asSg_s, asR1_i, asR2_i, asL1_l, asL2_l, ap_fLc, ap_fLcO, ap_fYes, wipeD, lcD, isi_i_int, isi_i_bool, isi_i_str, isi_i_tuple, isi_i_list, isi_i_dict, isi_b_int, isi_b_bool, isi_b_str, isi_b_tuple, isi_b_list, isi_b_dict, isi_s_int, isi_s_bool, isi_s_str, isi_s_tuple, isi_s_list, isi_s_dict, isi_t_int, isi_t_bool, isi_t_str, isi_t_tuple, isi_t_list, isi_t_dict, isi_l_int, isi_l_bool, isi_l_str, isi_l_tuple, isi_l_list, isi_l_dict, isi_n_int, isi_n_bool, isi_n_str, isi_n_tuple, isi_n_list, isi_n_dict, isi_d_int, isi_d_bool, isi_d_str, isi_d_tuple, isi_d_list, isi_d_dict,
  deref_tup, deref_lst, deref_int, deref_str, deref_bl, deref_non, deref_scr, rLt_i, rLt_s, rLe_i, rLe_s, rInts_i, rInts0_i, rAdd_i, rAdd_s, rAdd_l, rAdd_t, rCatO_l, rNeg_i, rLen_t, rLen_l, rLen_c, rLen_s, rMax_i, rMin_i, rInt_i, rInt_b, rDivmod_i, ap_gAug, rStr_i, rList_l, rList_t, rListO_l, rListO_t, rTup_l, rTup_t,
  rIx_t0, rIx_t1, rIx_t2, rIx_t3, rIx_l0, rIx_l1, rIx_l2, rIsN_x, isNon_t, isNon_n, isNon_i, isNon_s, isNon_l, rEq_i, rEq_b, rEq_i2, rEq_b2, rJoin_m, rSplit_s, tyOk_l, tyOk_s, patD_nm, patD_tp, patDs_nil, patDs_cons, Option.bind_some, notX, notX',
  List.map_cons, List.map_nil, List.length_cons, List.length_nil, List.cons_append, List.nil_append, List.append_nil, List.replicate, List.getElem?_cons_zero, List.getElem?_cons_succ, List.set_cons_zero, List.set_cons_succ, updO_same, updO_updO,
  Nat.reduceSub, Nat.reduceAdd, Nat.reduceLeDiff, Nat.zero_add, Int.cast_ofNat_Int, Int.natCast_zero, Int.natCast_one, Int.reduceLT, Int.reduceLE, Int.reduceEq, Int.reduceAdd, Int.reduceSub, Int.reduceNeg, decide_true, decide_false, if_true, if_false, Bool.false_eq_true, eq_self, reduceIte, Bool.true_eq_false, decide_eq_true_eq, Bool.not_true, Bool.not_false, Bool.not_eq_true', decide_eq_false_iff_not, exists_eq_left', exists_eq_left, D.bl.injEq, true_and, and_true, not_true_eq_false, not_false_eq_true])
local macro_rules | `(tactic| walk_at "len") => `(tactic| (intro ds O R RE h; first | (obtain ⟨e, _⟩ := h; subst e; rfl) | (obtain ⟨_, e, _⟩ := h; subst e; rfl) | (obtain ⟨_, _, e, _⟩ := h; subst e; rfl) | (obtain ⟨_, _, _, e, _⟩ := h; subst e; rfl) | (obtain ⟨_, _, _, _, e, _⟩ := h; subst e; rfl) | (obtain ⟨_, _, _, _, _, e, _⟩ := h; subst e; rfl) | (obtain ⟨_, _, _, _, _, _, e, _⟩ := h; subst e; rfl) | (obtain ⟨_, _, _, _, _, _, _, e, _⟩ := h; subst e; rfl) | (obtain ⟨_, _, _, _, _, _, _, _, e, _⟩ := h; subst e; rfl) | (obtain ⟨_, _, _, _, _, _, _, _, _, e, _⟩ := h; subst e; rfl)))
local macro_rules | `(tactic| walk_at "kf1") => `(tactic| simp (config := { failIfUnchanged := false }) only [startD, ap_fiEnumT, asT1_t, ap_fKGet, asStr_s, ap_fKIn, ap_fKIx, ap_gAsgL, rUnl_l, ap_fiRng3, asR3_i, rSplitO_s, ap_fOrL, rOrL_l, ap_fLcK, ap_gForK, ap_fMaxD, rMaxD_l, rMaxL_l, ap_fCallXD, ap_gForE, asLE_l, ap_fFrz, ap_fDicO, ap_fDGet, ap_fDGet1, ap_fDGet2, ap_gDPut, ap_fIsiT, ap_gForR, rRep_l, isT_i, isT_s, isT_b, isT_n, isT_t, isT_l, ap_gIf, ap_gRet, ap_gNext, ap_gSet, ap_gAsg, ap_gPar, ap_gDrop, ap_gRetF, ap_gRetN, ap_gFor, ap_gSetIx, ap_gBreak, ap_fRev, ap_fiRevR, asIR_i, rRev_l, ap_fCallX, ap_gRaise, ap_gTry, ap_gTryAs, ap_gNever, ap_fEdic, ap_fTest, ap_fOp, ap_fVar, envGet_s, patGet_s, ap_fC, ap_fCB, ap_fCons, ap_fNil, ap_fCall, ap_fAnd, ap_fOr, ap_fNot, ap_fAndV, ap_fOrV, ap_fNotV, ap_fIf, ap_fTup, ap_fLst, ap_fLstO, ap_fChain, ap_fUn, ap_fBM, ap_fBM0, ap_fPool, rPool_i, ap_fSl, ap_fPart, ap_fNoPart, asI_i, rSl_l, ap_fiRng1, ap_fiRng2, ap_fiList, ap_fiTup, ap_fiStr, ap_fiEnum, ap_fiZip, ap_fiRev, asL_l, asT_t, asSg_s, asR1_i, asR2_i, asL1_l, asL2_l, ap_fLc, ap_fLcO, ap_fYes, wipeD, lcD, isi_i_int, isi_i_bool, isi_i_str, isi_i_tuple, isi_i_list, isi_i_dict, isi_b_int, isi_b_bool, isi_b_str, isi_b_tuple, isi_b_list, isi_b_dict, isi_s_int, isi_s_bool, isi_s_str, isi_s_tuple, isi_s_list, isi_s_dict, isi_t_int, isi_t_bool, isi_t_str, isi_t_tuple, isi_t_list, isi_t_dict, isi_l_int, isi_l_bool, isi_l_str, isi_l_tuple, isi_l_list, isi_l_dict, isi_n_int, isi_n_bool, isi_n_str, isi_n_tuple, isi_n_list, isi_n_dict, isi_d_int, isi_d_bool, isi_d_str, isi_d_tuple, isi_d_list, isi_d_dict,
  deref_tup, deref_lst, deref_int, deref_str, deref_bl, deref_non, deref_scr, rLt_i, rLt_s, rLe_i, rLe_s, rInts_i, rInts0_i, rAdd_i, rAdd_s, rAdd_l, rAdd_t, rCatO_l, rNeg_i, rLen_t, rLen_l, rLen_c, rLen_s, rMax_i, rMin_i, rInt_i, rInt_b, rDivmod_i, ap_gAug, rStr_i, rList_l, rList_t, rListO_l, rListO_t, rTup_l, rTup_t,
  rIx_t0, rIx_t1, rIx_t2, rIx_t3, rIx_l0, rIx_l1, rIx_l2, rIsN_x, isNon_t, isNon_n, isNon_i, isNon_s, isNon_l, rEq_i, rEq_b, rEq_i2, rEq_b2, rJoin_m, rSplit_s, tyOk_l, tyOk_s, patD_nm, patD_tp, patDs_nil, patDs_cons, Option.bind_some, notX, notX',
  List.map_cons, List.map_nil, List.length_cons, List.length_nil, List.cons_append, List.nil_append, List.append_nil, List.replicate, List.getElem?_cons_zero, List.getElem?_cons_succ, List.set_cons_zero, List.set_cons_succ, updO_same, updO_updO,
  Nat.reduceSub, Nat.reduceAdd, Nat.reduceLeDiff, Nat.zero_add, Int.cast_ofNat_Int, Int.natCast_zero, Int.natCast_one, Int.reduceLT, Int.reduceLE, Int.reduceEq, Int.reduceAdd, Int.reduceSub, Int.reduceNeg, decide_true, decide_false, if_true, if_false, Bool.false_eq_true, eq_self, reduceIte, Bool.true_eq_false, decide_eq_true_eq, Bool.not_true, Bool.not_false, Bool.not_eq_true', decide_eq_false_iff_not, exists_eq_left', exists_eq_left, D.bl.injEq, true_and, and_true, not_true_eq_false, not_false_eq_true])
section
variable {P : Program} {w : World} {K : PySem.W.Frag} {mg : Str → Option Value} {base : Heap}
local macro_rules | `(tactic| walk_at "tg") => `(tactic| simp (config := { failIfUnchanged := false }) only [te_name_take, te_name_give, te_name_pair, te_name_first, te_name_second, te_name_to, te_name_both, te_name_one, te_name_mark, te_name_name, te_name_thing, te_name_at, te_thing_take, te_thing_give, te_thing_pair, te_thing_first, te_thing_second, te_thing_to, te_thing_both, te_thing_one, te_thing_mark, te_thing_name, te_thing_thing, te_thing_at, te_take_take, te_take_give, te_take_pair, te_take_first, te_take_second, te_take_to, te_take_both, te_take_one, te_take_mark, te_take_name, te_take_thing, te_take_at, te_give_take, te_give_give, te_give_pair, te_give_first, te_give_second, te_give_to, te_give_both, te_give_one, te_give_mark, te_give_name, te_give_thing, te_give_at, te_pair_take, te_pair_give, te_pair_pair, te_pair_first, te_pair_second, te_pair_to, te_pair_both, te_pair_one, te_pair_mark, te_pair_name, te_pair_thing, te_pair_at, te_first_take, te_first_give, te_first_pair, te_first_first, te_first_second, te_first_to, te_first_both, te_first_one, te_first_mark, te_first_name, te_first_thing, te_first_at, te_second_take, te_second_give, te_second_pair, te_second_first, te_second_second, te_second_to, te_second_both, te_second_one, te_second_mark, te_second_name, te_second_thing, te_second_at, te_mark_take, te_mark_give, te_mark_pair, te_mark_first, te_mark_second, te_mark_to, te_mark_both, te_mark_one, te_mark_mark, te_mark_name, te_mark_thing, te_mark_at, te_one_take, te_one_give, te_one_pair, te_one_first, te_one_second, te_one_to, te_one_both, te_one_one, te_one_mark, te_one_name, te_one_thing, te_one_at, te_to_take, te_to_give, te_to_pair, te_to_first, te_to_second, te_to_to, te_to_both, te_to_one, te_to_mark, te_to_name, te_to_thing, te_to_at, te_both_take, te_both_give, te_both_pair, te_both_first, te_both_second, te_both_to, te_both_both, te_both_one, te_both_mark, te_both_name, te_both_thing, te_both_at, te_at_take, te_at_give, te_at_pair, te_at_first, te_at_second, te_at_to, te_at_both, te_at_one, te_at_mark, te_at_name, te_at_thing, te_at_at, ti4_name, ti4_thing, ti4_take, ti4_give, ti4_pair, ti4_first, ti4_second, ti2_name, ti2_thing, ti2_take, ti2_give, ti2_pair, ti2_first, ti2_second, szT_0, szT_1, szT_2, szT_3, szT_4, szT_5, szT_6, szT_7, szT_8, szT_9, szT_10, szT_11, szT_12, Bool.not_true, Bool.not_false, true_and])
local macro_rules | `(tactic| walk_at "ki") => `(tactic| (walk_at "kf1"; simp (config := { failIfUnchanged := false }) only [ap_fMeth, ap_fFld, ap_gFld, ap_fMake]; walk_at "kf1"))
def tx (L : List Kd) : D := .lst (L.map fun k => .str (kshow k))
theorem txE (L : List Kd) : tx L = .lst ((L.map kshow).map .str) := by unfold tx; rw [List.map_map]; rfl
def dTask (t : List Kd × Str) : D := .tup [tx t.1, .str t.2]
def spPutIn : DSp := fun ds O R _ => ∃ (x : D) (L ts : List Kd), ds = [x, tx L, .lst (ts.map dK)] ∧ L.length + ts.length < 64 ∧ (∀ k ∈ ts, k.mks ∧ k.depth < 40 ∧ k.leaves ≤ 1000) ∧ ∀ L' : List Kd, L'.Perm (L ++ ts) → sortedS (L'.map kshow) = true → R (tx L') O
theorem ok_putIn (T : TxW w K mg) : FO_Counter_put_in P w base T 42 spPutIn := by
  refine fnd_Counter_put_in T (fnUp (ok_showK T 40) (by decide)) (by walk_at "len") ?_
  rintro ds O R RE ⟨x, L, ts, rfl, hlen, hk, hR⟩
  unfold g_Counter_put_in
  walk_at "ki"
  refine lcA_map dK (fun k => .str (kshow k)) ts _ _ (sz_small (by simp only [List.length_nil]; omega)) ?_ ?_
  · intro k hkm Q' hQ
    obtain ⟨h1, h2, h3⟩ := hk k hkm
    walk_at "kf"
    exact ⟨k, rfl, h2, by omega, h1, h3, hQ⟩
  · rw [List.nil_append]
    have e : ts.map (fun k => D.str (kshow k)) = (ts.map kshow).map .str := by rw [List.map_map]; rfl
    rw [e, txE]
    walk_at "kf"
    refine ⟨sz_small (by simp only [List.length_map]; omega), ?_⟩
    rw [← List.map_append, ← List.map_append, rSort_l]
    refine ⟨by simp only [List.length_map, List.length_append]; omega, fun ys h1 h3 => ?_⟩
    obtain ⟨L', h2, rfl⟩ := ex_map h1
    rw [← txE]
    exact hR L' h2 h3
/-- tasks told by what is there and some ends -/
def TkR (L : List Kd) (e t : List Kd × Str) : Prop := t.1.Perm (L ++ e.1) ∧ t.2 = e.2
def tkc (ts : List (List Kd × Str)) : List (Nat → Nat) := ts.map fun t one => cntP one t.1 t.2
theorem tkc_tks {L : List Kd} {es ts : List (List Kd × Str)} (h : Paired (TkR L) es ts) : tkc ts = tks L es := by
  induction h with
  | nil => rfl
  | cons h _ ih =>
    unfold tkc tks at *
    rw [List.map_cons, List.map_cons, ih]
    congr 1
    funext one
    rw [cntP_perm h.1, h.2]
def TkS (L : List Kd) (e t : List Kd × Str) : Prop := t.1.Perm (L ++ e.1) ∧ t.2 = e.2 ∧ sortedS (t.1.map kshow) = true
theorem TkS.r {L : List Kd} {es ts : List (List Kd × Str)} (h : Paired (TkS L) es ts) : Paired (TkR L) es ts := by
  induction h with
  | nil => exact .nil
  | cons h _ ih => exact .cons ⟨h.1, h.2.1⟩ ih
theorem ct_no {C s dW dS : Addr} {O : Ow} {m : Str} (h : O s = some (ctI C dW dS)) (h1 : (m == Str.ofString "ways") = false) (h2 : (m == Str.ofString "sums") = false) : insNo C m (.ref s) O := insNo_of h (by simp [List.lookup, h1, h2])
def spTasks (C : Addr) : DSp := fun ds O R _ => ∃ (s dW dS : Addr) (L : List Kd) (es : List (List Kd × Str)), ds = [.ref s, tx L, .lst (es.map dEnd)] ∧ O s = some (ctI C dW dS) ∧ es.length ≤ 1000 ∧ (∀ e ∈ es, L.length + e.1.length < 64 ∧ ∀ k ∈ e.1, k.mks ∧ k.depth < 40 ∧ k.leaves ≤ 1000) ∧ ∀ ts, Paired (TkS L) es ts → R (.lst (ts.map dTask)) O
theorem ok_tasks (T : TxW w K mg) : FO_Counter_tasks P w base T 43 (spTasks T.C_Counter) := by
  refine fnd_Counter_tasks T (fnUp (ok_putIn T) (by decide)) (by walk_at "len") ?_
  rintro ds O R RE ⟨s, dW, dS, L, es, rfl, hs, hel, hes, hR⟩
  unfold g_Counter_tasks
  walk_at "ki"
  refine lcA_rel (TkS L) dEnd dTask es _ _ (sz_small (by simp only [List.length_nil]; omega)) ?_ ?_
  · intro e he Q' hQ
    obtain ⟨h1, h2⟩ := hes e he
    simp only [dEnd]
    walk_at "ki"
    refine ⟨ct_no hs (by decide +kernel) (by decide +kernel), _, L, e.1, rfl, h1, h2, fun L' hL' hs' => ?_⟩
    walk_at "ki"
    exact ⟨sz_small (by decide), hQ (L', e.2) ⟨hL', rfl, hs'⟩⟩
  · intro ts hts
    rw [List.nil_append]
    exact hR ts hts
def ckF (ys : List Str) (m : Str) (n : Nat) : Key := .inr (Str.join (Str.ofString " ; ") ys ++ Str.ofString " : " ++ m ++ Str.ofString " " ++ nstr n)
structure KsC (S0 : List Kd) (Ts : List (List Kd)) (Ms : List Str) (N : Nat) (kw ks : List (Key × D)) : Prop where
  w : WOk kw
  s : SOk ks
  kw : KB (WayA S0 Ts) kw
  ks : KB (KeyA ckF S0 Ts Ms N) ks
end
end Kf
namespace Kf
open PySem PySem.Spec L2
open PyProof.Rows hiding St
local macro_rules | `(tactic| walk_at "kf") => `(tactic| simp (config := { failIfUnchanged := false }) only [startD, ap_fiEnumT, asT1_t, ap_fKGet, asStr_s, ap_fKIn, ap_fKIx, ap_gAsgL, rUnl_l, ap_fiRng3, asR3_i, rSplitO_s, ap_fOrL, rOrL_l, ap_fLcK, ap_gForK, ap_fMaxD, rMaxD_l, rMaxL_l, ap_fCallXD, ap_gForE, asLE_l, ap_fFrz, ap_fDicO, ap_fDGet, ap_fDGet1, ap_fDGet2, ap_gDPut, ap_fIsiT, ap_gForR, rRep_l, isT_i, isT_s, isT_b, isT_n, isT_t, isT_l, ap_gSeq, ap_gIf, ap_gRet, ap_gNext, ap_gSet, ap_gAsg, ap_gPar, ap_gDrop, ap_gRetF, ap_gRetN, ap_gFor, ap_gSetIx, ap_gBreak, ap_fRev, ap_fiRevR, asIR_i, rRev_l, ap_fCallX, ap_gRaise, ap_gTry, ap_gTryAs, ap_gNever, ap_fEdic, ap_fTest, ap_fOp, ap_fVar, envGet_s, patGet_s, ap_fC, ap_fCB, ap_fCons, ap_fNil, ap_fCall, ap_fAnd, ap_fOr, ap_fNot, ap_fAndV, ap_fOrV, ap_fNotV, ap_fIf, ap_fTup, ap_fLst, ap_fLstO, ap_fChain, ap_fUn, ap_fBM, ap_fBM0, ap_fPool, rPool_i, ap_fSl, ap_fPart, ap_fNoPart, asI_i, rSl_l, ap_fiRng1, ap_fiRng2, ap_fiList, ap_fiTup, ap_fiStr, ap_fiEnum, ap_fiZip, ap_fiRev, asL_l, asT_t, asSg_s, asR1_i, asR2_i, asL1_l, asL2_l, ap_fLc, ap_fLcO, ap_fYes, wipeD, lcD, isi_i_int, isi_i_bool, isi_i_str, isi_i_tuple, isi_i_list, isi_i_dict, isi_b_int, isi_b_bool, isi_b_str, isi_b_tuple, isi_b_list, isi_b_dict, isi_s_int, isi_s_bool, isi_s_str, isi_s_tuple, isi_s_list, isi_s_dict, isi_t_int, isi_t_bool, isi_t_str, isi_t_tuple, isi_t_list, isi_t_dict, isi_l_int, isi_l_bool, isi_l_str, isi_l_tuple, isi_l_list, isi_l_dict, isi_n_int, isi_n_bool, isi_n_str, isi_n_tuple, isi_n_list, isi_n_dict, isi_d_int, isi_d_bool, isi_d_str, isi_d_tuple, isi_d_list, isi_d_dict,
  deref_tup, deref_lst, deref_int, deref_str, deref_bl, deref_non, deref_scr, rLt_i, rLt_s, rLe_i, rLe_s, rInts_i, rInts0_i, rAdd_i, rAdd_s, rAdd_l, rAdd_t, rCatO_l, rNeg_i, rLen_t, rLen_l, rLen_c, rLen_s, rMax_i, rMin_i, rInt_i, rInt_b, rDivmod_i, ap_gAug, rStr_i, rList_l, rList_t, rListO_l, rListO_t, rTup_l, rTup_t,
  rIx_t0, rIx_t1, rIx_t2, rIx_t3, rIx_l0, rIx_l1, rIx_l2, rIsN_x, isNon_t, isNon_n, isNon_i, isNon_s, isNon_l, rEq_i, rEq_b, rEq_i2, rEq_b2, rJoin_m, rSplit_s, tyOk_l, tyOk_s, patD_nm, patD_tp, patDs_nil, patDs_cons, Option.bind_some, notX, notX',
  List.map_cons, List.map_nil, List.length_cons, List.length_nil, List.cons_append, List.nil_append, List.append_nil, List.replicate, List.getElem?_cons_zero, List.getElem?_cons_succ, List.set_cons_zero, List.set_cons_succ, updO_same, updO_updO,
  Nat.reduceSub, Nat.reduceAdd, Nat.reduceLeDiff, Nat.zero_add, Int.cast_ofNat_Int, Int.natCast_zero, Int.natCast_one, Int.reduceLT, Int.reduceLE, Int.reduceEq, Int.reduceAdd, Int.reduceSub, Int.reduceNeg, decide_true, decide_false, if_true, if_false, Bool.false_eq_true, eq_self, reduceIte, Bool.true_eq_false, decide_eq_true_eq, Bool.not_true, Bool.not_false, Bool.not_eq_true', decide_eq_false_iff_not, exists_eq_left', exists_eq_left, D.bl.injEq, true_and, and_true, not_true_eq_false, not_false_eq_true])
local macro_rules | `(tactic| walk_at "len") => `(tactic| (intro ds O R RE h; first | (obtain ⟨e, _⟩ := h; subst e; rfl) | (obtain ⟨_, e, _⟩ := h; subst e; rfl) | (obtain ⟨_, _, e, _⟩ := h; subst e; rfl) | (obtain ⟨_, _, _, e, _⟩ := h; subst e; rfl) | (obtain ⟨_, _, _, _, e, _⟩ := h; subst e; rfl) | (obtain ⟨_, _, _, _, _, e, _⟩ := h; subst e; rfl) | (obtain ⟨_, _, _, _, _, _, e, _⟩ := h; subst e; rfl) | (obtain ⟨_, _, _, _, _, _, _, e, _⟩ := h; subst e; rfl) | (obtain ⟨_, _, _, _, _, _, _, _, e, _⟩ := h; subst e; rfl) | (obtain ⟨_, _, _, _, _, _, _, _, _, e, _⟩ := h; subst e; rfl)))
local macro_rules | `(tactic| walk_at "kf1") => `(tactic| simp (config := { failIfUnchanged := false }) only [startD, ap_fiEnumT, asT1_t, ap_fKGet, asStr_s, ap_fKIn, ap_fKIx, ap_gAsgL, rUnl_l, ap_fiRng3, asR3_i, rSplitO_s, ap_fOrL, rOrL_l, ap_fLcK, ap_gForK, ap_fMaxD, rMaxD_l, rMaxL_l, ap_fCallXD, ap_gForE, asLE_l, ap_fFrz, ap_fDicO, ap_fDGet, ap_fDGet1, ap_fDGet2, ap_gDPut, ap_fIsiT, ap_gForR, rRep_l, isT_i, isT_s, isT_b, isT_n, isT_t, isT_l, ap_gIf, ap_gRet, ap_gNext, ap_gSet, ap_gAsg, ap_gPar, ap_gDrop, ap_gRetF, ap_gRetN, ap_gFor, ap_gSetIx, ap_gBreak, ap_fRev, ap_fiRevR, asIR_i, rRev_l, ap_fCallX, ap_gRaise, ap_gTry, ap_gTryAs, ap_gNever, ap_fEdic, ap_fTest, ap_fOp, ap_fVar, envGet_s, patGet_s, ap_fC, ap_fCB, ap_fCons, ap_fNil, ap_fCall, ap_fAnd, ap_fOr, ap_fNot, ap_fAndV, ap_fOrV, ap_fNotV, ap_fIf, ap_fTup, ap_fLst, ap_fLstO, ap_fChain, ap_fUn, ap_fBM, ap_fBM0, ap_fPool, rPool_i, ap_fSl, ap_fPart, ap_fNoPart, asI_i, rSl_l, ap_fiRng1, ap_fiRng2, ap_fiList, ap_fiTup, ap_fiStr, ap_fiEnum, ap_fiZip, ap_fiRev, asL_l, asT_t, asSg_s, asR1_i, asR2_i, asL1_l, asL2_l, ap_fLc, ap_fLcO, ap_fYes, wipeD, lcD, isi_i_int, isi_i_bool, isi_i_str, isi_i_tuple, isi_i_list, isi_i_dict, isi_b_int, isi_b_bool, isi_b_str, isi_b_tuple, isi_b_list, isi_b_dict, isi_s_int, isi_s_bool, isi_s_str, isi_s_tuple, isi_s_list, isi_s_dict, isi_t_int, isi_t_bool, isi_t_str, isi_t_tuple, isi_t_list, isi_t_dict, isi_l_int, isi_l_bool, isi_l_str, isi_l_tuple, isi_l_list, isi_l_dict, isi_n_int, isi_n_bool, isi_n_str, isi_n_tuple, isi_n_list, isi_n_dict, isi_d_int, isi_d_bool, isi_d_str, isi_d_tuple, isi_d_list, isi_d_dict,
  deref_tup, deref_lst, deref_int, deref_str, deref_bl, deref_non, deref_scr, rLt_i, rLt_s, rLe_i, rLe_s, rInts_i, rInts0_i, rAdd_i, rAdd_s, rAdd_l, rAdd_t, rCatO_l, rNeg_i, rLen_t, rLen_l, rLen_c, rLen_s, rMax_i, rMin_i, rInt_i, rInt_b, rDivmod_i, ap_gAug, rStr_i, rList_l, rList_t, rListO_l, rListO_t, rTup_l, rTup_t,
  rIx_t0, rIx_t1, rIx_t2, rIx_t3, rIx_l0, rIx_l1, rIx_l2, rIsN_x, isNon_t, isNon_n, isNon_i, isNon_s, isNon_l, rEq_i, rEq_b, rEq_i2, rEq_b2, rJoin_m, rSplit_s, tyOk_l, tyOk_s, patD_nm, patD_tp, patDs_nil, patDs_cons, Option.bind_some, notX, notX',
  List.map_cons, List.map_nil, List.length_cons, List.length_nil, List.cons_append, List.nil_append, List.append_nil, List.replicate, List.getElem?_cons_zero, List.getElem?_cons_succ, List.set_cons_zero, List.set_cons_succ, updO_same, updO_updO,
  Nat.reduceSub, Nat.reduceAdd, Nat.reduceLeDiff, Nat.zero_add, Int.cast_ofNat_Int, Int.natCast_zero, Int.natCast_one, Int.reduceLT, Int.reduceLE, Int.reduceEq, Int.reduceAdd, Int.reduceSub, Int.reduceNeg, decide_true, decide_false, if_true, if_false, Bool.false_eq_true, eq_self, reduceIte, Bool.true_eq_false, decide_eq_true_eq, Bool.not_true, Bool.not_false, Bool.not_eq_true', decide_eq_false_iff_not, exists_eq_left', exists_eq_left, D.bl.injEq, true_and, and_true, not_true_eq_false, not_false_eq_true])
section
variable {P : Program} {w : World} {K : PySem.W.Frag} {mg : Str → Option Value} {base : Heap}
local macro_rules | `(tactic| walk_at "tg") => `(tactic| simp (config := { failIfUnchanged := false }) only [te_name_take, te_name_give, te_name_pair, te_name_first, te_name_second, te_name_to, te_name_both, te_name_one, te_name_mark, te_name_name, te_name_thing, te_name_at, te_thing_take, te_thing_give, te_thing_pair, te_thing_first, te_thing_second, te_thing_to, te_thing_both, te_thing_one, te_thing_mark, te_thing_name, te_thing_thing, te_thing_at, te_take_take, te_take_give, te_take_pair, te_take_first, te_take_second, te_take_to, te_take_both, te_take_one, te_take_mark, te_take_name, te_take_thing, te_take_at, te_give_take, te_give_give, te_give_pair, te_give_first, te_give_second, te_give_to, te_give_both, te_give_one, te_give_mark, te_give_name, te_give_thing, te_give_at, te_pair_take, te_pair_give, te_pair_pair, te_pair_first, te_pair_second, te_pair_to, te_pair_both, te_pair_one, te_pair_mark, te_pair_name, te_pair_thing, te_pair_at, te_first_take, te_first_give, te_first_pair, te_first_first, te_first_second, te_first_to, te_first_both, te_first_one, te_first_mark, te_first_name, te_first_thing, te_first_at, te_second_take, te_second_give, te_second_pair, te_second_first, te_second_second, te_second_to, te_second_both, te_second_one, te_second_mark, te_second_name, te_second_thing, te_second_at, te_mark_take, te_mark_give, te_mark_pair, te_mark_first, te_mark_second, te_mark_to, te_mark_both, te_mark_one, te_mark_mark, te_mark_name, te_mark_thing, te_mark_at, te_one_take, te_one_give, te_one_pair, te_one_first, te_one_second, te_one_to, te_one_both, te_one_one, te_one_mark, te_one_name, te_one_thing, te_one_at, te_to_take, te_to_give, te_to_pair, te_to_first, te_to_second, te_to_to, te_to_both, te_to_one, te_to_mark, te_to_name, te_to_thing, te_to_at, te_both_take, te_both_give, te_both_pair, te_both_first, te_both_second, te_both_to, te_both_both, te_both_one, te_both_mark, te_both_name, te_both_thing, te_both_at, te_at_take, te_at_give, te_at_pair, te_at_first, te_at_second, te_at_to, te_at_both, te_at_one, te_at_mark, te_at_name, te_at_thing, te_at_at, ti4_name, ti4_thing, ti4_take, ti4_give, ti4_pair, ti4_first, ti4_second, ti2_name, ti2_thing, ti2_take, ti2_give, ti2_pair, ti2_first, ti2_second, szT_0, szT_1, szT_2, szT_3, szT_4, szT_5, szT_6, szT_7, szT_8, szT_9, szT_10, szT_11, szT_12, Bool.not_true, Bool.not_false, true_and])
local macro_rules | `(tactic| walk_at "ki") => `(tactic| (walk_at "kf1"; simp (config := { failIfUnchanged := false }) only [ap_fMeth, ap_fFld, ap_gFld, ap_fMake]; walk_at "kf1"))
theorem joinZ_len (z : Str) : ∀ xs : List Str, (Str.join z xs).length ≤ (xs.map (·.length)).sum + xs.length * z.length
  | [] => by
    have : (Str.join z []).length = 0 := rfl
    omega
  | [t] => by simp [Str.join]
  | t :: u :: r => by
    have ih := joinZ_len z (u :: r)
    have e : Str.join z (t :: u :: r) = t ++ z ++ Str.join z (u :: r) := rfl
    rw [e, Str.length_append, Str.length_append]
    simp only [List.map_cons, List.sum_cons, List.length_cons, Nat.add_mul] at *
    omega
theorem kshow_sum : ∀ L : List Kd, (∀ k ∈ L, k.mks) → ((L.map kshow).map (·.length)).sum ≤ 14 * lvs L
  | [], _ => Nat.zero_le _
  | k :: r, h => by
    have := kshow_sum r fun x hx => h x (List.mem_cons_of_mem _ hx)
    have := kshow_len k (h k List.mem_cons_self)
    simp only [List.map_cons, List.sum_cons, lvs] at *
    omega
theorem cmy_loop (f : Nat → Nat) (fs : List (Nat → Nat)) (s : Nat) : cmy (f :: fs) s = sm (s - fs.length) fun a => f (a + 1) * cmy fs (s - 1 - a) := by
  by_cases h : fs.length + 1 ≤ s
  · exact cmy_code f fs s h
  · rw [cmy_short _ _ (by rw [List.length_cons]; omega), show s - fs.length = 0 by omega]; rfl
theorem range_split {N i : Nat} {pre rest : List Nat} (e : List.range N = pre ++ i :: rest) : i = pre.length ∧ i < N := by
  have h1 : (List.range N)[pre.length]? = some i := by rw [e]; simp
  have h2 : pre.length < N := by
    have := congrArg List.length e
    simp at this; omega
  rw [List.getElem?_range h2] at h1
  injection h1 with h1
  omega
theorem paired_r {α β : Type} {F : α → β → Prop} {a : List α} {b : List β} (h : Paired F a b) {y : β} (hy : y ∈ b) : ∃ x ∈ a, F x y := by
  induction h with
  | nil => cases hy
  | cons h _ ih =>
    rcases List.mem_cons.mp hy with rfl | hy
    · exact ⟨_, List.mem_cons_self, h⟩
    · obtain ⟨x, h1, h2⟩ := ih hy
      exact ⟨x, List.mem_cons_of_mem _ h1, h2⟩
theorem task_py {t : List Kd × Str} (h : ∀ k ∈ t.1, k.mks) (hm : isMarkB t.2 = true) : isPy (dTask t) = true := by
  have h1 : isPys (t.1.map fun k => D.str (kshow k)) = true := by
    obtain ⟨L, m⟩ := t
    dsimp only at h ⊢
    clear hm
    induction L with
    | nil => rfl
    | cons k r ih => simp only [List.map_cons, isPys, isPy, kshow_so (h k List.mem_cons_self), ih fun x hx => h x (List.mem_cons_of_mem _ hx), Bool.and_self]
  simp only [dTask, tx, isPy, isPys, h1, mark_so hm, Bool.and_self]
theorem tasks_py : ∀ {Ts : List (List Kd × Str)}, (∀ t ∈ Ts, (∀ k ∈ t.1, k.mks) ∧ isMarkB t.2 = true) → isPys (Ts.map dTask) = true
  | [], _ => rfl
  | t :: r, h => by
    have h1 := h t List.mem_cons_self
    simp only [List.map_cons, isPys, task_py h1.1 h1.2, tasks_py fun x hx => h x (List.mem_cons_of_mem _ hx), Bool.and_self]
theorem lk_sums {dW dS : Addr} : List.lookup (Str.ofString "sums") [(Str.ofString "ways", D.ref dW), (Str.ofString "sums", .ref dS)] = some (.ref dS) := by
  rw [List.lookup_cons, show (Str.ofString "sums" == Str.ofString "ways") = false from by decide +kernel]
  simp [List.lookup]
/-- what is told of the counter's cells -/
def spCo (C : Addr) (n : Nat) : DSp := fun ds O R _ => ∃ (s dW dS : Addr) (kw ks : List (Key × D)) (Tk : List (List Kd × Str)) (size : Nat) (S0 : List Kd) (Ts : List (List Kd)) (Ms : List Str) (v N : Nat), ds = [.ref s, .lst (Tk.map dTask), .int size] ∧ Cu S0 Ts Ms v N ∧ Ct C s dW dS kw ks O ∧ KsC S0 Ts Ms N kw ks ∧ (∀ t ∈ Tk, InC S0 Ts v N t.1 size ∧ t.2 ∈ Ms ∧ sortedS (t.1.map kshow) = true) ∧ size ≤ 17 ∧ v * size + Tk.length < n ∧ Tk.length ≤ 1000 ∧
  ∀ kw' ks', KsC S0 Ts Ms N kw' ks' → R (.int (cmy (tkc Tk) size : Nat)) (upC O dW dS kw' ks')
def spCoOf (C : Addr) (n : Nat) : DSp := fun ds O R _ => ∃ (s dW dS : Addr) (kw ks : List (Key × D)) (t : List Kd × Str) (size : Nat) (S0 : List Kd) (Ts : List (List Kd)) (Ms : List Str) (v N : Nat), ds = [.ref s, dTask t, .int size] ∧ Cu S0 Ts Ms v N ∧ Ct C s dW dS kw ks O ∧ KsC S0 Ts Ms N kw ks ∧ InC S0 Ts v N t.1 size ∧ t.2 ∈ Ms ∧ sortedS (t.1.map kshow) = true ∧ 1 ≤ size ∧ size ≤ 17 ∧ v * size < n ∧
  ∀ kw' ks', KsC S0 Ts Ms N kw' ks' → R (.int (cntP size t.1 t.2 : Nat)) (upC O dW dS kw' ks')
theorem ok_cm (T : TxW w K mg) : ∀ n, FO_Counter_many P w base T (n + 45) (spCo T.C_Counter n) ∧ FO_Counter_many_of P w base T (n + 45) (spCoOf T.C_Counter n)
  | 0 => ⟨fnUp (none_left fun ds O R RE ⟨s, dW, dS, kw, ks, Tk, size, S0, Ts, Ms, v, N, _, _, _, _, _, _, h, _⟩ => by omega) (Nat.zero_le _), fnUp (none_left fun ds O R RE ⟨s, dW, dS, kw, ks, t, size, S0, Ts, Ms, v, N, _, _, _, _, _, _, _, _, _, h, _⟩ => by omega) (Nat.zero_le _)⟩
  | n + 1 => by
    obtain ⟨ih1, ih2⟩ := ok_cm T n
    constructor
    · refine fnd_Counter_many T ih2 ih1 (fun ds O R RE ⟨_, _, _, _, _, _, _, _, _, _, _, _, q, _⟩ => by rw [q]; rfl) ?_
      rintro ds O R RE ⟨s, dW, dS, kw, ks, Tk, size, S0, Ts, Ms, v, N, rfl, u, hc, hk, hT, hs17, hn, hTl, hR⟩
      unfold g_Counter_many
      cases Tk with
      | nil =>
        refine gSeq_step ?_
        walk_at "ki"
        refine ⟨sz_small (by decide), ?_⟩
        rw [rEq_nilA (xs := []) rfl rfl]
        simp only [List.isEmpty_nil, Bool.false_xor]
        refine ⟨true, rfl, ?_⟩
        rw [if_pos rfl]
        have := hR kw ks hk
        rw [upC_self hc] at this
        have e1 : (if (size : Int) = 0 then (1 : Int) else 0) = ((cmy (tkc []) size : Nat) : Int) := by
          show _ = ((if size = 0 then 1 else 0 : Nat) : Int)
          split <;> split <;> first | rfl | omega
        rw [e1]
        exact this
      | cons t r =>
        have hpy := tasks_py (Ts := t :: r) fun x hx => ⟨fun k hk => ((hT x hx).1.lk u k hk).1, u.mm _ (hT x hx).2.1⟩
        rw [List.length_cons] at hn hTl
        refine gSeq_step ?_
        walk_at "ki"
        rw [rEq_nilA rfl hpy]
        walk_at "ki"
        refine ⟨sz_small (by decide), ?_⟩
        rw [if_neg (by simp)]
        refine gSeq_step ?_
        walk_at "ki"
        refine gSeq_step ?_
        walk_at "ki"
        rw [List.length_map]
        refine ⟨⟨by omega, by omega, by omega, by omega⟩, ?_⟩
        rw [show ((size : Int) - ((r.length + 1 : Nat) : Int) + 2 - 1).toNat = size - r.length by omega, rangeD_map]
        have htl : (tkc r).length = r.length := by unfold tkc; rw [List.length_map]
        have hcm : cmy (tkc (t :: r)) size = sm (size - r.length) fun a => cntP (a + 1) t.1 t.2 * cmy (tkc r) (size - 1 - a) := by
          rw [show tkc (t :: r) = (fun one => cntP one t.1 t.2) :: tkc r from rfl, cmy_loop, htl]
        obtain ⟨ht1, ht2, ht3⟩ := hT t List.mem_cons_self
        generalize hφ : (fun a => cntP (a + 1) t.1 t.2 * cmy (tkc r) (size - 1 - a)) = φ at hcm
        refine forA_ix (fun i : Nat => D.int (1 + (i : Int))) (fun pre rest ρ O' => ∃ (kw' ks' : List (Key × D)) (x4 x5 : Option D), O' = upC O dW dS kw' ks' ∧ KsC S0 Ts Ms N kw' ks' ∧ ρ = [some (.ref s), some (.lst (dTask t :: r.map dTask)), some (.int (size : Nat)), some (.int (sm pre.length φ : Nat)), x4, x5]) (List.range (size - r.length)) [] _ _ ⟨kw, ks, _, _, (upC_self hc).symm, hk, rfl⟩ ?_ ?_
        · rintro ρ O' ⟨kw', ks', x4, x5, rfl, hk', rfl⟩
          rw [List.nil_append, List.length_range]
          walk_at "ki"
          rw [← hcm]
          exact hR kw' ks' hk'
        · rintro pre i rest ep ρ O' ⟨kw', ks', x4, x5, rfl, hk', rfl⟩ Nx hNx
          rw [List.nil_append] at ep
          obtain ⟨hi, hiN⟩ := range_split ep
          subst hi
          have hc' := hc.up hk'.w hk'.s
          have hφi : φ pre.length = cntP (pre.length + 1) t.1 t.2 * cmy (tkc r) (size - 1 - pre.length) := by rw [← hφ]
          have hvm : v * (pre.length + 1) ≤ v * size := Nat.mul_le_mul (Nat.le_refl _) (by omega)
          walk_at "kf1"
          refine gSeq_step ?_
          walk_at "ki"
          refine ⟨ct_no hc'.i (by decide +kernel) (by decide +kernel), ?_⟩
          walk_at "ki"
          rw [show (1 : Int) + (pre.length : Int) = ((pre.length + 1 : Nat) : Int) by omega]
          refine ⟨s, dW, dS, kw', ks', t, pre.length + 1, S0, Ts, Ms, v, N, rfl, u, hc', hk', ht1.mono (by omega), ht2, ht3, by omega, by omega, by omega, fun kw1 ks1 hk1 => ?_⟩
          rw [upC_upC hc.ne]
          have hc1 := hc.up hk1.w hk1.s
          walk_at "ki"
          by_cases c0 : cntP (pre.length + 1) t.1 t.2 = 0
          · rw [if_neg (by omega)]
            refine hNx _ _ ⟨kw1, ks1, some (.int ((pre.length + 1 : Nat) : Int)), some (.int (cntP (pre.length + 1) t.1 t.2 : Nat)), rfl, hk1, ?_⟩
            rw [List.length_append, List.length_singleton, sm, hφi, c0, Nat.zero_mul]; rfl
          · rw [if_pos (by omega)]
            refine ⟨ct_no hc1.i (by decide +kernel) (by decide +kernel), ?_⟩
            have hlt := cntP_bits u (pre.length + 1) t.1 t.2 (by omega) (by omega) (ht1.mono (by omega))
            have hlt2 : 2 ^ (20 * ((pre.length + 1) * (pre.length + 1))) < 2 ^ 6000 := Nat.pow_lt_pow_right (by decide) (by
              have : (pre.length + 1) * (pre.length + 1) ≤ 17 * 17 := Nat.mul_le_mul (by omega) (by omega)
              omega)
            have hcut : cut (dTask t :: r.map dTask) (some 1) none = r.map dTask := by
              simp only [cut, HT.sIx, List.length_cons, List.length_map]
              simp
              exact List.take_of_length_le (by rw [List.length_map]; omega)
            rw [hcut, show (size : Int) - ((pre.length + 1 : Nat) : Int) = ((size - 1 - pre.length : Nat) : Int) by omega]
            have hvm2 : v * (size - 1 - pre.length) ≤ v * size := Nat.mul_le_mul (Nat.le_refl _) (by omega)
            have hTr : ∀ x ∈ r, InC S0 Ts v N x.1 (size - 1 - pre.length) := fun x hx => ((hT x (List.mem_cons_of_mem _ hx)).1).mono (by omega)
            refine ⟨s, dW, dS, kw1, ks1, r, size - 1 - pre.length, S0, Ts, Ms, v, N, rfl, u, hc1, hk1, fun x hx => ⟨hTr x hx, (hT x (List.mem_cons_of_mem _ hx)).2⟩, by omega, by omega, by omega, fun kw2 ks2 hk2 => ?_⟩
            rw [upC_upC hc.ne]
            walk_at "ki"
            have hb2 := cmyP_bits u (ts := r) (s := size - 1 - pre.length) (by omega) hTr
            refine rMulW_n (a := 6000) (b := 6000) (by omega) hb2 (by decide) ?_
            walk_at "ki"
            refine hNx _ _ ⟨kw2, ks2, some (.int ((pre.length + 1 : Nat) : Int)), some (.int (cntP (pre.length + 1) t.1 t.2 : Nat)), rfl, hk2, ?_⟩
            rw [List.length_append, List.length_singleton, sm, hφi]; push_cast; rfl
    · refine fnd_Counter_many_of T (fnUp (ok_wby T) (by omega)) ih1 (fnUp (ok_tasks T) (by omega)) (fnUp (ok_mve T) (by omega)) (fun ds O R RE ⟨_, _, _, _, _, _, _, _, _, _, _, _, q, _⟩ => by rw [q]; rfl) ?_
      rintro ds O R RE ⟨s, dW, dS, kw, ks, ⟨L, m⟩, size, S0, Ts, Ms, v, N, rfl, u, hc, hk, hL, hm', hso, h1, hs17, hn, hR⟩
      dsimp only at hL hm' hso hR
      have hm := u.mm m hm'
      have hv12 := u.v12
      unfold g_Counter_many_of
      refine gSeq_step ?_
      simp only [dTask]
      walk_at "ki"
      refine gSeq_step ?_
      walk_at "ki"
      rw [txE]
      walk_at "ki"
      have hLk := hL.lk u
      have hks := kshow_sum L fun k hk => (hLk k hk).1
      have hLe := hL.lvs u
      have hLl := hL.len
      have hjl := joinZ_len (Str.ofString " ; ") (L.map kshow)
      have c1 : (Str.ofString " ; ").length = 3 := by decide +kernel
      have c2 : (Str.ofString " : ").length = 3 := by decide +kernel
      have c3 : (Str.ofString " ").length = 1 := by decide +kernel
      have c4 := (nstr_ok size (by omega)).2
      have c5 := mark_len hm
      unfold nstr at c4
      rw [c1, List.length_map] at hjl
      simp only [Str.length_append, c1, c2, c3, List.length_map]
      refine ⟨by omega, sz_small (by omega), sz_small (by omega), sz_small (by omega), Nat.lt_of_le_of_lt (Nat.log2_le_self _) (by omega), sz_small (by omega), ?_⟩
      rw [← txE, show Str.join (Str.ofString " ; ") (L.map kshow) ++ Str.ofString " : " ++ m ++ Str.ofString " " ++ Str.ofString (toString (size : Int)) = ckey L m size from rfl]
      refine gSeq_step ?_
      walk_at "ki"
      refine ⟨isIns_of hc.i, ?_⟩
      rw [rFld_of hc.i (d := .ref dS) lk_sums]
      simp only [rDIn, rKey_s hc.s]
      cases ek : valD ks (.inr (ckey L m size)) with
      | some d =>
        walk_at "ki"
        rw [if_neg (by simp)]
        refine ⟨isIns_of hc.i, ?_⟩
        rw [rFld_of hc.i (d := .ref dS) lk_sums]
        simp only [rDGet, rKey_s hc.s, ek]
        rw [hc.so L m size hLk hm (by omega) d ek]
        have := hR kw ks hk
        rw [upC_self hc] at this
        exact this
      | none =>
        walk_at "ki"
        rw [if_pos (by simp)]
        refine gSeq_step ?_
        walk_at "ki"
        refine gSeq_step ?_
        rw [ap_gFor]
        walk_at "ki"
        rw [show tx L = .lst (L.map fun k => D.str (kshow k)) from rfl]
        walk_at "ki"
        rw [← show tx L = .lst (L.map fun k => D.str (kshow k)) from rfl]
        have hcnt := cntP_eq h1 L m
        generalize hφ : (fun e : List Kd × Str => if e.2 = m then cmy (tks L (e.1.flatMap ends)) (size - 1) else 0) = φ at hcnt
        refine forA_ix (fun k => D.str (kshow k)) (fun pre rest ρ O' => ∃ (kw' ks' : List (Key × D)) (x7 x8 x9 : Option D), O' = upC O dW dS kw' ks' ∧ KsC S0 Ts Ms N kw' ks' ∧ ρ = [some (.ref s), some (.tup [tx L, .str m]), some (.int (size : Nat)), some (tx L), some (.str m), some (.str (ckey L m size)), some (.int (((pre.flatMap ends).map φ).sum : Nat)), x7, x8, x9]) L [] _ _ ⟨kw, ks, _, _, _, (upC_self hc).symm, hk, rfl⟩ ?_ ?_
        · rintro ρ O' ⟨kw', ks', x7, x8, x9, rfl, hk', rfl⟩
          rw [List.nil_append]
          have hc' := hc.up hk'.w hk'.s
          walk_at "ki"
          refine ⟨isIns_of hc'.i, ?_⟩
          rw [rFld_of hc'.i (d := .ref dS) lk_sums, rDPut_s hc'.s]
          have hsl := keyA_len u hk'.ks
          refine ⟨sz_23 hsl, ?_⟩
          rw [hc'.putS, upC_upC hc.ne, ← hcnt]
          have hs2 := hk'.s.put hLk hm (n := size) (by omega)
          have hk2 : KsC S0 Ts Ms N kw' (putD ks' (.inr (ckey L m size)) (.int (cntP size L m : Nat))) := ⟨hk'.w, hs2, hk'.kw, hk'.ks.put (hL.key ckF hm' (.refl _) hso) _⟩
          have hc2 := hc.up hk2.w hk2.s
          walk_at "ki"
          refine ⟨isIns_of hc2.i, ?_⟩
          rw [rFld_of hc2.i (d := .ref dS) lk_sums]
          simp only [rDGet, rKey_s hc2.s, valD_put, if_pos]
          exact hR _ _ hk2
        · rintro pre k rest ep ρ O' ⟨kw', ks', x7, x8, x9, rfl, hk', rfl⟩ Nx hNx
          rw [List.nil_append] at ep
          have hc' := hc.up hk'.w hk'.s
          have hkm : k ∈ L := by rw [ep]; simp
          have hkU := hL.u k hkm
          have hkk := hLk k hkm
          have hkv := u.lv k hkU
          have hwl0 := wayA_len u hk'.kw
          walk_at "ki"
          refine ⟨ct_no hc'.i (by decide +kernel) (by decide +kernel), s, dW, dS, kw', ks', k, rfl, hc', hkk.1, hkk.2, by omega, by omega, fun kw1 hw1 hq1 => ?_⟩
          have hk1 : KsC S0 Ts Ms N kw1 ks' := ⟨hw1, hk'.s, hq1 hk'.kw hkU, hk'.ks⟩
          rw [upC_upC hc.ne]
          walk_at "ki"
          refine forA_ix dWy (fun preW restW ρ O' => ∃ (kw' ks' : List (Key × D)) (x8 x9 : Option D), O' = upC O dW dS kw' ks' ∧ KsC S0 Ts Ms N kw' ks' ∧ ρ = [some (.ref s), some (.tup [tx L, .str m]), some (.int (size : Nat)), some (tx L), some (.str m), some (.str (ckey L m size)), some (.int (((pre.flatMap ends ++ preW.map wyE).map φ).sum : Nat)), some (.str (kshow k)), x8, x9]) (wys k) [] _ _ ⟨kw1, ks', x8, x9, rfl, hk1, by simp⟩ ?_ ?_
          · rintro ρ O' ⟨kw2, ks2, x8, x9, rfl, hk2, rfl⟩
            rw [List.nil_append]
            rw [wys_ends]
            refine hNx _ _ ⟨kw2, ks2, some (.str (kshow k)), x8, x9, rfl, hk2, ?_⟩
            rw [List.flatMap_append, List.flatMap_singleton]
          · rintro preW w restW eq ρ O' ⟨kw2, ks2, x8, x9, rfl, hk2, rfl⟩ N2 hN2
            rw [List.nil_append] at eq
            have hc2 := hc.up hk2.w hk2.s
            have hwm : w ∈ wys k := by rw [eq]; simp
            have hwE : wyE w ∈ ends k := by rw [← wys_ends k]; exact List.mem_map.mpr ⟨w, hwm, rfl⟩
            have hie := ends_in k _ hwE
            have hso2 : PyData.strOk w.2 = true := hie.2.2.1 (mks_ok k hkk.1)
            have hvs : v * size = v * (size - 1) + v := by rw [← Nat.mul_succ]; congr 1; omega
            have hsn : ((pre.flatMap ends ++ (preW ++ [w]).map wyE).map φ).sum = ((pre.flatMap ends ++ preW.map wyE).map φ).sum + φ (wyE w) := by
              simp only [List.map_append, List.map_cons, List.map_nil, List.sum_append, List.sum_cons, List.sum_nil]; omega
            have hφw : φ (wyE w) = if w.2 = m then cmy (tks L ((mvT w.1).flatMap ends)) (size - 1) else 0 := by rw [← hφ]; rfl
            simp only [dWy]
            walk_at "ki"
            rw [rEq_s hso2 (mark_so hm)]
            refine ⟨_, rfl, ?_⟩
            by_cases cm : w.2 = m
            · rw [if_pos cm] at hφw
              rw [if_pos (by simp [cm])]
              refine ⟨ct_no hc2.i (by decide +kernel) (by decide +kernel), ?_⟩
              simp only [ap_fMeth]
              walk_at "ki"
              have hlv : lvs (mvT w.1) < k.leaves := hie.2.1
              have hfe := flat_ends_len (mvT w.1)
              have hab : ∀ a ∈ mvT w.1, a.mks ∧ a.depth < 12 := fun a ha => ⟨fun mm hmm => hkk.1 mm (ends_marks k _ hwE a ha mm hmm), by have := (hie.1 a ha).1; omega⟩
              refine ⟨ct_no hc2.i (by decide +kernel) (by decide +kernel), w.1, rfl, fun a ha => ⟨mks_ok a (hab a ha).1, by have := (hab a ha).2; omega⟩, by omega, ?_⟩
              dsimp only
              have htw : ∀ t ∈ (mvT w.1).flatMap ends, TaskOk Ms v t ∧ InC S0 Ts v N (L ++ t.1) (size - 1) := fun t ht => by
                obtain ⟨a, ha, ht⟩ := List.mem_flatMap.mp ht
                exact ⟨u.task hkU hwE ha ht, hL.step u h1 hkm hwE ha ht⟩
              refine ⟨s, dW, dS, L, (mvT w.1).flatMap ends, rfl, hc2.i, by omega, fun t ht => ?_, fun Tk hTk => ?_⟩
              · obtain ⟨g1, g2⟩ := htw t ht
                have g3 := g2.len
                have g4 := g1.lv
                rw [List.length_append] at g3
                refine ⟨by omega, fun x hx => ⟨(g1.lk x hx).1, by have := (g1.lk x hx).2; omega, ?_⟩⟩
                have : x.leaves ≤ lvs t.1 := mem_sum hx
                omega
              dsimp only
              have hTl := Paired.length hTk
              rw [show (size : Int) - 1 = ((size - 1 : Nat) : Int) by omega]
              refine ⟨s, dW, dS, kw2, ks2, Tk, size - 1, S0, Ts, Ms, v, N, rfl, u, hc2, hk2, fun t ht => ?_, by omega, by omega, by omega, fun kw3 ks3 hk3 => ?_⟩
              · obtain ⟨x, hx, q1, q2, q3⟩ := paired_r hTk ht
                exact ⟨(htw x hx).2.perm q1, by rw [q2]; exact (htw x hx).1.m, q3⟩
              rw [upC_upC hc.ne, tkc_tks (TkS.r hTk)]
              walk_at "ki"
              refine hN2 _ _ ⟨kw3, ks3, some (.lst (w.1.map dMv)), some (.str w.2), rfl, hk3, ?_⟩
              rw [hsn, hφw]; push_cast; rfl
            · rw [if_neg cm] at hφw
              rw [if_neg (by simp [cm])]
              refine hN2 _ _ ⟨kw2, ks2, some (.lst (w.1.map dMv)), some (.str w.2), rfl, hk2, ?_⟩
              rw [hsn, hφw, Nat.add_zero]
end
end Kf
namespace Kf
open PySem PySem.Spec L2
open PyProof.Rows hiding St
local macro_rules | `(tactic| walk_at "kf") => `(tactic| simp (config := { failIfUnchanged := false }) only [startD, ap_fiEnumT, asT1_t, ap_fKGet, asStr_s, ap_fKIn, ap_fKIx, ap_gAsgL, rUnl_l, ap_fiRng3, asR3_i, rSplitO_s, ap_fOrL, rOrL_l, ap_fLcK, ap_gForK, ap_fMaxD, rMaxD_l, rMaxL_l, ap_fCallXD, ap_gForE, asLE_l, ap_fFrz, ap_fDicO, ap_fDGet, ap_fDGet1, ap_fDGet2, ap_gDPut, ap_fIsiT, ap_gForR, rRep_l, isT_i, isT_s, isT_b, isT_n, isT_t, isT_l, ap_gSeq, ap_gIf, ap_gRet, ap_gNext, ap_gSet, ap_gAsg, ap_gPar, ap_gDrop, ap_gRetF, ap_gRetN, ap_gFor, ap_gSetIx, ap_gBreak, ap_fRev, ap_fiRevR, asIR_i, rRev_l, ap_fCallX, ap_gRaise, ap_gTry, ap_gTryAs, ap_gNever, ap_fEdic, ap_fTest, ap_fOp, ap_fVar, envGet_s, patGet_s, ap_fC, ap_fCB, ap_fCons, ap_fNil, ap_fCall, ap_fAnd, ap_fOr, ap_fNot, ap_fAndV, ap_fOrV, ap_fNotV, ap_fIf, ap_fTup, ap_fLst, ap_fLstO, ap_fChain, ap_fUn, ap_fBM, ap_fBM0, ap_fPool, rPool_i, ap_fSl, ap_fPart, ap_fNoPart, asI_i, rSl_l, ap_fiRng1, ap_fiRng2, ap_fiList, ap_fiTup, ap_fiStr, ap_fiEnum, ap_fiZip, ap_fiRev, asL_l, asT_t, asSg_s, asR1_i, asR2_i, asL1_l, asL2_l, ap_fLc, ap_fLcO, ap_fYes, wipeD, lcD, isi_i_int, isi_i_bool, isi_i_str, isi_i_tuple, isi_i_list, isi_i_dict, isi_b_int, isi_b_bool, isi_b_str, isi_b_tuple, isi_b_list, isi_b_dict, isi_s_int, isi_s_bool, isi_s_str, isi_s_tuple, isi_s_list, isi_s_dict, isi_t_int, isi_t_bool, isi_t_str, isi_t_tuple, isi_t_list, isi_t_dict, isi_l_int, isi_l_bool, isi_l_str, isi_l_tuple, isi_l_list, isi_l_dict, isi_n_int, isi_n_bool, isi_n_str, isi_n_tuple, isi_n_list, isi_n_dict, isi_d_int, isi_d_bool, isi_d_str, isi_d_tuple, isi_d_list, isi_d_dict,
  deref_tup, deref_lst, deref_int, deref_str, deref_bl, deref_non, deref_scr, rLt_i, rLt_s, rLe_i, rLe_s, rInts_i, rInts0_i, rAdd_i, rAdd_s, rAdd_l, rAdd_t, rCatO_l, rNeg_i, rLen_t, rLen_l, rLen_c, rLen_s, rMax_i, rMin_i, rInt_i, rInt_b, rDivmod_i, ap_gAug, rStr_i, rList_l, rList_t, rListO_l, rListO_t, rTup_l, rTup_t,
  rIx_t0, rIx_t1, rIx_t2, rIx_t3, rIx_l0, rIx_l1, rIx_l2, rIsN_x, isNon_t, isNon_n, isNon_i, isNon_s, isNon_l, rEq_i, rEq_b, rEq_i2, rEq_b2, rJoin_m, rSplit_s, tyOk_l, tyOk_s, patD_nm, patD_tp, patDs_nil, patDs_cons, Option.bind_some, notX, notX',
  List.map_cons, List.map_nil, List.length_cons, List.length_nil, List.cons_append, List.nil_append, List.append_nil, List.replicate, List.getElem?_cons_zero, List.getElem?_cons_succ, List.set_cons_zero, List.set_cons_succ, updO_same, updO_updO,
  Nat.reduceSub, Nat.reduceAdd, Nat.reduceLeDiff, Nat.zero_add, Int.cast_ofNat_Int, Int.natCast_zero, Int.natCast_one, Int.reduceLT, Int.reduceLE, Int.reduceEq, Int.reduceAdd, Int.reduceSub, Int.reduceNeg, decide_true, decide_false, if_true, if_false, Bool.false_eq_true, eq_self, reduceIte, Bool.true_eq_false, decide_eq_true_eq, Bool.not_true, Bool.not_false, Bool.not_eq_true', decide_eq_false_iff_not, exists_eq_left', exists_eq_left, D.bl.injEq, true_and, and_true, not_true_eq_false, not_false_eq_true])
local macro_rules | `(tactic| walk_at "len") => `(tactic| (intro ds O R RE h; first | (obtain ⟨e, _⟩ := h; subst e; rfl) | (obtain ⟨_, e, _⟩ := h; subst e; rfl) | (obtain ⟨_, _, e, _⟩ := h; subst e; rfl) | (obtain ⟨_, _, _, e, _⟩ := h; subst e; rfl) | (obtain ⟨_, _, _, _, e, _⟩ := h; subst e; rfl) | (obtain ⟨_, _, _, _, _, e, _⟩ := h; subst e; rfl) | (obtain ⟨_, _, _, _, _, _, e, _⟩ := h; subst e; rfl) | (obtain ⟨_, _, _, _, _, _, _, e, _⟩ := h; subst e; rfl) | (obtain ⟨_, _, _, _, _, _, _, _, e, _⟩ := h; subst e; rfl) | (obtain ⟨_, _, _, _, _, _, _, _, _, e, _⟩ := h; subst e; rfl)))
local macro_rules | `(tactic| walk_at "kf1") => `(tactic| simp (config := { failIfUnchanged := false }) only [startD, ap_fiEnumT, asT1_t, ap_fKGet, asStr_s, ap_fKIn, ap_fKIx, ap_gAsgL, rUnl_l, ap_fiRng3, asR3_i, rSplitO_s, ap_fOrL, rOrL_l, ap_fLcK, ap_gForK, ap_fMaxD, rMaxD_l, rMaxL_l, ap_fCallXD, ap_gForE, asLE_l, ap_fFrz, ap_fDicO, ap_fDGet, ap_fDGet1, ap_fDGet2, ap_gDPut, ap_fIsiT, ap_gForR, rRep_l, isT_i, isT_s, isT_b, isT_n, isT_t, isT_l, ap_gIf, ap_gRet, ap_gNext, ap_gSet, ap_gAsg, ap_gPar, ap_gDrop, ap_gRetF, ap_gRetN, ap_gFor, ap_gSetIx, ap_gBreak, ap_fRev, ap_fiRevR, asIR_i, rRev_l, ap_fCallX, ap_gRaise, ap_gTry, ap_gTryAs, ap_gNever, ap_fEdic, ap_fTest, ap_fOp, ap_fVar, envGet_s, patGet_s, ap_fC, ap_fCB, ap_fCons, ap_fNil, ap_fCall, ap_fAnd, ap_fOr, ap_fNot, ap_fAndV, ap_fOrV, ap_fNotV, ap_fIf, ap_fTup, ap_fLst, ap_fLstO, ap_fChain, ap_fUn, ap_fBM, ap_fBM0, ap_fPool, rPool_i, ap_fSl, ap_fPart, ap_fNoPart, asI_i, rSl_l, ap_fiRng1, ap_fiRng2, ap_fiList, ap_fiTup, ap_fiStr, ap_fiEnum, ap_fiZip, ap_fiRev, asL_l, asT_t, asSg_s, asR1_i, asR2_i, asL1_l, asL2_l, ap_fLc, ap_fLcO, ap_fYes, wipeD, lcD, isi_i_int, isi_i_bool, isi_i_str, isi_i_tuple, isi_i_list, isi_i_dict, isi_b_int, isi_b_bool, isi_b_str, isi_b_tuple, isi_b_list, isi_b_dict, isi_s_int, isi_s_bool, isi_s_str, isi_s_tuple, isi_s_list, isi_s_dict, isi_t_int, isi_t_bool, isi_t_str, isi_t_tuple, isi_t_list, isi_t_dict, isi_l_int, isi_l_bool, isi_l_str, isi_l_tuple, isi_l_list, isi_l_dict, isi_n_int, isi_n_bool, isi_n_str, isi_n_tuple, isi_n_list, isi_n_dict, isi_d_int, isi_d_bool, isi_d_str, isi_d_tuple, isi_d_list, isi_d_dict,
  deref_tup, deref_lst, deref_int, deref_str, deref_bl, deref_non, deref_scr, rLt_i, rLt_s, rLe_i, rLe_s, rInts_i, rInts0_i, rAdd_i, rAdd_s, rAdd_l, rAdd_t, rCatO_l, rNeg_i, rLen_t, rLen_l, rLen_c, rLen_s, rMax_i, rMin_i, rInt_i, rInt_b, rDivmod_i, ap_gAug, rStr_i, rList_l, rList_t, rListO_l, rListO_t, rTup_l, rTup_t,
  rIx_t0, rIx_t1, rIx_t2, rIx_t3, rIx_l0, rIx_l1, rIx_l2, rIsN_x, isNon_t, isNon_n, isNon_i, isNon_s, isNon_l, rEq_i, rEq_b, rEq_i2, rEq_b2, rJoin_m, rSplit_s, tyOk_l, tyOk_s, patD_nm, patD_tp, patDs_nil, patDs_cons, Option.bind_some, notX, notX',
  List.map_cons, List.map_nil, List.length_cons, List.length_nil, List.cons_append, List.nil_append, List.append_nil, List.replicate, List.getElem?_cons_zero, List.getElem?_cons_succ, List.set_cons_zero, List.set_cons_succ, updO_same, updO_updO,
  Nat.reduceSub, Nat.reduceAdd, Nat.reduceLeDiff, Nat.zero_add, Int.cast_ofNat_Int, Int.natCast_zero, Int.natCast_one, Int.reduceLT, Int.reduceLE, Int.reduceEq, Int.reduceAdd, Int.reduceSub, Int.reduceNeg, decide_true, decide_false, if_true, if_false, Bool.false_eq_true, eq_self, reduceIte, Bool.true_eq_false, decide_eq_true_eq, Bool.not_true, Bool.not_false, Bool.not_eq_true', decide_eq_false_iff_not, exists_eq_left', exists_eq_left, D.bl.injEq, true_and, and_true, not_true_eq_false, not_false_eq_true])
section
variable {P : Program} {w : World} {K : PySem.W.Frag} {mg : Str → Option Value} {base : Heap}
local macro_rules | `(tactic| walk_at "tg") => `(tactic| simp (config := { failIfUnchanged := false }) only [te_name_take, te_name_give, te_name_pair, te_name_first, te_name_second, te_name_to, te_name_both, te_name_one, te_name_mark, te_name_name, te_name_thing, te_name_at, te_thing_take, te_thing_give, te_thing_pair, te_thing_first, te_thing_second, te_thing_to, te_thing_both, te_thing_one, te_thing_mark, te_thing_name, te_thing_thing, te_thing_at, te_take_take, te_take_give, te_take_pair, te_take_first, te_take_second, te_take_to, te_take_both, te_take_one, te_take_mark, te_take_name, te_take_thing, te_take_at, te_give_take, te_give_give, te_give_pair, te_give_first, te_give_second, te_give_to, te_give_both, te_give_one, te_give_mark, te_give_name, te_give_thing, te_give_at, te_pair_take, te_pair_give, te_pair_pair, te_pair_first, te_pair_second, te_pair_to, te_pair_both, te_pair_one, te_pair_mark, te_pair_name, te_pair_thing, te_pair_at, te_first_take, te_first_give, te_first_pair, te_first_first, te_first_second, te_first_to, te_first_both, te_first_one, te_first_mark, te_first_name, te_first_thing, te_first_at, te_second_take, te_second_give, te_second_pair, te_second_first, te_second_second, te_second_to, te_second_both, te_second_one, te_second_mark, te_second_name, te_second_thing, te_second_at, te_mark_take, te_mark_give, te_mark_pair, te_mark_first, te_mark_second, te_mark_to, te_mark_both, te_mark_one, te_mark_mark, te_mark_name, te_mark_thing, te_mark_at, te_one_take, te_one_give, te_one_pair, te_one_first, te_one_second, te_one_to, te_one_both, te_one_one, te_one_mark, te_one_name, te_one_thing, te_one_at, te_to_take, te_to_give, te_to_pair, te_to_first, te_to_second, te_to_to, te_to_both, te_to_one, te_to_mark, te_to_name, te_to_thing, te_to_at, te_both_take, te_both_give, te_both_pair, te_both_first, te_both_second, te_both_to, te_both_both, te_both_one, te_both_mark, te_both_name, te_both_thing, te_both_at, te_at_take, te_at_give, te_at_pair, te_at_first, te_at_second, te_at_to, te_at_both, te_at_one, te_at_mark, te_at_name, te_at_thing, te_at_at, ti4_name, ti4_thing, ti4_take, ti4_give, ti4_pair, ti4_first, ti4_second, ti2_name, ti2_thing, ti2_take, ti2_give, ti2_pair, ti2_first, ti2_second, szT_0, szT_1, szT_2, szT_3, szT_4, szT_5, szT_6, szT_7, szT_8, szT_9, szT_10, szT_11, szT_12, Bool.not_true, Bool.not_false, true_and])
local macro_rules | `(tactic| walk_at "ki") => `(tactic| (walk_at "kf1"; simp (config := { failIfUnchanged := false }) only [ap_fMeth, ap_fFld, ap_gFld, ap_fMake]; walk_at "kf1"))
def spCInit (C : Addr) : DSp := fun ds O R _ => ∃ s : Addr, ds = [.ref s] ∧ O s = some (.ins C []) ∧ ∀ (O' : Ow) (dW dS : Addr), Ct C s dW dS [] [] O' → O dW = none → O dS = none → (∀ a, a ≠ s → O a ≠ none → O' a = O a) → R .non O'
theorem ok_cinit (T : TxW w K mg) : FO_Counter___init__ P w base T 1 (spCInit T.C_Counter) := by
  refine fnd_Counter___init__ T (by walk_at "len") ?_
  rintro ds O R RE ⟨s, rfl, hs, hR⟩
  unfold g_Counter___init__
  refine gSeq_step ?_
  walk_at "ki"
  intro dW hdW
  have n1 : s ≠ dW := fun q => by rw [q, hdW] at hs; cases hs
  have h1 : updO O dW (.dic []) s = some (.ins T.C_Counter []) := by rw [updO_ne n1]; exact hs
  refine ⟨isIns_of h1, ?_⟩
  rw [rFldS_of h1]
  refine ⟨by decide, ?_⟩
  walk_at "ki"
  intro dS hdS
  have n2 : dS ≠ s := fun q => by rw [q, updO_same] at hdS; cases hdS
  rw [updO_ne n2] at hdS
  have n3 : dS ≠ dW := fun q => by rw [q, updO_same] at hdS; cases hdS
  rw [updO_ne n3] at hdS
  have h2 : updO (updO (updO O dW (.dic [])) s (.ins T.C_Counter (putFD (Str.ofString "ways") (.ref dW) []))) dS (.dic []) s = some (.ins T.C_Counter [(Str.ofString "ways", .ref dW)]) := by rw [updO_ne (Ne.symm n2), updO_same]; rfl
  refine ⟨isIns_of h2, ?_⟩
  rw [rFldS_of h2]
  refine ⟨(show 1 < 1000 by decide), ?_⟩
  have e2 : putFD (Str.ofString "sums") (.ref dS) [(Str.ofString "ways", .ref dW)] = [(Str.ofString "ways", .ref dW), (Str.ofString "sums", .ref dS)] := by
    unfold putFD
    rw [if_neg (by decide +kernel)]
    rfl
  rw [e2]
  refine hR _ dW dS ⟨updO_same, ?_, ?_, Ne.symm n3, fun k _ _ d e => (by cases e), fun L m n _ _ _ d e => (by cases e)⟩ hdW hdS fun a ha ha2 => ?_
  · rw [updO_ne (Ne.symm n1), updO_ne (Ne.symm n3), updO_ne (Ne.symm n1)]; exact updO_same
  · rw [updO_ne n2]; exact updO_same
  · rw [updO_ne ha, updO_ne (fun q => ha2 (by rw [q]; exact hdS)), updO_ne ha, updO_ne (fun q => ha2 (by rw [q]; exact hdW))]
def spBegun (C : Addr) : DSp := fun ds O R _ => ∃ (s dW dS : Addr) (kn : List (Str × Kd)) (k : Kd), ds = [.ref s, .lst (kn.map kv), dK k] ∧ O s = some (ctI C dW dS) ∧ kn.length ≤ 40 ∧ (∀ x ∈ kn, x.2.mks ∧ x.2.depth < 40 ∧ x.2.leaves ≤ 1000) ∧ k.mks ∧ k.depth < 40 ∧ k.leaves ≤ 1000 ∧ (∀ e ∈ ends k, kn.length + e.1.length < 64 ∧ ∀ x ∈ e.1, x.mks ∧ x.depth < 40 ∧ x.leaves ≤ 1000) ∧ ∀ Ts, Paired (TkS (kn.map (·.2))) (ends k) Ts → R (.lst (Ts.map dTask)) O
theorem ok_begun (T : TxW w K mg) : FO_Counter_begun P w base T 44 (spBegun T.C_Counter) := by
  refine fnd_Counter_begun T (fnUp (ok_tasks T) (by decide)) (fnUp (ok_showK T 40) (by decide)) (fnUp (ok_ends T 40) (by decide)) (by walk_at "len") ?_
  rintro ds O R RE ⟨s, dW, dS, kn, k, rfl, hs, hkl, hkn, hm, hd, hl, hes, hR⟩
  unfold g_Counter_begun
  walk_at "ki"
  refine ⟨ct_no hs (by decide +kernel) (by decide +kernel), ?_⟩
  walk_at "ki"
  refine lcA_map kv (fun x => .str (kshow x.2)) kn _ _ (sz_small (by simp only [List.length_nil]; omega)) ?_ ?_
  · intro x hx Q' hQ
    obtain ⟨h1, h2, h3⟩ := hkn x hx
    simp only [kv]
    walk_at "ki"
    exact ⟨x.2, rfl, h2, by omega, h1, h3, hQ⟩
  · rw [List.nil_append]
    walk_at "ki"
    have hel := ends_len k
    refine ⟨k, rfl, hd, by omega, mks_ok k hm, hl, ?_⟩
    dsimp only
    rw [show D.lst (kn.map fun x => D.str (kshow x.2)) = tx (kn.map (·.2)) by unfold tx; rw [List.map_map]; rfl]
    refine ⟨s, dW, dS, kn.map (·.2), ends k, rfl, hs, by omega, fun e he => ?_, fun Ts hTs => hR Ts hTs⟩
    rw [List.length_map]; exact hes e he
def spCntsO (n : Nat) : DSp := fun ds O R _ => ∃ (kn : List (Str × Kd)) (k : Kd) (most : Nat) (Ts : List (List Kd)) (Ms : List Str) (v N : Nat), ds = [.lst (kn.map kv), dK k, .int most] ∧ Cu (kn.map (·.2)) Ts Ms v N ∧ kn.length ≤ 40 ∧ k.mks ∧ k.depth < 40 ∧ k.leaves ≤ 1000 ∧ (∀ t ∈ ends k, InC (kn.map (·.2)) Ts v N (kn.map (·.2) ++ t.1) most ∧ t.2 ∈ Ms) ∧ most ≤ 17 ∧ v * most + (ends k).length < n ∧
  ∀ q, O q = none → R (.ref q) (updO O q (.lst ((List.range (most + 1)).map fun s => .int (cmy (tks (kn.map (·.2)) (ends k)) s : Nat))))
theorem ok_counts (T : TxW w K mg) (n : Nat) : FO_counts_of P w base T (n + 46) (spCntsO n) := by
  refine fndG_counts_of T (fnUp (ok_cinit T) (by omega)) (by omega) (fnUp (ok_begun T) (by omega)) (fnUp (ok_cm T n).1 (by omega)) (fun ds O R RE ⟨_, _, _, _, _, _, _, q, _⟩ => by rw [q]; rfl) ?_
  rintro ds O R RE ⟨kn, k, most, Ts, Ms, v, N, rfl, u, hkl, hm, hd, hl, hT, hm17, hn, hR⟩
  have hv12 := u.v12
  have hkn : ∀ x ∈ kn, x.2.mks ∧ x.2.depth < 40 ∧ x.2.leaves ≤ 1000 := fun x hx => by
    have h1 : x.2 ∈ U0 (kn.map (·.2)) Ts := List.mem_append_left _ (List.mem_map_of_mem hx)
    have h2 := u.lk _ h1
    have h3 := u.lv _ h1
    exact ⟨h2.1, by have := h2.2; omega, by omega⟩
  unfold g_counts_of
  refine gSeq_step ?_
  walk_at "ki"
  intro s hs
  refine ⟨s, rfl, updO_same, fun O1 dW dS hc hdW hdS hfr => ⟨rfl, ?_⟩⟩
  walk_at "ki"
  refine gSeq_step ?_
  walk_at "ki"
  refine ⟨ct_no hc.i (by decide +kernel) (by decide +kernel), s, dW, dS, kn, k, rfl, hc.i, hkl, hkn, hm, hd, hl, fun e' he => ?_, fun Tk hTk => ?_⟩
  · have h1 := (hT e' he).1
    have h2 := h1.len
    rw [List.length_append, List.length_map] at h2
    refine ⟨by omega, fun x hx => ?_⟩
    have h3 := h1.u x (List.mem_append_right _ hx)
    have h5 := u.lk x h3
    have h6 := u.lv x h3
    exact ⟨h5.1, by have := h5.2; omega, by omega⟩
  dsimp only
  have hTt : ∀ t ∈ Tk, InC (kn.map (·.2)) Ts v N t.1 most ∧ t.2 ∈ Ms ∧ sortedS (t.1.map kshow) = true := fun t ht => by
    obtain ⟨x, hx, h1, h2, h3⟩ := paired_r hTk ht
    exact ⟨(hT x hx).1.perm h1, by rw [h2]; exact (hT x hx).2, h3⟩
  have hTl := Paired.length hTk
  have hel := ends_len k
  refine ⟨by omega, by omega, ?_⟩
  rw [show ((most : Int) + 1).toNat = most + 1 by omega, rangeD_map, ← tkc_tks (TkS.r hTk)] at *
  refine lcA_st (fun i O' => ∃ (kw ks : List (Key × D)), O' = upC O1 dW dS kw ks ∧ KsC (kn.map (·.2)) Ts Ms N kw ks) (fun i : Nat => D.int (0 + (i : Int))) (fun i : Nat => D.int (cmy (tkc Tk) i : Nat)) (List.range (most + 1)) [] 0 _ _ ⟨[], [], (upC_self hc).symm, hc.wo, hc.so, .nil, .nil⟩ ?_ ?_ ?_
  · simp only [List.length_nil, List.length_range]
    exact sz_small (by omega)
  · rintro x hx i O' hi ⟨kw, ks, rfl, hk⟩ Q' hQ
    have hx2 := List.mem_range.mp hx
    have hc2 := hc.up hk.w hk.s
    have hvx : v * x ≤ v * most := Nat.mul_le_mul (Nat.le_refl _) (by omega)
    walk_at "ki"
    rw [Int.zero_add]
    refine ⟨ct_no hc2.i (by decide +kernel) (by decide +kernel), s, dW, dS, kw, ks, Tk, x, kn.map (·.2), Ts, Ms, v, N, rfl, u, hc2, hk, fun t ht => ⟨(hTt t ht).1.mono (by omega), (hTt t ht).2⟩, by omega, by omega, by omega, fun kw1 ks1 hk1 => ?_⟩
    rw [upC_upC hc.ne]
    exact hQ _ ⟨kw1, ks1, rfl, hk1⟩
  · rintro O' ⟨kw, ks, rfl, hk⟩
    rw [List.nil_append]
    have hold : ∀ a c, O a = some c → upC O1 dW dS kw ks a = some c := fun a c hac => by
      have n1 : a ≠ s := fun q => by rw [q, hs] at hac; cases hac
      have h1 : updO O s (.ins T.C_Counter []) a = some c := by rw [updO_ne n1]; exact hac
      have h2 : O1 a = some c := by rw [hfr a n1 (by rw [h1]; simp)]; exact h1
      have n2 : a ≠ dW := fun q => by rw [q, hdW] at h1; cases h1
      have n3 : a ≠ dS := fun q => by rw [q, hdS] at h1; cases h1
      unfold upC
      rw [updO_ne n3, updO_ne n2]; exact h2
    intro q hq
    have hOq : O q = none := by
      cases e : O q with
      | none => rfl
      | some c => rw [hold q c e] at hq; cases hq
    refine ⟨updO O q (.lst ((List.range (most + 1)).map fun i : Nat => D.int (cmy (tkc Tk) i : Nat))), fun a c hac => ?_, hR q hOq⟩
    by_cases e : a = q
    · subst e
      rw [updO_same] at hac ⊢
      exact hac
    · rw [updO_ne e] at hac ⊢
      exact hold a c hac
end
end Kf
/-! Khw: what is there told by texts; how many such tellings there are. -/
namespace Kf
open PySem PySem.Spec L2
open PyProof.Rows hiding St
/-! ### counting without doubles -/
def bools : Nat → List (List Bool)
  | 0 => [[]]
  | n + 1 => (bools n).map (true :: ·) ++ (bools n).map (false :: ·)
theorem kwords_soK : ∀ k : Kd, k.mks → ∀ w ∈ kwords k, PyData.strOk w = true
  | .mk m, h, w, hw => by
    simp only [kwords, List.mem_singleton] at hw
    subst hw
    exact mark_so (h w (by simp [Kd.marks]))
  | .one, h, w, hw => by
    simp only [kwords, List.mem_singleton] at hw
    subst hw
    decide +kernel
  | .to a b, h, w, hw => by
    simp only [kwords, List.mem_append, List.mem_singleton] at hw
    rcases hw with (((rfl | hw) | rfl) | hw) | rfl
    · decide +kernel
    · exact kwords_soK a (fun m hm => h m (by simp [Kd.marks, hm])) w hw
    · decide +kernel
    · exact kwords_soK b (fun m hm => h m (by simp [Kd.marks, hm])) w hw
    · decide +kernel
  | .both a b, h, w, hw => by
    simp only [kwords, List.mem_append, List.mem_singleton] at hw
    rcases hw with (((rfl | hw) | rfl) | hw) | rfl
    · decide +kernel
    · exact kwords_soK a (fun m hm => h m (by simp [Kd.marks, hm])) w hw
    · decide +kernel
    · exact kwords_soK b (fun m hm => h m (by simp [Kd.marks, hm])) w hw
    · decide +kernel
theorem kshow_soK {k : Kd} (hm : k.mks) : PyData.strOk (kshow k) = true := by
  rw [kshow_eq]; exact okJoin (by decide +kernel) fun w hw => kwords_soK k hm w hw
/-! ### what is there, as texts -/
def KyOf (S : List Kd) (l : List Str) : Prop := Up l ∧ ∀ x, x ∈ l ↔ ∃ k ∈ S, kshow k = x
theorem Up.nodup {l : List Str} (h : Up l) : l.Nodup := List.Pairwise.imp (fun {a b} h e => by subst e; exact absurd h (List.lt_irrefl _)) h
theorem LK.mono {S S' : List Kd} (h : LK S) (s : ∀ x ∈ S', x ∈ S) : LK S' := fun k hk => h k (s k hk)
theorem KyOf.mem {S : List Kd} {l : List Str} (h : KyOf S l) (hS : LK S) {k : Kd} (hk : k.mks ∧ k.depth ≤ 12) : kshow k ∈ l ↔ k ∈ S := by
  rw [h.2]
  constructor
  · rintro ⟨k', hk', e⟩
    rw [← kshow_inj (hS k' hk') hk e]; exact hk'
  · exact fun h => ⟨k, h, rfl⟩
theorem KyOf.same {S S' : List Kd} {l l' : List Str} (h : KyOf S l) (h' : KyOf S' l') (hS : LK S) (hS' : LK S') : l = l' ↔ SameK S S' := by
  constructor
  · rintro rfl x
    constructor
    · exact fun hx => (h'.mem hS' (hS x hx)).mp ((h.mem hS (hS x hx)).mpr hx)
    · exact fun hx => (h.mem hS (hS' x hx)).mp ((h'.mem hS' (hS' x hx)).mpr hx)
  · intro s
    refine up_uniq h.1 h'.1 ((List.perm_ext_iff_of_nodup h.1.nodup h'.1.nodup).mpr fun x => ?_)
    rw [h.2, h'.2]
    constructor
    · rintro ⟨k, hk, e⟩; exact ⟨k, (s k).mp hk, e⟩
    · rintro ⟨k, hk, e⟩; exact ⟨k, (s k).mpr hk, e⟩
theorem KyOf.so {S : List Kd} {l : List Str} (h : KyOf S l) (hS : LK S) : ∀ s ∈ l, PyData.strOk s = true := fun s hs => by
  obtain ⟨k, hk, rfl⟩ := (h.2 s).mp hs
  exact kshow_soK (hS k hk).1
theorem KyOf.len {S : List Kd} {l : List Str} (h : KyOf S l) : l.length ≤ S.length := by
  have := nodup_le (us := S.map kshow) h.1.nodup fun x hx => by
    obtain ⟨k, hk, e⟩ := (h.2 x).mp hx
    exact List.mem_map.mpr ⟨k, hk, e⟩
  rwa [List.length_map] at this
/-! ### all that can be there -/
structure Un (U S0 : List Kd) (Ts : List (List Kd)) : Prop where
  lk : LK U
  ul : U.length < 60
  lv : lvs U ≤ 1000
  sub : ∀ x ∈ S0 ++ Ts.flatten, x ∈ U
  cl : ClT Ts (S0 ++ Ts.flatten)
  ts : Ts.length ≤ 9
  l24 : ∀ k ∈ U, k.leaves ≤ 24
  mrk : ∃ L : List Str, L.length < 60 ∧ ∀ m ∈ (U.flatMap ends).map (·.2), m ∈ L
/-- one of the things that can be there -/
def InU (S0 : List Kd) (Ts : List (List Kd)) (S : List Kd) : Prop := (∀ x ∈ S0, x ∈ S) ∧ ∀ x ∈ S, x ∈ S0 ∨ ∃ r ∈ Ts, x ∈ r ∧ ∀ y ∈ r, y ∈ S
section
variable {U S0 : List Kd} {Ts : List (List Kd)} {S : List Kd}
theorem InU.self : InU S0 Ts S0 := ⟨fun _ h => h, fun _ h => .inl h⟩
theorem InU.mem (h : InU S0 Ts S) : ∀ x ∈ S, x ∈ S0 ++ Ts.flatten := fun x hx => by
  rcases h.2 x hx with h | ⟨r, hr, h, _⟩
  · exact List.mem_append_left _ h
  · exact List.mem_append_right _ (List.mem_flatten.mpr ⟨r, hr, h⟩)
theorem InU.u (h : InU S0 Ts S) (u : Un U S0 Ts) : ∀ x ∈ S, x ∈ U := fun x hx => u.sub x (h.mem x hx)
theorem InU.lk (h : InU S0 Ts S) (u : Un U S0 Ts) : LK S := u.lk.mono (h.u u)
theorem InU.cl (h : InU S0 Ts S) (u : Un U S0 Ts) : ClT Ts S := fun k hk => u.cl k (h.mem k hk)
theorem InU.put (h : InU S0 Ts S) {r : List Kd} (hr : r = [] ∨ r ∈ Ts) : InU S0 Ts (S ++ r) := by
  refine ⟨fun x hx => List.mem_append_left _ (h.1 x hx), fun x hx => ?_⟩
  rcases List.mem_append.mp hx with hx | hx
  · rcases h.2 x hx with q | ⟨r', h1, h2, h3⟩
    · exact .inl q
    · exact .inr ⟨r', h1, h2, fun y hy => List.mem_append_left _ (h3 y hy)⟩
  · rcases hr with rfl | hr
    · cases hx
    · exact .inr ⟨r, hr, hx, fun y hy => List.mem_append_right _ hy⟩
end
/-! ### marks that can be had -/
section
variable {U S0 : List Kd} {Ts : List (List Kd)}
end
/-! ### dicts of True -/
def mkE (m : Str) : Key × D := (.inr m, .bl true)
/-! ### the one that knows what can be had -/
def MsOf (S : List Kd) (ms : List Str) : Prop := ms.Nodup ∧ ∀ m, m ∈ ms ↔ Had S m
def hvI (C dK dF : Addr) : Cell := .ins C [(Str.ofString "kinds", .ref dK), (Str.ofString "found", .ref dF)]
structure HvC (C s aK aF : Addr) (U S0 : List Kd) (Ts : List (List Kd)) (kk : List (Key × D)) (kf : List (List Key × D)) (O : Ow) : Prop where
  i : O s = some (hvI C aK aF)
  k : O aK = some (.dic kk)
  f : O aF = some (.dicT kf)
  kn : (kk.map (·.1)).Nodup
  ku : ∀ key ∈ kk.map (·.1), ∃ k ∈ U, key = .inr (kshow k)
  kv : ∀ k ∈ U, ∀ d, valD kk (.inr (kshow k)) = some d → d = dK k
  fn : (kf.map (·.1)).Nodup
  fu : ∀ key ∈ kf.map (·.1), ∃ S l, key = tsK l ∧ InU S0 Ts S ∧ KyOf S l
  fv : ∀ S l, InU S0 Ts S → KyOf S l → ∀ d, valD kf (tsK l) = some d → ∃ a ms, d = .ref a ∧ O a = some (.dic (ms.map mkE)) ∧ MsOf S ms ∧ a ≠ aK
/-- what may change -/
structure HvTo (aK aF : Addr) (E : List Addr) (O : Ow) (kk : List (Key × D)) (kf : List (List Key × D)) (O' : Ow) (kk' : List (Key × D)) (kf' : List (List Key × D)) : Prop where
  fr : ∀ a c, O a = some c → a ≠ aK → a ≠ aF → a ∉ E → O' a = some c
  gk : ∀ k d, valD kk k = some d → valD kk' k = some d
  gf : ∀ k d, valD kf' k = some d → valD kf k = some d ∨ ∃ a, d = .ref a ∧ O a = none
section
variable {C s aK aF : Addr} {U S0 : List Kd} {Ts : List (List Kd)} {kk kk' kk'' : List (Key × D)} {kf kf' kf'' : List (List Key × D)} {O O' O'' : Ow}
theorem HvTo.refl {E : List Addr} : HvTo aK aF E O kk kf O kk kf := ⟨fun _ _ h _ _ _ => h, fun _ _ h => h, fun _ _ h => .inl h⟩
theorem HvTo.trans {E : List Addr} (h : HvTo aK aF E O kk kf O' kk' kf') (h' : HvTo aK aF E O' kk' kf' O'' kk'' kf'') (e1 : O' aK ≠ none) (e2 : O' aF ≠ none) (e0 : ∀ a ∈ E, O' a ≠ none := by intro a h; cases h) : HvTo aK aF E O kk kf O'' kk'' kf'' := by
  refine ⟨fun a c e n1 n2 n3 => h'.fr a c (h.fr a c e n1 n2 n3) n1 n2 n3, fun k d e => h'.gk k d (h.gk k d e), fun k d e => ?_⟩
  rcases h'.gf k d e with e | ⟨a, rfl, e3⟩
  · exact h.gf k d e
  · refine .inr ⟨a, rfl, ?_⟩
    cases q : O a with
    | none => rfl
    | some c =>
      by_cases n1 : a = aK
      · subst n1; exact absurd e3 e1
      · by_cases n2 : a = aF
        · subst n2; exact absurd e3 e2
        · by_cases n3 : a ∈ E
          · exact absurd e3 (e0 a n3)
          · rw [h.fr a c q n1 n2 n3] at e3; cases e3
theorem HvTo.more {E E' : List Addr} (h : HvTo aK aF E O kk kf O' kk' kf') (s : ∀ a ∈ E, a ∈ E') : HvTo aK aF E' O kk kf O' kk' kf' := ⟨fun a c e n1 n2 n3 => h.fr a c e n1 n2 fun q => n3 (s a q), h.gk, h.gf⟩
/-- what was not there needs not be kept -/
theorem HvTo.new {E : List Addr} {p : Addr} {c : Cell} (h : HvTo aK aF (p :: E) (updO O p c) kk kf O' kk' kf') (hp : O p = none) : HvTo aK aF E O kk kf O' kk' kf' := by
  refine ⟨fun a c' e n1 n2 n3 => ?_, h.gk, fun k d e => ?_⟩
  · have n : a ≠ p := fun q => by rw [q, hp] at e; cases e
    refine h.fr a c' (by rw [updO_ne n]; exact e) n1 n2 fun q => ?_
    rcases List.mem_cons.mp q with q | q
    · exact n q
    · exact n3 q
  · rcases h.gf k d e with e | ⟨a, rfl, e3⟩
    · exact .inl e
    · refine .inr ⟨a, rfl, ?_⟩
      by_cases n : a = p
      · rw [n, updO_same] at e3; cases e3
      · rwa [updO_ne n] at e3
theorem HvTo.set {E : List Addr} {p : Addr} {c : Cell} (h : HvTo aK aF E O kk kf O' kk' kf') (hp : p ∈ E) : HvTo aK aF E O kk kf (updO O' p c) kk' kf' := ⟨fun a c' e n1 n2 n3 => by
    rw [updO_ne (fun q => n3 (by rw [q]; exact hp))]; exact h.fr a c' e n1 n2 n3, h.gk, h.gf⟩
theorem HvC.n1 (h : HvC C s aK aF U S0 Ts kk kf O) : aK ≠ aF := fun e => by have := h.k; rw [e, h.f] at this; cases this
theorem HvC.n2 (h : HvC C s aK aF U S0 Ts kk kf O) : s ≠ aK := fun e => by have := h.i; rw [e, h.k] at this; cases this
theorem HvC.n3 (h : HvC C s aK aF U S0 Ts kk kf O) : s ≠ aF := fun e => by have := h.i; rw [e, h.f] at this; cases this
theorem tsK_inj {l l' : List Str} (e : tsK l = tsK l') : l = l' := by
  unfold tsK at e
  exact List.map_inj_right (fun a b q => by cases q; rfl) |>.mp e
/-- a cell that is none of its own changes -/
theorem HvC.else (h : HvC C s aK aF U S0 Ts kk kf O) {p : Addr} {c : Cell} (n1 : p ≠ s) (n2 : p ≠ aK) (n3 : p ≠ aF) (n4 : ∀ k d, valD kf k = some d → d ≠ .ref p) : HvC C s aK aF U S0 Ts kk kf (updO O p c) := by
  refine ⟨by rw [updO_ne (Ne.symm n1)]; exact h.i, by rw [updO_ne (Ne.symm n2)]; exact h.k, by rw [updO_ne (Ne.symm n3)]; exact h.f, h.kn, h.ku, h.kv, h.fn, h.fu, fun S l h1 h2 d e => ?_⟩
  obtain ⟨a, ms, rfl, h3, h4, h5⟩ := h.fv S l h1 h2 d e
  exact ⟨a, ms, rfl, by rw [updO_ne (fun q => n4 _ _ e (by rw [q]))]; exact h3, h4, h5⟩
/-- one kind more is told -/
theorem HvC.putK (h : HvC C s aK aF U S0 Ts kk kf O) (u : Un U S0 Ts) {k : Kd} (hk : k ∈ U) : HvC C s aK aF U S0 Ts (putD kk (.inr (kshow k)) (dK k)) kf (updO O aK (.dic (putD kk (.inr (kshow k)) (dK k)))) := by
  refine ⟨by rw [updO_ne h.n2]; exact h.i, updO_same, by rw [updO_ne h.n1.symm]; exact h.f, ?_, ?_, ?_, h.fn, h.fu, ?_⟩
  · rw [keys_put]
    split
    · exact h.kn
    · rename_i q
      refine List.nodup_append.mpr ⟨h.kn, by simp, fun x hx y hy e => q ?_⟩
      rw [List.mem_singleton] at hy
      rw [← valD_mem, ← hy, ← e]; exact hx
  · intro x hx
    rw [keys_put] at hx
    split at hx
    · exact h.ku x hx
    · rcases List.mem_append.mp hx with hx | hx
      · exact h.ku x hx
      · exact ⟨k, hk, List.mem_singleton.mp hx⟩
  · intro k' hk' d e
    rw [valD_put] at e
    split at e
    · rename_i q
      injection q with q
      injection e with e
      rw [← e, kshow_inj (u.lk k' hk') (u.lk k hk) q]
    · exact h.kv k' hk' d e
  · intro S l h1 h2 d e
    obtain ⟨a, ms, rfl, h3, h4, h5⟩ := h.fv S l h1 h2 d e
    exact ⟨a, ms, rfl, by rw [updO_ne h5]; exact h3, h4, h5⟩
/-- what a set of kinds comes to is kept -/
theorem HvC.putF (h : HvC C s aK aF U S0 Ts kk kf O) (u : Un U S0 Ts) {S : List Kd} {l : List Str} (hS : InU S0 Ts S) (hl : KyOf S l) {p : Addr} {ms : List Str} (hp : O p = some (.dic (ms.map mkE))) (hm : MsOf S ms) (np : p ≠ aK) : HvC C s aK aF U S0 Ts kk (putD kf (tsK l) (.ref p)) (updO O aF (.dicT (putD kf (tsK l) (.ref p)))) := by
  have pf : ∀ {a : Addr} {kvs : List (Key × D)}, O a = some (.dic kvs) → a ≠ aF := fun {a kvs} e q => by rw [q, h.f] at e; cases e
  refine ⟨by rw [updO_ne h.n3]; exact h.i, by rw [updO_ne h.n1]; exact h.k, updO_same, h.kn, h.ku, h.kv, ?_, ?_, ?_⟩
  · rw [keys_put]
    split
    · exact h.fn
    · rename_i q
      refine List.nodup_append.mpr ⟨h.fn, by simp, fun x hx y hy e => q ?_⟩
      rw [List.mem_singleton] at hy
      rw [← valD_mem, ← hy, ← e]; exact hx
  · intro x hx
    rw [keys_put] at hx
    split at hx
    · exact h.fu x hx
    · rcases List.mem_append.mp hx with hx | hx
      · exact h.fu x hx
      · exact ⟨S, l, List.mem_singleton.mp hx, hS, hl⟩
  · intro S' l' h1 h2 d e
    rw [valD_put] at e
    split at e
    · rename_i q
      have q := tsK_inj q
      subst q
      injection e with e
      subst e
      have hs := (h2.same hl (h1.lk u) (hS.lk u)).mp rfl
      refine ⟨p, ms, rfl, by rw [updO_ne (pf hp)]; exact hp, ⟨hm.1, fun m => (hm.2 m).trans ⟨fun q => q.weak fun x hx => (hs x).mpr hx, fun q => q.weak fun x hx => (hs x).mp hx⟩⟩, np⟩
    · obtain ⟨a, ms', rfl, h3, h4, h5⟩ := h.fv S' l' h1 h2 d e
      exact ⟨a, ms', rfl, by rw [updO_ne (pf h3)]; exact h3, h4, h5⟩
end
/-! ### when a way's kind is had, by marks found so far -/
def okE' (S : List Kd) (M : List Str) (t : List Kd × Str) : Prop := (SameK (S ++ t.1) S ∧ t.2 ∈ M) ∨ (¬ SameK (S ++ t.1) S ∧ Had (S ++ t.1) t.2)
theorem okE'.had {S : List Kd} {M : List Str} {t : List Kd × Str} (h : okE' S M t) (hM : ∀ m ∈ M, Had S m) : Had (S ++ t.1) t.2 := by
  rcases h with ⟨s, h⟩ | ⟨_, h⟩
  · exact (hM _ h).weak fun x hx => List.mem_append_left _ hx
  · exact h
/-! ### the tree's walk -/
def mkT (l : List Str) : List Key × D := (tsK l, .bl true)
theorem valT (L : List (List Str)) (t : List Str) : (valD (L.map mkT) (tsK t)).isSome = decide (t ∈ L) := by
  rw [← valD_any, List.any_map, Bool.eq_iff_iff, List.any_eq_true, decide_eq_true_iff]
  constructor
  · rintro ⟨x, hx, h⟩
    have : tsK x = tsK t := of_decide_eq_true h
    rw [← tsK_inj this]; exact hx
  · exact fun h => ⟨t, h, decide_eq_true rfl⟩
theorem putT (L : List (List Str)) (t : List Str) : putD (L.map mkT) (tsK t) (.bl true) = (if t ∈ L then L else L ++ [t]).map mkT := by
  unfold putD
  rw [valD_any, valT]
  by_cases c : t ∈ L
  · rw [if_pos c, if_pos (decide_eq_true c), List.map_map]
    refine List.map_congr_left fun x _ => ?_
    show (if tsK x = tsK t then (tsK x, D.bl true) else (tsK x, D.bl true)) = (tsK x, D.bl true)
    split <;> rfl
  · rw [if_neg c, if_neg (by simpa using c), List.map_append]; rfl
/-! ### the types of a row and a kind -/
def subK : Kd → List Kd
  | .mk m => [.mk m]
  | .one => [.one]
  | .to a b => .to a b :: (subK a ++ subK b)
  | .both a b => .both a b :: (subK a ++ subK b)
theorem subK_len : ∀ k : Kd, (subK k).length + 1 = 2 * k.leaves
  | .mk _ => rfl
  | .one => rfl
  | .to a b => by have := subK_len a; have := subK_len b; simp only [subK, Kd.leaves, List.length_cons, List.length_append]; omega
  | .both a b => by have := subK_len a; have := subK_len b; simp only [subK, Kd.leaves, List.length_cons, List.length_append]; omega
theorem subK_self (k : Kd) : k ∈ subK k := by cases k <;> simp [subK]
theorem subK_in : ∀ (k x : Kd), x ∈ subK k → x.leaves ≤ k.leaves ∧ x.depth ≤ k.depth ∧ ∀ m ∈ x.marks, m ∈ k.marks
  | .mk m, x, h => by rw [subK, List.mem_singleton] at h; subst h; exact ⟨Nat.le_refl _, Nat.le_refl _, fun _ h => h⟩
  | .one, x, h => by rw [subK, List.mem_singleton] at h; subst h; exact ⟨Nat.le_refl _, Nat.le_refl _, fun _ h => h⟩
  | .to a b, x, h => by
    rw [subK] at h
    rcases List.mem_cons.mp h with rfl | h
    · exact ⟨Nat.le_refl _, Nat.le_refl _, fun _ h => h⟩
    · simp only [Kd.leaves, Kd.depth, Kd.marks]
      rcases List.mem_append.mp h with h | h
      · obtain ⟨h1, h2, h3⟩ := subK_in a x h
        exact ⟨by omega, by omega, fun m hm => List.mem_append_left _ (h3 m hm)⟩
      · obtain ⟨h1, h2, h3⟩ := subK_in b x h
        exact ⟨by omega, by omega, fun m hm => List.mem_append_right _ (h3 m hm)⟩
  | .both a b, x, h => by
    rw [subK] at h
    rcases List.mem_cons.mp h with rfl | h
    · exact ⟨Nat.le_refl _, Nat.le_refl _, fun _ h => h⟩
    · simp only [Kd.leaves, Kd.depth, Kd.marks]
      rcases List.mem_append.mp h with h | h
      · obtain ⟨h1, h2, h3⟩ := subK_in a x h
        exact ⟨by omega, by omega, fun m hm => List.mem_append_left _ (h3 m hm)⟩
      · obtain ⟨h1, h2, h3⟩ := subK_in b x h
        exact ⟨by omega, by omega, fun m hm => List.mem_append_right _ (h3 m hm)⟩
mutual
theorem tyR_mem : ∀ (k : Kd) (r : List Kd), r ∈ tyR k → ∀ x ∈ r, x ∈ subK k ∧ ∀ z ∈ tyR x, z ∈ tyR k
  | .mk _, r, h, x, hx => by rw [tyR] at h; cases h
  | .one, r, h, x, hx => by rw [tyR] at h; cases h
  | .both a b, r, h, x, hx => by
    rw [tyR] at h ⊢
    rw [subK]
    rcases List.mem_append.mp h with h | h
    · obtain ⟨h1, h2⟩ := tyR_mem a r h x hx
      exact ⟨by simp [h1], fun z hz => List.mem_append_left _ (h2 z hz)⟩
    · obtain ⟨h1, h2⟩ := tyR_mem b r h x hx
      exact ⟨by simp [h1], fun z hz => List.mem_append_right _ (h2 z hz)⟩
  | .to a b, r, h, x, hx => by
    rw [tyR] at h ⊢
    rw [subK]
    rcases List.mem_append.mp h with h | h
    · rcases tyI_mem [] a r h x hx with h | ⟨h1, h2⟩
      · cases h
      · exact ⟨by simp [h1], fun z hz => List.mem_append_left _ (h2 z hz)⟩
    · obtain ⟨h1, h2⟩ := tyR_mem b r h x hx
      exact ⟨by simp [h1], fun z hz => List.mem_append_right _ (h2 z hz)⟩
theorem tyI_mem : ∀ (p : List Kd) (k : Kd) (r : List Kd), r ∈ tyI p k → ∀ x ∈ r, x ∈ p ∨ (x ∈ subK k ∧ ∀ z ∈ tyR x, z ∈ tyI p k)
  | p, .mk _, r, h, x, hx => by rw [tyI] at h; cases h
  | p, .one, r, h, x, hx => by rw [tyI] at h; cases h
  | p, .both a b, r, h, x, hx => by
    rw [tyI] at h ⊢
    rw [subK]
    rcases List.mem_append.mp h with h | h
    · rcases tyI_mem p a r h x hx with h | ⟨h1, h2⟩
      · exact .inl h
      · exact .inr ⟨by simp [h1], fun z hz => List.mem_append_left _ (h2 z hz)⟩
    · rcases tyI_mem p b r h x hx with h | ⟨h1, h2⟩
      · exact .inl h
      · exact .inr ⟨by simp [h1], fun z hz => List.mem_append_right _ (h2 z hz)⟩
  | p, .to c d, r, h, x, hx => by
    rw [tyI] at h ⊢
    rw [subK]
    have put : ∀ x, x ∈ p ++ [c] → x ∈ p ∨ (x ∈ Kd.to c d :: (subK c ++ subK d) ∧ ∀ z ∈ tyR x, z ∈ tyR c ++ ((if hd d = true then [p ++ [c]] else []) ++ tyI (p ++ [c]) d)) := fun x hx => by
      rcases List.mem_append.mp hx with hx | hx
      · exact .inl hx
      · rw [List.mem_singleton.mp hx]
        exact .inr ⟨by simp [subK_self], fun z hz => List.mem_append_left _ hz⟩
    rcases List.mem_append.mp h with h | h
    · obtain ⟨h1, h2⟩ := tyR_mem c r h x hx
      exact .inr ⟨by simp [h1], fun z hz => List.mem_append_left _ (h2 z hz)⟩
    · rcases List.mem_append.mp h with h | h
      · split at h
        · rw [List.mem_singleton.mp h] at hx
          exact put x hx
        · cases h
      · rcases tyI_mem (p ++ [c]) d r h x hx with h | ⟨h1, h2⟩
        · exact put x h
        · exact .inr ⟨by simp [h1], fun z hz => List.mem_append_right _ (List.mem_append_right _ (h2 z hz))⟩
end
theorem flat_tyR : ∀ S : List Kd, 2 * (S.flatMap tyR).length + S.length ≤ lvs S
  | [] => by simp [lvs]
  | k :: S => by
    have h1 := tyR_len k
    have h2 := flat_tyR S
    simp only [lvs, List.flatMap_cons, List.length_append, List.length_cons, List.map_cons, List.sum_cons] at *
    omega
def tsOf (S0 : List Kd) (k : Kd) : List (List Kd) := S0.flatMap tyR ++ tyI [] k
def uOf (S0 : List Kd) (k : Kd) : List Kd := (S0 ++ [k]).flatMap subK
theorem flat_subK : ∀ S : List Kd, (S.flatMap subK).length + S.length = 2 * lvs S
  | [] => rfl
  | k :: S => by
    have h1 := subK_len k
    have h2 := flat_subK S
    simp only [lvs, List.flatMap_cons, List.length_append, List.length_cons, List.map_cons, List.sum_cons] at *
    omega
theorem lvs_le {v : Nat} : ∀ {L : List Kd}, (∀ x ∈ L, x.leaves ≤ v) → lvs L ≤ L.length * v
  | [], _ => by simp [lvs]
  | k :: L, h => by
    have h1 := h k List.mem_cons_self
    have h2 := lvs_le (L := L) fun x hx => h x (List.mem_cons_of_mem _ hx)
    simp only [lvs, List.map_cons, List.sum_cons, List.length_cons, Nat.add_mul] at *
    omega
theorem marks_lenK : ∀ k : Kd, k.marks.length ≤ k.leaves
  | .mk _ => by simp [Kd.marks, Kd.leaves]
  | .one => by simp [Kd.marks, Kd.leaves]
  | .to a b => by have := marks_lenK a; have := marks_lenK b; simp only [Kd.marks, Kd.leaves, List.length_append]; omega
  | .both a b => by have := marks_lenK a; have := marks_lenK b; simp only [Kd.marks, Kd.leaves, List.length_append]; omega
theorem flat_marks : ∀ S : List Kd, (S.flatMap Kd.marks).length ≤ lvs S
  | [] => by simp [lvs]
  | k :: S => by
    have h1 := marks_lenK k
    have h2 := flat_marks S
    simp only [lvs, List.flatMap_cons, List.length_append, List.map_cons, List.sum_cons] at *
    omega
theorem un_of {S0 : List Kd} {k : Kd} (hk : LK (S0 ++ [k])) (hl : lvs S0 + k.leaves ≤ 18) : Un (uOf S0 k) S0 (tsOf S0 k) := by
  have hlv : lvs (S0 ++ [k]) ≤ 18 := by rw [lvs_app]; simp [lvs] at *; omega
  have h24 : ∀ x ∈ uOf S0 k, ∃ y ∈ S0 ++ [k], x ∈ subK y := fun x hx => by
    obtain ⟨y, hy, hx⟩ := List.mem_flatMap.mp hx
    exact ⟨y, hy, hx⟩
  have hle : ∀ y ∈ S0 ++ [k], y.leaves ≤ 18 := fun y hy => by
    have : y.leaves ≤ lvs (S0 ++ [k]) := mem_sum hy
    omega
  have hul : (uOf S0 k).length + (S0 ++ [k]).length = 2 * lvs (S0 ++ [k]) := flat_subK _
  have hkl := subK_self k
  refine ⟨fun x hx => ?_, by omega, ?_, fun x hx => ?_, fun x hx r hr => ?_, ?_, fun x hx => ?_, (S0 ++ [k]).flatMap Kd.marks, ?_, fun m hm => ?_⟩
  · obtain ⟨y, hy, hx⟩ := h24 x hx
    obtain ⟨_, h2, h3⟩ := subK_in y x hx
    exact ⟨fun m hm => (hk y hy).1 m (h3 m hm), by have := (hk y hy).2; omega⟩
  · have h1 := lvs_le (v := 18) (L := uOf S0 k) fun x hx => by
      obtain ⟨y, hy, hx⟩ := h24 x hx
      have := (subK_in y x hx).1
      have := hle y hy
      omega
    have h2 : (uOf S0 k).length * 18 ≤ 36 * 18 := Nat.mul_le_mul_right _ (by omega)
    omega
  · rcases List.mem_append.mp hx with hx | hx
    · exact List.mem_flatMap.mpr ⟨x, List.mem_append_left _ hx, subK_self x⟩
    · obtain ⟨r, hr, hx⟩ := List.mem_flatten.mp hx
      rcases List.mem_append.mp hr with hr | hr
      · obtain ⟨y, hy, hr⟩ := List.mem_flatMap.mp hr
        exact List.mem_flatMap.mpr ⟨y, List.mem_append_left _ hy, (tyR_mem y r hr x hx).1⟩
      · rcases tyI_mem [] k r hr x hx with h | h
        · cases h
        · exact List.mem_flatMap.mpr ⟨k, by simp, h.1⟩
  · rcases List.mem_append.mp hx with hx | hx
    · exact List.mem_append_left _ (List.mem_flatMap.mpr ⟨x, hx, hr⟩)
    · obtain ⟨r', hr', hx⟩ := List.mem_flatten.mp hx
      rcases List.mem_append.mp hr' with hr' | hr'
      · obtain ⟨y, hy, hr'⟩ := List.mem_flatMap.mp hr'
        exact List.mem_append_left _ (List.mem_flatMap.mpr ⟨y, hy, (tyR_mem y r' hr' x hx).2 r hr⟩)
      · rcases tyI_mem [] k r' hr' x hx with h | h
        · cases h
        · exact List.mem_append_right _ (h.2 r hr)
  · have h1 := flat_tyR S0
    have h2 := tyI_len [] k
    unfold tsOf
    rw [List.length_append]
    omega
  · obtain ⟨y, hy, hx⟩ := h24 x hx
    have := (subK_in y x hx).1
    have := hle y hy
    omega
  · have := flat_marks (S0 ++ [k])
    omega
  · obtain ⟨e, he, rfl⟩ := List.mem_map.mp hm
    obtain ⟨x, hx, he⟩ := List.mem_flatMap.mp he
    obtain ⟨y, hy, hx⟩ := h24 x hx
    exact List.mem_flatMap.mpr ⟨y, hy, (subK_in y x hx).2.2 _ (ends_in x e he).2.2.2⟩
/-! ### a tree that bars -/
def BarsT (S0 : List Kd) (k : Kd) (st : ST) : Prop := GoodS st ∧ (∀ u ∈ sbs st, Up u.ms ∧ u.ms.length ≤ 12 ∧ ∀ m ∈ u.ms, isMarkB m = true ∧ m ∈ (S0 ++ [k]).flatMap Kd.marks) ∧ (stT st).dep ≤ 10 ∧ (sbs st).length ≤ 66 ∧ ∃ t ∈ ends k, SameK st.S (S0 ++ t.1) ∧ ¬ Had (S0 ++ t.1) t.2
theorem BarsT.no {S0 : List Kd} {k : Kd} {st : ST} (h : BarsT S0 k st) : ¬ HadK S0 k := fun q => by
  obtain ⟨_, _, _, _, t, ht, _, hn⟩ := h
  exact hn (q t ht)
theorem BarsT.bars {S0 : List Kd} {k : Kd} {st : ST} (h : BarsT S0 k st) : (∀ x ∈ S0, forces x (stT st) = true) ∧ forces k (stT st) = false := by
  obtain ⟨h1, _, _, _, t, ht, hs, hn⟩ := h
  exact good_bars h1 ht hs hn
theorem BarsT.ws {S0 : List Kd} {k : Kd} {st : ST} (h : BarsT S0 k st) : ∀ s ∈ subs (stT st), Up s.ms ∧ s.ms.length ≤ 12 ∧ ∀ m ∈ s.ms, isMarkB m = true := fun s hs => by
  rw [subs_stT] at hs
  obtain ⟨u, hu, rfl⟩ := List.mem_map.mp hs
  rw [stT_ms]
  exact ⟨(h.2.1 u hu).1, (h.2.1 u hu).2.1, fun m hm => ((h.2.1 u hu).2.2 m hm).1⟩
theorem BarsT.over {S0 : List Kd} {k : Kd} {st : ST} (h : BarsT S0 k st) : ∀ s ∈ subs (stT st), ∀ m ∈ s.ms, m ∈ (S0 ++ [k]).flatMap Kd.marks := fun s hs m hm => by
  rw [subs_stT] at hs
  obtain ⟨u, hu, rfl⟩ := List.mem_map.mp hs
  rw [stT_ms] at hm
  exact ((h.2.1 u hu).2.2 m hm).2
theorem BarsT.len {S0 : List Kd} {k : Kd} {st : ST} (h : BarsT S0 k st) : (subs (stT st)).length ≤ 66 := by
  rw [subs_stT, List.length_map]; exact h.2.2.2.1
/-! ### what can be had, moved over -/
end Kf
/-! Kcy: the law's own key; a counter for a row and a kind. -/
namespace Kf
open PySem PySem.Spec L2
open PyProof.Rows hiding St
/-! ### the law's own key -/
/-! ### a row and a kind -/
mutual
theorem tyR_lt : ∀ (k : Kd) (r : List Kd), r ∈ tyR k → ∀ x ∈ r, x.leaves < k.leaves
  | .mk _, r, h, x, hx => by rw [tyR] at h; cases h
  | .one, r, h, x, hx => by rw [tyR] at h; cases h
  | .both a b, r, h, x, hx => by
    rw [tyR] at h
    have := lvs_pos a; have := lvs_pos b
    simp only [Kd.leaves]
    rcases List.mem_append.mp h with h | h
    · have := tyR_lt a r h x hx; omega
    · have := tyR_lt b r h x hx; omega
  | .to a b, r, h, x, hx => by
    rw [tyR] at h
    have := lvs_pos a; have := lvs_pos b
    simp only [Kd.leaves]
    rcases List.mem_append.mp h with h | h
    · rcases tyI_lt [] a r h x hx with h | h
      · cases h
      · omega
    · have := tyR_lt b r h x hx; omega
theorem tyI_lt : ∀ (p : List Kd) (k : Kd) (r : List Kd), r ∈ tyI p k → ∀ x ∈ r, x ∈ p ∨ x.leaves < k.leaves
  | p, .mk _, r, h, x, hx => by rw [tyI] at h; cases h
  | p, .one, r, h, x, hx => by rw [tyI] at h; cases h
  | p, .both a b, r, h, x, hx => by
    rw [tyI] at h
    have := lvs_pos a; have := lvs_pos b
    simp only [Kd.leaves]
    rcases List.mem_append.mp h with h | h
    · rcases tyI_lt p a r h x hx with h | h
      · exact .inl h
      · exact .inr (by omega)
    · rcases tyI_lt p b r h x hx with h | h
      · exact .inl h
      · exact .inr (by omega)
  | p, .to c d, r, h, x, hx => by
    rw [tyI] at h
    have := lvs_pos c; have := lvs_pos d
    simp only [Kd.leaves]
    have put : x ∈ p ++ [c] → x ∈ p ∨ x.leaves < c.leaves + d.leaves := fun hx => by
      rcases List.mem_append.mp hx with hx | hx
      · exact .inl hx
      · rw [List.mem_singleton.mp hx]; exact .inr (by omega)
    rcases List.mem_append.mp h with h | h
    · have := tyR_lt c r h x hx; exact .inr (by omega)
    · rcases List.mem_append.mp h with h | h
      · split at h
        · rw [List.mem_singleton.mp h] at hx
          exact put hx
        · cases h
      · rcases tyI_lt (p ++ [c]) d r h x hx with h | h
        · exact put h
        · exact .inr (by omega)
end
theorem cu_row {S0 : List Kd} {k : Kd} {v N : Nat} {Ms : List Str} (hk : LK (S0 ++ [k])) (hl : lvs S0 + k.leaves ≤ 13) (hv1 : 1 ≤ v) (hv12 : v ≤ 12) (hv : ∀ x ∈ S0, x.leaves ≤ v) (hkv : k.leaves ≤ v + 1) (hN : N ≤ 17) (hm : ∀ x ∈ S0 ++ [k], ∀ m ∈ x.marks, m ∈ Ms) (hmm : ∀ m ∈ Ms, isMarkB m = true) (hml : Ms.length ≤ 3) : Cu S0 (tsOf S0 k) Ms v N := by
  have un := un_of hk (by omega)
  have hin : ∀ x ∈ U0 S0 (tsOf S0 k), ∃ y ∈ S0 ++ [k], x ∈ subK y := fun x hx => by
    obtain ⟨y, hy, hx⟩ := List.mem_flatMap.mp (un.sub x hx)
    exact ⟨y, hy, hx⟩
  refine ⟨fun x hx => un.lk x (un.sub x hx), fun x hx => ?_, hv1, hv12, un.cl, fun x hx m hmx => ?_, hmm, ?_, hml, hN, ?_⟩
  · rcases List.mem_append.mp hx with hx | hx
    · exact hv x hx
    · obtain ⟨r, hr, hx⟩ := List.mem_flatten.mp hx
      rcases List.mem_append.mp hr with hr | hr
      · obtain ⟨y, hy, hr⟩ := List.mem_flatMap.mp hr
        have := tyR_lt y r hr x hx
        have := hv y hy
        omega
      · rcases tyI_lt [] k r hr x hx with h | h
        · cases h
        · omega
  · obtain ⟨y, hy, hx⟩ := hin x hx
    exact hm y hy m ((subK_in y x hx).2.2 m hmx)
  · have h1 := flat_tyR S0
    have h2 := tyI_len [] k
    unfold tsOf
    rw [List.length_append]
    omega
  · have key : ∀ (T : List (List Kd)), (∀ r ∈ T, r.length ≤ 13) → T.flatten.length ≤ T.length * 13 := fun T h => by
      induction T with
      | nil => simp
      | cons r T ih =>
        have := ih fun q hq => h q (List.mem_cons_of_mem _ hq)
        have := h r List.mem_cons_self
        rw [List.flatten_cons, List.length_append, List.length_cons, Nat.add_mul]; omega
    have hts : (tsOf S0 k).length ≤ 6 := by
      have h1 := flat_tyR S0
      have h2 := tyI_len [] k
      unfold tsOf
      rw [List.length_append]
      omega
    have hS := lvs_len S0
    have h3 : ∀ r ∈ tsOf S0 k, r.length ≤ 13 := fun r hr => by
      have hfin : ∀ (p : List Kd) (y : Kd), y.leaves ≤ 13 → (∀ r ∈ tyR y, r.length ≤ y.leaves) ∧ (∀ r ∈ tyI p y, r.length ≤ p.length + y.leaves) := by
        intro p y
        induction y generalizing p with
        | mk m => intro _; simp [tyR, tyI]
        | one => intro _; simp [tyR, tyI]
        | both a b iha ihb =>
          intro h
          simp only [Kd.leaves] at h ⊢
          have ha := iha p (by omega)
          have hb := ihb p (by omega)
          refine ⟨fun r hr => ?_, fun r hr => ?_⟩
          · rw [tyR] at hr
            rcases List.mem_append.mp hr with hr | hr
            · have := ha.1 r hr; omega
            · have := hb.1 r hr; omega
          · rw [tyI] at hr
            rcases List.mem_append.mp hr with hr | hr
            · have := ha.2 r hr; omega
            · have := hb.2 r hr; omega
        | to a b iha ihb =>
          intro h
          simp only [Kd.leaves] at h ⊢
          have ha := iha [] (by omega)
          have hb := ihb (p ++ [a]) (by omega)
          have := lvs_pos a; have := lvs_pos b
          refine ⟨fun r hr => ?_, fun r hr => ?_⟩
          · rw [tyR] at hr
            rcases List.mem_append.mp hr with hr | hr
            · have := ha.2 r hr; simp only [List.length_nil] at this; omega
            · have := hb.1 r hr; omega
          · rw [tyI] at hr
            rcases List.mem_append.mp hr with hr | hr
            · have := ha.1 r hr; omega
            · rcases List.mem_append.mp hr with hr | hr
              · split at hr
                · rw [List.mem_singleton.mp hr, List.length_append, List.length_singleton]; omega
                · cases hr
              · have := hb.2 r hr
                rw [List.length_append, List.length_singleton] at this
                omega
      rcases List.mem_append.mp hr with hr | hr
      · obtain ⟨y, hy, hr⟩ := List.mem_flatMap.mp hr
        have h4 : y.leaves ≤ lvs S0 := mem_sum hy
        have := (hfin [] y (by omega)).1 r hr
        omega
      · have := (hfin [] k (by omega)).2 r hr
        simp only [List.length_nil] at this
        omega
    have := key _ h3
    have : (tsOf S0 k).length * 13 ≤ 6 * 13 := Nat.mul_le_mul_right _ hts
    unfold U0
    rw [List.length_append]
    omega
theorem inC_start {S0 : List Kd} {k : Kd} {v N most : Nat} {t : List Kd × Str} (ht : t ∈ ends k) (hl : S0.length + t.1.length + (v - 2) * most ≤ 60) (hN : most + 1 ≤ N) : InC S0 (tsOf S0 k) v N (S0 ++ t.1) most := by
  have e0 := expd_zero (tsOf S0 k)
  have hs : ∀ l : List (List Kd), (l.map fun _ => 0).sum = 0 := fun l => by induction l with
    | nil => rfl
    | cons x r ih => rw [List.map_cons, List.sum_cons, ih]
  refine ⟨?_, by rw [List.length_append]; exact hl⟩
  rcases end_ty [] k t ht with ⟨h, _⟩ | h
  · exact ⟨(tsOf S0 k).map fun _ => 0, List.length_map .., by rw [hs]; omega, by rw [h, e0]⟩
  · obtain ⟨c, g1, g2, g3⟩ := expd_add (Ts := tsOf S0 k) (v := (tsOf S0 k).map fun _ => 0) (r := t.1) (List.mem_append_right _ h) (List.length_map ..)
    rw [hs] at g2
    rw [e0, List.nil_append] at g3
    exact ⟨c, g1, by omega, g3.symm.append_left _⟩
end Kf
/-! Kre: how rows of names and kinds are shown; shown alike only what is alike. -/
namespace Kf
open PySem PySem.Spec L2
open PyProof.Rows hiding St
/-- small letters and figures -/
def wdc (c : Nat) : Bool := (48 ≤ c && c ≤ 57) || (97 ≤ c && c ≤ 122)
def Wd (x : Str) : Prop := ∀ c ∈ x.cps.toList, wdc c = true
theorem wdc_mem {c : Nat} (h : wdc c = true) : c ∈ (List.range 10).map (· + 48) ++ (List.range 26).map (· + 97) := by
  unfold wdc at h
  simp only [Bool.or_eq_true, Bool.and_eq_true, decide_eq_true_eq] at h
  rw [List.mem_append, List.mem_map, List.mem_map]
  rcases h with ⟨h1, h2⟩ | ⟨h1, h2⟩
  · exact .inl ⟨c - 48, List.mem_range.mpr (by omega), by omega⟩
  · exact .inr ⟨c - 97, List.mem_range.mpr (by omega), by omega⟩
theorem reprChar_wd {c : Nat} (h : wdc c = true) : Builtin.Str.reprChar 39 c = [c] := by
  have key : ∀ c ∈ (List.range 10).map (· + 48) ++ (List.range 26).map (· + 97), Builtin.Str.reprChar 39 c = [c] := by decide +kernel
  exact key c (wdc_mem h)
theorem fold_wd : ∀ (l : List Nat) (acc : Array Nat), (∀ c ∈ l, wdc c = true) → (l.foldl (fun out c => out ++ (Builtin.Str.reprChar 39 c).toArray) acc).toList = acc.toList ++ l
  | [], acc, _ => by simp
  | c :: r, acc, h => by
    rw [List.foldl_cons, fold_wd r _ fun x hx => h x (List.mem_cons_of_mem _ hx), reprChar_wd (h c List.mem_cons_self)]
    simp
theorem reprText_wd {x : Str} (h : Wd x) : (reprText x).cps.toList = 39 :: (x.cps.toList ++ [39]) := by
  have h39 : x.cps.contains 39 = false := by
    rw [Bool.eq_false_iff]
    intro q
    have := h 39 (by simpa using q)
    exact absurd this (by decide)
  have hq : reprQuote x = 39 := by unfold reprQuote; rw [h39]; rfl
  unfold reprText
  rw [hq]
  show (Array.push _ 39).toList = _
  rw [Array.toList_push, ← Array.foldl_toList, fold_wd _ _ h]
  rfl
def cpsOf (s : String) : List Nat := (Str.ofString s).cps.toList
/-- a kind, shown -/
def rkD : Kd → PyData
  | .mk m => .tuple [.str "mark", .str m]
  | .one => .tuple [.str "one"]
  | .to a b => .tuple [.str "to", rkD a, rkD b]
  | .both a b => .tuple [.str "both", rkD a, rkD b]
theorem toPy_dK : ∀ k : Kd, toPy (dK k) = rkD k
  | .mk m => rfl
  | .one => rfl
  | .to a b => by simp only [dK, rkD, toPy, toPys, toPy_dK a, toPy_dK b]
  | .both a b => by simp only [dK, rkD, toPy, toPys, toPy_dK a, toPy_dK b]
def rkL : Kd → List Nat
  | .mk m => cpsOf "('mark', '" ++ (m.cps.toList ++ cpsOf "')")
  | .one => cpsOf "('one',)"
  | .to a b => cpsOf "('to', " ++ (rkL a ++ (cpsOf ", " ++ (rkL b ++ cpsOf ")")))
  | .both a b => cpsOf "('both', " ++ (rkL a ++ (cpsOf ", " ++ (rkL b ++ cpsOf ")")))
theorem tup3 (a b c : Str) : (tupleText [a, b, c]).cps.toList = cpsOf "(" ++ (a.cps.toList ++ (cpsOf ", " ++ (b.cps.toList ++ (cpsOf ", " ++ (c.cps.toList ++ cpsOf ")"))))) := by
  have e : tupleText [a, b, c] = ("(" : Str) ++ (a ++ ", " ++ (b ++ ", " ++ c)) ++ (")" : Str) := rfl
  rw [e]
  simp only [tl_app, List.append_assoc]
  rfl
theorem tup2 (a b : Str) : (tupleText [a, b]).cps.toList = cpsOf "(" ++ (a.cps.toList ++ (cpsOf ", " ++ (b.cps.toList ++ cpsOf ")"))) := by
  have e : tupleText [a, b] = ("(" : Str) ++ (a ++ ", " ++ b) ++ (")" : Str) := rfl
  rw [e]
  simp only [tl_app, List.append_assoc]
  rfl
theorem wd_words : Wd "mark" ∧ Wd "one" ∧ Wd "to" ∧ Wd "both" := by
  refine ⟨?_, ?_, ?_, ?_⟩ <;> (unfold Wd; decide +kernel)
theorem mark_wd {m : Str} (h : isMarkB m = true) : Wd m := by
  unfold isMarkB at h
  simp only [Bool.and_eq_true, List.all_eq_true] at h
  intro c hc
  have h1 := h.1 c hc
  unfold letB at h1
  exact (show ∀ c ∈ abc.cps.toList, wdc c = true by decide +kernel) c (of_decide_eq_true h1)
theorem rk_shown : ∀ k : Kd, k.mks → (rkD k).shown.cps.toList = rkL k
  | .mk m, h => by
    rw [rkD, PyData.shown, PyData.shownAll, PyData.shownAll, PyData.shownAll, PyData.shown, PyData.shown, tup2, reprText_wd wd_words.1, reprText_wd (mark_wd (h m (by simp [Kd.marks])))]
    simp only [rkL, List.append_assoc, List.cons_append, List.nil_append]
    rfl
  | .one, h => by decide +kernel
  | .to a b, h => by
    rw [rkD, PyData.shown, PyData.shownAll, PyData.shownAll, PyData.shownAll, PyData.shownAll, PyData.shown, tup3, reprText_wd wd_words.2.2.1, rk_shown a fun m hm => h m (by simp [Kd.marks, hm]), rk_shown b fun m hm => h m (by simp [Kd.marks, hm])]
    simp only [rkL, List.append_assoc, List.cons_append, List.nil_append]
    rfl
  | .both a b, h => by
    rw [rkD, PyData.shown, PyData.shownAll, PyData.shownAll, PyData.shownAll, PyData.shownAll, PyData.shown, tup3, reprText_wd wd_words.2.2.2, rk_shown a fun m hm => h m (by simp [Kd.marks, hm]), rk_shown b fun m hm => h m (by simp [Kd.marks, hm])]
    simp only [rkL, List.append_assoc, List.cons_append, List.nil_append]
    rfl
/-- a word and a sign that is none of its signs -/
theorem wd_cut {a a' b b' : List Nat} {c : Nat} (hc : wdc c = false) (h : ∀ x ∈ a, wdc x = true) (h' : ∀ x ∈ a', wdc x = true) (e : a ++ c :: b = a' ++ c :: b') : a = a' ∧ b = b' := by
  induction a generalizing a' with
  | nil => cases a' with
    | nil => simpa using e
    | cons x r =>
      simp only [List.nil_append, List.cons_append, List.cons.injEq] at e
      have := h' x List.mem_cons_self
      rw [← e.1, hc] at this; cases this
  | cons y q ih => cases a' with
    | nil =>
      simp only [List.nil_append, List.cons_append, List.cons.injEq] at e
      have := h y List.mem_cons_self
      rw [e.1, hc] at this; cases this
    | cons x r =>
      simp only [List.cons_append, List.cons.injEq] at e
      obtain ⟨h1, h2⟩ := ih (fun m hm => h m (List.mem_cons_of_mem _ hm)) (fun m hm => h' m (List.mem_cons_of_mem _ hm)) e.2
      exact ⟨by rw [e.1, h1], h2⟩
def ktag : Kd → Nat
  | .mk _ => 109
  | .one => 111
  | .to _ _ => 116
  | .both _ _ => 98
theorem rk_tag (k : Kd) (u : List Nat) : (rkL k ++ u)[2]? = some (ktag k) := by
  have p1 : cpsOf "('mark', '" = 40 :: 39 :: 109 :: (cpsOf "('mark', '").drop 3 := by decide +kernel
  have p2 : cpsOf "('one',)" = 40 :: 39 :: 111 :: (cpsOf "('one',)").drop 3 := by decide +kernel
  have p3 : cpsOf "('to', " = 40 :: 39 :: 116 :: (cpsOf "('to', ").drop 3 := by decide +kernel
  have p4 : cpsOf "('both', " = 40 :: 39 :: 98 :: (cpsOf "('both', ").drop 3 := by decide +kernel
  cases k with
  | mk m => rw [rkL, p1]; rfl
  | one => rw [rkL, p2]; rfl
  | to a b => rw [rkL, p3]; rfl
  | both a b => rw [rkL, p4]; rfl
theorem rkL_inj : ∀ {k k' : Kd} {u v : List Nat}, k.mks → k'.mks → rkL k ++ u = rkL k' ++ v → k = k' ∧ u = v := by
  intro k
  induction k with
  | mk m =>
    intro k' u v h h' e
    have ht := rk_tag (.mk m) u
    rw [e, rk_tag] at ht
    cases k' with
    | mk m' =>
      simp only [rkL, List.append_assoc] at e
      have e := List.append_cancel_left e
      have e : m.cps.toList ++ 39 :: (41 :: u) = m'.cps.toList ++ 39 :: (41 :: v) := e
      obtain ⟨h1, h2⟩ := wd_cut (by decide) (mark_wd (h m (by simp [Kd.marks]))) (mark_wd (h' m' (by simp [Kd.marks]))) e
      simp only [List.cons.injEq, true_and] at h2
      exact ⟨by rw [str_ext h1], h2⟩
    | one => simp [ktag] at ht
    | to a b => simp [ktag] at ht
    | both a b => simp [ktag] at ht
  | one =>
    intro k' u v h h' e
    have ht := rk_tag .one u
    rw [e, rk_tag] at ht
    cases k' with
    | one => exact ⟨rfl, List.append_cancel_left e⟩
    | mk m' => simp [ktag] at ht
    | to a b => simp [ktag] at ht
    | both a b => simp [ktag] at ht
  | to a b iha ihb =>
    intro k' u v h h' e
    have ht := rk_tag (.to a b) u
    rw [e, rk_tag] at ht
    cases k' with
    | to a' b' =>
      simp only [rkL, List.append_assoc] at e
      have e := List.append_cancel_left e
      obtain ⟨rfl, e2⟩ := iha (fun m hm => h m (by simp [Kd.marks, hm])) (fun m hm => h' m (by simp [Kd.marks, hm])) e
      obtain ⟨rfl, e3⟩ := ihb (fun m hm => h m (by simp [Kd.marks, hm])) (fun m hm => h' m (by simp [Kd.marks, hm])) (List.append_cancel_left e2)
      exact ⟨rfl, List.append_cancel_left e3⟩
    | mk m' => simp [ktag] at ht
    | one => simp [ktag] at ht
    | both a b => simp [ktag] at ht
  | both a b iha ihb =>
    intro k' u v h h' e
    have ht := rk_tag (.both a b) u
    rw [e, rk_tag] at ht
    cases k' with
    | both a' b' =>
      simp only [rkL, List.append_assoc] at e
      have e := List.append_cancel_left e
      obtain ⟨rfl, e2⟩ := iha (fun m hm => h m (by simp [Kd.marks, hm])) (fun m hm => h' m (by simp [Kd.marks, hm])) e
      obtain ⟨rfl, e3⟩ := ihb (fun m hm => h m (by simp [Kd.marks, hm])) (fun m hm => h' m (by simp [Kd.marks, hm])) (List.append_cancel_left e2)
      exact ⟨rfl, List.append_cancel_left e3⟩
    | mk m' => simp [ktag] at ht
    | one => simp [ktag] at ht
    | to a b => simp [ktag] at ht
/-! ### a row -/
def prL (q : Str × Kd) : List Nat := cpsOf "('" ++ (q.1.cps.toList ++ (cpsOf "', " ++ (rkL q.2 ++ cpsOf ")")))
def prD (q : Str × Kd) : PyData := .tuple [.str q.1, rkD q.2]
theorem pr_shown {q : Str × Kd} (h1 : Wd q.1) (h2 : q.2.mks) : (prD q).shown.cps.toList = prL q := by
  rw [prD, PyData.shown, PyData.shownAll, PyData.shownAll, PyData.shownAll, PyData.shown, tup2, reprText_wd h1, rk_shown _ h2]
  simp only [prL, List.append_assoc, List.cons_append, List.nil_append]
  rfl
theorem prL_inj {q q' : Str × Kd} {u v : List Nat} (h1 : Wd q.1) (h2 : q.2.mks) (h1' : Wd q'.1) (h2' : q'.2.mks) (e : prL q ++ u = prL q' ++ v) : q = q' ∧ u = v := by
  simp only [prL, List.append_assoc] at e
  have e := List.append_cancel_left e
  have c : cpsOf "', " = 39 :: [44, 32] := by decide +kernel
  rw [c] at e
  simp only [List.cons_append] at e
  obtain ⟨g1, e⟩ := wd_cut (by decide) h1 h1' e
  simp only [List.nil_append, List.cons.injEq, true_and] at e
  obtain ⟨g2, e⟩ := rkL_inj h2 h2' e
  exact ⟨Prod.ext (str_ext g1) g2, List.append_cancel_left e⟩
/-- a row behind some of it -/
def tlL : List (Str × Kd) → List Nat
  | [] => [93]
  | q :: r => 44 :: 32 :: (prL q ++ tlL r)
def rwL : List (Str × Kd) → List Nat
  | [] => [91, 93]
  | q :: r => 91 :: (prL q ++ tlL r)
theorem textFrom_tl : ∀ (r : List (Str × Kd)) (k : Nat) (acc : Str), (∀ q ∈ r, Wd q.1 ∧ q.2.mks) → (textFrom (k + 1) acc (PyData.shownAll (r.map prD)) ++ ("]" : Str)).cps.toList = acc.cps.toList ++ tlL r
  | [], k, acc, _ => by
    simp only [List.map_nil, PyData.shownAll, textFrom, tl_app, tlL]
    rfl
  | q :: r, k, acc, h => by
    have h1 := h q List.mem_cons_self
    rw [List.map_cons, PyData.shownAll, textFrom, if_pos (Nat.succ_pos k), textFrom_tl r _ _ fun x hx => h x (List.mem_cons_of_mem _ hx)]
    simp only [tl_app, pr_shown h1.1 h1.2, tlL, List.append_assoc]
    rfl
theorem row_shown (kn : List (Str × Kd)) (h : ∀ q ∈ kn, Wd q.1 ∧ q.2.mks) : (PyData.list (kn.map prD)).shown.cps.toList = rwL kn := by
  rw [PyData.shown]
  unfold listText
  cases kn with
  | nil => decide +kernel
  | cons q r =>
    have h1 := h q List.mem_cons_self
    rw [List.map_cons, PyData.shownAll, textFrom, textFrom_tl r 0 _ fun x hx => h x (List.mem_cons_of_mem _ hx)]
    simp only [Nat.lt_irrefl, if_false, tl_app, pr_shown h1.1 h1.2, rwL, List.append_assoc]
    rfl
theorem tlL_inj : ∀ {r r' : List (Str × Kd)} {u v : List Nat}, (∀ q ∈ r, Wd q.1 ∧ q.2.mks) → (∀ q ∈ r', Wd q.1 ∧ q.2.mks) → tlL r ++ u = tlL r' ++ v → r = r' ∧ u = v
  | [], [], u, v, _, _, e => by simpa [tlL] using e
  | [], q :: r, u, v, _, _, e => by simp [tlL] at e
  | q :: r, [], u, v, _, _, e => by simp [tlL] at e
  | q :: r, q' :: r', u, v, h, h', e => by
    simp only [tlL, List.cons_append, List.cons.injEq, true_and, List.append_assoc] at e
    have h1 := h q List.mem_cons_self
    have h2 := h' q' List.mem_cons_self
    obtain ⟨rfl, e2⟩ := prL_inj h1.1 h1.2 h2.1 h2.2 e
    obtain ⟨rfl, e3⟩ := tlL_inj (fun x hx => h x (List.mem_cons_of_mem _ hx)) (fun x hx => h' x (List.mem_cons_of_mem _ hx)) e2
    exact ⟨rfl, e3⟩
theorem prL_head (q : Str × Kd) (u : List Nat) : (prL q ++ u)[0]? = some 40 := by
  have p : cpsOf "('" = [40, 39] := by decide +kernel
  rw [prL, p]; rfl
theorem rwL_inj {r r' : List (Str × Kd)} {u v : List Nat} (h : ∀ q ∈ r, Wd q.1 ∧ q.2.mks) (h' : ∀ q ∈ r', Wd q.1 ∧ q.2.mks) (e : rwL r ++ u = rwL r' ++ v) : r = r' ∧ u = v := by
  cases r with
  | nil => cases r' with
    | nil => simpa [rwL] using e
    | cons q r' =>
      simp only [rwL, List.cons_append, List.cons.injEq, true_and, List.append_assoc, List.nil_append] at e
      have := prL_head q (tlL r' ++ v)
      rw [← e] at this
      simp at this
  | cons q r => cases r' with
    | nil =>
      simp only [rwL, List.cons_append, List.cons.injEq, true_and, List.append_assoc, List.nil_append] at e
      have := prL_head q (tlL r ++ u)
      rw [e] at this
      simp at this
    | cons q' r' =>
      simp only [rwL, List.cons_append, List.cons.injEq, true_and, List.append_assoc] at e
      have h1 := h q List.mem_cons_self
      have h2 := h' q' List.mem_cons_self
      obtain ⟨rfl, e2⟩ := prL_inj h1.1 h1.2 h2.1 h2.2 e
      obtain ⟨rfl, e3⟩ := tlL_inj (fun x hx => h x (List.mem_cons_of_mem _ hx)) (fun x hx => h' x (List.mem_cons_of_mem _ hx)) e2
      exact ⟨rfl, e3⟩
/-- the memo's key -/
def mkey (kn : List (Str × Kd)) (m : Str) (n : Nat) : Str := (PyData.list (kn.map prD)).shown ++ m ++ nstr n
theorem let_fig {a a' b b' : List Nat} (h : ∀ x ∈ a, 97 ≤ x) (h' : ∀ x ∈ a', 97 ≤ x) (g : ∀ x ∈ b, x < 97) (g' : ∀ x ∈ b', x < 97) (e : a ++ b = a' ++ b') : a = a' ∧ b = b' := by
  induction a generalizing a' with
  | nil => cases a' with
    | nil => exact ⟨rfl, e⟩
    | cons x r =>
      have h1 := h' x List.mem_cons_self
      have h2 := g x (by rw [List.nil_append] at e; rw [e]; simp)
      omega
  | cons y q ih => cases a' with
    | nil =>
      have h1 := h y List.mem_cons_self
      have h2 := g' y (by rw [List.nil_append] at e; rw [← e]; simp)
      omega
    | cons x r =>
      simp only [List.cons_append, List.cons.injEq] at e
      obtain ⟨h1, h2⟩ := ih (fun m hm => h m (List.mem_cons_of_mem _ hm)) (fun m hm => h' m (List.mem_cons_of_mem _ hm)) e.2
      exact ⟨by rw [e.1, h1], h2⟩
theorem mark_ge {m : Str} (h : isMarkB m = true) : ∀ c ∈ m.cps.toList, 97 ≤ c := by
  unfold isMarkB at h
  simp only [Bool.and_eq_true, List.all_eq_true] at h
  intro c hc
  have h1 := h.1 c hc
  unfold letB at h1
  exact (show ∀ c ∈ abc.cps.toList, 97 ≤ c by decide +kernel) c (of_decide_eq_true h1)
theorem nstr_fig : ∀ n : Nat, n < 512 → ∀ c ∈ (nstr n).cps.toList, c < 97 := by
  have h : ∀ k ∈ List.range 512, ∀ c ∈ (nstr k).cps.toList, c < 97 := by decide +kernel
  exact fun k hk => h k (List.mem_range.mpr hk)
theorem mkey_inj {kn kn' : List (Str × Kd)} {m m' : Str} {n n' : Nat} (h : ∀ q ∈ kn, Wd q.1 ∧ q.2.mks) (h' : ∀ q ∈ kn', Wd q.1 ∧ q.2.mks) (hm : isMarkB m = true) (hm' : isMarkB m' = true) (hn : n < 512) (hn' : n' < 512) (e : mkey kn m n = mkey kn' m' n') : kn = kn' ∧ m = m' ∧ n = n' := by
  have e := congrArg (fun s : Str => s.cps.toList) e
  simp only [mkey, tl_app, row_shown kn h, row_shown kn' h', List.append_assoc] at e
  obtain ⟨g1, e⟩ := rwL_inj h h' e
  obtain ⟨g2, e⟩ := let_fig (mark_ge hm) (mark_ge hm') (nstr_fig n hn) (nstr_fig n' hn') e
  exact ⟨g1, str_ext g2, nstr_inj hn hn' (str_ext e)⟩
end Kf
/-! Kal: all plain long programs with at most so many names, name by name; how many of each size. -/
namespace Kf
open PySem PySem.Spec L2
open PyProof.Rows hiding St
abbrev KnA := List (Str × Kd)
abbrev PS := Pg × Nat
abbrev GA := KnA → Kd → Nat → Nat → List PS
def goG (g : GA) (kn : KnA) (t mo : Nat) : List Mv → List PS → List PS
  | [], F => F
  | .one :: r, F => goG g kn t mo r (F.map fun p => (.first p.1, p.2))
  | .two :: r, F => goG g kn t mo r (F.map fun p => (.second p.1, p.2))
  | .k a :: r, F => goG g kn t mo r (F.flatMap fun p => (g kn a (mo - p.2) t).map fun q => (.give p.1 q.1, p.2 + q.2))
def leafG (g : GA) (m : Str) (kn : KnA) (mo t : Nat) : List PS :=
  kn.flatMap fun x => (wys x.2).flatMap fun w => if w.2 = m ∧ 0 < mo then goG g kn t mo w.1 [(.nm x.1, 1)] else []
def eK (g : GA) : Kd → KnA → Nat → Nat → List PS
  | .one, _, _, _ => [(.thing, 0)]
  | .to a b, kn, mo, t => (eK g b (kn ++ [(xn t, a)]) mo (t + 1)).map fun q => (.take (xn t) a q.1, q.2)
  | .both a b, kn, mo, t => (eK g a kn mo t).flatMap fun p => (eK g b kn (mo - p.2) t).map fun q => (.pair p.1 q.1, p.2 + q.2)
  | .mk m, kn, mo, t => leafG g m kn mo t
def eF : Nat → GA
  | 0 => fun kn k mo t => eK (fun _ _ _ _ => []) k kn mo t
  | f + 1 => fun kn k mo t => eK (eF f) k kn mo t
def eA : GA := fun kn k mo t => eF mo kn k mo t
/-! ### sizes -/
theorem flat_size {L : List PS} {mo : Nat} {G : PS → List PS} {h : Pg → Pg → Pg} (hL : ∀ p ∈ L, p.2 ≤ mo) (hG : ∀ p ∈ L, ∀ q ∈ G p, q.2 ≤ mo - p.2) : ∀ r ∈ L.flatMap (fun p => (G p).map fun q => (h p.1 q.1, p.2 + q.2)), r.2 ≤ mo := fun r hr => by
  obtain ⟨p, hp, hr⟩ := List.mem_flatMap.mp hr
  obtain ⟨q, hq, rfl⟩ := List.mem_map.mp hr
  have := hL p hp
  have := hG p hp q hq
  dsimp only
  omega
theorem flat_pos {L : List PS} {G : PS → List PS} {h : Pg → Pg → Pg} (hL : ∀ p ∈ L, 1 ≤ p.2) : ∀ r ∈ L.flatMap (fun p => (G p).map fun q => (h p.1 q.1, p.2 + q.2)), 1 ≤ r.2 := fun r hr => by
  obtain ⟨p, hp, hr⟩ := List.mem_flatMap.mp hr
  obtain ⟨q, hq, rfl⟩ := List.mem_map.mp hr
  have := hL p hp
  dsimp only
  omega
theorem map_pos {L : List PS} {h : Pg → Pg} (hL : ∀ p ∈ L, 1 ≤ p.2) : ∀ r ∈ L.map (fun p => (h p.1, p.2)), 1 ≤ r.2 := fun r hr => by
  obtain ⟨p, hp, rfl⟩ := List.mem_map.mp hr
  exact hL p hp
theorem map_size {L : List PS} {mo : Nat} {h : Pg → Pg} (hL : ∀ p ∈ L, p.2 ≤ mo) : ∀ r ∈ L.map (fun p => (h p.1, p.2)), r.2 ≤ mo := fun r hr => by
  obtain ⟨p, hp, rfl⟩ := List.mem_map.mp hr
  exact hL p hp
theorem goG_size {g : GA} {kn : KnA} {t mo : Nat} : ∀ (ms : List Mv) (F : List PS), (∀ a ∈ mvT ms, ∀ s, s ≤ mo → 1 ≤ s → ∀ q ∈ g kn a (mo - s) t, q.2 ≤ mo - s) → (∀ p ∈ F, p.2 ≤ mo ∧ 1 ≤ p.2) → ∀ r ∈ goG g kn t mo ms F, r.2 ≤ mo ∧ 1 ≤ r.2
  | [], F, _, h => h
  | .one :: r, F, hg, h => goG_size r _ hg fun p hp => ⟨map_size (fun q hq => (h q hq).1) p hp, map_pos (fun q hq => (h q hq).2) p hp⟩
  | .two :: r, F, hg, h => goG_size r _ hg fun p hp => ⟨map_size (fun q hq => (h q hq).1) p hp, map_pos (fun q hq => (h q hq).2) p hp⟩
  | .k a :: r, F, hg, h => goG_size r _ (fun b hb => hg b (by simp [mvT, hb])) fun p hp =>
      ⟨flat_size (fun q hq => (h q hq).1) (fun q hq => hg a (by simp [mvT]) q.2 (h q hq).1 (h q hq).2) p hp, flat_pos (fun q hq => (h q hq).2) p hp⟩
theorem eK_size {g : GA} : ∀ (k : Kd) (kn : KnA) (mo t : Nat), (∀ kn a mo' t, mo' < mo → ∀ q ∈ g kn a mo' t, q.2 ≤ mo') → ∀ r ∈ eK g k kn mo t, r.2 ≤ mo
  | .one, kn, mo, t, _, r, hr => by
    rw [eK, List.mem_singleton] at hr
    subst hr; exact Nat.zero_le _
  | .to a b, kn, mo, t, hg, r, hr => by
    rw [eK] at hr
    obtain ⟨q, hq, rfl⟩ := List.mem_map.mp hr
    exact eK_size b _ mo _ hg q hq
  | .both a b, kn, mo, t, hg, r, hr => by
    rw [eK] at hr
    exact flat_size (fun p hp => eK_size a kn mo t hg p hp) (fun p hp => eK_size b kn (mo - p.2) t fun kn a mo' t h => hg kn a mo' t (by omega)) r hr
  | .mk m, kn, mo, t, hg, r, hr => by
    rw [eK, leafG] at hr
    obtain ⟨x, hx, hr⟩ := List.mem_flatMap.mp hr
    obtain ⟨w, hw, hr⟩ := List.mem_flatMap.mp hr
    split at hr
    · rename_i c
      exact (goG_size w.1 _ (fun a ha s h1 h2 => hg kn a (mo - s) t (by omega)) (fun p hp => by rw [List.mem_singleton.mp hp]; exact ⟨by show 1 ≤ mo; omega, Nat.le_refl _⟩) r hr).1
    · cases hr
theorem eF_size : ∀ (f mo : Nat) (kn : KnA) (k : Kd) (t : Nat), mo ≤ f → ∀ r ∈ eF f kn k mo t, r.2 ≤ mo
  | 0, mo, kn, k, t, h => eK_size k kn mo t fun kn a mo' t hlt => by omega
  | f + 1, mo, kn, k, t, h => eK_size k kn mo t fun kn a mo' t hlt => eF_size f mo' kn a t (by omega)
theorem eA_size {kn : KnA} {k : Kd} {mo t : Nat} : ∀ r ∈ eA kn k mo t, r.2 ≤ mo := eF_size mo mo kn k t (Nat.le_refl _)
/-! ### the fuel -/
theorem goG_congr {g g' : GA} {kn : KnA} {t mo : Nat} : ∀ (ms : List Mv) (F : List PS), (∀ a ∈ mvT ms, ∀ s, 1 ≤ s → g kn a (mo - s) t = g' kn a (mo - s) t) → (∀ p ∈ F, 1 ≤ p.2) → goG g kn t mo ms F = goG g' kn t mo ms F
  | [], F, _, _ => rfl
  | .one :: r, F, hg, h => goG_congr r _ hg (map_pos h)
  | .two :: r, F, hg, h => goG_congr r _ hg (map_pos h)
  | .k a :: r, F, hg, h => by
    have e : (F.flatMap fun p => (g kn a (mo - p.2) t).map fun q => ((Pg.give p.1 q.1, p.2 + q.2) : PS)) = F.flatMap fun p => (g' kn a (mo - p.2) t).map fun q => (.give p.1 q.1, p.2 + q.2) := by
      have key : ∀ F : List PS, (∀ p ∈ F, 1 ≤ p.2) → (F.flatMap fun p => (g kn a (mo - p.2) t).map fun q => ((Pg.give p.1 q.1, p.2 + q.2) : PS)) = F.flatMap fun p => (g' kn a (mo - p.2) t).map fun q => (.give p.1 q.1, p.2 + q.2) := by
        intro F
        induction F with
        | nil => intro _; rfl
        | cons p r ih =>
          intro h
          rw [List.flatMap_cons, List.flatMap_cons, ih fun x hx => h x (List.mem_cons_of_mem _ hx), hg a (by simp [mvT]) p.2 (h p List.mem_cons_self)]
      exact key F h
    rw [goG, goG, e]
    exact goG_congr r _ (fun b hb => hg b (by simp [mvT, hb])) (flat_pos h)
theorem flatMap_congr' {α β : Type} {f g : α → List β} : ∀ {l : List α}, (∀ x ∈ l, f x = g x) → l.flatMap f = l.flatMap g
  | [], _ => rfl
  | x :: r, h => by rw [List.flatMap_cons, List.flatMap_cons, h x List.mem_cons_self, flatMap_congr' fun y hy => h y (List.mem_cons_of_mem _ hy)]
theorem eK_congr {g g' : GA} : ∀ (k : Kd) (kn : KnA) (mo t : Nat), (∀ kn a mo' t, mo' < mo → g kn a mo' t = g' kn a mo' t) → eK g k kn mo t = eK g' k kn mo t
  | .one, kn, mo, t, _ => rfl
  | .to a b, kn, mo, t, h => by rw [eK, eK, eK_congr b _ mo _ h]
  | .both a b, kn, mo, t, h => by
    rw [eK, eK, eK_congr a kn mo t h]
    refine flatMap_congr' fun p _ => ?_
    rw [eK_congr b kn (mo - p.2) t fun kn a mo' t hl => h kn a mo' t (by omega)]
  | .mk m, kn, mo, t, h => by
    rw [eK, eK, leafG, leafG]
    refine flatMap_congr' fun x _ => flatMap_congr' fun w _ => ?_
    split
    · exact goG_congr w.1 _ (fun a _ s hs => h kn a (mo - s) t (by omega)) fun p hp => by rw [List.mem_singleton.mp hp]; exact Nat.le_refl _
    · rfl
theorem eF_fuel : ∀ (f mo : Nat) (kn : KnA) (k : Kd) (t : Nat), mo ≤ f → eF f kn k mo t = eA kn k mo t
  | 0, mo, kn, k, t, h => by
    have : mo = 0 := by omega
    subst this; rfl
  | f + 1, 0, kn, k, t, h => by
    show eK _ k kn 0 t = eK _ k kn 0 t
    exact eK_congr k kn 0 t fun kn a mo' t hl => by omega
  | f + 1, mo + 1, kn, k, t, h => by
    show eK (eF f) k kn (mo + 1) t = eK (eF mo) k kn (mo + 1) t
    exact eK_congr k kn _ t fun kn a mo' t hl => (eF_fuel f mo' kn a t (by omega)).trans (eF_fuel mo mo' kn a t (by omega)).symm
theorem eA_eq (kn : KnA) (k : Kd) (mo t : Nat) : eA kn k mo t = eK eA k kn mo t := by
  cases mo with
  | zero => exact eK_congr k kn 0 t fun kn a mo' t hl => by omega
  | succ mo => exact eK_congr k kn _ t fun kn a mo' t hl => eF_fuel mo mo' kn a t (by omega)
theorem eA_to (kn : KnA) (a b : Kd) (mo t : Nat) : eA kn (.to a b) mo t = (eA (kn ++ [(xn t, a)]) b mo (t + 1)).map fun q => (.take (xn t) a q.1, q.2) := by rw [eA_eq, eK, ← eA_eq]
theorem eA_both (kn : KnA) (a b : Kd) (mo t : Nat) : eA kn (.both a b) mo t = (eA kn a mo t).flatMap fun p => (eA kn b (mo - p.2) t).map fun q => (.pair p.1 q.1, p.2 + q.2) := by
  rw [eA_eq, eK, ← eA_eq]
  exact flatMap_congr' fun p _ => by rw [← eA_eq]
theorem eA_mk (kn : KnA) (m : Str) (mo t : Nat) : eA kn (.mk m) mo t = leafG eA m kn mo t := by rw [eA_eq, eK]
/-! ### how many of a size -/
def cnA (l : List PS) (s : Nat) : Nat := l.countP fun q => decide (q.2 = s)
theorem cnA_app (a b : List PS) (s : Nat) : cnA (a ++ b) s = cnA a s + cnA b s := List.countP_append
theorem cnA_map {h : Pg → Pg} (l : List PS) (s : Nat) : cnA (l.map fun p => (h p.1, p.2)) s = cnA l s := by
  unfold cnA
  rw [List.countP_map]
  rfl
theorem cnA_shift {h : Pg → Pg} {c : Nat} (l : List PS) (s : Nat) : cnA (l.map fun q => (h q.1, c + q.2)) s = if c ≤ s then cnA l (s - c) else 0 := by
  unfold cnA
  rw [List.countP_map]
  split
  · congr 1
    funext q
    show decide (c + q.2 = s) = decide (q.2 = s - c)
    rw [decide_eq_decide]; omega
  · rw [List.countP_eq_zero]
    intro q _
    show ¬ decide (c + q.2 = s) = true
    rw [decide_eq_true_iff]; omega
theorem cnA_flat {h : Pg → Pg → Pg} {G : PS → List PS} {c : Nat → Nat} : ∀ (L : List PS) (s : Nat), (∀ p ∈ L, p.2 ≤ s → cnA (G p) (s - p.2) = c (s - p.2)) → cnA (L.flatMap fun p => (G p).map fun q => (h p.1 q.1, p.2 + q.2)) s = sm (s + 1) fun a => cnA L a * c (s - a)
  | [], s, _ => by
    rw [List.flatMap_nil]
    show (0 : Nat) = _
    exact (sm_zero fun i _ => by show cnA [] i * _ = 0; rw [show cnA [] i = 0 from rfl, Nat.zero_mul]).symm
  | p :: L, s, hc => by
    rw [List.flatMap_cons, cnA_app, cnA_flat L s fun q hq => hc q (List.mem_cons_of_mem _ hq), cnA_shift]
    have e : ∀ a, cnA (p :: L) a * c (s - a) = (if p.2 = a then c (s - a) else 0) + cnA L a * c (s - a) := fun a => by
      unfold cnA
      rw [List.countP_cons, Nat.add_mul]
      by_cases q : p.2 = a
      · simp [q, Nat.add_comm]
      · simp [q]
    rw [sm_congr (n := s + 1) fun a _ => e a, sm_add]
    congr 1
    split
    · rename_i hle
      rw [hc p List.mem_cons_self hle]
      have key : ∀ n, p.2 < n → sm n (fun a => if p.2 = a then c (s - a) else 0) = c (s - p.2) := by
        intro n
        induction n with
        | zero => intro h; omega
        | succ n ih =>
          intro h
          rw [sm]
          by_cases q : p.2 = n
          · rw [if_pos q, sm_zero fun i hi => by rw [if_neg (by omega)], ← q, Nat.zero_add]
          · rw [if_neg q, ih (by omega), Nat.add_zero]
      exact (key (s + 1) (by omega)).symm
    · exact (sm_zero fun i hi => by rw [if_neg (by omega)]).symm
/-! ### ways to share, one list behind another -/
theorem cmy_append : ∀ (fs gs : List (Nat → Nat)) (s : Nat), cmy (fs ++ gs) s = sm (s + 1) fun a => cmy fs a * cmy gs (s - a)
  | [], gs, s => by
    have key : ∀ n, sm (n + 1) (fun a => cmy [] a * cmy gs (s - a)) = cmy gs s := by
      intro n
      induction n with
      | zero => simp [sm, cmy]
      | succ n ih => rw [sm, ih]; simp [cmy]
    rw [List.nil_append]
    exact (key s).symm
  | f :: fs, gs, s => by
    rw [List.cons_append, cmy]
    have h1 : ∀ a, a < s → f (a + 1) * cmy (fs ++ gs) (s - 1 - a) = sm (s + 1) fun b => if a + 1 ≤ b then f (a + 1) * (cmy fs (b - 1 - a) * cmy gs (s - b)) else 0 := fun a ha => by
      rw [cmy_append fs gs, ← sm_mul]
      -- b = a + 1 + i
      have key : ∀ n, a + 1 + n ≤ s + 1 → sm n (fun i => f (a + 1) * (cmy fs i * cmy gs (s - 1 - a - i))) = sm (a + 1 + n) fun b => if a + 1 ≤ b then f (a + 1) * (cmy fs (b - 1 - a) * cmy gs (s - b)) else 0 := by
        intro n
        induction n with
        | zero => intro _; rw [sm]; exact (sm_zero fun i hi => by rw [if_neg (by omega)]).symm
        | succ n ih =>
          intro hn
          rw [sm, ih (by omega), ← Nat.add_assoc, sm, if_pos (by omega)]
          congr 1
          rw [show a + 1 + n - 1 - a = n by omega, show s - (a + 1 + n) = s - 1 - a - n by omega]
      rw [show s - 1 - a + 1 = s - a by omega, key (s - a) (by omega), show a + 1 + (s - a) = s + 1 by omega]
    rw [sm_congr h1, sm_comm]
    refine sm_congr fun b hb => ?_
    rw [cmy, Nat.mul_comm, ← sm_mul]
    rw [sm_cut s b _ (by omega)]
    refine sm_congr fun a ha => ?_
    by_cases c : a < b
    · rw [if_pos (by omega), if_pos c, Nat.mul_comm (cmy gs _), Nat.mul_assoc]
    · rw [if_neg (by omega), if_neg c]
theorem tks_app (L : List Kd) (a b : List (List Kd × Str)) : tks L (a ++ b) = tks L a ++ tks L b := by unfold tks; rw [List.map_append]
theorem cmy_nil_sum (F : Nat → Nat) (s : Nat) : sm (s + 1) (fun a => F a * cmy [] (s - a)) = F s := by
  rw [sm, sm_zero fun i hi => by rw [show cmy [] (s - i) = 0 from by rw [cmy, if_neg (by omega)], Nat.mul_zero], Nat.sub_self, Nat.zero_add]
  simp [cmy]
theorem sm_assoc (A B C : Nat → Nat) (s : Nat) : sm (s + 1) (fun a => (sm (a + 1) fun b => A b * B (a - b)) * C (s - a)) = sm (s + 1) fun b => A b * sm (s - b + 1) fun c => B c * C (s - b - c) := by
  have h1 : ∀ a, a < s + 1 → (sm (a + 1) fun b => A b * B (a - b)) * C (s - a) = sm (s + 1) fun b => if b ≤ a then A b * (B (a - b) * C (s - a)) else 0 := fun a ha => by
    rw [Nat.mul_comm, ← sm_mul, sm_cut (s + 1) (a + 1) _ (by omega)]
    refine sm_congr fun b hb => ?_
    by_cases c : b ≤ a
    · rw [if_pos (by omega), if_pos c, Nat.mul_comm, Nat.mul_assoc]
    · rw [if_neg (by omega), if_neg c]
  rw [sm_congr h1, sm_comm]
  refine sm_congr fun b hb => ?_
  rw [← sm_mul]
  have key : ∀ n, b + n ≤ s + 1 → sm n (fun c => A b * (B c * C (s - b - c))) = sm (b + n) fun a => if b ≤ a then A b * (B (a - b) * C (s - a)) else 0 := by
    intro n
    induction n with
    | zero => intro _; rw [sm]; exact (sm_zero fun i hi => by rw [if_neg (by omega)]).symm
    | succ n ih =>
      intro hn
      rw [sm, ih (by omega), ← Nat.add_assoc, sm, if_pos (by omega), show b + n - b = n by omega, show s - (b + n) = s - b - n by omega]
  rw [key (s - b + 1) (by omega), show b + (s - b + 1) = s + 1 by omega]
theorem goG_cnA {kn : KnA} {S : List Kd} {t mo : Nat} {g : GA} : ∀ (ms : List Mv) (F : List PS) (s : Nat), s ≤ mo → (∀ a ∈ mvT ms, ∀ b, 1 ≤ b → ∀ r, r ≤ mo - b → cnA (g kn a (mo - b) t) r = cmy (tks S (ends a)) r) → (∀ p ∈ F, 1 ≤ p.2) →
    cnA (goG g kn t mo ms F) s = sm (s + 1) fun a => cnA F a * cmy (tks S ((mvT ms).flatMap ends)) (s - a)
  | [], F, s, _, _, _ => by
    rw [goG, mvT, List.flatMap_nil]
    exact (cmy_nil_sum (cnA F) s).symm
  | .one :: r, F, s, hs, hg, h1 => by
    rw [goG, goG_cnA r _ s hs hg (map_pos h1)]
    exact sm_congr fun a _ => by rw [cnA_map, mvT]
  | .two :: r, F, s, hs, hg, h1 => by
    rw [goG, goG_cnA r _ s hs hg (map_pos h1)]
    exact sm_congr fun a _ => by rw [cnA_map, mvT]
  | .k k :: r, F, s, hs, hg, h1 => by
    rw [goG, goG_cnA r _ s hs (fun b hb => hg b (by simp [mvT, hb])) (flat_pos h1)]
    have e : ∀ a, a < s + 1 → cnA (F.flatMap fun p => (g kn k (mo - p.2) t).map fun q => ((Pg.give p.1 q.1, p.2 + q.2) : PS)) a = sm (a + 1) fun b => cnA F b * cmy (tks S (ends k)) (a - b) := fun a ha =>
      cnA_flat (G := fun p => g kn k (mo - p.2) t) (h := Pg.give) F a fun p hp hle => hg k (by simp [mvT]) p.2 (h1 p hp) (a - p.2) (by omega)
    rw [sm_congr (g := fun a => (sm (a + 1) fun b => cnA F b * cmy (tks S (ends k)) (a - b)) * cmy (tks S ((mvT r).flatMap ends)) (s - a)) fun a ha => by rw [e a ha], sm_assoc]
    refine sm_congr fun b hb => ?_
    rw [mvT, List.flatMap_cons, tks_app, cmy_append]
theorem cnA_flatMap {α : Type} (F : α → List PS) (s : Nat) : ∀ l : List α, cnA (l.flatMap F) s = (l.map fun x => cnA (F x) s).sum
  | [] => rfl
  | x :: r => by rw [List.flatMap_cons, cnA_app, cnA_flatMap F s r, List.map_cons, List.sum_cons]
theorem tks_to (S : List Kd) (a b : Kd) : tks S (ends (.to a b)) = tks (S ++ [a]) (ends b) := by
  unfold tks
  rw [ends, List.map_map]
  refine List.map_congr_left fun t _ => ?_
  funext one
  show cntP one (S ++ a :: t.1) t.2 = cntP one (S ++ [a] ++ t.1) t.2
  rw [List.append_assoc]; rfl
theorem cmy_one (f : Nat → Nat) (s : Nat) : cmy [f] s = if s = 0 then 0 else f s := by
  rw [cmy]
  cases s with
  | zero => rfl
  | succ s =>
    rw [if_neg (by omega), sm, sm_zero fun i hi => by rw [show cmy [] (s + 1 - 1 - i) = 0 from by rw [cmy, if_neg (by omega)], Nat.mul_zero]]
    simp [cmy]
theorem eA_cnA : ∀ (n : Nat) (k : Kd) (kn : KnA) (mo t s : Nat), mo ≤ n → s ≤ mo → cnA (eA kn k mo t) s = cmy (tks (kn.map (·.2)) (ends k)) s := by
  intro n
  induction n using Nat.strongRecOn with
  | _ n ih =>
    intro k
    induction k with
    | one => intro kn mo t s hn hs; rw [eA_eq, eK]; cases s <;> rfl
    | to a b iha ihb =>
      intro kn mo t s hn hs
      rw [eA_to, cnA_map, ihb _ mo _ s hn hs, tks_to]
      congr 2
      rw [List.map_append]; rfl
    | both a b iha ihb =>
      intro kn mo t s hn hs
      rw [eA_both, cnA_flat (G := fun p => eA kn b (mo - p.2) t) (h := Pg.pair) (c := fun r => cmy (tks (kn.map (·.2)) (ends b)) r) _ s fun p hp hle => ihb kn (mo - p.2) t (s - p.2) (by omega) (by omega), ends, tks_app, cmy_append]
      exact sm_congr fun i hi => by rw [iha kn mo t i hn (by omega)]
    | mk m =>
      intro kn mo t s hn hs
      rw [eA_mk, leafG, cnA_flatMap]
      have e1 : cmy (tks (kn.map (·.2)) (ends (.mk m))) s = if s = 0 then 0 else cntP s (kn.map (·.2)) m := by
        rw [ends]
        show cmy [fun one => cntP one (kn.map (·.2) ++ []) m] s = _
        rw [cmy_one, List.append_nil]
      rw [e1]
      have e2 : ∀ x ∈ kn, cnA ((wys x.2).flatMap fun w => if w.2 = m ∧ 0 < mo then goG eA kn t mo w.1 [(.nm x.1, 1)] else []) s = ((wys x.2).map fun w => if w.2 = m ∧ 1 ≤ s then cmy (tks (kn.map (·.2)) ((mvT w.1).flatMap ends)) (s - 1) else 0).sum := fun x hx => by
        rw [cnA_flatMap]
        congr 1
        refine List.map_congr_left fun w hw => ?_
        by_cases c : w.2 = m
        · by_cases c0 : 0 < mo
          · rw [if_pos ⟨c, c0⟩, goG_cnA (S := kn.map (·.2)) w.1 _ s hs (fun a ha b hb r hr => ih (mo - b) (by omega) a kn (mo - b) t r (Nat.le_refl _) hr) (fun p hp => by rw [List.mem_singleton.mp hp]; exact Nat.le_refl _)]
            have h1 : ∀ a, cnA [((Pg.nm x.1, 1) : PS)] a = if a = 1 then 1 else 0 := fun a => by
              unfold cnA
              by_cases q : a = 1
              · subst q; rfl
              · rw [if_neg q]; simp [Ne.symm q]
            by_cases c1 : 1 ≤ s
            · rw [if_pos ⟨c, c1⟩]
              have key : ∀ n, 1 < n → sm n (fun a => cnA [((Pg.nm x.1, 1) : PS)] a * cmy (tks (kn.map (·.2)) ((mvT w.1).flatMap ends)) (s - a)) = cmy (tks (kn.map (·.2)) ((mvT w.1).flatMap ends)) (s - 1) := by
                intro n
                induction n with
                | zero => intro h; omega
                | succ n ihn =>
                  intro h
                  rw [sm]
                  by_cases q : n = 1
                  · subst q
                    rw [sm, sm, h1, h1]; simp
                  · rw [ihn (by omega), h1, if_neg q, Nat.zero_mul, Nat.add_zero]
              exact key (s + 1) (by omega)
            · rw [if_neg (by omega)]
              exact sm_zero fun i hi => by rw [h1, if_neg (by omega), Nat.zero_mul]
          · rw [if_neg (by omega), if_neg (by omega)]; rfl
        · rw [if_neg (by simp [c]), if_neg (by simp [c])]; rfl
      rw [List.map_congr_left e2]
      by_cases c1 : s = 0
      · rw [if_pos c1]
        have z : ∀ l : KnA, (l.map fun x => ((wys x.2).map fun w => if w.2 = m ∧ 1 ≤ s then cmy (tks (kn.map (·.2)) ((mvT w.1).flatMap ends)) (s - 1) else 0).sum).sum = 0 := fun l => by
          induction l with
          | nil => rfl
          | cons x r ih2 =>
            rw [List.map_cons, List.sum_cons, ih2, Nat.add_zero]
            have : ∀ l : List (List Mv × Str), (l.map fun w => if w.2 = m ∧ 1 ≤ s then cmy (tks (kn.map (·.2)) ((mvT w.1).flatMap ends)) (s - 1) else 0).sum = 0 := fun l => by
              induction l with
              | nil => rfl
              | cons w r ih3 => rw [List.map_cons, List.sum_cons, ih3, if_neg (by omega)]
            exact this _
        exact z kn
      · rw [if_neg c1, cntP_eq (by omega)]
        generalize hφ : (fun e : List Kd × Str => if e.2 = m then cmy (tks (kn.map (·.2)) (e.1.flatMap ends)) (s - 1) else 0) = φ
        have h2 : ∀ x : Str × Kd, ((wys x.2).map fun w => if w.2 = m ∧ 1 ≤ s then cmy (tks (kn.map (·.2)) ((mvT w.1).flatMap ends)) (s - 1) else 0).sum = ((ends x.2).map φ).sum := fun x => by
          rw [← wys_ends, List.map_map]
          congr 1
          refine List.map_congr_left fun w _ => ?_
          rw [← hφ]
          show _ = if w.2 = m then _ else _
          by_cases q : w.2 = m
          · rw [if_pos ⟨q, by omega⟩, if_pos q]; rfl
          · rw [if_neg (by simp [q]), if_neg q]
        have h3 : ∀ l : KnA, (l.map fun x => ((ends x.2).map φ).sum).sum = (((l.map (·.2)).flatMap ends).map φ).sum := fun l => by
          induction l with
          | nil => rfl
          | cons x r ih2 => rw [List.map_cons, List.sum_cons, ih2, List.map_cons, List.flatMap_cons, List.map_append, List.sum_append]
        rw [List.map_congr_left fun x _ => h2 x, h3]
end Kf
/-! Kam: what a memo of told programs can keep. -/
namespace Kf
open PySem PySem.Spec L2
open PyProof.Rows hiding St
def seqs (Ts : List (List Kd)) : Nat → List (List (List Kd))
  | 0 => [[]]
  | n + 1 => [] :: Ts.flatMap fun r => (seqs Ts n).map (r :: ·)
theorem mem_seqs {Ts : List (List Kd)} : ∀ (n : Nat) (q : List (List Kd)), (∀ r ∈ q, r ∈ Ts) → q.length ≤ n → q ∈ seqs Ts n
  | 0, [], _, _ => by simp [seqs]
  | 0, r :: q, _, h => by simp at h
  | n + 1, [], _, _ => by simp [seqs]
  | n + 1, r :: q, hm, h => by
    rw [seqs]
    refine List.mem_cons_of_mem _ (List.mem_flatMap.mpr ⟨r, hm r List.mem_cons_self, List.mem_map.mpr ⟨q, mem_seqs n q (fun x hx => hm x (List.mem_cons_of_mem _ hx)) (by simpa using h), rfl⟩⟩)
def slen (g : Nat) : Nat → Nat
  | 0 => 1
  | n + 1 => 1 + g * slen g n
theorem seqs_len (Ts : List (List Kd)) : ∀ n, (seqs Ts n).length = slen Ts.length n
  | 0 => rfl
  | n + 1 => by
    rw [seqs, List.length_cons, slen]
    have : ∀ l : List (List Kd), (l.flatMap fun r => (seqs Ts n).map (r :: ·)).length = l.length * slen Ts.length n := fun l => by
      induction l with
      | nil => simp
      | cons r q ih => rw [List.flatMap_cons, List.length_append, ih, List.length_map, seqs_len Ts n, List.length_cons, Nat.add_mul]; omega
    rw [this]; omega
theorem slen_g {g g' : Nat} (h : g ≤ g') : ∀ n, slen g n ≤ slen g' n
  | 0 => Nat.le_refl _
  | n + 1 => by rw [slen, slen]; exact Nat.add_le_add_left (Nat.mul_le_mul h (slen_g h n)) _
theorem slen_n {g : Nat} (hg : 1 ≤ g) : ∀ {n n' : Nat}, n ≤ n' → slen g n ≤ slen g n'
  | n, 0, h => by rw [show n = 0 by omega]; exact Nat.le_refl _
  | n, n' + 1, h => by
    by_cases e : n = n' + 1
    · rw [e]; exact Nat.le_refl _
    · refine Nat.le_trans (slen_n hg (n := n) (n' := n') (by omega)) ?_
      rw [slen]
      have := Nat.mul_le_mul_right (slen g n') hg
      omega
theorem slen_top : slen 6 7 = 335923 := by decide +kernel
/-- names x0, x1 and so on -/
def nmd : Nat → List Kd → KnA
  | _, [] => []
  | t, k :: r => (xn t, k) :: nmd (t + 1) r
theorem nmd_app : ∀ (a b : List Kd) (t : Nat), nmd t (a ++ b) = nmd t a ++ nmd (t + a.length) b
  | [], b, t => rfl
  | k :: r, b, t => by rw [List.cons_append, nmd, nmd, nmd_app r b (t + 1), List.cons_append, List.length_cons, show t + 1 + r.length = t + (r.length + 1) by omega]
theorem nmd_len : ∀ (a : List Kd) (t : Nat), (nmd t a).length = a.length
  | [], _ => rfl
  | k :: r, t => by rw [nmd, List.length_cons, nmd_len r, List.length_cons]
theorem nmd_snd : ∀ (a : List Kd) (t : Nat), (nmd t a).map (·.2) = a
  | [], _ => rfl
  | k :: r, t => by rw [nmd, List.map_cons, nmd_snd r]
theorem nmd_mem : ∀ {a : List Kd} {t : Nat} {q : Str × Kd}, q ∈ nmd t a → q.2 ∈ a ∧ ∃ i, i < t + a.length ∧ q.1 = xn i
  | [], t, q, h => by simp [nmd] at h
  | k :: r, t, q, h => by
    rw [nmd] at h
    rcases List.mem_cons.mp h with rfl | h
    · exact ⟨List.mem_cons_self, t, by rw [List.length_cons]; omega, rfl⟩
    · obtain ⟨h1, i, h2, h3⟩ := nmd_mem h
      exact ⟨List.mem_cons_of_mem _ h1, i, by rw [List.length_cons]; omega, h3⟩
theorem xn_wd : ∀ i : Nat, i < 512 → Wd (xn i) ∧ (xn i).length ≤ 6 := by
  have h : ∀ k ∈ List.range 512, (∀ c ∈ (xn k).cps.toList, wdc c = true) ∧ (xn k).length ≤ 6 := by decide +kernel
  exact fun k hk => h k (List.mem_range.mpr hk)
/-! ### lengths of what is shown -/
theorem rkL_len : ∀ k : Kd, k.mks → (rkL k).length + 12 ≤ 30 * k.leaves
  | .mk m, h => by
    have h1 : (cpsOf "('mark', '").length = 10 := by decide +kernel
    have h2 : (cpsOf "')").length = 2 := by decide +kernel
    have h3 := mark_len (h m (by simp [Kd.marks]))
    have h4 : m.cps.toList.length = m.length := rfl
    simp only [rkL, List.length_append, h1, h2, Kd.leaves, h4]; omega
  | .one, h => by decide +kernel
  | .to a b, h => by
    have h1 : (cpsOf "('to', ").length = 7 := by decide +kernel
    have h2 : (cpsOf ", ").length = 2 := by decide +kernel
    have h3 : (cpsOf ")").length = 1 := by decide +kernel
    have := rkL_len a fun m hm => h m (by simp [Kd.marks, hm])
    have := rkL_len b fun m hm => h m (by simp [Kd.marks, hm])
    simp only [rkL, List.length_append, h1, h2, h3, Kd.leaves]; omega
  | .both a b, h => by
    have h1 : (cpsOf "('both', ").length = 9 := by decide +kernel
    have h2 : (cpsOf ", ").length = 2 := by decide +kernel
    have h3 : (cpsOf ")").length = 1 := by decide +kernel
    have := rkL_len a fun m hm => h m (by simp [Kd.marks, hm])
    have := rkL_len b fun m hm => h m (by simp [Kd.marks, hm])
    simp only [rkL, List.length_append, h1, h2, h3, Kd.leaves]; omega
theorem prL_len {q : Str × Kd} (h : q.2.mks) (hn : q.1.length ≤ 6) (hl : q.2.leaves ≤ 12) : (prL q).length ≤ 380 := by
  have h1 : (cpsOf "('").length = 2 := by decide +kernel
  have h2 : (cpsOf "', ").length = 3 := by decide +kernel
  have h3 : (cpsOf ")").length = 1 := by decide +kernel
  have h4 : q.1.cps.toList.length = q.1.length := rfl
  have := rkL_len q.2 h
  simp only [prL, List.length_append, h1, h2, h3, h4]; omega
theorem rwL_len : ∀ {kn : List (Str × Kd)}, (∀ q ∈ kn, q.2.mks ∧ q.1.length ≤ 6 ∧ q.2.leaves ≤ 12) → (rwL kn).length ≤ 400 * kn.length + 10 := by
  have key : ∀ r : List (Str × Kd), (∀ q ∈ r, q.2.mks ∧ q.1.length ≤ 6 ∧ q.2.leaves ≤ 12) → (tlL r).length ≤ 400 * r.length + 1 := fun r => by
    induction r with
    | nil => intro _; simp [tlL]
    | cons q r ih =>
      intro h
      have h1 := h q List.mem_cons_self
      have := prL_len h1.1 h1.2.1 h1.2.2
      have := ih fun x hx => h x (List.mem_cons_of_mem _ hx)
      simp only [tlL, List.length_cons, List.length_append]; omega
  intro kn h
  cases kn with
  | nil => simp [rwL]
  | cons q r =>
    have h1 := h q List.mem_cons_self
    have := prL_len h1.1 h1.2.1 h1.2.2
    have := key r fun x hx => h x (List.mem_cons_of_mem _ hx)
    simp only [rwL, List.length_cons, List.length_append]; omega
/-! ### what is met -/
structure Au (kn0 : KnA) (Ts : List (List Kd)) (Ms : List Str) (v N : Nat) : Prop where
  cu : Cu (kn0.map (·.2)) Ts Ms v N
  n : N ≤ 7
  wd : ∀ q ∈ kn0, Wd q.1 ∧ q.1.length ≤ 6
  len : kn0.length ≤ 8
  gr : ∀ r ∈ Ts, r.length ≤ 13
/-- some taken ahead, some being taken -/
structure InA (kn0 : KnA) (Ts : List (List Kd)) (N : Nat) (p : List Kd) (kn : KnA) (t mo : Nat) : Prop where
  ex : ∃ q : List (List Kd), (∀ r ∈ q, r ∈ Ts) ∧ q.length + mo < N ∧ kn = kn0 ++ nmd 0 (q.flatten ++ p) ∧ t = (q.flatten ++ p).length
/-- a kind that may be asked -/
structure KA (Ts : List (List Kd)) (Ms : List Str) (p : List Kd) (k : Kd) : Prop where
  e : ∀ t ∈ ends k, p ++ t.1 = [] ∨ p ++ t.1 ∈ Ts
  mks : ∀ m ∈ k.marks, m ∈ Ms
  lv : p.length + k.leaves ≤ 13
section
variable {kn0 kn : KnA} {Ts : List (List Kd)} {Ms : List Str} {v N t mo : Nat} {p : List Kd}
theorem flat_len13 : ∀ {q : List (List Kd)}, (∀ r ∈ q, r.length ≤ 13) → q.flatten.length ≤ 13 * q.length
  | [], _ => by simp
  | r :: q, h => by
    have := flat_len13 fun x hx => h x (List.mem_cons_of_mem _ hx)
    have := h r List.mem_cons_self
    rw [List.flatten_cons, List.length_append, List.length_cons]; omega
theorem InA.len (h : InA kn0 Ts N p kn t mo) (u : Au kn0 Ts Ms v N) (hp : p.length ≤ 13) : kn.length ≤ 99 ∧ t ≤ 91 := by
  obtain ⟨q, h1, h2, rfl, rfl⟩ := h.ex
  have h3 := flat_len13 fun r hr => u.gr r (h1 r hr)
  have h4 := u.n
  have h5 := u.len
  have h6 : 13 * q.length ≤ 13 * 6 := Nat.mul_le_mul (Nat.le_refl _) (by omega)
  rw [List.length_append, nmd_len, List.length_append]; omega
theorem InA.mono (h : InA kn0 Ts N p kn t mo) {mo' : Nat} (hm : mo' ≤ mo) : InA kn0 Ts N p kn t mo' := by
  obtain ⟨q, h1, h2, h3, h4⟩ := h.ex
  exact ⟨q, h1, by omega, h3, h4⟩
theorem InA.take (h : InA kn0 Ts N p kn t mo) (a : Kd) : InA kn0 Ts N (p ++ [a]) (kn ++ [(xn t, a)]) (t + 1) mo := by
  obtain ⟨q, h1, h2, rfl, rfl⟩ := h.ex
  refine ⟨q, h1, h2, ?_, ?_⟩
  · rw [← List.append_assoc, nmd_app (q.flatten ++ p) [a], List.append_assoc, Nat.zero_add]; rfl
  · rw [← List.append_assoc, List.length_append (bs := [a])]; rfl
/-- at a mark all is taken that is to be taken -/
theorem InA.done (h : InA kn0 Ts N p kn t mo) (hp : p = [] ∨ p ∈ Ts) (hm : 1 ≤ mo) {mo' : Nat} (hm' : mo' < mo) : InA kn0 Ts N [] kn t mo' := by
  obtain ⟨q, h1, h2, h3, h4⟩ := h.ex
  rcases hp with rfl | hp
  · exact ⟨q, h1, by omega, h3, h4⟩
  · refine ⟨q ++ [p], fun r hr => ?_, by rw [List.length_append, List.length_singleton]; omega, ?_, ?_⟩
    · rcases List.mem_append.mp hr with hr | hr
      · exact h1 r hr
      · rw [List.mem_singleton.mp hr]; exact hp
    · rw [List.flatten_append, List.flatten_singleton, List.append_nil]; exact h3
    · rw [List.flatten_append, List.flatten_singleton, List.append_nil]; exact h4
theorem InA.kinds (h : InA kn0 Ts N p kn t mo) (hp : p = [] ∨ p ∈ Ts) : ∀ x ∈ kn.map (·.2), x ∈ U0 (kn0.map (·.2)) Ts := fun x hx => by
  obtain ⟨q, h1, h2, rfl, rfl⟩ := h.ex
  rw [List.map_append, nmd_snd, List.mem_append, List.mem_append] at hx
  rcases hx with hx | hx | hx
  · exact List.mem_append_left _ hx
  · obtain ⟨r, hr, hx⟩ := List.mem_flatten.mp hx
    exact List.mem_append_right _ (List.mem_flatten.mpr ⟨r, h1 r hr, hx⟩)
  · rcases hp with rfl | hp
    · cases hx
    · exact List.mem_append_right _ (List.mem_flatten.mpr ⟨p, hp, hx⟩)
theorem InA.each (h : InA kn0 Ts N p kn t mo) (u : Au kn0 Ts Ms v N) (hp : p = [] ∨ p ∈ Ts) (hl : p.length ≤ 13) : ∀ q ∈ kn, Wd q.1 ∧ q.2.mks ∧ q.1.length ≤ 6 ∧ q.2.leaves ≤ 12 ∧ q.2.depth ≤ 12 := fun x hx => by
  have h0 := h.kinds hp x.2 (List.mem_map_of_mem hx)
  have h1 := u.cu.lk x.2 h0
  have h2 := u.cu.lv x.2 h0
  have h3 := u.cu.v12
  have h4 := h.len u hl
  obtain ⟨q, g1, g2, rfl, rfl⟩ := h.ex
  have h5 : Wd x.1 ∧ x.1.length ≤ 6 := by
    rcases List.mem_append.mp hx with hx | hx
    · exact u.wd x hx
    · obtain ⟨_, i, hi, e⟩ := nmd_mem hx
      rw [e]; exact xn_wd i (by omega)
  exact ⟨h5.1, h1.1, h5.2, by omega, h1.2⟩
def MemC (kn0 : KnA) (q : Key) (c : List (List Kd) × Str × Nat) : Prop := q = .inr (mkey (kn0 ++ nmd 0 c.1.flatten) c.2.1 c.2.2)
def CodesM (Ts : List (List Kd)) (Ms : List Str) (N : Nat) : List (List (List Kd) × Str × Nat) := (seqs Ts N).flatMap fun c => Ms.flatMap fun m => (List.range (N + 1)).map fun n => (c, m, n)
def MemA (kn0 : KnA) (Ts : List (List Kd)) (Ms : List Str) (N : Nat) (q : Key) : Prop := ∃ c ∈ CodesM Ts Ms N, MemC kn0 q c
theorem codesM_len (Ts : List (List Kd)) (Ms : List Str) (N : Nat) : (CodesM Ts Ms N).length = slen Ts.length N * (Ms.length * (N + 1)) := by
  unfold CodesM
  rw [List.length_flatMap]
  have h1 : ∀ c : List (List Kd), (Ms.flatMap fun m => (List.range (N + 1)).map fun n => (c, m, n)).length = Ms.length * (N + 1) := fun c => by
    rw [List.length_flatMap]
    induction Ms with
    | nil => simp
    | cons m r ih => rw [List.map_cons, List.sum_cons, ih, List.length_map, List.length_range, List.length_cons, Nat.add_mul]; omega
  have h2 : ∀ l : List (List (List Kd)), (l.map fun c => (Ms.flatMap fun m => (List.range (N + 1)).map fun n => (c, m, n)).length).sum = l.length * (Ms.length * (N + 1)) := fun l => by
    induction l with
    | nil => simp
    | cons c r ih => rw [List.map_cons, List.sum_cons, ih, h1, List.length_cons, Nat.add_mul]; omega
  rw [h2, seqs_len]
theorem memA_len {kvs : List (Key × D)} (u : Au kn0 Ts Ms v N) (h : KB (MemA kn0 Ts Ms N) kvs) : kvs.length < 2 ^ 23 := by
  have h1 := le_of_rel (R := MemC kn0) h.1 h.2 fun k k' c h1 h2 => h1.trans h2.symm
  rw [List.length_map, codesM_len] at h1
  have h2 : slen Ts.length N ≤ 335923 := by
    rw [← slen_top]
    exact Nat.le_trans (slen_g u.cu.ts N) (slen_n (by decide) u.n)
  have h3 : Ms.length * (N + 1) ≤ 3 * 8 := Nat.mul_le_mul u.cu.ml (by have := u.n; omega)
  exact Nat.lt_of_le_of_lt (Nat.le_trans h1 (Nat.mul_le_mul h2 h3)) (by decide)
theorem InA.key (h : InA kn0 Ts N p kn t mo) (hp : p = [] ∨ p ∈ Ts) {m : Str} (hm : m ∈ Ms) : MemA kn0 Ts Ms N (.inr (mkey kn m mo)) := by
  obtain ⟨q, h1, h2, h3, h4⟩ := h.ex
  have mk : ∀ c : List (List Kd), (∀ r ∈ c, r ∈ Ts) → c.length ≤ N → kn = kn0 ++ nmd 0 c.flatten → MemA kn0 Ts Ms N (.inr (mkey kn m mo)) := fun c g1 g2 g3 =>
    ⟨(c, m, mo), List.mem_flatMap.mpr ⟨c, mem_seqs N c g1 g2, List.mem_flatMap.mpr ⟨m, hm, List.mem_map.mpr ⟨mo, List.mem_range.mpr (by omega), rfl⟩⟩⟩, by unfold MemC; rw [g3]⟩
  rcases hp with rfl | hp
  · exact mk q h1 (by omega) (by rw [h3, List.append_nil])
  · refine mk (q ++ [p]) (fun r hr => ?_) (by rw [List.length_append, List.length_singleton]; omega) (by rw [h3, List.flatten_append, List.flatten_singleton])
    rcases List.mem_append.mp hr with hr | hr
    · exact h1 r hr
    · rw [List.mem_singleton.mp hr]; exact hp
/-- how many takes there are, by the row alone -/
theorem InA.takes (h : InA kn0 Ts N p kn t mo) : t = kn.length - kn0.length := by
  obtain ⟨q, h1, h2, rfl, rfl⟩ := h.ex
  have e : List.length (kn0 ++ nmd 0 (q.flatten ++ p)) = List.length kn0 + (q.flatten ++ p).length := by rw [List.length_append, nmd_len]
  rw [e, Nat.add_sub_cancel_left]
end
end Kf
namespace Kf
open PySem PySem.Spec L2
open PyProof.Rows hiding St
/-! ### some of all, in order -/
theorem flat_sub {α β : Type} {f : α → List β} {a b : List α} (h : a.Sublist b) : (a.flatMap f).Sublist (b.flatMap f) := by
  induction h with
  | slnil => exact .slnil
  | cons x h ih =>
    rw [List.flatMap_cons]
    exact ih.trans (List.sublist_append_right _ _)
  | cons_cons x h ih =>
    rw [List.flatMap_cons, List.flatMap_cons]
    exact (List.Sublist.refl _).append ih
def goS (g : GA) (kn : KnA) (t mo : Nat) : Mv → List PS → List PS
  | .one, F => F.map fun p => (.first p.1, p.2)
  | .two, F => F.map fun p => (.second p.1, p.2)
  | .k a, F => F.flatMap fun p => (g kn a (mo - p.2) t).map fun q => (.give p.1 q.1, p.2 + q.2)
theorem goG_step (g : GA) (kn : KnA) (t mo : Nat) : ∀ (w : List Mv) (m : Mv) (F : List PS), goG g kn t mo (w ++ [m]) F = goS g kn t mo m (goG g kn t mo w F)
  | [], .one, F => rfl
  | [], .two, F => rfl
  | [], .k a, F => rfl
  | .one :: r, m, F => by rw [List.cons_append, goG, goG, goG_step]
  | .two :: r, m, F => by rw [List.cons_append, goG, goG, goG_step]
  | .k a :: r, m, F => by rw [List.cons_append, goG, goG, goG_step]
theorem goS_sub {g : GA} {kn : KnA} {t mo : Nat} {a b : List PS} (h : a.Sublist b) : ∀ m : Mv, (goS g kn t mo m a).Sublist (goS g kn t mo m b)
  | .one => h.map _
  | .two => h.map _
  | .k _ => flat_sub h
theorem flatMap_snoc {α β : Type} (f : α → List β) (l : List α) (x : α) : (l ++ [x]).flatMap f = l.flatMap f ++ f x := by rw [List.flatMap_append, List.flatMap_singleton]
/-! ### what is shown -/
theorem toPys_kv (kn : KnA) : toPys (kn.map kv) = kn.map prD := by
  induction kn with
  | nil => rfl
  | cons q r ih => simp only [List.map_cons, toPys, ih]; rw [show toPy (kv q) = prD q by simp only [kv, prD, toPy, toPys, toPy_dK]]
mutual
theorem rkD_ok : ∀ k : Kd, (rkD k).showable = true ∧ (rkD k).hasDict = false ∧ (rkD k).depth ≤ k.depth + 1
  | .mk m => by simp [rkD, PyData.showable, PyData.showableAll, PyData.hasDict, PyData.hasDictAll, PyData.depth, PyData.depthAll]
  | .one => by simp [rkD, PyData.showable, PyData.showableAll, PyData.hasDict, PyData.hasDictAll, PyData.depth, PyData.depthAll]
  | .to a b => by
    have ha := rkD_ok a
    have hb := rkD_ok b
    simp only [rkD, PyData.showable, PyData.showableAll, PyData.hasDict, PyData.hasDictAll, PyData.depth, PyData.depthAll, ha, hb, Kd.depth, Bool.and_self, Bool.or_self, true_and]
    omega
  | .both a b => by
    have ha := rkD_ok a
    have hb := rkD_ok b
    simp only [rkD, PyData.showable, PyData.showableAll, PyData.hasDict, PyData.hasDictAll, PyData.depth, PyData.depthAll, ha, hb, Kd.depth, Bool.and_self, Bool.or_self, true_and]
    omega
end
theorem prs_ok : ∀ kn : KnA, (∀ q ∈ kn, q.2.depth ≤ 12) → PyData.showableAll (kn.map prD) = true ∧ PyData.hasDictAll (kn.map prD) = false ∧ PyData.depthAll (kn.map prD) ≤ 20
  | [], _ => by simp [PyData.showableAll, PyData.hasDictAll, PyData.depthAll]
  | q :: r, h => by
    have h1 := prs_ok r fun x hx => h x (List.mem_cons_of_mem _ hx)
    have h2 := rkD_ok q.2
    have h3 := h q List.mem_cons_self
    simp only [List.map_cons, PyData.showableAll, PyData.hasDictAll, PyData.depthAll, h1, prD, PyData.showable, PyData.hasDict, PyData.depth, h2, Bool.and_self, Bool.or_self, true_and]
    omega
end Kf
namespace Kf
theorem goS_snoc (g : GA) (kn : KnA) (t mo : Nat) : ∀ (m : Mv) (F : List PS) (q : PS), goS g kn t mo m (F ++ [q]) = goS g kn t mo m F ++ goS g kn t mo m [q]
  | .one, F, q => by simp [goS]
  | .two, F, q => by simp [goS]
  | .k a, F, q => by simp only [goS, List.flatMap_append]
theorem goS_nil (g : GA) (kn : KnA) (t mo : Nat) : ∀ m : Mv, goS g kn t mo m [] = []
  | .one => rfl
  | .two => rfl
  | .k _ => rfl
theorem goS_size {kn : KnA} {t mo : Nat} : ∀ (m : Mv) (F : List PS), (∀ q ∈ F, q.2 ≤ mo ∧ 1 ≤ q.2) → ∀ r ∈ goS eA kn t mo m F, r.2 ≤ mo ∧ 1 ≤ r.2
  | .one, F, h, r, hr => by
    obtain ⟨q, hq, rfl⟩ := List.mem_map.mp hr
    exact h q hq
  | .two, F, h, r, hr => by
    obtain ⟨q, hq, rfl⟩ := List.mem_map.mp hr
    exact h q hq
  | .k a, F, h, r, hr => ⟨flat_size (fun q hq => (h q hq).1) (fun q hq => eA_size) r hr, flat_pos (fun q hq => (h q hq).2) r hr⟩
end Kf
namespace Kf
open PySem PySem.Spec L2
open PyProof.Rows hiding St
local macro_rules | `(tactic| walk_at "kf") => `(tactic| simp (config := { failIfUnchanged := false }) only [startD, ap_fiEnumT, asT1_t, ap_fKGet, asStr_s, ap_fKIn, ap_fKIx, ap_gAsgL, rUnl_l, ap_fiRng3, asR3_i, rSplitO_s, ap_fOrL, rOrL_l, ap_fLcK, ap_gForK, ap_fMaxD, rMaxD_l, rMaxL_l, ap_fCallXD, ap_gForE, asLE_l, ap_fFrz, ap_fDicO, ap_fDGet, ap_fDGet1, ap_fDGet2, ap_gDPut, ap_fIsiT, ap_gForR, rRep_l, isT_i, isT_s, isT_b, isT_n, isT_t, isT_l, ap_gSeq, ap_gIf, ap_gRet, ap_gNext, ap_gSet, ap_gAsg, ap_gPar, ap_gDrop, ap_gRetF, ap_gRetN, ap_gFor, ap_gSetIx, ap_gBreak, ap_fRev, ap_fiRevR, asIR_i, rRev_l, ap_fCallX, ap_gRaise, ap_gTry, ap_gTryAs, ap_gNever, ap_fEdic, ap_fTest, ap_fOp, ap_fVar, envGet_s, patGet_s, ap_fC, ap_fCB, ap_fCons, ap_fNil, ap_fCall, ap_fAnd, ap_fOr, ap_fNot, ap_fAndV, ap_fOrV, ap_fNotV, ap_fIf, ap_fTup, ap_fLst, ap_fLstO, ap_fChain, ap_fUn, ap_fBM, ap_fBM0, ap_fPool, rPool_i, ap_fSl, ap_fPart, ap_fNoPart, asI_i, rSl_l, ap_fiRng1, ap_fiRng2, ap_fiList, ap_fiTup, ap_fiStr, ap_fiEnum, ap_fiZip, ap_fiRev, asL_l, asT_t, asSg_s, asR1_i, asR2_i, asL1_l, asL2_l, ap_fLc, ap_fLcO, ap_fYes, wipeD, lcD, isi_i_int, isi_i_bool, isi_i_str, isi_i_tuple, isi_i_list, isi_i_dict, isi_b_int, isi_b_bool, isi_b_str, isi_b_tuple, isi_b_list, isi_b_dict, isi_s_int, isi_s_bool, isi_s_str, isi_s_tuple, isi_s_list, isi_s_dict, isi_t_int, isi_t_bool, isi_t_str, isi_t_tuple, isi_t_list, isi_t_dict, isi_l_int, isi_l_bool, isi_l_str, isi_l_tuple, isi_l_list, isi_l_dict, isi_n_int, isi_n_bool, isi_n_str, isi_n_tuple, isi_n_list, isi_n_dict, isi_d_int, isi_d_bool, isi_d_str, isi_d_tuple, isi_d_list, isi_d_dict,
  deref_tup, deref_lst, deref_int, deref_str, deref_bl, deref_non, deref_scr, rLt_i, rLt_s, rLe_i, rLe_s, rInts_i, rInts0_i, rAdd_i, rAdd_s, rAdd_l, rAdd_t, rCatO_l, rNeg_i, rLen_t, rLen_l, rLen_c, rLen_s, rMax_i, rMin_i, rInt_i, rInt_b, rDivmod_i, ap_gAug, rStr_i, rList_l, rList_t, rListO_l, rListO_t, rTup_l, rTup_t,
  rIx_t0, rIx_t1, rIx_t2, rIx_t3, rIx_l0, rIx_l1, rIx_l2, rIsN_x, isNon_t, isNon_n, isNon_i, isNon_s, isNon_l, rEq_i, rEq_b, rEq_i2, rEq_b2, rJoin_m, rSplit_s, tyOk_l, tyOk_s, patD_nm, patD_tp, patDs_nil, patDs_cons, Option.bind_some, notX, notX',
  List.map_cons, List.map_nil, List.length_cons, List.length_nil, List.cons_append, List.nil_append, List.append_nil, List.replicate, List.getElem?_cons_zero, List.getElem?_cons_succ, List.set_cons_zero, List.set_cons_succ, updO_same, updO_updO,
  Nat.reduceSub, Nat.reduceAdd, Nat.reduceLeDiff, Nat.zero_add, Int.cast_ofNat_Int, Int.natCast_zero, Int.natCast_one, Int.reduceLT, Int.reduceLE, Int.reduceEq, Int.reduceAdd, Int.reduceSub, Int.reduceNeg, decide_true, decide_false, if_true, if_false, Bool.false_eq_true, eq_self, reduceIte, Bool.true_eq_false, decide_eq_true_eq, Bool.not_true, Bool.not_false, Bool.not_eq_true', decide_eq_false_iff_not, exists_eq_left', exists_eq_left, D.bl.injEq, true_and, and_true, not_true_eq_false, not_false_eq_true])
local macro_rules | `(tactic| walk_at "len") => `(tactic| (intro ds O R RE h; first | (obtain ⟨e, _⟩ := h; subst e; rfl) | (obtain ⟨_, e, _⟩ := h; subst e; rfl) | (obtain ⟨_, _, e, _⟩ := h; subst e; rfl) | (obtain ⟨_, _, _, e, _⟩ := h; subst e; rfl) | (obtain ⟨_, _, _, _, e, _⟩ := h; subst e; rfl) | (obtain ⟨_, _, _, _, _, e, _⟩ := h; subst e; rfl) | (obtain ⟨_, _, _, _, _, _, e, _⟩ := h; subst e; rfl) | (obtain ⟨_, _, _, _, _, _, _, e, _⟩ := h; subst e; rfl) | (obtain ⟨_, _, _, _, _, _, _, _, e, _⟩ := h; subst e; rfl) | (obtain ⟨_, _, _, _, _, _, _, _, _, e, _⟩ := h; subst e; rfl)))
local macro_rules | `(tactic| walk_at "kf1") => `(tactic| simp (config := { failIfUnchanged := false }) only [startD, ap_fiEnumT, asT1_t, ap_fKGet, asStr_s, ap_fKIn, ap_fKIx, ap_gAsgL, rUnl_l, ap_fiRng3, asR3_i, rSplitO_s, ap_fOrL, rOrL_l, ap_fLcK, ap_gForK, ap_fMaxD, rMaxD_l, rMaxL_l, ap_fCallXD, ap_gForE, asLE_l, ap_fFrz, ap_fDicO, ap_fDGet, ap_fDGet1, ap_fDGet2, ap_gDPut, ap_fIsiT, ap_gForR, rRep_l, isT_i, isT_s, isT_b, isT_n, isT_t, isT_l, ap_gIf, ap_gRet, ap_gNext, ap_gSet, ap_gAsg, ap_gPar, ap_gDrop, ap_gRetF, ap_gRetN, ap_gFor, ap_gSetIx, ap_gBreak, ap_fRev, ap_fiRevR, asIR_i, rRev_l, ap_fCallX, ap_gRaise, ap_gTry, ap_gTryAs, ap_gNever, ap_fEdic, ap_fTest, ap_fOp, ap_fVar, envGet_s, patGet_s, ap_fC, ap_fCB, ap_fCons, ap_fNil, ap_fCall, ap_fAnd, ap_fOr, ap_fNot, ap_fAndV, ap_fOrV, ap_fNotV, ap_fIf, ap_fTup, ap_fLst, ap_fLstO, ap_fChain, ap_fUn, ap_fBM, ap_fBM0, ap_fPool, rPool_i, ap_fSl, ap_fPart, ap_fNoPart, asI_i, rSl_l, ap_fiRng1, ap_fiRng2, ap_fiList, ap_fiTup, ap_fiStr, ap_fiEnum, ap_fiZip, ap_fiRev, asL_l, asT_t, asSg_s, asR1_i, asR2_i, asL1_l, asL2_l, ap_fLc, ap_fLcO, ap_fYes, wipeD, lcD, isi_i_int, isi_i_bool, isi_i_str, isi_i_tuple, isi_i_list, isi_i_dict, isi_b_int, isi_b_bool, isi_b_str, isi_b_tuple, isi_b_list, isi_b_dict, isi_s_int, isi_s_bool, isi_s_str, isi_s_tuple, isi_s_list, isi_s_dict, isi_t_int, isi_t_bool, isi_t_str, isi_t_tuple, isi_t_list, isi_t_dict, isi_l_int, isi_l_bool, isi_l_str, isi_l_tuple, isi_l_list, isi_l_dict, isi_n_int, isi_n_bool, isi_n_str, isi_n_tuple, isi_n_list, isi_n_dict, isi_d_int, isi_d_bool, isi_d_str, isi_d_tuple, isi_d_list, isi_d_dict,
  deref_tup, deref_lst, deref_int, deref_str, deref_bl, deref_non, deref_scr, rLt_i, rLt_s, rLe_i, rLe_s, rInts_i, rInts0_i, rAdd_i, rAdd_s, rAdd_l, rAdd_t, rCatO_l, rNeg_i, rLen_t, rLen_l, rLen_c, rLen_s, rMax_i, rMin_i, rInt_i, rInt_b, rDivmod_i, ap_gAug, rStr_i, rList_l, rList_t, rListO_l, rListO_t, rTup_l, rTup_t,
  rIx_t0, rIx_t1, rIx_t2, rIx_t3, rIx_l0, rIx_l1, rIx_l2, rIsN_x, isNon_t, isNon_n, isNon_i, isNon_s, isNon_l, rEq_i, rEq_b, rEq_i2, rEq_b2, rJoin_m, rSplit_s, tyOk_l, tyOk_s, patD_nm, patD_tp, patDs_nil, patDs_cons, Option.bind_some, notX, notX',
  List.map_cons, List.map_nil, List.length_cons, List.length_nil, List.cons_append, List.nil_append, List.append_nil, List.replicate, List.getElem?_cons_zero, List.getElem?_cons_succ, List.set_cons_zero, List.set_cons_succ, updO_same, updO_updO,
  Nat.reduceSub, Nat.reduceAdd, Nat.reduceLeDiff, Nat.zero_add, Int.cast_ofNat_Int, Int.natCast_zero, Int.natCast_one, Int.reduceLT, Int.reduceLE, Int.reduceEq, Int.reduceAdd, Int.reduceSub, Int.reduceNeg, decide_true, decide_false, if_true, if_false, Bool.false_eq_true, eq_self, reduceIte, Bool.true_eq_false, decide_eq_true_eq, Bool.not_true, Bool.not_false, Bool.not_eq_true', decide_eq_false_iff_not, exists_eq_left', exists_eq_left, D.bl.injEq, true_and, and_true, not_true_eq_false, not_false_eq_true])
section
variable {P : Program} {w : World} {K : PySem.W.Frag} {mg : Str → Option Value} {base : Heap}
local macro_rules | `(tactic| walk_at "tg") => `(tactic| simp (config := { failIfUnchanged := false }) only [te_name_take, te_name_give, te_name_pair, te_name_first, te_name_second, te_name_to, te_name_both, te_name_one, te_name_mark, te_name_name, te_name_thing, te_name_at, te_thing_take, te_thing_give, te_thing_pair, te_thing_first, te_thing_second, te_thing_to, te_thing_both, te_thing_one, te_thing_mark, te_thing_name, te_thing_thing, te_thing_at, te_take_take, te_take_give, te_take_pair, te_take_first, te_take_second, te_take_to, te_take_both, te_take_one, te_take_mark, te_take_name, te_take_thing, te_take_at, te_give_take, te_give_give, te_give_pair, te_give_first, te_give_second, te_give_to, te_give_both, te_give_one, te_give_mark, te_give_name, te_give_thing, te_give_at, te_pair_take, te_pair_give, te_pair_pair, te_pair_first, te_pair_second, te_pair_to, te_pair_both, te_pair_one, te_pair_mark, te_pair_name, te_pair_thing, te_pair_at, te_first_take, te_first_give, te_first_pair, te_first_first, te_first_second, te_first_to, te_first_both, te_first_one, te_first_mark, te_first_name, te_first_thing, te_first_at, te_second_take, te_second_give, te_second_pair, te_second_first, te_second_second, te_second_to, te_second_both, te_second_one, te_second_mark, te_second_name, te_second_thing, te_second_at, te_mark_take, te_mark_give, te_mark_pair, te_mark_first, te_mark_second, te_mark_to, te_mark_both, te_mark_one, te_mark_mark, te_mark_name, te_mark_thing, te_mark_at, te_one_take, te_one_give, te_one_pair, te_one_first, te_one_second, te_one_to, te_one_both, te_one_one, te_one_mark, te_one_name, te_one_thing, te_one_at, te_to_take, te_to_give, te_to_pair, te_to_first, te_to_second, te_to_to, te_to_both, te_to_one, te_to_mark, te_to_name, te_to_thing, te_to_at, te_both_take, te_both_give, te_both_pair, te_both_first, te_both_second, te_both_to, te_both_both, te_both_one, te_both_mark, te_both_name, te_both_thing, te_both_at, te_at_take, te_at_give, te_at_pair, te_at_first, te_at_second, te_at_to, te_at_both, te_at_one, te_at_mark, te_at_name, te_at_thing, te_at_at, ti4_name, ti4_thing, ti4_take, ti4_give, ti4_pair, ti4_first, ti4_second, ti2_name, ti2_thing, ti2_take, ti2_give, ti2_pair, ti2_first, ti2_second, szT_0, szT_1, szT_2, szT_3, szT_4, szT_5, szT_6, szT_7, szT_8, szT_9, szT_10, szT_11, szT_12, Bool.not_true, Bool.not_false, true_and])
theorem ok_lways (T : TxW w K mg) : ∀ n, FO__law_ways P w base T (n + 1) (spWys n)
  | 0 => fnUp (none_left fun ds O R RE ⟨k, _, h, _⟩ => by omega) (Nat.zero_le _)
  | n + 1 => by
    refine fnd__law_ways T (ok_lways T n) (by walk_at "len") ?_
    rintro ds O R RE ⟨k, rfl, hd, h100, hl, ho, hR⟩
    unfold g__law_ways
    cases k with
    | one => simp only [dK]; walk_at "kf"; exact ⟨sz_small (by decide), hR⟩
    | mk m =>
      simp only [dK]
      walk_at "kf"
      exact ⟨sz_small (by decide), sz_small (by decide), sz_small (by decide), hR⟩
    | to a b =>
      simp only [Kd.depth] at hd h100
      simp only [Kd.leaves] at hl
      simp only [Kd.ok, Bool.and_eq_true] at ho
      have hbl := wys_len b
      simp only [dK]
      walk_at "kf"
      walk_at "tg"
      walk_at "kf"
      walk_at "tg"
      walk_at "kf"
      refine ⟨b, rfl, by omega, by omega, by omega, ho.2, ?_⟩
      walk_at "kf"
      refine lcA_map dWy (fun e => dWy (Mv.k a :: e.1, e.2)) (wys b) _ _ (sz_small (by simp only [List.length_nil]; omega)) ?_ ?_
      · intro e he Q' hQ
        have := wys_mvl b e he
        simp only [dWy]
        walk_at "kf"
        exact ⟨sz_small (by decide), sz_small (by simp only [List.length_map, List.length_singleton]; omega), sz_small (by decide), hQ⟩
      · rw [List.nil_append]
        rw [wys, List.map_map] at hR
        exact hR
    | both a b =>
      simp only [Kd.depth] at hd h100
      simp only [Kd.leaves] at hl
      simp only [Kd.ok, Bool.and_eq_true] at ho
      have hal := wys_len a
      have hbl := wys_len b
      simp only [dK]
      walk_at "kf"
      walk_at "tg"
      walk_at "kf"
      walk_at "tg"
      walk_at "kf"
      refine ⟨a, rfl, by omega, by omega, by omega, ho.1, ?_⟩
      walk_at "kf"
      refine lcA_map dWy (fun e => dWy (Mv.one :: e.1, e.2)) (wys a) _ _ (sz_small (by simp only [List.length_nil]; omega)) ?_ ?_
      · intro e he Q' hQ
        have := wys_mvl a e he
        simp only [dWy]
        walk_at "kf"
        exact ⟨sz_small (by decide), sz_small (by simp only [List.length_map, List.length_singleton]; omega), sz_small (by decide), hQ⟩
      · rw [List.nil_append]
        walk_at "kf"
        refine ⟨b, rfl, by omega, by omega, by omega, ho.2, ?_⟩
        walk_at "kf"
        refine lcA_map dWy (fun e => dWy (Mv.two :: e.1, e.2)) (wys b) _ _ (sz_small (by simp only [List.length_nil]; omega)) ?_ ?_
        · intro e he Q' hQ
          have := wys_mvl b e he
          simp only [dWy]
          walk_at "kf"
          exact ⟨sz_small (by decide), sz_small (by simp only [List.length_map, List.length_singleton]; omega), sz_small (by decide), hQ⟩
        · rw [List.nil_append]
          walk_at "kf"
          rw [List.length_map, List.length_map]
          refine ⟨sz_small (by omega), ?_⟩
          rw [wys, List.map_append, List.map_map, List.map_map] at hR
          exact hR
/-- a told program with its size -/
def dPS (q : PS) : D := .tup [dP q.1, .int (q.2 : Nat)]
theorem ct_ne : (Sum.inr (Str.ofString "cut") : Key) ≠ .inr (Str.ofString "told") := fun e => by
  injection e with e
  exact absurd e (by decide +kernel)
def kvS (b : Bool) (pT : Addr) : List (Key × D) := [(.inr (Str.ofString "cut"), .bl b), (.inr (Str.ofString "told"), .ref pT)]
theorem valS_told (b : Bool) (pT : Addr) : valD (kvS b pT) (.inr (Str.ofString "told")) = some (.ref pT) := by
  unfold kvS
  simp [valD, List.find?, show ¬ (Str.ofString "cut" = Str.ofString "told") from by decide +kernel]
theorem valS_cut (b : Bool) (pT : Addr) : valD (kvS b pT) (.inr (Str.ofString "cut")) = some (.bl b) := by
  unfold kvS
  simp [valD, List.find?]
theorem putS_cut (b c : Bool) (pT : Addr) : putD (kvS b pT) (.inr (Str.ofString "cut")) (.bl c) = kvS c pT := by
  unfold kvS putD
  simp [Ne.symm ct_ne]
def spFew : DSp := fun ds O R _ => ∃ (xs : List D) (pS pT : Addr) (b : Bool), ds = [.lst xs, .ref pS] ∧ O pS = some (.dic (kvS b pT)) ∧ R (.lst (xs.take 80)) (updO O pS (.dic (kvS (b || decide (80 < xs.length)) pT)))
theorem ok_few (T : TxW w K mg) : FO__law_few P w base T 1 spFew := by
  refine fnd__law_few T (by walk_at "len") ?_
  rintro ds O R RE ⟨xs, pS, pT, b, rfl, hS, hR⟩
  unfold g__law_few
  refine gSeq_step ?_
  walk_at "kf1"
  have hcut : cut xs none (some 80) = xs.take 80 := by simp [cut, HT.sIx]
  by_cases c : 80 < xs.length
  · rw [if_pos (by omega), rDPut_s hS, putS_cut]
    refine ⟨sz_small (by show 2 < _; decide), ?_⟩
    walk_at "kf1"
    rw [hcut]
    rw [decide_eq_true c, Bool.or_true] at hR
    exact hR
  · rw [if_neg (by omega)]
    walk_at "kf1"
    rw [hcut]
    rw [decide_eq_false c, Bool.or_false, upd_ext hS] at hR
    exact hR
/-- the cells of what is seen -/
structure StA (O : Ow) (pS pT : Addr) (b : Bool) (kt : List (Key × D)) : Prop where
  s : O pS = some (.dic (kvS b pT))
  t : O pT = some (.dic kt)
  ne : pS ≠ pT
def upS (O : Ow) (pS pT : Addr) (b : Bool) (kt : List (Key × D)) : Ow := updO (updO O pS (.dic (kvS b pT))) pT (.dic kt)
theorem StA.up (h : StA O pS pT b kt) (b' : Bool) (kt' : List (Key × D)) : StA (upS O pS pT b' kt') pS pT b' kt' := ⟨by unfold upS; rw [updO_ne h.ne]; exact updO_same, updO_same, h.ne⟩
theorem upS_self (h : StA O pS pT b kt) : upS O pS pT b kt = O := by
  unfold upS
  rw [upd_ext h.s, upd_ext h.t]
theorem upS_upS (ne : pS ≠ pT) (b : Bool) (kt : List (Key × D)) (b' : Bool) (kt' : List (Key × D)) : upS (upS O pS pT b kt) pS pT b' kt' = upS O pS pT b' kt' := by
  funext x
  unfold upS
  by_cases e : x = pT
  · subst e; rw [updO_same, updO_same]
  · rw [updO_ne e, updO_ne e]
    by_cases e2 : x = pS
    · subst e2; rw [updO_same, updO_same]
    · rw [updO_ne e2, updO_ne e, updO_ne e2, updO_ne e2]
theorem StA.putT (h : StA O pS pT b kt) : updO O pT (.dic kt') = upS O pS pT b kt' := by
  unfold upS
  rw [upd_ext h.s]
theorem StA.putS (h : StA O pS pT b kt) : updO O pS (.dic (kvS b' pT)) = upS O pS pT b' kt := by
  unfold upS
  rw [upd_ext (O := updO O pS (.dic (kvS b' pT))) (a := pT) (by rw [updO_ne (Ne.symm h.ne)]; exact h.t)]
/-- what is told is some of all, in order; all, where nothing was cut -/
structure Tld (ys : List PS) (all : List PS) (b : Bool) : Prop where
  sub : ys.Sublist all
  full : b = false → ys = all
/-- the memo is right -/
def MOk (kn0 : KnA) (Ts : List (List Kd)) (Ms : List Str) (v N : Nat) (b : Bool) (kt : List (Key × D)) : Prop := ∀ (p : List Kd) (kn : KnA) (t mo : Nat) (m : Str), InA kn0 Ts N p kn t mo → (p = [] ∨ p ∈ Ts) → p.length ≤ 13 → m ∈ Ms → ∀ d, valD kt (.inr (mkey kn m mo)) = some d → ∃ ys : List PS, d = .lst (ys.map dPS) ∧ ys.length ≤ 80 ∧ Tld ys (eA kn (.mk m) mo t) b
theorem Tld.cut {ys all : List PS} {b b' : Bool} (h : Tld ys all b) (hb : b = true → b' = true) : Tld ys all b' := ⟨h.sub, fun e => h.full (by cases b with
  | false => rfl
  | true => rw [hb rfl] at e; cases e)⟩
theorem MOk.cut {kn0 : KnA} {Ts : List (List Kd)} {Ms : List Str} {v N : Nat} {b b' : Bool} {kt : List (Key × D)} (h : MOk kn0 Ts Ms v N b kt) (hb : b = true → b' = true) : MOk kn0 Ts Ms v N b' kt := fun p kn t mo m h1 h2 h3 h4 d e => by
  obtain ⟨ys, e1, e2, e3⟩ := h p kn t mo m h1 h2 h3 h4 d e
  exact ⟨ys, e1, e2, e3.cut hb⟩
theorem MOk.put {kn0 kn : KnA} {Ts : List (List Kd)} {Ms : List Str} {v N t mo : Nat} {b : Bool} {kt : List (Key × D)} {p : List Kd} {m : Str} {ys : List PS} (h : MOk kn0 Ts Ms v N b kt) (u : Au kn0 Ts Ms v N) (h1 : InA kn0 Ts N p kn t mo) (h2 : p = [] ∨ p ∈ Ts) (h3 : p.length ≤ 13) (h4 : m ∈ Ms) (h5 : ys.length ≤ 80) (h6 : Tld ys (eA kn (.mk m) mo t) b) : MOk kn0 Ts Ms v N b (putD kt (.inr (mkey kn m mo)) (.lst (ys.map dPS))) := fun p' kn' t' mo' m' g1 g2 g3 g4 d e => by
  rw [valD_put] at e
  split at e
  · rename_i q
    injection q with q
    have hN := u.n
    have l1 : mo < 512 := by obtain ⟨_, _, h, _⟩ := h1.ex; omega
    have l2 : mo' < 512 := by obtain ⟨_, _, h, _⟩ := g1.ex; omega
    obtain ⟨rfl, rfl, rfl⟩ := mkey_inj (fun x hx => ⟨(g1.each u g2 g3 x hx).1, (g1.each u g2 g3 x hx).2.1⟩) (fun x hx => ⟨(h1.each u h2 h3 x hx).1, (h1.each u h2 h3 x hx).2.1⟩) (u.cu.mm _ g4) (u.cu.mm _ h4) l2 l1 q
    injection e with e
    have et : t' = t := by rw [g1.takes, h1.takes]
    exact ⟨ys, e.symm, h5, by rw [et]; exact h6⟩
  · exact h p' kn' t' mo' m' g1 g2 g3 g4 d e
/-- what every def of this part asks and tells -/
structure Sn (kn0 : KnA) (Ts : List (List Kd)) (Ms : List Str) (v N : Nat) (b : Bool) (kt : List (Key × D)) : Prop where
  m : MOk kn0 Ts Ms v N b kt
  k : KB (MemA kn0 Ts Ms N) kt
def restD (t mo : Nat) (pS : Addr) : D := .tup [.int (t : Nat), .int (mo : Nat), .ref pS]
def spAl (n : Nat) : DSp := fun ds O R _ => ∃ (kn0 kn : KnA) (Ts : List (List Kd)) (Ms : List Str) (v N : Nat) (p : List Kd) (k : Kd) (t mo : Nat) (pS pT : Addr) (b : Bool) (kt : List (Key × D)),
  ds = [.lst (kn.map kv), dK k, restD t mo pS] ∧ Au kn0 Ts Ms v N ∧ StA O pS pT b kt ∧ Sn kn0 Ts Ms v N b kt ∧ InA kn0 Ts N p kn t mo ∧ KA Ts Ms p k ∧ 14 * mo + k.depth < n ∧
  ∀ (b' : Bool) (kt' : List (Key × D)) (ys : List PS), (b = true → b' = true) → Sn kn0 Ts Ms v N b' kt' → ys.length ≤ 80 → Tld ys (eA kn k mo t) b' → R (.lst (ys.map dPS)) (upS O pS pT b' kt')
/-- the programs by which a name is gone along; so many more names at most -/
def spGo (n : Nat) : DSp := fun ds O R _ => ∃ (kn0 kn : KnA) (Ts : List (List Kd)) (Ms : List Str) (v N : Nat) (x : Str) (w : List Mv) (t mo : Nat) (pS pT : Addr) (b : Bool) (kt : List (Key × D)),
  ds = [.lst (kn.map kv), dP (.nm x), .lst (w.map dMv), restD t mo pS] ∧ Au kn0 Ts Ms v N ∧ StA O pS pT b kt ∧ Sn kn0 Ts Ms v N b kt ∧ InA kn0 Ts N [] kn t mo ∧ (∀ a ∈ mvT w, KA Ts Ms [] a ∧ a.depth ≤ 12) ∧ w.length ≤ 12 ∧ 14 * mo + 14 ≤ n ∧
  ∀ (b' : Bool) (kt' : List (Key × D)) (ys : List PS), (b = true → b' = true) → Sn kn0 Ts Ms v N b' kt' → ys.length ≤ 80 → Tld ys (goG eA kn t (mo + 1) w [(.nm x, 1)]) b' → R (.lst (ys.map dPS)) (upS O pS pT b' kt')
theorem wd_so {x : Str} (h : Wd x) : PyData.strOk x = true := by
  unfold PyData.strOk
  rw [Array.all_eq_true_iff_forall_mem]
  intro c hc
  have h1 := h c (by simpa using hc)
  unfold wdc at h1
  simp only [Bool.or_eq_true, Bool.and_eq_true, decide_eq_true_eq] at h1
  exact decide_eq_true (by omega)
theorem kvs_py : ∀ {kn : KnA}, (∀ q ∈ kn, PyData.strOk q.1 = true ∧ q.2.ok = true) → isPys (kn.map kv) = true
  | [], _ => rfl
  | q :: r, h => by
    have h1 := h q List.mem_cons_self
    simp only [List.map_cons, isPys, kv, isPy, isPy_dK, h1.1, h1.2, kvs_py fun x hx => h x (List.mem_cons_of_mem _ hx), Bool.and_self]
theorem StA.nS {O : Ow} {pS pT f : Addr} {b : Bool} {kt : List (Key × D)} (h : StA O pS pT b kt) (hf : O f = none) : f ≠ pS ∧ f ≠ pT := ⟨fun e => (by rw [e, h.s] at hf; cases hf), fun e => (by rw [e, h.t] at hf; cases hf)⟩
theorem upS_none {O : Ow} {pS pT f : Addr} {b b' : Bool} {kt kt' : List (Key × D)} (h : StA O pS pT b kt) (hf : O f = none) : upS O pS pT b' kt' f = none := by
  obtain ⟨h1, h2⟩ := h.nS hf
  unfold upS
  rw [updO_ne h2, updO_ne h1]; exact hf
theorem upS_upd {O : Ow} {pS pT f : Addr} {b b' : Bool} {kt kt' : List (Key × D)} (h : StA O pS pT b kt) (hf : O f = none) (c : Cell) : upS (updO O f c) pS pT b' kt' = updO (upS O pS pT b' kt') f c := by
  obtain ⟨h1, h2⟩ := h.nS hf
  funext x
  unfold upS
  by_cases e1 : x = f
  · subst e1; rw [updO_ne h2, updO_ne h1, updO_same, updO_same]
  · rw [updO_ne e1]
    by_cases e2 : x = pT
    · subst e2; rw [updO_same, updO_same]
    · rw [updO_ne e2, updO_ne e2]
      by_cases e3 : x = pS
      · subst e3; rw [updO_same, updO_same]
      · rw [updO_ne e3, updO_ne e3, updO_ne e1]
theorem StA.fresh {O : Ow} {pS pT f : Addr} {b b' : Bool} {kt kt' : List (Key × D)} (h : StA O pS pT b kt) (hf : O f = none) (c : Cell) : StA (updO (upS O pS pT b' kt') f c) pS pT b' kt' := by
  obtain ⟨h1, h2⟩ := h.nS hf
  have h3 := h.up b' kt'
  exact ⟨by rw [updO_ne (Ne.symm h1)]; exact h3.s, by rw [updO_ne (Ne.symm h2)]; exact h3.t, h.ne⟩
theorem upS_back {O : Ow} {pS pT f : Addr} {b b1 b2 : Bool} {kt kt1 kt2 : List (Key × D)} (h : StA O pS pT b kt) (hf : O f = none) (c : Cell) : upS (updO (upS O pS pT b1 kt1) f c) pS pT b2 kt2 = updO (upS O pS pT b2 kt2) f c := by
  rw [upS_upd (h.up b1 kt1) (upS_none h hf), upS_upS h.ne]
/-- cutting what is told -/
theorem Tld.few {ys all : List PS} {b : Bool} (h : Tld ys all b) : Tld (ys.take 80) all (b || decide (80 < ys.length)) := ⟨(List.take_sublist _ _).trans h.sub, fun e => by
  rw [Bool.or_eq_false_iff, decide_eq_false_iff_not] at e
  rw [List.take_of_length_le (by omega)]
  exact h.full e.1⟩
theorem ok_al (T : TxW w K mg) : ∀ n, FT__law_all P w base T (n + 60) (spAl n) ∧ FT__law_gone P w base T (n + 60) (spGo n)
  | 0 => ⟨none_leftS fun ds O R RE ⟨kn0, kn, Ts, Ms, v, N, p, k, t, mo, pS, pT, b, kt, _, _, _, _, _, _, h, _⟩ => by omega, none_leftS fun ds O R RE ⟨kn0, kn, Ts, Ms, v, N, x, w, t, mo, pS, pT, b, kt, _, _, _, _, _, _, _, h, _⟩ => by omega⟩
  | n + 1 => by
    obtain ⟨ih1, ih2⟩ := ok_al T n
    constructor
    · refine fnd__law_all T ih1 (FnS.of (ok_few T) (by omega)) (FnS.of (ok_lways T 13) (by omega)) ih2 (fun ds O R RE ⟨_, _, _, _, _, _, _, _, _, _, _, _, _, _, q, _⟩ => by rw [q]; rfl) ?_
      rintro ds O R RE ⟨kn0, kn, Ts, Ms, v, N, p, k, t, mo, pS, pT, b, kt, rfl, u, hst, hsn, hin, hka, hn, hR⟩
      unfold g__law_all
      refine gSeq_step ?_
      simp only [restD]
      walk_at "kf1"
      refine gSeq_step ?_
      cases k with
      | one =>
        simp only [dK]
        walk_at "kf1"
        walk_at "tg"
        refine ⟨_, rfl, ?_⟩
        rw [if_pos rfl]
        have := hR b kt [(.thing, 0)] id hsn (by decide) ⟨by rw [eA_eq, eK]; exact List.Sublist.refl _, fun _ => by rw [eA_eq, eK]⟩
        rw [upS_self hst] at this
        exact this
      | to a c =>
        simp only [dK]
        walk_at "kf1"
        walk_at "tg"
        refine ⟨_, rfl, ?_⟩
        rw [if_neg (by decide)]
        refine gSeq_step ?_
        walk_at "kf1"
        walk_at "tg"
        refine ⟨_, rfl, ?_⟩
        rw [if_pos rfl]
        refine gSeq_step ?_
        walk_at "kf1"
        have hlen := hin.len u (by have := hka.lv; omega)
        have hx := (xn_wd t (by omega)).2
        unfold xn at hx
        rw [Str.length_append] at hx
        have hkl := hka.lv
        simp only [Kd.leaves] at hkl
        simp only [Kd.depth] at hn
        refine ⟨Nat.lt_of_le_of_lt (Nat.log2_le_self _) (by omega), sz_small (by omega), ?_⟩
        refine gSeq_step ?_
        walk_at "kf1"
        walk_at "tg"
        refine ⟨sz_small (by rw [List.length_map]; omega), ?_⟩
        refine ⟨kn0, kn ++ [(xn t, a)], Ts, Ms, v, N, p ++ [a], c, t + 1, mo, pS, pT, b, kt, by rw [List.map_append]; rfl, u, hst, hsn, hin.take a, ⟨fun e he => ?_, fun m hm => hka.mks m (by simp only [Kd.marks, List.mem_append]; exact .inr hm), by rw [List.length_append, List.length_singleton]; have := lvs_pos a; omega⟩, by omega, fun b' kt' ys hb hsn' hl ht => ?_⟩
        · have := hka.e (a :: e.1, e.2) (by rw [ends]; exact List.mem_map.mpr ⟨e, he, rfl⟩)
          rw [List.append_assoc]
          exact this
        try dsimp only
        walk_at "kf1"
        refine lcA_map dPS (fun q => dPS (.take (xn t) a q.1, q.2)) ys _ _ (sz_small (by simp only [List.length_nil]; omega)) ?_ ?_
        · intro q _ Q' hQ
          simp only [dPS]
          walk_at "kf1"
          walk_at "tg"
          exact hQ
        rw [List.nil_append]
        have := hR b' kt' (ys.map fun q => (.take (xn t) a q.1, q.2)) hb hsn' (by rw [List.length_map]; exact hl) ⟨by rw [eA_to]; exact ht.sub.map _, fun e => by rw [eA_to, ht.full e]⟩
        rw [List.map_map] at this
        exact this
      | both a c =>
        simp only [dK]
        walk_at "kf1"
        walk_at "tg"
        refine ⟨_, rfl, ?_⟩
        rw [if_neg (by decide)]
        refine gSeq_step ?_
        walk_at "kf1"
        walk_at "tg"
        refine ⟨_, rfl, ?_⟩
        rw [if_neg (by decide)]
        refine gSeq_step ?_
        walk_at "kf1"
        walk_at "tg"
        refine ⟨_, rfl, ?_⟩
        rw [if_pos rfl]
        refine gSeq_step ?_
        walk_at "kf1"
        have hlen := hin.len u (by have := hka.lv; omega)
        have hkl := hka.lv
        have hla := lvs_pos a
        have hlc := lvs_pos c
        simp only [Kd.leaves] at hkl
        simp only [Kd.depth] at hn
        have hkA : KA Ts Ms p a := ⟨fun e he => hka.e e (by rw [ends]; exact List.mem_append_left _ he), fun m hm => hka.mks m (by simp only [Kd.marks, List.mem_append]; exact .inl hm), by omega⟩
        have hkC : KA Ts Ms p c := ⟨fun e he => hka.e e (by rw [ends]; exact List.mem_append_right _ he), fun m hm => hka.mks m (by simp only [Kd.marks, List.mem_append]; exact .inr hm), by omega⟩
        refine ⟨sz_small (by decide), fun f hf => ?_⟩
        have st1 : StA (updO O f (.lst [])) pS pT b kt := by
          have := hst.fresh (b' := b) (kt' := kt) hf (.lst [])
          rwa [upS_self hst] at this
        refine gSeq_step ?_
        rw [ap_gFor]
        walk_at "kf1"
        refine ⟨kn0, kn, Ts, Ms, v, N, p, a, t, mo, pS, pT, b, kt, rfl, u, st1, hsn, hin, hkA, by omega, fun b1 kt1 ys hb1 hsn1 hl1 ht1 => ?_⟩
        try dsimp only
        rw [upS_upd hst hf]
        walk_at "kf1"
        refine forA_ix dPS (fun pre rest ρ O' => ∃ (b2 : Bool) (kt2 : List (Key × D)) (acc : List PS) (x9 x10 x11 x12 : Option D), (b = true → b2 = true) ∧ Sn kn0 Ts Ms v N b2 kt2 ∧ acc.length ≤ pre.length * 80 ∧ Tld acc (pre.flatMap fun p => (eA kn c (mo - p.2) t).map fun q => (.pair p.1 q.1, p.2 + q.2)) b2 ∧ (b1 = true → b2 = true) ∧ O' = updO (upS O pS pT b2 kt2) f (.lst (acc.map dPS)) ∧
          ρ = [some (.lst (kn.map kv)), some (.tup [.str (Str.ofString "both"), dK a, dK c]), some (restD t mo pS), some (.int (t : Nat)), some (.int (mo : Nat)), some (.ref pS), none, none, some (.ref f), x9, x10, x11, x12, none, none, none, none]) ys [] _ _ ⟨b1, kt1, [], none, none, none, none, hb1, hsn1, Nat.zero_le _, ⟨List.Sublist.refl _, fun _ => rfl⟩, id, rfl, rfl⟩ ?_ ?_
        · rintro ρ O' ⟨b2, kt2, acc, x9, x10, x11, x12, hb2, hsn2, hal, hat, hb12, rfl, rfl⟩
          rw [List.nil_append] at hal hat
          have hal2 : acc.length ≤ 6400 := Nat.le_trans hal (Nat.mul_le_mul_right 80 hl1)
          simp only [gFrz, List.getElem?_cons_succ, List.getElem?_cons_zero, updO_same]
          walk_at "kf1"
          rw [delO_updO (upS_none hst hf)]
          have st2 := hst.up b2 kt2
          refine ⟨acc.map dPS, pS, pT, b2, rfl, st2.s, ?_⟩
          rw [← List.map_take, st2.putS, upS_upS hst.ne, List.length_map]
          refine hR _ kt2 (acc.take 80) (fun h => by rw [hb2 h, Bool.true_or]) ⟨hsn2.m.cut fun h => by rw [h, Bool.true_or], hsn2.k⟩ (by rw [List.length_take]; omega) ⟨hat.few.sub.trans (by rw [eA_both]; exact flat_sub ht1.sub), fun e => ?_⟩
          rw [hat.few.full e, eA_both, ht1.full (by
            rw [Bool.or_eq_false_iff] at e
            cases hb : b1 with
            | false => rfl
            | true => rw [hb12 hb] at e; exact absurd e.1 (by decide))]
        · rintro pre q rest ep ρ O' ⟨b2, kt2, acc, x9, x10, x11, x12, hb2, hsn2, hal, hat, hb12, rfl, rfl⟩ Nx hNx
          rw [List.nil_append] at ep
          have hqm : q ∈ ys := by rw [ep]; simp
          have hq2 : q.2 ≤ mo := eA_size q (ht1.sub.subset hqm)
          have hpl : pre.length + 1 ≤ 80 := by
            have := congrArg List.length ep
            simp only [List.length_append, List.length_cons] at this
            omega
          have hal2 : acc.length ≤ 6400 := by
            have := Nat.mul_le_mul_right 80 (show pre.length ≤ 80 by omega)
            omega
          simp only [dPS]
          walk_at "kf1"
          try rw [ap_gFor]
          walk_at "kf1"
          walk_at "tg"
          rw [show (mo : Int) - (q.2 : Int) = ((mo - q.2 : Nat) : Int) by omega]
          refine ⟨kn0, kn, Ts, Ms, v, N, p, c, t, mo - q.2, pS, pT, b2, kt2, rfl, u, hst.fresh hf _, hsn2, hin.mono (by omega), hkC, by omega, fun b3 kt3 zs hb3 hsn3 hl3 ht3 => ?_⟩
          try dsimp only
          rw [upS_back hst hf]
          walk_at "kf1"
          refine forA_ix dPS (fun pre2 rest ρ O' => ∃ (x11 x12 : Option D), O' = updO (upS O pS pT b3 kt3) f (.lst ((acc ++ pre2.map fun z => ((Pg.pair q.1 z.1, q.2 + z.2) : PS)).map dPS)) ∧
            ρ = [some (.lst (kn.map kv)), some (.tup [.str (Str.ofString "both"), dK a, dK c]), some (restD t mo pS), some (.int (t : Nat)), some (.int (mo : Nat)), some (.ref pS), none, none, some (.ref f), some (dP q.1), some (.int (q.2 : Nat)), x11, x12, none, none, none, none]) zs [] _ _ ⟨x11, x12, by rw [List.map_nil, List.append_nil], rfl⟩ ?_ ?_
          · rintro ρ O' ⟨x11, x12, rfl, rfl⟩
            rw [List.nil_append]
            refine hNx _ _ ⟨b3, kt3, acc ++ zs.map fun z => ((Pg.pair q.1 z.1, q.2 + z.2) : PS), some (dP q.1), some (.int (q.2 : Nat)), x11, x12, fun h => hb3 (hb2 h), hsn3, ?_, ?_, fun h => hb3 (hb12 h), rfl, rfl⟩
            · rw [List.length_append, List.length_map, List.length_append, List.length_singleton, Nat.add_mul]; omega
            · rw [flatMap_snoc]
              exact ⟨hat.sub.append (ht3.sub.map _), fun e => by rw [(hat.cut hb3).full e, ht3.full e]⟩
          · rintro pre2 z rest2 ep2 ρ O' ⟨x11, x12, rfl, rfl⟩ Nx2 hNx2
            rw [List.nil_append] at ep2
            have hzl : pre2.length + 1 ≤ 80 := by
              have := congrArg List.length ep2
              simp only [List.length_append, List.length_cons] at this
              omega
            simp only [dPS]
            walk_at "kf1"
            walk_at "tg"
            refine ⟨tyOk_r updO_same, ?_⟩
            rw [rApp_r updO_same, updO_updO]
            refine ⟨sz_small (by simp only [List.length_map, List.length_append]; omega), ?_⟩
            refine hNx2 _ _ ⟨some (dP z.1), some (.int (z.2 : Nat)), ?_, rfl⟩
            rw [List.map_append (l₁ := pre2), ← List.append_assoc, List.map_append (l₁ := acc ++ _)]
            rfl
      | mk m =>
        simp only [dK]
        walk_at "kf1"
        walk_at "tg"
        refine ⟨_, rfl, ?_⟩
        rw [if_neg (by decide)]
        refine gSeq_step ?_
        walk_at "kf1"
        walk_at "tg"
        refine ⟨_, rfl, ?_⟩
        rw [if_neg (by decide)]
        refine gSeq_step ?_
        walk_at "kf1"
        walk_at "tg"
        refine ⟨_, rfl, ?_⟩
        rw [if_neg (by decide)]
        refine gSeq_step ?_
        walk_at "kf1"
        have hpl := hka.lv
        simp only [Kd.leaves] at hpl
        simp only [Kd.depth] at hn
        have hlen := hin.len u (by omega)
        have hm : m ∈ Ms := hka.mks m (by simp [Kd.marks])
        have hmk := u.cu.mm m hm
        have hp : p = [] ∨ p ∈ Ts := by
          have := hka.e ([], m) (by simp [ends])
          simpa using this
        have heach := hin.each u hp (by omega)
        have hN := u.n
        have hmo : mo < 7 := by obtain ⟨_, _, h, _⟩ := hin.ex; omega
        have hshow := row_shown kn fun q hq => ⟨(heach q hq).1, (heach q hq).2.1⟩
        have hshl : (PyData.list (kn.map prD)).shown.length ≤ 40000 := by
          have h1 := rwL_len (kn := kn) fun q hq => ⟨(heach q hq).2.1, (heach q hq).2.2.1, (heach q hq).2.2.2.1⟩
          have h2 : (PyData.list (kn.map prD)).shown.length = (rwL kn).length := by rw [← hshow]; rfl
          omega
        have hprs := prs_ok kn fun q hq => (heach q hq).2.2.2.2
        have hmlen := mark_len hmk
        have hnl := (nstr_ok mo (by omega)).2
        unfold nstr at hnl
        have etp : toPy (.lst (kn.map kv)) = .list (kn.map prD) := by rw [toPy, toPys_kv]
        refine ⟨?_, by rw [etp]; simp only [PyData.showable]; exact hprs.1, by rw [etp]; simp only [PyData.hasDict]; exact hprs.2.1, by rw [etp]; simp only [PyData.depth]; omega, by rw [etp]; exact sz_small (by omega), ?_⟩
        · simp only [isPy]
          exact kvs_py fun q hq => ⟨wd_so (heach q hq).1, mks_ok _ (heach q hq).2.1⟩
        rw [etp]
        walk_at "kf1"
        simp only [Str.length_append]
        refine ⟨sz_small (by omega), Nat.lt_of_le_of_lt (Nat.log2_le_self _) (by omega), sz_small (by omega), ?_⟩
        rw [show (PyData.list (kn.map prD)).shown ++ m ++ Str.ofString (toString (mo : Int)) = mkey kn m mo from rfl]
        refine gSeq_thru (fun ρ O' => ∃ (b2 : Bool) (kt2 : List (Key × D)) (ys : List PS) (x6 x8 x9 x14 x15 : Option D), (b = true → b2 = true) ∧ Sn kn0 Ts Ms v N b2 kt2 ∧ ys.length ≤ 80 ∧ Tld ys (eA kn (.mk m) mo t) b2 ∧ valD kt2 (.inr (mkey kn m mo)) = some (.lst (ys.map dPS)) ∧ O' = upS O pS pT b2 kt2 ∧
          ρ = [some (.lst (kn.map kv)), some (.tup [.str (Str.ofString "mark"), .str m]), some (restD t mo pS), some (.int (t : Nat)), some (.int (mo : Nat)), some (.ref pS), x6, none, x8, x9, none, none, none, some (.str (mkey kn m mo)), x14, x15, none]) ?_ ?_
        · rintro ρ O' ⟨b2, kt2, ys, x6, x8, x9, x14, x15, hb2, hsn2, hyl, hyt, hv2, rfl, rfl⟩
          have st2 := hst.up b2 kt2
          walk_at "kf1"
          simp only [rDGet, rKey_s st2.s, valS_told]
          simp only [rKey_s st2.t, hv2]
          exact hR b2 kt2 ys hb2 hsn2 hyl hyt
        · intro Nx hNx
          walk_at "kf1"
          simp only [rDGet, rKey_s hst.s, valS_told]
          simp only [rDIn, rKey_s hst.t]
          refine ⟨_, rfl, ?_⟩
          cases ek : valD kt (.inr (mkey kn m mo)) with
          | some d =>
            rw [if_neg (by simp)]
            obtain ⟨ys, rfl, h1, h2⟩ := hsn.m p kn t mo m hin hp (by omega) hm d ek
            refine hNx _ _ ⟨b, kt, ys, none, none, none, none, none, id, hsn, h1, h2, ek, (upS_self hst).symm, rfl⟩
          | none =>
            rw [if_pos (by simp)]
            refine gSeq_step ?_
            walk_at "kf1"
            refine ⟨sz_small (by decide), fun f0 hf0 => ?_⟩
            refine gSeq_step ?_
            rw [ap_gFor]
            walk_at "kf1"
            have stf : updO O f0 (.lst []) = updO (upS O pS pT b kt) f0 (.lst (([] : List PS).map dPS)) := by rw [upS_self hst]; rfl
            rw [stf]
            have hE : ((kn.map (·.2)).flatMap ends).length ≤ 1200 := by
              have h1 := flat_ends_len (kn.map (·.2))
              have h2 := lvs_le (v := 12) (L := kn.map (·.2)) fun x hx => by
                obtain ⟨q, hq, rfl⟩ := List.mem_map.mp hx
                exact (heach q hq).2.2.2.1
              rw [List.length_map] at h2
              have h3 : kn.length * 12 ≤ 99 * 12 := Nat.mul_le_mul_right 12 hlen.1
              omega
            generalize hφ : (fun (x : Str × Kd) (w : List Mv × Str) => if w.2 = m ∧ 0 < mo then goG eA kn t mo w.1 [((Pg.nm x.1, 1) : PS)] else []) = φ
            have hall : eA kn (.mk m) mo t = kn.flatMap fun x => (wys x.2).flatMap (φ x) := by rw [eA_mk, leafG, ← hφ]
            refine forA_ix kv (fun pre rest ρ O' => ∃ (b2 : Bool) (kt2 : List (Key × D)) (acc : List PS) (f : Addr) (x6 x9 x14 x15 : Option D), (b = true → b2 = true) ∧ Sn kn0 Ts Ms v N b2 kt2 ∧ O f = none ∧ acc.length ≤ ((pre.map (·.2)).flatMap ends).length * 80 ∧ Tld acc (pre.flatMap fun x => (wys x.2).flatMap (φ x)) b2 ∧ O' = updO (upS O pS pT b2 kt2) f (.lst (acc.map dPS)) ∧
              ρ = [some (.lst (kn.map kv)), some (.tup [.str (Str.ofString "mark"), .str m]), some (restD t mo pS), some (.int (t : Nat)), some (.int (mo : Nat)), some (.ref pS), x6, none, some (.ref f), x9, none, none, none, some (.str (mkey kn m mo)), x14, x15, none]) kn [] _ _ ⟨b, kt, [], f0, none, none, none, none, id, hsn, hf0, Nat.zero_le _, ⟨List.Sublist.refl _, fun _ => rfl⟩, rfl, rfl⟩ ?_ ?_
            · rintro ρ O' ⟨b2, kt2, acc, f, x6, x9, x14, x15, hb2, hsn2, hf, hal, hat, rfl, rfl⟩
              rw [List.nil_append] at hal hat
              rw [← hall] at hat
              simp only [gFrz, List.getElem?_cons_succ, List.getElem?_cons_zero, updO_same]
              walk_at "kf1"
              rw [delO_updO (upS_none hst hf)]
              have st2 := hst.up b2 kt2
              refine ⟨acc.map dPS, pS, pT, b2, rfl, st2.s, ?_⟩
              rw [← List.map_take, st2.putS, upS_upS hst.ne, List.length_map]
              try dsimp only
              have st3 := hst.up (b2 || decide (80 < acc.length)) kt2
              simp only [rDGet, rKey_s st3.s, valS_told]
              rw [rDPut_s st3.t]
              refine ⟨sz_23 (memA_len u hsn2.k), ?_⟩
              rw [st3.putT, upS_upS hst.ne]
              have hsn3 : Sn kn0 Ts Ms v N (b2 || decide (80 < acc.length)) kt2 := ⟨hsn2.m.cut fun h => by rw [h, Bool.true_or], hsn2.k⟩
              have h80 : (acc.take 80).length ≤ 80 := by rw [List.length_take]; omega
              refine hNx _ _ ⟨_, _, acc.take 80, x6, _, x9, x14, x15, fun h => by rw [hb2 h, Bool.true_or], ⟨hsn3.m.put u hin hp (by omega) hm h80 hat.few, hsn3.k.put (hin.key hp hm) _⟩, h80, hat.few, by rw [valD_put, if_pos rfl], rfl, rfl⟩
            · rintro pre x rest ep ρ O' ⟨b2, kt2, acc, f, x6, x9, x14, x15, hb2, hsn2, hf, hal, hat, rfl, rfl⟩ Nx2 hNx2
              rw [List.nil_append] at ep
              have hxm : x ∈ kn := by rw [ep]; simp
              obtain ⟨g1, g2, g3, g4, g5⟩ := heach x hxm
              have hxU := hin.kinds hp x.2 (List.mem_map_of_mem hxm)
              have hpf : ((pre.map (·.2)).flatMap ends).length + (ends x.2).length ≤ 1200 := by
                have := hE
                rw [ep, List.map_append, List.map_cons, List.flatMap_append, List.flatMap_cons] at this
                simp only [List.length_append] at this
                omega
              have hwe : (wys x.2).length = (ends x.2).length := by rw [← wys_ends, List.length_map]
              simp only [kv]
              walk_at "kf1"
              try rw [ap_gFor]
              walk_at "kf1"
              refine ⟨x.2, rfl, by omega, by omega, by omega, mks_ok _ g2, ?_⟩
              try dsimp only
              walk_at "kf1"
              refine forA_ix dWy (fun preW restW ρ O' => ∃ (b2 : Bool) (kt2 : List (Key × D)) (acc : List PS) (f : Addr) (x14 x15 : Option D), (b = true → b2 = true) ∧ Sn kn0 Ts Ms v N b2 kt2 ∧ O f = none ∧ acc.length ≤ (((pre.map (·.2)).flatMap ends).length + preW.length) * 80 ∧ Tld acc ((pre.flatMap fun x => (wys x.2).flatMap (φ x)) ++ preW.flatMap (φ x)) b2 ∧ O' = updO (upS O pS pT b2 kt2) f (.lst (acc.map dPS)) ∧
                ρ = [some (.lst (kn.map kv)), some (.tup [.str (Str.ofString "mark"), .str m]), some (restD t mo pS), some (.int (t : Nat)), some (.int (mo : Nat)), some (.ref pS), some (.str x.1), none, some (.ref f), some (dK x.2), none, none, none, some (.str (mkey kn m mo)), x14, x15, none]) (wys x.2) [] _ _ ⟨b2, kt2, acc, f, x14, x15, hb2, hsn2, hf, by simpa using hal, by simpa using hat, rfl, rfl⟩ ?_ ?_
              · rintro ρ O' ⟨b3, kt3, acc3, f3, x14, x15, hb3, hsn3, hf3, hal3, hat3, rfl, rfl⟩
                rw [List.nil_append] at hal3 hat3
                refine hNx2 _ _ ⟨b3, kt3, acc3, f3, some (.str x.1), some (dK x.2), x14, x15, hb3, hsn3, hf3, ?_, ?_, rfl, rfl⟩
                · rw [List.map_append, List.flatMap_append, List.length_append]
                  simp only [List.map_cons, List.map_nil, List.flatMap_cons, List.flatMap_nil, List.append_nil]
                  rw [← hwe]; exact hal3
                · rw [flatMap_snoc]; exact hat3
              · rintro preW y restW ew ρ O' ⟨b3, kt3, acc3, f3, x14, x15, hb3, hsn3, hf3, hal3, hat3, rfl, rfl⟩ Nx3 hNx3
                rw [List.nil_append] at ew
                have hym : y ∈ wys x.2 := by rw [ew]; simp
                have hyE : wyE y ∈ ends x.2 := by rw [← wys_ends]; exact List.mem_map.mpr ⟨y, hym, rfl⟩
                have hie := ends_in x.2 _ hyE
                have hyo : PyData.strOk y.2 = true := hie.2.2.1 (mks_ok _ g2)
                have hwl : preW.length + 1 ≤ (wys x.2).length := by rw [ew]; simp
                have hal4 : acc3.length ≤ 96000 := by
                  have := Nat.mul_le_mul_right 80 (show ((pre.map (·.2)).flatMap ends).length + preW.length ≤ 1200 by omega)
                  omega
                simp only [dWy]
                walk_at "kf1"
                rw [rEq_s hyo (mark_so hmk)]
                walk_at "kf1"
                by_cases cm : y.2 = m ∧ 0 < mo
                · rw [if_pos cm.1, if_pos (by omega)]
                  simp only [gFrz, List.getElem?_cons_succ, List.getElem?_cons_zero, updO_same]
                  walk_at "kf1"
                  walk_at "tg"
                  rw [delO_updO (upS_none hst hf3)]
                  rw [show (mo : Int) - 1 = ((mo - 1 : Nat) : Int) by omega]
                  have hkaw : ∀ a ∈ mvT y.1, KA Ts Ms [] a ∧ a.depth ≤ 12 := fun a ha => by
                    refine ⟨⟨fun t' ht' => ?_, fun m' hm' => ?_, ?_⟩, ?_⟩
                    · rw [List.nil_append]; exact u.cu.cl.ty hxU hyE ha ht'
                    · exact u.cu.mks x.2 hxU m' (ends_marks x.2 _ hyE a ha m' hm')
                    · have h1 : a.leaves ≤ lvs (mvT y.1) := mem_sum ha
                      have h2 : lvs (mvT y.1) < x.2.leaves := hie.2.1
                      simp only [List.length_nil]; omega
                    · have := (hie.1 a ha).1; omega
                  refine ⟨kn0, kn, Ts, Ms, v, N, x.1, y.1, t, mo - 1, pS, pT, b3, kt3, rfl, u, hst.up b3 kt3, hsn3, hin.done hp (by omega) (by omega), hkaw, by have := wys_mvl x.2 y hym; omega, by omega, fun b4 kt4 zs hb4 hsn4 hzl hzt => ?_⟩
                  rw [show mo - 1 + 1 = mo by omega] at hzt
                  try dsimp only
                  rw [upS_upS hst.ne]
                  simp only [rCatO, deref_lst]
                  refine ⟨sz_small (by simp only [List.length_map]; omega), fun g hg => ?_⟩
                  rw [← List.map_append]
                  have hOg : O g = none := by
                    cases e : O g with
                    | none => rfl
                    | some c =>
                      exfalso
                      have : upS O pS pT b4 kt4 g ≠ none := by
                        unfold upS
                        by_cases e1 : g = pT
                        · subst e1; rw [updO_same]; simp
                        · rw [updO_ne e1]
                          by_cases e2 : g = pS
                          · subst e2; rw [updO_same]; simp
                          · rw [updO_ne e2, e]; simp
                      exact this hg
                  refine hNx3 _ _ ⟨b4, kt4, acc3 ++ zs, g, some (.lst (y.1.map dMv)), some (.str y.2), fun h => hb4 (hb3 h), hsn4, hOg, ?_, ?_, rfl, rfl⟩
                  · simp only [List.length_append, List.length_singleton, Nat.add_mul] at hal3 ⊢
                    omega
                  · rw [flatMap_snoc, ← List.append_assoc, show φ x y = goG eA kn t mo y.1 [((Pg.nm x.1, 1) : PS)] by rw [← hφ]; exact if_pos cm]
                    exact ⟨hat3.sub.append hzt.sub, fun e => by rw [(hat3.cut hb4).full e, hzt.full e]⟩
                · have hno : φ x y = [] := by rw [← hφ]; exact if_neg cm
                  have fin : Nx3 [some (.lst (kn.map kv)), some (.tup [.str (Str.ofString "mark"), .str m]), some (restD t mo pS), some (.int (t : Nat)), some (.int (mo : Nat)), some (.ref pS), some (.str x.1), none, some (.ref f3), some (dK x.2), none, none, none, some (.str (mkey kn m mo)), some (.lst (y.1.map dMv)), some (.str y.2), none] (updO (upS O pS pT b3 kt3) f3 (.lst (acc3.map dPS))) := by
                    refine hNx3 _ _ ⟨b3, kt3, acc3, f3, some (.lst (y.1.map dMv)), some (.str y.2), hb3, hsn3, hf3, ?_, ?_, rfl, rfl⟩
                    · simp only [List.length_append, List.length_singleton, Nat.add_mul] at hal3 ⊢
                      omega
                    · rw [flatMap_snoc, hno, List.append_nil]; exact hat3
                  by_cases c1 : y.2 = m
                  · rw [if_pos c1, if_neg (fun h => cm ⟨c1, by omega⟩)]
                    exact fin
                  · rw [if_neg c1]
                    exact fin
    · refine fnd__law_gone T ih1 (FnS.of (ok_few T) (by omega)) (fun ds O R RE ⟨_, _, _, _, _, _, _, _, _, _, _, _, _, _, q, _⟩ => by rw [q]; rfl) ?_
      rintro ds O R RE ⟨kn0, kn, Ts, Ms, v, N, x, w, t, mo, pS, pT, b, kt, rfl, u, hst, hsn, hin, hka, hwl, hn, hR⟩
      unfold g__law_gone
      refine gSeq_step ?_
      simp only [restD]
      walk_at "kf1"
      refine gSeq_step ?_
      walk_at "kf1"
      have hlen := hin.len u (by simp)
      have hN := u.n
      have hmo : mo < 7 := by obtain ⟨_, _, h, _⟩ := hin.ex; omega
      refine ⟨sz_small (by decide), sz_small (by decide), ?_⟩
      refine gSeq_step ?_
      rw [ap_gFor]
      walk_at "kf1"
      rw [show ([D.tup [dP (.nm x), .int 1]] : List D) = [((Pg.nm x, 1) : PS)].map dPS from rfl]
      refine forA_ix dMv (fun pre rest ρ O' => ∃ (b2 : Bool) (kt2 : List (Key × D)) (F : List PS) (x8 x9 x10 x11 x12 : Option D), (b = true → b2 = true) ∧ Sn kn0 Ts Ms v N b2 kt2 ∧ F.length ≤ 80 ∧ (∀ q ∈ F, q.2 ≤ mo + 1 ∧ 1 ≤ q.2) ∧ Tld F (goG eA kn t (mo + 1) pre [((Pg.nm x, 1) : PS)]) b2 ∧ O' = upS O pS pT b2 kt2 ∧
        ρ = [some (.lst (kn.map kv)), some (dP (.nm x)), some (.lst (w.map dMv)), some (restD t mo pS), some (.int (t : Nat)), some (.int (mo : Nat)), some (.ref pS), some (.lst (F.map dPS)), x8, x9, x10, x11, x12, none, none]) w [] _ _ ⟨b, kt, [((Pg.nm x, 1) : PS)], none, none, none, none, none, id, hsn, by simp, fun q hq => by rw [List.mem_singleton.mp hq]; exact ⟨by show 1 ≤ mo + 1; omega, Nat.le_refl _⟩, ⟨List.Sublist.refl _, fun _ => rfl⟩, (upS_self hst).symm, rfl⟩ ?_ ?_
      · rintro ρ O' ⟨b2, kt2, F, x8, x9, x10, x11, x12, hb2, hsn2, hFl, hFs, hFt, rfl, rfl⟩
        rw [List.nil_append] at hFt
        walk_at "kf1"
        exact hR b2 kt2 F hb2 hsn2 hFl hFt
      · rintro pre mv rest ep ρ O' ⟨b2, kt2, F, x8, x9, x10, x11, x12, hb2, hsn2, hFl, hFs, hFt, rfl, rfl⟩ Nx hNx
        rw [List.nil_append] at ep
        have hka2 : ∀ a, mv = .k a → KA Ts Ms [] a ∧ a.depth ≤ 12 := fun a e => hka a (by rw [ep, e, mvT_app]; simp [mvT])
        walk_at "kf1"
        refine gSeq_step ?_
        walk_at "kf1"
        refine ⟨sz_small (by decide), fun f0 hf0' => ?_⟩
        have hf0 : O f0 = none := by
          cases e : O f0 with
          | none => rfl
          | some c =>
            exfalso
            have : upS O pS pT b2 kt2 f0 ≠ none := by
              unfold upS
              by_cases e1 : f0 = pT
              · subst e1; rw [updO_same]; simp
              · rw [updO_ne e1]
                by_cases e2 : f0 = pS
                · subst e2; rw [updO_same]; simp
                · rw [updO_ne e2, e]; simp
            exact this hf0'
        refine gSeq_step ?_
        rw [ap_gFor]
        walk_at "kf1"
        have st2 := hst.up b2 kt2
        refine forA_ix dPS (fun pre2 rest ρ O' => ∃ (b3 : Bool) (kt3 : List (Key × D)) (acc : List PS) (f : Addr) (x10 x11 x12 : Option D), (b = true → b3 = true) ∧ (b2 = true → b3 = true) ∧ Sn kn0 Ts Ms v N b3 kt3 ∧ O f = none ∧ acc.length ≤ pre2.length * 80 ∧ Tld acc (goS eA kn t (mo + 1) mv pre2) b3 ∧ O' = updO (upS O pS pT b3 kt3) f (.lst (acc.map dPS)) ∧
          ρ = [some (.lst (kn.map kv)), some (dP (.nm x)), some (.lst (w.map dMv)), some (restD t mo pS), some (.int (t : Nat)), some (.int (mo : Nat)), some (.ref pS), some (.lst (F.map dPS)), some (dMv mv), some (.ref f), x10, x11, x12, none, none]) F [] _ _ ⟨b2, kt2, [], f0, x10, x11, x12, hb2, id, hsn2, hf0, Nat.zero_le _, ⟨by rw [goS_nil]; exact List.Sublist.refl _, fun _ => by rw [goS_nil]⟩, rfl, rfl⟩ ?_ ?_
        · rintro ρ O' ⟨b3, kt3, acc, f, x10, x11, x12, hb3, hb23, hsn3, hf, hal, hat, rfl, rfl⟩
          rw [List.nil_append] at hal hat
          have hal2 : acc.length ≤ 6400 := Nat.le_trans hal (Nat.mul_le_mul_right 80 hFl)
          simp only [gFrz, List.getElem?_cons_succ, List.getElem?_cons_zero, updO_same]
          walk_at "kf1"
          rw [delO_updO (upS_none hst hf)]
          have st3 := hst.up b3 kt3
          refine ⟨acc.map dPS, pS, pT, b3, rfl, st3.s, ?_⟩
          rw [← List.map_take, st3.putS, upS_upS hst.ne, List.length_map]
          try dsimp only
          have hsz := goS_size (kn := kn) (t := t) (mo := mo + 1) mv F hFs
          refine hNx _ _ ⟨_, kt3, acc.take 80, some (dMv mv), _, x10, x11, x12, fun h => by rw [hb3 h, Bool.true_or], ⟨hsn3.m.cut fun h => by rw [h, Bool.true_or], hsn3.k⟩, by rw [List.length_take]; omega, fun q hq => hsz q (hat.few.sub.subset hq), ⟨?_, fun e => ?_⟩, rfl, rfl⟩
          · rw [goG_step]
            exact hat.few.sub.trans (goS_sub hFt.sub mv)
          · rw [hat.few.full e, goG_step, hFt.full (by
              rw [Bool.or_eq_false_iff] at e
              cases hb : b2 with
              | false => rfl
              | true => rw [hb23 hb] at e; exact absurd e.1 (by decide))]
        · rintro pre2 q rest2 ep2 ρ O' ⟨b3, kt3, acc, f, x10, x11, x12, hb3, hb23, hsn3, hf, hal, hat, rfl, rfl⟩ Nx2 hNx2
          rw [List.nil_append] at ep2
          have hqF : q ∈ F := by rw [ep2]; simp
          obtain ⟨hq1, hq2⟩ := hFs q hqF
          have hpl : pre2.length + 1 ≤ 80 := by
            have := congrArg List.length ep2
            simp only [List.length_append, List.length_cons] at this
            omega
          have hal2 : acc.length ≤ 6400 := by
            have := Nat.mul_le_mul_right 80 (show pre2.length ≤ 80 by omega)
            omega
          have hgo : ∀ zs : List PS, zs.length ≤ 80 → ∀ b4, (b3 = true → b4 = true) → Tld zs (goS eA kn t (mo + 1) mv [q]) b4 → (acc ++ zs).length ≤ (pre2 ++ [q]).length * 80 ∧ Tld (acc ++ zs) (goS eA kn t (mo + 1) mv (pre2 ++ [q])) b4 := fun zs hz b4 h4 ht => by
            refine ⟨by simp only [List.length_append, List.length_singleton, Nat.add_mul]; omega, ?_⟩
            rw [goS_snoc]
            exact ⟨hat.sub.append ht.sub, fun e => by rw [(hat.cut h4).full e, ht.full e]⟩
          simp only [dPS]
          cases mv with
          | one =>
            simp only [dMv]
            walk_at "kf1"
            walk_at "tg"
            refine ⟨tyOk_r updO_same, ?_⟩
            rw [rApp_r updO_same, updO_updO]
            refine ⟨sz_small (by rw [List.length_map]; omega), ?_⟩
            obtain ⟨g1, g2⟩ := hgo [((Pg.first q.1, q.2) : PS)] (by simp) b3 id ⟨List.Sublist.refl _, fun _ => rfl⟩
            exact hNx2 _ _ ⟨b3, kt3, acc ++ [((Pg.first q.1, q.2) : PS)], f, some (dP q.1), some (.int (q.2 : Nat)), x12, hb3, hb23, hsn3, hf, g1, g2, by rw [List.map_append]; rfl, rfl⟩
          | two =>
            simp only [dMv]
            walk_at "kf1"
            walk_at "tg"
            refine ⟨tyOk_r updO_same, ?_⟩
            rw [rApp_r updO_same, updO_updO]
            refine ⟨sz_small (by rw [List.length_map]; omega), ?_⟩
            obtain ⟨g1, g2⟩ := hgo [((Pg.second q.1, q.2) : PS)] (by simp) b3 id ⟨List.Sublist.refl _, fun _ => rfl⟩
            exact hNx2 _ _ ⟨b3, kt3, acc ++ [((Pg.second q.1, q.2) : PS)], f, some (dP q.1), some (.int (q.2 : Nat)), x12, hb3, hb23, hsn3, hf, g1, g2, by rw [List.map_append]; rfl, rfl⟩
          | k a =>
            obtain ⟨hkA, had⟩ := hka2 a rfl
            have hak : a.ok = true := mks_ok a fun m hm => u.cu.mm m (hkA.mks m hm)
            simp only [dMv]
            walk_at "kf1"
            rw [rEq_Ki hak]
            walk_at "kf1"
            rw [rEq_Ki hak]
            walk_at "kf1"
            refine gSeq_step ?_
            walk_at "kf1"
            walk_at "tg"
            rw [show (mo : Int) - (q.2 : Int) + 1 = ((mo + 1 - q.2 : Nat) : Int) by omega]
            refine ⟨kn0, kn, Ts, Ms, v, N, [], a, t, mo + 1 - q.2, pS, pT, b3, kt3, rfl, u, hst.fresh hf _, hsn3, hin.mono (by omega), hkA, by omega, fun b4 kt4 zs hb4 hsn4 hzl hzt => ?_⟩
            try dsimp only
            rw [upS_back hst hf]
            simp only [gFrz, List.getElem?_cons_succ, List.getElem?_cons_zero, updO_same]
            walk_at "kf1"
            rw [delO_updO (upS_none hst hf)]
            refine lcA_map dPS (fun z => dPS (.give q.1 z.1, q.2 + z.2)) zs _ _ (sz_small (by simp only [List.length_nil]; omega)) ?_ ?_
            · intro z _ Q' hQ
              simp only [dPS]
              walk_at "kf1"
              walk_at "tg"
              exact hQ
            rw [List.nil_append]
            refine ⟨sz_small (by simp only [List.length_map]; omega), fun g hg => ?_⟩
            have hOg : O g = none := by
              cases e : O g with
              | none => rfl
              | some c =>
                exfalso
                have : upS O pS pT b4 kt4 g ≠ none := by
                  unfold upS
                  by_cases e1 : g = pT
                  · subst e1; rw [updO_same]; simp
                  · rw [updO_ne e1]
                    by_cases e2 : g = pS
                    · subst e2; rw [updO_same]; simp
                    · rw [updO_ne e2, e]; simp
                exact this hg
            have hss : goS eA kn t (mo + 1) (.k a) [q] = (eA kn a (mo + 1 - q.2) t).map fun z => ((Pg.give q.1 z.1, q.2 + z.2) : PS) := by simp [goS]
            obtain ⟨g1, g2⟩ := hgo (zs.map fun z => ((Pg.give q.1 z.1, q.2 + z.2) : PS)) (by rw [List.length_map]; exact hzl) b4 hb4 ⟨by rw [hss]; exact hzt.sub.map _, fun e => by rw [hss, hzt.full e]⟩
            exact hNx2 _ _ ⟨b4, kt4, acc ++ zs.map fun z => ((Pg.give q.1 z.1, q.2 + z.2) : PS), g, some (dP q.1), some (.int (q.2 : Nat)), some (.lst (zs.map dPS)), fun h => hb4 (hb3 h), fun h => hb4 (hb23 h), hsn4, hOg, g1, g2, by rw [List.map_append, List.map_map]; rfl, rfl⟩
end
end Kf
/-! Kan: a row and a kind for a memo of told programs. -/
namespace Kf
open PySem PySem.Spec L2
open PyProof.Rows hiding St
theorem ty_len : ∀ (p : List Kd) (y : Kd), (∀ r ∈ tyR y, r.length ≤ y.leaves) ∧ (∀ r ∈ tyI p y, r.length ≤ p.length + y.leaves)
  | p, .mk m => by simp [tyR, tyI]
  | p, .one => by simp [tyR, tyI]
  | p, .both a b => by
    have ha := ty_len p a
    have hb := ty_len p b
    simp only [Kd.leaves]
    refine ⟨fun r hr => ?_, fun r hr => ?_⟩
    · rw [tyR] at hr
      rcases List.mem_append.mp hr with hr | hr
      · have := ha.1 r hr; omega
      · have := hb.1 r hr; omega
    · rw [tyI] at hr
      rcases List.mem_append.mp hr with hr | hr
      · have := ha.2 r hr; omega
      · have := hb.2 r hr; omega
  | p, .to a b => by
    have ha := ty_len [] a
    have hb := ty_len (p ++ [a]) b
    have := lvs_pos a; have := lvs_pos b
    simp only [Kd.leaves]
    refine ⟨fun r hr => ?_, fun r hr => ?_⟩
    · rw [tyR] at hr
      rcases List.mem_append.mp hr with hr | hr
      · have := ha.2 r hr; simp only [List.length_nil] at this; omega
      · have := hb.1 r hr; omega
    · rw [tyI] at hr
      rcases List.mem_append.mp hr with hr | hr
      · have := ha.1 r hr; omega
      · rcases List.mem_append.mp hr with hr | hr
        · split at hr
          · rw [List.mem_singleton.mp hr, List.length_append, List.length_singleton]; omega
          · cases hr
        · have := hb.2 r hr
          rw [List.length_append, List.length_singleton] at this
          omega
theorem ts_len {S0 : List Kd} {k : Kd} (hl : lvs S0 + k.leaves ≤ 13) : ∀ r ∈ tsOf S0 k, r.length ≤ 13 := fun r hr => by
  rcases List.mem_append.mp hr with hr | hr
  · obtain ⟨y, hy, hr⟩ := List.mem_flatMap.mp hr
    have h4 : y.leaves ≤ lvs S0 := mem_sum hy
    have := (ty_len [] y).1 r hr
    omega
  · have := (ty_len [] k).2 r hr
    simp only [List.length_nil] at this
    omega
theorem au_row {kn : KnA} {k : Kd} {N : Nat} {Ms : List Str} (hk : LK (kn.map (·.2) ++ [k])) (hl : lvs (kn.map (·.2)) + k.leaves ≤ 12) (hN : N ≤ 7) (hm : ∀ x ∈ kn.map (·.2) ++ [k], ∀ m ∈ x.marks, m ∈ Ms) (hmm : ∀ m ∈ Ms, isMarkB m = true) (hml : Ms.length ≤ 3) (hwd : ∀ q ∈ kn, Wd q.1 ∧ q.1.length ≤ 6) (hlen : kn.length ≤ 8) : Au kn (tsOf (kn.map (·.2)) k) Ms 12 N :=
  ⟨cu_row hk (by omega) (by decide) (by decide) (fun x hx => by have : x.leaves ≤ lvs (kn.map (·.2)) := mem_sum hx; omega) (by omega) (by omega) hm hmm hml, hN, hwd, hlen, ts_len (by omega)⟩
theorem ka_row {S0 : List Kd} {k : Kd} {Ms : List Str} (hl : k.leaves ≤ 13) (hm : ∀ m ∈ k.marks, m ∈ Ms) : KA (tsOf S0 k) Ms [] k := ⟨fun t ht => by
  rcases end_ty [] k t ht with ⟨h, _⟩ | h
  · exact .inl h
  · exact .inr (List.mem_append_right _ h), hm, by simpa using hl⟩
theorem ina_row {kn : KnA} {Ts : List (List Kd)} {N mo : Nat} (h : mo < N) : InA kn Ts N [] kn 0 mo := ⟨[], (fun r h => by cases h), by simpa using h, by simp [nmd], rfl⟩
theorem cnA_count (l : List PS) (s : Nat) : (l.map fun q => ((q.2 : Nat) : Int)).count (s : Int) = cnA l s := by
  unfold cnA
  rw [List.count, List.countP_map]
  congr 1
  funext q
  show (((q.2 : Nat) : Int) == (s : Int)) = decide (q.2 = s)
  rw [Bool.eq_iff_iff, beq_iff_eq, decide_eq_true_iff]; omega
end Kf
namespace Kf
open PySem PySem.Spec L2
open PyProof.Rows hiding St
local macro_rules | `(tactic| walk_at "kf") => `(tactic| simp (config := { failIfUnchanged := false }) only [startD, ap_fiEnumT, asT1_t, ap_fKGet, asStr_s, ap_fKIn, ap_fKIx, ap_gAsgL, rUnl_l, ap_fiRng3, asR3_i, rSplitO_s, ap_fOrL, rOrL_l, ap_fLcK, ap_gForK, ap_fMaxD, rMaxD_l, rMaxL_l, ap_fCallXD, ap_gForE, asLE_l, ap_fFrz, ap_fDicO, ap_fDGet, ap_fDGet1, ap_fDGet2, ap_gDPut, ap_fIsiT, ap_gForR, rRep_l, isT_i, isT_s, isT_b, isT_n, isT_t, isT_l, ap_gSeq, ap_gIf, ap_gRet, ap_gNext, ap_gSet, ap_gAsg, ap_gPar, ap_gDrop, ap_gRetF, ap_gRetN, ap_gFor, ap_gSetIx, ap_gBreak, ap_fRev, ap_fiRevR, asIR_i, rRev_l, ap_fCallX, ap_gRaise, ap_gTry, ap_gTryAs, ap_gNever, ap_fEdic, ap_fTest, ap_fOp, ap_fVar, envGet_s, patGet_s, ap_fC, ap_fCB, ap_fCons, ap_fNil, ap_fCall, ap_fAnd, ap_fOr, ap_fNot, ap_fAndV, ap_fOrV, ap_fNotV, ap_fIf, ap_fTup, ap_fLst, ap_fLstO, ap_fChain, ap_fUn, ap_fBM, ap_fBM0, ap_fPool, rPool_i, ap_fSl, ap_fPart, ap_fNoPart, asI_i, rSl_l, ap_fiRng1, ap_fiRng2, ap_fiList, ap_fiTup, ap_fiStr, ap_fiEnum, ap_fiZip, ap_fiRev, asL_l, asT_t, asSg_s, asR1_i, asR2_i, asL1_l, asL2_l, ap_fLc, ap_fLcO, ap_fYes, wipeD, lcD, isi_i_int, isi_i_bool, isi_i_str, isi_i_tuple, isi_i_list, isi_i_dict, isi_b_int, isi_b_bool, isi_b_str, isi_b_tuple, isi_b_list, isi_b_dict, isi_s_int, isi_s_bool, isi_s_str, isi_s_tuple, isi_s_list, isi_s_dict, isi_t_int, isi_t_bool, isi_t_str, isi_t_tuple, isi_t_list, isi_t_dict, isi_l_int, isi_l_bool, isi_l_str, isi_l_tuple, isi_l_list, isi_l_dict, isi_n_int, isi_n_bool, isi_n_str, isi_n_tuple, isi_n_list, isi_n_dict, isi_d_int, isi_d_bool, isi_d_str, isi_d_tuple, isi_d_list, isi_d_dict,
  deref_tup, deref_lst, deref_int, deref_str, deref_bl, deref_non, deref_scr, rLt_i, rLt_s, rLe_i, rLe_s, rInts_i, rInts0_i, rAdd_i, rAdd_s, rAdd_l, rAdd_t, rCatO_l, rNeg_i, rLen_t, rLen_l, rLen_c, rLen_s, rMax_i, rMin_i, rInt_i, rInt_b, rDivmod_i, ap_gAug, rStr_i, rList_l, rList_t, rListO_l, rListO_t, rTup_l, rTup_t,
  rIx_t0, rIx_t1, rIx_t2, rIx_t3, rIx_l0, rIx_l1, rIx_l2, rIsN_x, isNon_t, isNon_n, isNon_i, isNon_s, isNon_l, rEq_i, rEq_b, rEq_i2, rEq_b2, rJoin_m, rSplit_s, tyOk_l, tyOk_s, patD_nm, patD_tp, patDs_nil, patDs_cons, Option.bind_some, notX, notX',
  List.map_cons, List.map_nil, List.length_cons, List.length_nil, List.cons_append, List.nil_append, List.append_nil, List.replicate, List.getElem?_cons_zero, List.getElem?_cons_succ, List.set_cons_zero, List.set_cons_succ, updO_same, updO_updO,
  Nat.reduceSub, Nat.reduceAdd, Nat.reduceLeDiff, Nat.zero_add, Int.cast_ofNat_Int, Int.natCast_zero, Int.natCast_one, Int.reduceLT, Int.reduceLE, Int.reduceEq, Int.reduceAdd, Int.reduceSub, Int.reduceNeg, decide_true, decide_false, if_true, if_false, Bool.false_eq_true, eq_self, reduceIte, Bool.true_eq_false, decide_eq_true_eq, Bool.not_true, Bool.not_false, Bool.not_eq_true', decide_eq_false_iff_not, exists_eq_left', exists_eq_left, D.bl.injEq, true_and, and_true, not_true_eq_false, not_false_eq_true])
local macro_rules | `(tactic| walk_at "len") => `(tactic| (intro ds O R RE h; first | (obtain ⟨e, _⟩ := h; subst e; rfl) | (obtain ⟨_, e, _⟩ := h; subst e; rfl) | (obtain ⟨_, _, e, _⟩ := h; subst e; rfl) | (obtain ⟨_, _, _, e, _⟩ := h; subst e; rfl) | (obtain ⟨_, _, _, _, e, _⟩ := h; subst e; rfl) | (obtain ⟨_, _, _, _, _, e, _⟩ := h; subst e; rfl) | (obtain ⟨_, _, _, _, _, _, e, _⟩ := h; subst e; rfl) | (obtain ⟨_, _, _, _, _, _, _, e, _⟩ := h; subst e; rfl) | (obtain ⟨_, _, _, _, _, _, _, _, e, _⟩ := h; subst e; rfl) | (obtain ⟨_, _, _, _, _, _, _, _, _, e, _⟩ := h; subst e; rfl)))
local macro_rules | `(tactic| walk_at "kf1") => `(tactic| simp (config := { failIfUnchanged := false }) only [startD, ap_fiEnumT, asT1_t, ap_fKGet, asStr_s, ap_fKIn, ap_fKIx, ap_gAsgL, rUnl_l, ap_fiRng3, asR3_i, rSplitO_s, ap_fOrL, rOrL_l, ap_fLcK, ap_gForK, ap_fMaxD, rMaxD_l, rMaxL_l, ap_fCallXD, ap_gForE, asLE_l, ap_fFrz, ap_fDicO, ap_fDGet, ap_fDGet1, ap_fDGet2, ap_gDPut, ap_fIsiT, ap_gForR, rRep_l, isT_i, isT_s, isT_b, isT_n, isT_t, isT_l, ap_gIf, ap_gRet, ap_gNext, ap_gSet, ap_gAsg, ap_gPar, ap_gDrop, ap_gRetF, ap_gRetN, ap_gFor, ap_gSetIx, ap_gBreak, ap_fRev, ap_fiRevR, asIR_i, rRev_l, ap_fCallX, ap_gRaise, ap_gTry, ap_gTryAs, ap_gNever, ap_fEdic, ap_fTest, ap_fOp, ap_fVar, envGet_s, patGet_s, ap_fC, ap_fCB, ap_fCons, ap_fNil, ap_fCall, ap_fAnd, ap_fOr, ap_fNot, ap_fAndV, ap_fOrV, ap_fNotV, ap_fIf, ap_fTup, ap_fLst, ap_fLstO, ap_fChain, ap_fUn, ap_fBM, ap_fBM0, ap_fPool, rPool_i, ap_fSl, ap_fPart, ap_fNoPart, asI_i, rSl_l, ap_fiRng1, ap_fiRng2, ap_fiList, ap_fiTup, ap_fiStr, ap_fiEnum, ap_fiZip, ap_fiRev, asL_l, asT_t, asSg_s, asR1_i, asR2_i, asL1_l, asL2_l, ap_fLc, ap_fLcO, ap_fYes, wipeD, lcD, isi_i_int, isi_i_bool, isi_i_str, isi_i_tuple, isi_i_list, isi_i_dict, isi_b_int, isi_b_bool, isi_b_str, isi_b_tuple, isi_b_list, isi_b_dict, isi_s_int, isi_s_bool, isi_s_str, isi_s_tuple, isi_s_list, isi_s_dict, isi_t_int, isi_t_bool, isi_t_str, isi_t_tuple, isi_t_list, isi_t_dict, isi_l_int, isi_l_bool, isi_l_str, isi_l_tuple, isi_l_list, isi_l_dict, isi_n_int, isi_n_bool, isi_n_str, isi_n_tuple, isi_n_list, isi_n_dict, isi_d_int, isi_d_bool, isi_d_str, isi_d_tuple, isi_d_list, isi_d_dict,
  deref_tup, deref_lst, deref_int, deref_str, deref_bl, deref_non, deref_scr, rLt_i, rLt_s, rLe_i, rLe_s, rInts_i, rInts0_i, rAdd_i, rAdd_s, rAdd_l, rAdd_t, rCatO_l, rNeg_i, rLen_t, rLen_l, rLen_c, rLen_s, rMax_i, rMin_i, rInt_i, rInt_b, rDivmod_i, ap_gAug, rStr_i, rList_l, rList_t, rListO_l, rListO_t, rTup_l, rTup_t,
  rIx_t0, rIx_t1, rIx_t2, rIx_t3, rIx_l0, rIx_l1, rIx_l2, rIsN_x, isNon_t, isNon_n, isNon_i, isNon_s, isNon_l, rEq_i, rEq_b, rEq_i2, rEq_b2, rJoin_m, rSplit_s, tyOk_l, tyOk_s, patD_nm, patD_tp, patDs_nil, patDs_cons, Option.bind_some, notX, notX',
  List.map_cons, List.map_nil, List.length_cons, List.length_nil, List.cons_append, List.nil_append, List.append_nil, List.replicate, List.getElem?_cons_zero, List.getElem?_cons_succ, List.set_cons_zero, List.set_cons_succ, updO_same, updO_updO,
  Nat.reduceSub, Nat.reduceAdd, Nat.reduceLeDiff, Nat.zero_add, Int.cast_ofNat_Int, Int.natCast_zero, Int.natCast_one, Int.reduceLT, Int.reduceLE, Int.reduceEq, Int.reduceAdd, Int.reduceSub, Int.reduceNeg, decide_true, decide_false, if_true, if_false, Bool.false_eq_true, eq_self, reduceIte, Bool.true_eq_false, decide_eq_true_eq, Bool.not_true, Bool.not_false, Bool.not_eq_true', decide_eq_false_iff_not, exists_eq_left', exists_eq_left, D.bl.injEq, true_and, and_true, not_true_eq_false, not_false_eq_true])
section
variable {P : Program} {w : World} {K : PySem.W.Frag} {mg : Str → Option Value} {base : Heap}
local macro_rules | `(tactic| walk_at "tg") => `(tactic| simp (config := { failIfUnchanged := false }) only [te_name_take, te_name_give, te_name_pair, te_name_first, te_name_second, te_name_to, te_name_both, te_name_one, te_name_mark, te_name_name, te_name_thing, te_name_at, te_thing_take, te_thing_give, te_thing_pair, te_thing_first, te_thing_second, te_thing_to, te_thing_both, te_thing_one, te_thing_mark, te_thing_name, te_thing_thing, te_thing_at, te_take_take, te_take_give, te_take_pair, te_take_first, te_take_second, te_take_to, te_take_both, te_take_one, te_take_mark, te_take_name, te_take_thing, te_take_at, te_give_take, te_give_give, te_give_pair, te_give_first, te_give_second, te_give_to, te_give_both, te_give_one, te_give_mark, te_give_name, te_give_thing, te_give_at, te_pair_take, te_pair_give, te_pair_pair, te_pair_first, te_pair_second, te_pair_to, te_pair_both, te_pair_one, te_pair_mark, te_pair_name, te_pair_thing, te_pair_at, te_first_take, te_first_give, te_first_pair, te_first_first, te_first_second, te_first_to, te_first_both, te_first_one, te_first_mark, te_first_name, te_first_thing, te_first_at, te_second_take, te_second_give, te_second_pair, te_second_first, te_second_second, te_second_to, te_second_both, te_second_one, te_second_mark, te_second_name, te_second_thing, te_second_at, te_mark_take, te_mark_give, te_mark_pair, te_mark_first, te_mark_second, te_mark_to, te_mark_both, te_mark_one, te_mark_mark, te_mark_name, te_mark_thing, te_mark_at, te_one_take, te_one_give, te_one_pair, te_one_first, te_one_second, te_one_to, te_one_both, te_one_one, te_one_mark, te_one_name, te_one_thing, te_one_at, te_to_take, te_to_give, te_to_pair, te_to_first, te_to_second, te_to_to, te_to_both, te_to_one, te_to_mark, te_to_name, te_to_thing, te_to_at, te_both_take, te_both_give, te_both_pair, te_both_first, te_both_second, te_both_to, te_both_both, te_both_one, te_both_mark, te_both_name, te_both_thing, te_both_at, te_at_take, te_at_give, te_at_pair, te_at_first, te_at_second, te_at_to, te_at_both, te_at_one, te_at_mark, te_at_name, te_at_thing, te_at_at, ti4_name, ti4_thing, ti4_take, ti4_give, ti4_pair, ti4_first, ti4_second, ti2_name, ti2_thing, ti2_take, ti2_give, ti2_pair, ti2_first, ti2_second, szT_0, szT_1, szT_2, szT_3, szT_4, szT_5, szT_6, szT_7, szT_8, szT_9, szT_10, szT_11, szT_12, Bool.not_true, Bool.not_false, true_and])
local macro_rules | `(tactic| walk_at "jj") => `(tactic| simp (config := { failIfUnchanged := false }) only [ap_fjList, ap_fjEnum, ap_fjZip, ap_gForJ, ap_fLcJ, ap_fLcJO, asLJ_l, asLJ1_1, asLJ2_2, rIsB_b, ap_fSortSet, List.nil_append, List.append_nil])
local macro_rules | `(tactic| walk_at "kj") => `(tactic| (walk_at "kf"; walk_at "jj"; walk_at "kf"; walk_at "jj"; walk_at "kf"))
local macro_rules | `(tactic| walk_at "kj1") => `(tactic| (walk_at "kf1"; walk_at "jj"; walk_at "kf1"; walk_at "jj"; walk_at "kf1"))
def FGHI : List Str := [Str.ofString "f", Str.ofString "g", Str.ofString "h", Str.ofString "i"]
def CM3 : List Str := [Str.ofString "a", Str.ofString "b", Str.ofString "c"]
/-- a row of given names, each with its kind -/
def spCase (cm : List Str) : DSp := fun ds O R _ => ∃ (p : Addr) (m : Nat), ds = [.ref p, .int m] ∧ O p = some .pool ∧ 1 ≤ m ∧ m ≤ 12 ∧
  ∀ (kn : List (Str × Kd)) (k : Kd), (kn.map (·.1)) <+: FGHI → (∀ q ∈ kn, q.2.over cm) → k.over cm → (kn.map fun q => q.2.leaves).sum + k.leaves ≤ m → R (.tup [.lst (kn.map kv), dK k]) O
theorem ok_case (T : TxW w K mg) : FO__law_case P w base T 14 (spCase CM3) := by
  refine fndG__law_case T (ok_take T.n__law_take) (ok_lkind T 12) (by walk_at "len") ?_
  rintro ds O R RE ⟨p, m, rfl, hp, hm1, hm, hR⟩
  unfold g__law_case
  refine gSeq_step ?_
  walk_at "kf1"
  refine take_of hp (by omega) (by omega) fun r1 h10 h11 => ?_
  walk_at "kf1"
  obtain ⟨l, el⟩ : ∃ l : Nat, 1 + r1 = (l : Int) := ⟨(1 + r1).toNat, by omega⟩
  rw [el]
  refine gSeq_step ?_
  walk_at "kf1"
  refine take_of hp (by omega) (by omega) fun r2 h20 h21 => ?_
  walk_at "kf1"
  obtain ⟨o, eo⟩ : ∃ o : Nat, 1 + r2 = (o : Int) := ⟨(1 + r2).toNat, by omega⟩
  rw [eo]
  refine gSeq_step ?_
  walk_at "kf1"
  refine ⟨by decide, p, o, CM3, rfl, hp, by omega, by omega, by omega, by decide, by decide, fun k hkl hko => ?_⟩
  try dsimp only
  refine gSeq_step ?_
  walk_at "kf1"
  refine ⟨by decide, fun q hq => ?_⟩
  have hpq : ∀ c, updO O q c p = some .pool := fun c => by
    rw [updO_ne (fun z => by rw [← z, hp] at hq; cases hq)]; exact hp
  refine gSeq_step ?_
  walk_at "kf1"
  refine ⟨by decide, ?_⟩
  rw [show ([D.str (Str.ofString "f"), D.str (Str.ofString "g"), D.str (Str.ofString "h"), D.str (Str.ofString "i")] : List D) = FGHI.map D.str from rfl]
  refine forA_ix D.str (fun pre rest ρ O2 => ∃ (kn : List (Str × Kd)) (o' : Nat) (x6 x7 : Option D), O2 = updO O q (.lst (kn.map kv)) ∧ (kn.map (·.1)) <+: pre ∧ (o' < l → kn.map (·.1) = pre) ∧ (∀ z ∈ kn, z.2.over CM3) ∧ (kn.map fun z => z.2.leaves).sum + k.leaves = o' ∧ o' ≤ l ∧
    ρ = [some (.ref p), some (.int m), some (.int l), some (.int o'), some (dK k), some (.ref q), x6, x7]) _ [] _ _ ⟨[], o, _, _, rfl, List.nil_prefix, fun _ => rfl, fun _ h => (nomatch h), by simpa using hkl, by omega, rfl⟩ ?_ ?_
  · rintro ρ O2 ⟨kn, o', x6, x7, rfl, hpre, _, hov, hsum, hol, rfl⟩
    simp only [gFrz, List.getElem?_cons_succ, List.getElem?_cons_zero, updO_same]
    walk_at "kf1"
    refine ⟨by decide, ?_⟩
    rw [delO_updO hq]
    exact .at (hR kn k (by simpa using hpre) hov hko (by omega))
  · rintro pre x rest e ρ O2 ⟨kn, o', x6, x7, rfl, hpre, hfull, hov, hsum, hol, rfl⟩ N hN
    walk_at "kf1"
    by_cases c : o' < l
    · rw [if_pos (by omega)]
      refine gSeq_step ?_
      walk_at "kf1"
      refine take_of (hpq _) (by omega) (by omega) fun r3 h30 h31 => ?_
      walk_at "kf1"
      obtain ⟨b, eb⟩ : ∃ b : Nat, 1 + r3 = (b : Int) := ⟨(1 + r3).toNat, by omega⟩
      rw [eb]
      refine gSeq_step ?_
      walk_at "kf1"
      rw [tyOk_r updO_same]
      walk_at "kf1"
      refine ⟨by decide, p, b, CM3, rfl, hpq _, by omega, by omega, by omega, by decide, by decide, fun k2 hkl2 hko2 => ?_⟩
      walk_at "kf1"
      refine ⟨by decide, ?_⟩
      rw [rApp_r updO_same, updO_updO]
      have hl4 : (kn.map (·.1)).length ≤ 4 := by
        have h1 := hpre.length_le
        have h2 := congrArg List.length e
        simp only [List.nil_append, List.length_append, List.length_cons] at h2
        have : FGHI.length = 4 := rfl
        omega
      rw [List.length_map] at hl4
      refine ⟨Nat.lt_of_lt_of_le (by rw [List.length_map]; omega) (show 100 ≤ sizeLine by decide), ?_⟩
      refine hN _ _ ⟨kn ++ [(x, k2)], o' + b, _, _, by rw [List.map_append]; rfl, ?_, fun _ => ?_, fun z hz => ?_, ?_, by omega, by rw [show (o' : Int) + (b : Int) = ((o' + b : Nat) : Int) by omega]⟩
      · rw [List.map_append, hfull c]; exact List.prefix_refl _
      · rw [List.map_append, hfull c]; rfl
      · rcases List.mem_append.mp hz with hz | hz
        · exact hov z hz
        · rw [List.mem_singleton.mp hz]; exact hko2
      · simp only [List.map_append, List.map_cons, List.map_nil, List.sum_append, List.sum_cons, List.sum_nil]; omega
    · rw [if_neg (by omega)]
      walk_at "kf1"
      exact hN _ _ ⟨kn, o', _, _, rfl, hpre.trans (List.prefix_append _ _), fun h => absurd h c, hov, hsum, hol, rfl⟩
theorem deqs_kv : ∀ kn : List (Str × Kd), deqs (kn.map kv) (kn.map kv) = true
  | [] => deqs_nn
  | q :: r => by rw [List.map_cons, deqs_cc, deqs_kv r, deq_t, deqs_cc, deqs_cc, deqs_nn, deq_s, deq_K]; simp
theorem dp_kv {kn : List (Str × Kd)} (h : ∀ q ∈ kn, q.2.depth ≤ 100) : dp (.lst (kn.map kv)) ≤ 103 := by
  rw [dpL]
  have : PyData.depthAll (toPys (kn.map kv)) ≤ 102 := dps_le fun d hd => by
    obtain ⟨q, hq, rfl⟩ := List.mem_map.mp hd
    have := h q hq
    rw [dpT, dpC, dpC, dpN, dpS, dp_dK]; omega
  omega
theorem rEq_kv {kn : List (Str × Kd)} {neg : Bool} {O : Ow} {Q : VD} (h : ∀ q ∈ kn, PyData.strOk q.1 = true ∧ q.2.ok = true) (hd : ∀ q ∈ kn, q.2.depth ≤ 100) : rEqD neg (.lst (kn.map kv)) (.lst (kn.map kv)) O Q = Q (.bl (!neg)) O := by
  have hp : isPy (.lst (kn.map kv)) = true := by
    simp only [isPy]
    rw [isPys_all, List.all_eq_true]
    intro d hd
    obtain ⟨q, hq, rfl⟩ := List.mem_map.mp hd
    simp only [isPy, isPys, isPy_dK, (h q hq).1, (h q hq).2, Bool.and_self]
  rw [rEq_d (by rw [deref_lst]; exact hp) (by rw [deref_lst]; exact hp) (by rw [deref_lst]; exact Nat.le_trans (dp_kv hd) (by decide)), deref_lst, deq_l, deqs_kv]
  cases neg <;> rfl
local macro_rules | `(tactic| walk_at "ki") => `(tactic| (walk_at "kf1"; simp (config := { failIfUnchanged := false }) only [ap_fMeth, ap_fFld, ap_gFld, ap_fMake, ap_fDisp]; walk_at "kf1"))
theorem cm3_mk : ∀ m ∈ CM3, isMarkB m = true := by decide +kernel
theorem fghi_wd : ∀ x ∈ FGHI, Wd x ∧ x.length ≤ 6 := by
  have h1 : ∀ x ∈ FGHI, (∀ c ∈ x.cps.toList, wdc c = true) ∧ x.length ≤ 6 := by decide +kernel
  exact h1
theorem merge_st (b : Bool) (pT : Addr) : mergeD [] [(.inr (Str.ofString "cut"), .bl b), (.inr (Str.ofString "told"), .ref pT)] = kvS b pT := by
  unfold kvS
  simp [mergeD, putD, show ¬ (Str.ofString "cut" = Str.ofString "told") from by decide +kernel]
theorem rEq_rI {q : Addr} {V : List Int} {neg : Bool} {O : Ow} {Q : VD} (h : O q = some (.lst (V.map D.int))) : rEqD neg (.ref q) (.lst (V.map D.int)) O Q = Q (.bl (!neg)) O := by
  have e1 : deref O (.ref q) = dI V := deref_ref h
  have e2 : deref O (.lst (V.map D.int)) = dI V := rfl
  have e3 : dp (dI V) ≤ 190 := by have := dp_ints V; simp only [dI]; omega
  have h2 : rEqD neg (dI V) (dI V) O Q = Q (.bl (!neg)) O := rEq_ints V
  rw [← h2, rEq_dr (x := .ref q) (by rw [e1]; exact isPy_dI V) (by rw [e2]; exact isPy_dI V) (by rw [e2]; exact e3), rEq_dr (x := dI V) (by rw [show deref O (dI V) = dI V from rfl]; exact isPy_dI V) (by rw [show deref O (dI V) = dI V from rfl]; exact isPy_dI V) (by rw [show deref O (dI V) = dI V from rfl]; exact e3), e1]
  rfl
theorem ok_law (T : TxW w K mg) : FT_law P w base T 400 (lawSp 63) := by
  refine fnd_law T (FnS.of (j := 20) (ok_pool T.n__law_pool T.m_len) (by omega)) (FnS.of (ok_case T) (by omega)) (FnS.mono (ok_al T 80).1 (by omega)) (FnS.of (ok_counts T 50) (by omega)) (FnS.of (j := 20) (ok_take T.n__law_take) (by omega)) (by walk_at "len") ?_
  rintro ds O R RE ⟨ns, rfl, hl, hR⟩
  unfold g_law
  refine gSeq_step ?_
  walk_at "ki"
  obtain ⟨b1, b2, b3⟩ := rngBound ns.length 4 (by decide) (by decide)
  refine ⟨b1, b2, forD_inv (fun ρ O => ∃ x1 x2 x3 x4 x5 x6 x7 x8 x9 x10 x11 x12 x13, ρ = [some (.scr ns), x1, x2, x3, x4, x5, x6, x7, x8, x9, x10, x11, x12, x13]) _ _ _ ⟨_, _, _, _, _, _, _, _, _, _, _, _, _, rfl⟩ (fun ρ O _ => ?_) ?_⟩
  · walk_at "kf"
    exact hR _
  rintro d hd ρ O' ⟨x1, x2, x3, x4, x5, x6, x7, x8, x9, x10, x11, x12, x13, rfl⟩ Nx hN
  obtain ⟨i, hi, rfl⟩ := mem_rangeD hd
  walk_at "ki"
  refine gSeq_step ?_
  walk_at "ki"
  refine ⟨ns, _, rfl, by omega, by omega, fun p hp => ?_⟩
  try dsimp only
  refine gSeq_step ?_
  walk_at "ki"
  refine ⟨p, 8, rfl, updO_same, by decide, by decide, fun kn k hpre hko hkk hsum => ?_⟩
  try dsimp only
  have hpp : updO O' p .pool p = some .pool := updO_same
  generalize updO O' p .pool = O0 at hpp ⊢
  have hknl : kn.length ≤ 4 := by
    have := hpre.length_le
    rw [List.length_map] at this
    exact this
  have hmx : ∀ x ∈ kn.map (·.2) ++ [k], ∀ m ∈ x.marks, m ∈ CM3 := fun x hx m hm => by
    rcases List.mem_append.mp hx with hx | hx
    · obtain ⟨q, hq, rfl⟩ := List.mem_map.mp hx
      exact (over_iff q.2).mp (hko q hq) m hm
    · rw [List.mem_singleton.mp hx] at hm; exact (over_iff k).mp hkk m hm
  have hlv : lvs (kn.map (·.2)) + k.leaves ≤ 8 := by unfold lvs; rw [List.map_map]; exact hsum
  have hlk : LK (kn.map (·.2) ++ [k]) := fun x hx => by
    refine ⟨fun m hm => cm3_mk m (hmx x hx m hm), ?_⟩
    have h1 := x.depth_lt
    have h2 : x.leaves ≤ lvs (kn.map (·.2) ++ [k]) := mem_sum hx
    rw [lvs_app] at h2
    simp [lvs] at h2 hlv
    omega
  have hkk2 := hlk k (by simp)
  have hkd := k.depth_lt
  have hel := ends_len k
  have hwd : ∀ q ∈ kn, Wd q.1 ∧ q.1.length ≤ 6 := fun q hq => fghi_wd _ (hpre.subset (List.mem_map_of_mem hq))
  have hau := au_row (N := 6) hlk (by omega) (by decide) hmx cm3_mk (by decide) hwd (by omega)
  have hcu : Cu (kn.map (·.2)) (tsOf (kn.map (·.2)) k) CM3 8 17 := cu_row hlk (by omega) (by decide) (by decide) (fun x hx => by have : x.leaves ≤ lvs (kn.map (·.2)) := mem_sum hx; omega) (by omega) (by decide) hmx cm3_mk (by decide)
  have hinc : ∀ most, most ≤ 5 → ∀ t ∈ ends k, InC (kn.map (·.2)) (tsOf (kn.map (·.2)) k) 8 17 (kn.map (·.2) ++ t.1) most ∧ t.2 ∈ CM3 := fun most hm5 t ht => by
    refine ⟨inC_start ht ?_ (by omega), hmx k (by simp) _ (ends_in k t ht).2.2.2⟩
    have g1 := ends_in k t ht
    have g2 := lvs_len t.1
    have g3 : lvs t.1 < k.leaves := g1.2.1
    rw [List.length_map]
    omega
  walk_at "ki"
  refine gSeq_step ?_
  walk_at "ki"
  intro pS hpS
  simp only [pairsS]
  walk_at "ki"
  intro pT hpT
  rw [merge_st]
  have hne : pS ≠ pT := fun e => by rw [← e, updO_same] at hpT; cases hpT
  refine ⟨by rw [updO_ne hne]; exact updO_same, ?_⟩
  have hst : StA (updO (updO (updO O0 pS (.dic [])) pT (.dic [])) pS (.dic (kvS false pT))) pS pT false [] := ⟨updO_same, by rw [updO_ne (Ne.symm hne)]; exact updO_same, hne⟩
  have hpS2 : p ≠ pS := fun e => by rw [← e, hpp] at hpS; cases hpS
  have hpT2 : p ≠ pT := fun e => by rw [← e, updO_ne hpS2, hpp] at hpT; cases hpT
  have hpp2 : updO (updO (updO O0 pS (.dic [])) pT (.dic [])) pS (.dic (kvS false pT)) p = some .pool := by rw [updO_ne hpS2, updO_ne hpT2, updO_ne hpS2]; exact hpp
  generalize updO (updO (updO O0 pS (.dic [])) pT (.dic [])) pS (.dic (kvS false pT)) = O1 at hst hpp2 ⊢
  refine gSeq_step ?_
  walk_at "ki"
  refine ⟨sz_small (by decide), kn, kn, tsOf (kn.map (·.2)) k, CM3, 12, 6, [], k, 0, 5, pS, pT, false, [], rfl, hau, hst, ⟨fun _ _ _ _ _ _ _ _ _ _ e => (by cases e), .nil⟩, ina_row (by decide), ka_row (by omega) (hmx k (by simp)), by omega, fun b kt ys _ hsn hyl hyt => ?_⟩
  try dsimp only
  walk_at "ki"
  refine lcA_map dPS (fun q => D.int (q.2 : Nat)) ys _ _ (sz_small (by simp only [List.length_nil]; omega)) ?_ ?_
  · intro q _ Q' hQ
    simp only [dPS]
    walk_at "kf1"
    exact hQ
  rw [List.nil_append]
  refine gSeq_step ?_
  walk_at "ki"
  refine gSeq_step ?_
  walk_at "ki"
  have hcnt : ∀ most, most ≤ 5 → ∀ (O : Ow) (R : VD) (RE : XD), (∀ q, O q = none → R (.ref q) (updO O q (.lst ((List.range (most + 1)).map fun s => D.int (cmy (tks (kn.map (·.2)) (ends k)) s : Nat))))) → spCntsO 50 [.lst (kn.map kv), dK k, .int most] O R RE := fun most hm5 O R RE h =>
    ⟨kn, k, most, tsOf (kn.map (·.2)) k, CM3, 8, 17, rfl, hcu, by omega, hkk2.1, by omega, by omega, hinc most hm5, by omega, by omega, h⟩
  refine hcnt 5 (by decide) _ _ _ fun q hq => ?_
  try dsimp only
  obtain ⟨VI, hVI⟩ : ∃ VI : List Int, VI = (List.range 6).map fun s => ((cmy (tks (kn.map (·.2)) (ends k)) s : Nat) : Int) := ⟨_, rfl⟩
  have hVL : VI.length = 6 := by rw [hVI]; simp
  rw [show ((List.range (5 + 1)).map fun s => D.int (cmy (tks (kn.map (·.2)) (ends k)) s : Nat)) = VI.map D.int by rw [hVI, List.map_map]; rfl]
  have hO2q : updO (upS O1 pS pT b kt) q (.lst (VI.map D.int)) q = some (.lst (VI.map D.int)) := updO_same
  have hst2 : StA (updO (upS O1 pS pT b kt) q (.lst (VI.map D.int))) pS pT b kt := by
    have h3 := hst.up b kt
    refine ⟨?_, ?_, hst.ne⟩
    · rw [updO_ne (fun e => by rw [← e, h3.s] at hq; cases hq)]; exact h3.s
    · rw [updO_ne (fun e => by rw [← e, h3.t] at hq; cases hq)]; exact h3.t
  have hpp3 : updO (upS O1 pS pT b kt) q (.lst (VI.map D.int)) p = some .pool := by
    have h1 : upS O1 pS pT b kt p = some .pool := by unfold upS; rw [updO_ne hpT2, updO_ne hpS2]; exact hpp2
    rw [updO_ne (fun e => by rw [← e, h1] at hq; cases hq)]; exact h1
  generalize updO (upS O1 pS pT b kt) q (.lst (VI.map D.int)) = O2 at hO2q hst2 hpp3 ⊢
  have hkv : ∀ q ∈ kn, PyData.strOk q.1 = true ∧ q.2.ok = true := fun q hq => ⟨wd_so (hwd q hq).1, mks_ok _ (hlk q.2 (List.mem_append_left _ (List.mem_map_of_mem hq))).1⟩
  refine gSeq_step ?_
  walk_at "ki"
  rw [isi_r_list hO2q]
  walk_at "ki"
  rw [rLen_r hO2q, List.length_map, hVL]
  walk_at "ki"
  rw [rEq_kv hkv (fun q hq => by have := (hlk q.2 (List.mem_append_left _ (List.mem_map_of_mem hq))).2; omega)]
  walk_at "ki"
  refine gSeq_step ?_
  walk_at "kj1"
  rw [asLJ_r hO2q]
  try dsimp only
  refine lcJ_filter (fun _ : Int => false) D.int D.int (keepO_one.mpr hO2q) VI [] _ (sz_small (by simp only [List.length_nil]; omega)) (fun x hx Q1 Q2 g1 g2 => ?_) ?_
  · walk_at "kf1"
    exact g2 rfl
  rw [List.nil_append, show (VI.filter fun _ => false) = [] from List.filter_eq_nil_iff.mpr fun _ _ => by simp]
  walk_at "kf1"
  refine ⟨sz_small (by decide), ?_⟩
  rw [rEq_nil (xs := []) rfl rfl (by decide)]
  walk_at "kf1"
  rw [if_neg (by simp)]
  refine gSeq_step ?_
  walk_at "kf1"
  simp only [rDGet, rKey_s hst2.s, valS_cut]
  -- what comes behind
  have htail : gSeq (gSet (fCall spTake (fCons (fVar 2) (fCons (fC (.int 6)) fNil))) 9) (gSeq (gSet (fCB rList1 (fCons (fVar 8) fNil)) 10) (gSeq (gDrop (fBM0 "list" rClearD (fVar 8))) (gIf (fTest (fOp (rEqD true) (fCall (spCntsO 50) (fCons (fVar 7) (fCons (fVar 4) (fCons (fVar 9) fNil)))) (fSl rSlD (fVar 10) fNoPart (fPart (fOp rAddD (fVar 9) (fC (.int 1))))))) (gRet (fC (.bl false))) gNext))) { nx := Nx, rt := R, bk := gRet (fC (.bl true)) { nx := fun x O' => R D.non O', rt := R }, ct := Nx }
      [some (.scr ns), some (.int (0 + (i : Int))), some (.ref p), some (.lst (kn.map kv)), some (dK k), some (.ref pS), some (.lst (ys.map fun q => D.int (q.2 : Nat))), some (.lst (kn.map kv)), some (.ref q), x9, x10, x11, x12, x13] O2 := by
    refine gSeq_step ?_
    walk_at "kf1"
    refine take_of hpp3 (by decide) (by decide) fun r hr0 hr1 => ?_
    obtain ⟨most, rfl⟩ : ∃ most : Nat, r = (most : Int) := ⟨r.toNat, by omega⟩
    refine gSeq_step ?_
    walk_at "kf1"
    simp only [rList1, deref, hO2q]
    refine gSeq_step ?_
    walk_at "kf1"
    refine ⟨tyOk_r hO2q, ?_⟩
    rw [rClear_r hO2q]
    walk_at "kf1"
    refine hcnt most (by omega) _ _ _ fun q2 hq2 => ?_
    try dsimp only
    have hc2 : updO (updO O2 q (.lst [])) q2 (.lst ((List.range (most + 1)).map fun s => D.int (cmy (tks (kn.map (·.2)) (ends k)) s : Nat))) q2 = some (.lst (((List.range (most + 1)).map fun s => ((cmy (tks (kn.map (·.2)) (ends k)) s : Nat) : Int)).map D.int)) := by
      rw [updO_same, List.map_map]; rfl
    have hcut : cut (VI.map D.int) none (some ((most : Int) + 1)) = ((List.range (most + 1)).map fun s => ((cmy (tks (kn.map (·.2)) (ends k)) s : Nat) : Int)).map D.int := by
      have h1 : (VI.map D.int).length = 6 := by rw [List.length_map, hVL]
      have h2 : cut (VI.map D.int) none (some ((most : Int) + 1)) = (VI.map D.int).take (most + 1) := by
        simp only [cut, HT.sIx, h1]
        rw [if_neg (by omega), show min ((most : Int) + 1).toNat 6 = most + 1 by omega]
        simp
      rw [h2, hVI, ← List.map_take, ← List.map_take]
      congr 2
      exact (show ∀ m, m < 6 → (List.range 6).take (m + 1) = List.range (m + 1) by decide) most (by omega)
    walk_at "kf1"
    rw [hcut, rEq_rI hc2]
    walk_at "kf1"
    exact hN _ _ ⟨_, _, _, _, _, _, _, _, _, _, _, _, _, rfl⟩
  cases b with
  | true =>
    refine ⟨_, rfl, ?_⟩
    rw [if_neg (by simp)]
    exact htail
  | false =>
    refine ⟨_, rfl, ?_⟩
    rw [if_pos rfl]
    refine ⟨by decide, by decide, ?_⟩
    rw [show Int.toNat 6 = 6 from rfl, rangeD_map]
    refine lcA_map (fun i : Nat => D.int (0 + (i : Int))) (fun i : Nat => D.int (cnA ys i : Nat)) (List.range 6) _ _ (sz_small (by simp)) ?_ ?_
    · intro x hx Q' hQ
      walk_at "kf1"
      rw [Int.zero_add, show (ys.map fun q => D.int (q.2 : Nat)) = (ys.map fun q => ((q.2 : Nat) : Int)).map D.int by rw [List.map_map]; rfl, rCntL_l, cnA_count]
      exact hQ
    rw [List.nil_append]
    have e4 : ((List.range 6).map fun i : Nat => D.int (cnA ys i : Nat)) = VI.map D.int := by
      rw [hVI, List.map_map]
      refine List.map_congr_left fun s hs => ?_
      show D.int (cnA ys s : Nat) = D.int (cmy (tks (kn.map (·.2)) (ends k)) s : Nat)
      rw [hyt.full rfl, eA_cnA 5 k kn 5 0 s (Nat.le_refl _) (by have := List.mem_range.mp hs; omega)]
    rw [e4, rEq_rI hO2q]
    walk_at "kf1"
    exact htail
end
end Kf
namespace Kf
open PySem PySem.Spec L2
open PyProof.Rows hiding St
local macro_rules | `(tactic| walk_at "kf") => `(tactic| simp (config := { failIfUnchanged := false }) only [startD, ap_fiEnumT, asT1_t, ap_fKGet, asStr_s, ap_fKIn, ap_fKIx, ap_gAsgL, rUnl_l, ap_fiRng3, asR3_i, rSplitO_s, ap_fOrL, rOrL_l, ap_fLcK, ap_gForK, ap_fMaxD, rMaxD_l, rMaxL_l, ap_fCallXD, ap_gForE, asLE_l, ap_fFrz, ap_fDicO, ap_fDGet, ap_fDGet1, ap_fDGet2, ap_gDPut, ap_fIsiT, ap_gForR, rRep_l, isT_i, isT_s, isT_b, isT_n, isT_t, isT_l, ap_gSeq, ap_gIf, ap_gRet, ap_gNext, ap_gSet, ap_gAsg, ap_gPar, ap_gDrop, ap_gRetF, ap_gRetN, ap_gFor, ap_gSetIx, ap_gBreak, ap_fRev, ap_fiRevR, asIR_i, rRev_l, ap_fCallX, ap_gRaise, ap_gTry, ap_gTryAs, ap_gNever, ap_fEdic, ap_fTest, ap_fOp, ap_fVar, envGet_s, patGet_s, ap_fC, ap_fCB, ap_fCons, ap_fNil, ap_fCall, ap_fAnd, ap_fOr, ap_fNot, ap_fAndV, ap_fOrV, ap_fNotV, ap_fIf, ap_fTup, ap_fLst, ap_fLstO, ap_fChain, ap_fUn, ap_fBM, ap_fBM0, ap_fPool, rPool_i, ap_fSl, ap_fPart, ap_fNoPart, asI_i, rSl_l, ap_fiRng1, ap_fiRng2, ap_fiList, ap_fiTup, ap_fiStr, ap_fiEnum, ap_fiZip, ap_fiRev, asL_l, asT_t, asSg_s, asR1_i, asR2_i, asL1_l, asL2_l, ap_fLc, ap_fLcO, ap_fYes, wipeD, lcD, isi_i_int, isi_i_bool, isi_i_str, isi_i_tuple, isi_i_list, isi_i_dict, isi_b_int, isi_b_bool, isi_b_str, isi_b_tuple, isi_b_list, isi_b_dict, isi_s_int, isi_s_bool, isi_s_str, isi_s_tuple, isi_s_list, isi_s_dict, isi_t_int, isi_t_bool, isi_t_str, isi_t_tuple, isi_t_list, isi_t_dict, isi_l_int, isi_l_bool, isi_l_str, isi_l_tuple, isi_l_list, isi_l_dict, isi_n_int, isi_n_bool, isi_n_str, isi_n_tuple, isi_n_list, isi_n_dict, isi_d_int, isi_d_bool, isi_d_str, isi_d_tuple, isi_d_list, isi_d_dict,
  deref_tup, deref_lst, deref_int, deref_str, deref_bl, deref_non, deref_scr, rLt_i, rLt_s, rLe_i, rLe_s, rInts_i, rInts0_i, rAdd_i, rAdd_s, rAdd_l, rAdd_t, rCatO_l, rNeg_i, rLen_t, rLen_l, rLen_c, rLen_s, rMax_i, rMin_i, rInt_i, rInt_b, rDivmod_i, ap_gAug, rStr_i, rList_l, rList_t, rListO_l, rListO_t, rTup_l, rTup_t,
  rIx_t0, rIx_t1, rIx_t2, rIx_t3, rIx_l0, rIx_l1, rIx_l2, rIsN_x, isNon_t, isNon_n, isNon_i, isNon_s, isNon_l, rEq_i, rEq_b, rEq_i2, rEq_b2, rJoin_m, rSplit_s, tyOk_l, tyOk_s, patD_nm, patD_tp, patDs_nil, patDs_cons, Option.bind_some, notX, notX',
  List.map_cons, List.map_nil, List.length_cons, List.length_nil, List.cons_append, List.nil_append, List.append_nil, List.replicate, List.getElem?_cons_zero, List.getElem?_cons_succ, List.set_cons_zero, List.set_cons_succ, updO_same, updO_updO,
  Nat.reduceSub, Nat.reduceAdd, Nat.reduceLeDiff, Nat.zero_add, Int.cast_ofNat_Int, Int.natCast_zero, Int.natCast_one, Int.reduceLT, Int.reduceLE, Int.reduceEq, Int.reduceAdd, Int.reduceSub, Int.reduceNeg, decide_true, decide_false, if_true, if_false, Bool.false_eq_true, eq_self, reduceIte, Bool.true_eq_false, decide_eq_true_eq, Bool.not_true, Bool.not_false, Bool.not_eq_true', decide_eq_false_iff_not, exists_eq_left', exists_eq_left, D.bl.injEq, true_and, and_true, not_true_eq_false, not_false_eq_true])
local macro_rules | `(tactic| walk_at "len") => `(tactic| (intro ds O R RE h; first | (obtain ⟨e, _⟩ := h; subst e; rfl) | (obtain ⟨_, e, _⟩ := h; subst e; rfl) | (obtain ⟨_, _, e, _⟩ := h; subst e; rfl) | (obtain ⟨_, _, _, e, _⟩ := h; subst e; rfl) | (obtain ⟨_, _, _, _, e, _⟩ := h; subst e; rfl) | (obtain ⟨_, _, _, _, _, e, _⟩ := h; subst e; rfl) | (obtain ⟨_, _, _, _, _, _, e, _⟩ := h; subst e; rfl) | (obtain ⟨_, _, _, _, _, _, _, e, _⟩ := h; subst e; rfl) | (obtain ⟨_, _, _, _, _, _, _, _, e, _⟩ := h; subst e; rfl) | (obtain ⟨_, _, _, _, _, _, _, _, _, e, _⟩ := h; subst e; rfl)))
local macro_rules | `(tactic| walk_at "kf1") => `(tactic| simp (config := { failIfUnchanged := false }) only [startD, ap_fiEnumT, asT1_t, ap_fKGet, asStr_s, ap_fKIn, ap_fKIx, ap_gAsgL, rUnl_l, ap_fiRng3, asR3_i, rSplitO_s, ap_fOrL, rOrL_l, ap_fLcK, ap_gForK, ap_fMaxD, rMaxD_l, rMaxL_l, ap_fCallXD, ap_gForE, asLE_l, ap_fFrz, ap_fDicO, ap_fDGet, ap_fDGet1, ap_fDGet2, ap_gDPut, ap_fIsiT, ap_gForR, rRep_l, isT_i, isT_s, isT_b, isT_n, isT_t, isT_l, ap_gIf, ap_gRet, ap_gNext, ap_gSet, ap_gAsg, ap_gPar, ap_gDrop, ap_gRetF, ap_gRetN, ap_gFor, ap_gSetIx, ap_gBreak, ap_fRev, ap_fiRevR, asIR_i, rRev_l, ap_fCallX, ap_gRaise, ap_gTry, ap_gTryAs, ap_gNever, ap_fEdic, ap_fTest, ap_fOp, ap_fVar, envGet_s, patGet_s, ap_fC, ap_fCB, ap_fCons, ap_fNil, ap_fCall, ap_fAnd, ap_fOr, ap_fNot, ap_fAndV, ap_fOrV, ap_fNotV, ap_fIf, ap_fTup, ap_fLst, ap_fLstO, ap_fChain, ap_fUn, ap_fBM, ap_fBM0, ap_fPool, rPool_i, ap_fSl, ap_fPart, ap_fNoPart, asI_i, rSl_l, ap_fiRng1, ap_fiRng2, ap_fiList, ap_fiTup, ap_fiStr, ap_fiEnum, ap_fiZip, ap_fiRev, asL_l, asT_t, asSg_s, asR1_i, asR2_i, asL1_l, asL2_l, ap_fLc, ap_fLcO, ap_fYes, wipeD, lcD, isi_i_int, isi_i_bool, isi_i_str, isi_i_tuple, isi_i_list, isi_i_dict, isi_b_int, isi_b_bool, isi_b_str, isi_b_tuple, isi_b_list, isi_b_dict, isi_s_int, isi_s_bool, isi_s_str, isi_s_tuple, isi_s_list, isi_s_dict, isi_t_int, isi_t_bool, isi_t_str, isi_t_tuple, isi_t_list, isi_t_dict, isi_l_int, isi_l_bool, isi_l_str, isi_l_tuple, isi_l_list, isi_l_dict, isi_n_int, isi_n_bool, isi_n_str, isi_n_tuple, isi_n_list, isi_n_dict, isi_d_int, isi_d_bool, isi_d_str, isi_d_tuple, isi_d_list, isi_d_dict,
  deref_tup, deref_lst, deref_int, deref_str, deref_bl, deref_non, deref_scr, rLt_i, rLt_s, rLe_i, rLe_s, rInts_i, rInts0_i, rAdd_i, rAdd_s, rAdd_l, rAdd_t, rCatO_l, rNeg_i, rLen_t, rLen_l, rLen_c, rLen_s, rMax_i, rMin_i, rInt_i, rInt_b, rDivmod_i, ap_gAug, rStr_i, rList_l, rList_t, rListO_l, rListO_t, rTup_l, rTup_t,
  rIx_t0, rIx_t1, rIx_t2, rIx_t3, rIx_l0, rIx_l1, rIx_l2, rIsN_x, isNon_t, isNon_n, isNon_i, isNon_s, isNon_l, rEq_i, rEq_b, rEq_i2, rEq_b2, rJoin_m, rSplit_s, tyOk_l, tyOk_s, patD_nm, patD_tp, patDs_nil, patDs_cons, Option.bind_some, notX, notX',
  List.map_cons, List.map_nil, List.length_cons, List.length_nil, List.cons_append, List.nil_append, List.append_nil, List.replicate, List.getElem?_cons_zero, List.getElem?_cons_succ, List.set_cons_zero, List.set_cons_succ, updO_same, updO_updO,
  Nat.reduceSub, Nat.reduceAdd, Nat.reduceLeDiff, Nat.zero_add, Int.cast_ofNat_Int, Int.natCast_zero, Int.natCast_one, Int.reduceLT, Int.reduceLE, Int.reduceEq, Int.reduceAdd, Int.reduceSub, Int.reduceNeg, decide_true, decide_false, if_true, if_false, Bool.false_eq_true, eq_self, reduceIte, Bool.true_eq_false, decide_eq_true_eq, Bool.not_true, Bool.not_false, Bool.not_eq_true', decide_eq_false_iff_not, exists_eq_left', exists_eq_left, D.bl.injEq, true_and, and_true, not_true_eq_false, not_false_eq_true])
section
variable {P : Program} {w : World} {K : PySem.W.Frag} {mg : Str → Option Value} {base : Heap}
local macro_rules | `(tactic| walk_at "tg") => `(tactic| simp (config := { failIfUnchanged := false }) only [te_name_take, te_name_give, te_name_pair, te_name_first, te_name_second, te_name_to, te_name_both, te_name_one, te_name_mark, te_name_name, te_name_thing, te_name_at, te_thing_take, te_thing_give, te_thing_pair, te_thing_first, te_thing_second, te_thing_to, te_thing_both, te_thing_one, te_thing_mark, te_thing_name, te_thing_thing, te_thing_at, te_take_take, te_take_give, te_take_pair, te_take_first, te_take_second, te_take_to, te_take_both, te_take_one, te_take_mark, te_take_name, te_take_thing, te_take_at, te_give_take, te_give_give, te_give_pair, te_give_first, te_give_second, te_give_to, te_give_both, te_give_one, te_give_mark, te_give_name, te_give_thing, te_give_at, te_pair_take, te_pair_give, te_pair_pair, te_pair_first, te_pair_second, te_pair_to, te_pair_both, te_pair_one, te_pair_mark, te_pair_name, te_pair_thing, te_pair_at, te_first_take, te_first_give, te_first_pair, te_first_first, te_first_second, te_first_to, te_first_both, te_first_one, te_first_mark, te_first_name, te_first_thing, te_first_at, te_second_take, te_second_give, te_second_pair, te_second_first, te_second_second, te_second_to, te_second_both, te_second_one, te_second_mark, te_second_name, te_second_thing, te_second_at, te_mark_take, te_mark_give, te_mark_pair, te_mark_first, te_mark_second, te_mark_to, te_mark_both, te_mark_one, te_mark_mark, te_mark_name, te_mark_thing, te_mark_at, te_one_take, te_one_give, te_one_pair, te_one_first, te_one_second, te_one_to, te_one_both, te_one_one, te_one_mark, te_one_name, te_one_thing, te_one_at, te_to_take, te_to_give, te_to_pair, te_to_first, te_to_second, te_to_to, te_to_both, te_to_one, te_to_mark, te_to_name, te_to_thing, te_to_at, te_both_take, te_both_give, te_both_pair, te_both_first, te_both_second, te_both_to, te_both_both, te_both_one, te_both_mark, te_both_name, te_both_thing, te_both_at, te_at_take, te_at_give, te_at_pair, te_at_first, te_at_second, te_at_to, te_at_both, te_at_one, te_at_mark, te_at_name, te_at_thing, te_at_at, ti4_name, ti4_thing, ti4_take, ti4_give, ti4_pair, ti4_first, ti4_second, ti2_name, ti2_thing, ti2_take, ti2_give, ti2_pair, ti2_first, ti2_second, szT_0, szT_1, szT_2, szT_3, szT_4, szT_5, szT_6, szT_7, szT_8, szT_9, szT_10, szT_11, szT_12, Bool.not_true, Bool.not_false, true_and])
end
theorem fn_mk {K : PySem.W.Frag} {h : Heap} {mg : Str → Option Value} {x : Str} {st : Stmt} {ps : List Str} {f : Addr} {oc : Value} {od an : Option Addr} {osl : Array (Option Value)} {kV doc pm cdv ct : Value} (X : K.In h) (G : h.Ns mainGlobals mg)
    (a : PySem.W.nsIn K mainGlobals x = some (some (.ref f))) (l : K.lookup f = some ⟨oc, od, .func (PySem.W.fnOf x x (defArgs st) (defBody st) (defScope st) .none kV doc pm an cdv ct), osl⟩) (c : PySem.W.codeIn K cdv x = true) (k : PySem.W.keepIn K (.ref f) = true)
    (b : ∀ (kV doc pm : Value) (an : Option Addr) (cdv ct : Value) (us : List Value), us.length = ps.length → bindArgs (PySem.W.fnOf x x (defArgs st) (defBody st) (defScope st) .none kV doc pm an cdv ct) ⟨us, []⟩ = pure (ps.zip us)) :
    Fn K mg x st ps f (PySem.W.fnOf x x (defArgs st) (defBody st) (defScope st) .none kV doc pm an cdv ct) := ⟨fun_mk l c k, PySem.W.mg_of X G a, (fun_mk l c k).binds b⟩
theorem mt_mk {K : PySem.W.Frag} {m qual : Str} {st : Stmt} {ps : List Str} {C f : Addr} {oc : Value} {od an : Option Addr} {osl : Array (Option Value)} {kV doc pm cdv ct : Value}
    (a : PySem.W.findIn K (.ref C) m = some (some (.ref f))) (i : PySem.W.isFn K (.ref f) = true) (l : K.lookup f = some ⟨oc, od, .func (PySem.W.fnOf m qual (defArgs st) (defBody st) (defScope st) .none kV doc pm an cdv ct), osl⟩) (c : PySem.W.codeIn K cdv qual = true) (k : PySem.W.keepIn K (.ref f) = true)
    (b : ∀ (kV doc pm : Value) (an : Option Addr) (cdv ct : Value) (us : List Value), us.length = ps.length → bindArgs (PySem.W.fnOf m qual (defArgs st) (defBody st) (defScope st) .none kV doc pm an cdv ct) ⟨us, []⟩ = pure (ps.zip us)) :
    Mt K C m qual st ps f (PySem.W.fnOf m qual (defArgs st) (defBody st) (defScope st) .none kV doc pm an cdv ct) := ⟨fun_mk l c k, ⟨a, i, k⟩, (fun_mk l c k).binds b⟩
set_option maxHeartbeats 0 in
theorem all_mk {l : PySem.W.OpenLaw} {w : World} {K : PySem.W.Frag} {h : Heap} {mg : Str → Option Value} {fa : Addr} (X : K.In h) (G : h.Ns mainGlobals mg) (hfa : mg "law" = some (.ref fa))
    {C_Counter : Addr} (cg_Counter : PySem.W.plainGet K C_Counter Str.empty = true) (ch_Counter : PySem.W.hasDictIn K C_Counter = true) (co_Counter : PySem.W.plainOver K C_Counter = true) (cs_Counter : PySem.W.findIn K (.ref C_Counter) "__setattr__" = some (some (.builtin "object.__setattr__")))
    (na_Counter_ways : PySem.W.findIn K (.ref C_Counter) "ways" = some none)
    (na_Counter_sums : PySem.W.findIn K (.ref C_Counter) "sums" = some none)
    {f_is_mark : Addr} {oc_is_mark kV_is_mark dc_is_mark pm_is_mark cd_is_mark ct_is_mark : Value} {od_is_mark an_is_mark : Option Addr} {sl_is_mark : Array (Option Value)}
    (a_is_mark : PySem.W.nsIn K mainGlobals "is_mark" = some (some (.ref f_is_mark)))
    (l_is_mark : K.lookup f_is_mark = some ⟨oc_is_mark, od_is_mark, .func (PySem.W.fnOf "is_mark" "is_mark" (defArgs s_is_mark) (defBody s_is_mark) (defScope s_is_mark) .none kV_is_mark dc_is_mark pm_is_mark an_is_mark cd_is_mark ct_is_mark), sl_is_mark⟩)
    (c_is_mark : PySem.W.codeIn K cd_is_mark "is_mark" = true) (k_is_mark : PySem.W.keepIn K (.ref f_is_mark) = true)
    {f_has_form : Addr} {oc_has_form kV_has_form dc_has_form pm_has_form cd_has_form ct_has_form : Value} {od_has_form an_has_form : Option Addr} {sl_has_form : Array (Option Value)}
    (a_has_form : PySem.W.nsIn K mainGlobals "has_form" = some (some (.ref f_has_form)))
    (l_has_form : K.lookup f_has_form = some ⟨oc_has_form, od_has_form, .func (PySem.W.fnOf "has_form" "has_form" (defArgs s_has_form) (defBody s_has_form) (defScope s_has_form) .none kV_has_form dc_has_form pm_has_form an_has_form cd_has_form ct_has_form), sl_has_form⟩)
    (c_has_form : PySem.W.codeIn K cd_has_form "has_form" = true) (k_has_form : PySem.W.keepIn K (.ref f_has_form) = true)
    {f_is_kind : Addr} {oc_is_kind kV_is_kind dc_is_kind pm_is_kind cd_is_kind ct_is_kind : Value} {od_is_kind an_is_kind : Option Addr} {sl_is_kind : Array (Option Value)}
    (a_is_kind : PySem.W.nsIn K mainGlobals "is_kind" = some (some (.ref f_is_kind)))
    (l_is_kind : K.lookup f_is_kind = some ⟨oc_is_kind, od_is_kind, .func (PySem.W.fnOf "is_kind" "is_kind" (defArgs s_is_kind) (defBody s_is_kind) (defScope s_is_kind) .none kV_is_kind dc_is_kind pm_is_kind an_is_kind cd_is_kind ct_is_kind), sl_is_kind⟩)
    (c_is_kind : PySem.W.codeIn K cd_is_kind "is_kind" = true) (k_is_kind : PySem.W.keepIn K (.ref f_is_kind) = true)
    {f_leaves_of : Addr} {oc_leaves_of kV_leaves_of dc_leaves_of pm_leaves_of cd_leaves_of ct_leaves_of : Value} {od_leaves_of an_leaves_of : Option Addr} {sl_leaves_of : Array (Option Value)}
    (a_leaves_of : PySem.W.nsIn K mainGlobals "leaves_of" = some (some (.ref f_leaves_of)))
    (l_leaves_of : K.lookup f_leaves_of = some ⟨oc_leaves_of, od_leaves_of, .func (PySem.W.fnOf "leaves_of" "leaves_of" (defArgs s_leaves_of) (defBody s_leaves_of) (defScope s_leaves_of) .none kV_leaves_of dc_leaves_of pm_leaves_of an_leaves_of cd_leaves_of ct_leaves_of), sl_leaves_of⟩)
    (c_leaves_of : PySem.W.codeIn K cd_leaves_of "leaves_of" = true) (k_leaves_of : PySem.W.keepIn K (.ref f_leaves_of) = true)
    {f_ends_of : Addr} {oc_ends_of kV_ends_of dc_ends_of pm_ends_of cd_ends_of ct_ends_of : Value} {od_ends_of an_ends_of : Option Addr} {sl_ends_of : Array (Option Value)}
    (a_ends_of : PySem.W.nsIn K mainGlobals "ends_of" = some (some (.ref f_ends_of)))
    (l_ends_of : K.lookup f_ends_of = some ⟨oc_ends_of, od_ends_of, .func (PySem.W.fnOf "ends_of" "ends_of" (defArgs s_ends_of) (defBody s_ends_of) (defScope s_ends_of) .none kV_ends_of dc_ends_of pm_ends_of an_ends_of cd_ends_of ct_ends_of), sl_ends_of⟩)
    (c_ends_of : PySem.W.codeIn K cd_ends_of "ends_of" = true) (k_ends_of : PySem.W.keepIn K (.ref f_ends_of) = true)
    {f_ways_of : Addr} {oc_ways_of kV_ways_of dc_ways_of pm_ways_of cd_ways_of ct_ways_of : Value} {od_ways_of an_ways_of : Option Addr} {sl_ways_of : Array (Option Value)}
    (a_ways_of : PySem.W.nsIn K mainGlobals "ways_of" = some (some (.ref f_ways_of)))
    (l_ways_of : K.lookup f_ways_of = some ⟨oc_ways_of, od_ways_of, .func (PySem.W.fnOf "ways_of" "ways_of" (defArgs s_ways_of) (defBody s_ways_of) (defScope s_ways_of) .none kV_ways_of dc_ways_of pm_ways_of an_ways_of cd_ways_of ct_ways_of), sl_ways_of⟩)
    (c_ways_of : PySem.W.codeIn K cd_ways_of "ways_of" = true) (k_ways_of : PySem.W.keepIn K (.ref f_ways_of) = true)
    {f_shown_kind : Addr} {oc_shown_kind kV_shown_kind dc_shown_kind pm_shown_kind cd_shown_kind ct_shown_kind : Value} {od_shown_kind an_shown_kind : Option Addr} {sl_shown_kind : Array (Option Value)}
    (a_shown_kind : PySem.W.nsIn K mainGlobals "shown_kind" = some (some (.ref f_shown_kind)))
    (l_shown_kind : K.lookup f_shown_kind = some ⟨oc_shown_kind, od_shown_kind, .func (PySem.W.fnOf "shown_kind" "shown_kind" (defArgs s_shown_kind) (defBody s_shown_kind) (defScope s_shown_kind) .none kV_shown_kind dc_shown_kind pm_shown_kind an_shown_kind cd_shown_kind ct_shown_kind), sl_shown_kind⟩)
    (c_shown_kind : PySem.W.codeIn K cd_shown_kind "shown_kind" = true) (k_shown_kind : PySem.W.keepIn K (.ref f_shown_kind) = true)
    {f_word_at : Addr} {oc_word_at kV_word_at dc_word_at pm_word_at cd_word_at ct_word_at : Value} {od_word_at an_word_at : Option Addr} {sl_word_at : Array (Option Value)}
    (a_word_at : PySem.W.nsIn K mainGlobals "word_at" = some (some (.ref f_word_at)))
    (l_word_at : K.lookup f_word_at = some ⟨oc_word_at, od_word_at, .func (PySem.W.fnOf "word_at" "word_at" (defArgs s_word_at) (defBody s_word_at) (defScope s_word_at) .none kV_word_at dc_word_at pm_word_at an_word_at cd_word_at ct_word_at), sl_word_at⟩)
    (c_word_at : PySem.W.codeIn K cd_word_at "word_at" = true) (k_word_at : PySem.W.keepIn K (.ref f_word_at) = true)
    {f_kind_from : Addr} {oc_kind_from kV_kind_from dc_kind_from pm_kind_from cd_kind_from ct_kind_from : Value} {od_kind_from an_kind_from : Option Addr} {sl_kind_from : Array (Option Value)}
    (a_kind_from : PySem.W.nsIn K mainGlobals "kind_from" = some (some (.ref f_kind_from)))
    (l_kind_from : K.lookup f_kind_from = some ⟨oc_kind_from, od_kind_from, .func (PySem.W.fnOf "kind_from" "kind_from" (defArgs s_kind_from) (defBody s_kind_from) (defScope s_kind_from) .none kV_kind_from dc_kind_from pm_kind_from an_kind_from cd_kind_from ct_kind_from), sl_kind_from⟩)
    (c_kind_from : PySem.W.codeIn K cd_kind_from "kind_from" = true) (k_kind_from : PySem.W.keepIn K (.ref f_kind_from) = true)
    {f_read_kind : Addr} {oc_read_kind kV_read_kind dc_read_kind pm_read_kind cd_read_kind ct_read_kind : Value} {od_read_kind an_read_kind : Option Addr} {sl_read_kind : Array (Option Value)}
    (a_read_kind : PySem.W.nsIn K mainGlobals "read_kind" = some (some (.ref f_read_kind)))
    (l_read_kind : K.lookup f_read_kind = some ⟨oc_read_kind, od_read_kind, .func (PySem.W.fnOf "read_kind" "read_kind" (defArgs s_read_kind) (defBody s_read_kind) (defScope s_read_kind) .none kV_read_kind dc_read_kind pm_read_kind an_read_kind cd_read_kind ct_read_kind), sl_read_kind⟩)
    (c_read_kind : PySem.W.codeIn K cd_read_kind "read_kind" = true) (k_read_kind : PySem.W.keepIn K (.ref f_read_kind) = true)
    {f_move_ends : Addr} {oc_move_ends kV_move_ends dc_move_ends pm_move_ends cd_move_ends ct_move_ends : Value} {od_move_ends an_move_ends : Option Addr} {sl_move_ends : Array (Option Value)}
    (a_move_ends : PySem.W.nsIn K mainGlobals "move_ends" = some (some (.ref f_move_ends)))
    (l_move_ends : K.lookup f_move_ends = some ⟨oc_move_ends, od_move_ends, .func (PySem.W.fnOf "move_ends" "move_ends" (defArgs s_move_ends) (defBody s_move_ends) (defScope s_move_ends) .none kV_move_ends dc_move_ends pm_move_ends an_move_ends cd_move_ends ct_move_ends), sl_move_ends⟩)
    (c_move_ends : PySem.W.codeIn K cd_move_ends "move_ends" = true) (k_move_ends : PySem.W.keepIn K (.ref f_move_ends) = true)
    {f_Counter___init__ : Addr} {oc_Counter___init__ kV_Counter___init__ dc_Counter___init__ pm_Counter___init__ cd_Counter___init__ ct_Counter___init__ : Value} {od_Counter___init__ an_Counter___init__ : Option Addr} {sl_Counter___init__ : Array (Option Value)}
    (a_Counter___init__ : PySem.W.findIn K (.ref C_Counter) "__init__" = some (some (.ref f_Counter___init__))) (i_Counter___init__ : PySem.W.isFn K (.ref f_Counter___init__) = true)
    (l_Counter___init__ : K.lookup f_Counter___init__ = some ⟨oc_Counter___init__, od_Counter___init__, .func (PySem.W.fnOf "__init__" "Counter.__init__" (defArgs s_Counter___init__) (defBody s_Counter___init__) (defScope s_Counter___init__) .none kV_Counter___init__ dc_Counter___init__ pm_Counter___init__ an_Counter___init__ cd_Counter___init__ ct_Counter___init__), sl_Counter___init__⟩)
    (c_Counter___init__ : PySem.W.codeIn K cd_Counter___init__ "Counter.__init__" = true) (k_Counter___init__ : PySem.W.keepIn K (.ref f_Counter___init__) = true)
    {f_Counter_ways_by : Addr} {oc_Counter_ways_by kV_Counter_ways_by dc_Counter_ways_by pm_Counter_ways_by cd_Counter_ways_by ct_Counter_ways_by : Value} {od_Counter_ways_by an_Counter_ways_by : Option Addr} {sl_Counter_ways_by : Array (Option Value)}
    (a_Counter_ways_by : PySem.W.findIn K (.ref C_Counter) "ways_by" = some (some (.ref f_Counter_ways_by))) (i_Counter_ways_by : PySem.W.isFn K (.ref f_Counter_ways_by) = true)
    (l_Counter_ways_by : K.lookup f_Counter_ways_by = some ⟨oc_Counter_ways_by, od_Counter_ways_by, .func (PySem.W.fnOf "ways_by" "Counter.ways_by" (defArgs s_Counter_ways_by) (defBody s_Counter_ways_by) (defScope s_Counter_ways_by) .none kV_Counter_ways_by dc_Counter_ways_by pm_Counter_ways_by an_Counter_ways_by cd_Counter_ways_by ct_Counter_ways_by), sl_Counter_ways_by⟩)
    (c_Counter_ways_by : PySem.W.codeIn K cd_Counter_ways_by "Counter.ways_by" = true) (k_Counter_ways_by : PySem.W.keepIn K (.ref f_Counter_ways_by) = true)
    {f_Counter_put_in : Addr} {oc_Counter_put_in kV_Counter_put_in dc_Counter_put_in pm_Counter_put_in cd_Counter_put_in ct_Counter_put_in : Value} {od_Counter_put_in an_Counter_put_in : Option Addr} {sl_Counter_put_in : Array (Option Value)}
    (a_Counter_put_in : PySem.W.findIn K (.ref C_Counter) "put_in" = some (some (.ref f_Counter_put_in))) (i_Counter_put_in : PySem.W.isFn K (.ref f_Counter_put_in) = true)
    (l_Counter_put_in : K.lookup f_Counter_put_in = some ⟨oc_Counter_put_in, od_Counter_put_in, .func (PySem.W.fnOf "put_in" "Counter.put_in" (defArgs s_Counter_put_in) (defBody s_Counter_put_in) (defScope s_Counter_put_in) .none kV_Counter_put_in dc_Counter_put_in pm_Counter_put_in an_Counter_put_in cd_Counter_put_in ct_Counter_put_in), sl_Counter_put_in⟩)
    (c_Counter_put_in : PySem.W.codeIn K cd_Counter_put_in "Counter.put_in" = true) (k_Counter_put_in : PySem.W.keepIn K (.ref f_Counter_put_in) = true)
    {f_Counter_tasks : Addr} {oc_Counter_tasks kV_Counter_tasks dc_Counter_tasks pm_Counter_tasks cd_Counter_tasks ct_Counter_tasks : Value} {od_Counter_tasks an_Counter_tasks : Option Addr} {sl_Counter_tasks : Array (Option Value)}
    (a_Counter_tasks : PySem.W.findIn K (.ref C_Counter) "tasks" = some (some (.ref f_Counter_tasks))) (i_Counter_tasks : PySem.W.isFn K (.ref f_Counter_tasks) = true)
    (l_Counter_tasks : K.lookup f_Counter_tasks = some ⟨oc_Counter_tasks, od_Counter_tasks, .func (PySem.W.fnOf "tasks" "Counter.tasks" (defArgs s_Counter_tasks) (defBody s_Counter_tasks) (defScope s_Counter_tasks) .none kV_Counter_tasks dc_Counter_tasks pm_Counter_tasks an_Counter_tasks cd_Counter_tasks ct_Counter_tasks), sl_Counter_tasks⟩)
    (c_Counter_tasks : PySem.W.codeIn K cd_Counter_tasks "Counter.tasks" = true) (k_Counter_tasks : PySem.W.keepIn K (.ref f_Counter_tasks) = true)
    {f_Counter_many : Addr} {oc_Counter_many kV_Counter_many dc_Counter_many pm_Counter_many cd_Counter_many ct_Counter_many : Value} {od_Counter_many an_Counter_many : Option Addr} {sl_Counter_many : Array (Option Value)}
    (a_Counter_many : PySem.W.findIn K (.ref C_Counter) "many" = some (some (.ref f_Counter_many))) (i_Counter_many : PySem.W.isFn K (.ref f_Counter_many) = true)
    (l_Counter_many : K.lookup f_Counter_many = some ⟨oc_Counter_many, od_Counter_many, .func (PySem.W.fnOf "many" "Counter.many" (defArgs s_Counter_many) (defBody s_Counter_many) (defScope s_Counter_many) .none kV_Counter_many dc_Counter_many pm_Counter_many an_Counter_many cd_Counter_many ct_Counter_many), sl_Counter_many⟩)
    (c_Counter_many : PySem.W.codeIn K cd_Counter_many "Counter.many" = true) (k_Counter_many : PySem.W.keepIn K (.ref f_Counter_many) = true)
    {f_Counter_many_of : Addr} {oc_Counter_many_of kV_Counter_many_of dc_Counter_many_of pm_Counter_many_of cd_Counter_many_of ct_Counter_many_of : Value} {od_Counter_many_of an_Counter_many_of : Option Addr} {sl_Counter_many_of : Array (Option Value)}
    (a_Counter_many_of : PySem.W.findIn K (.ref C_Counter) "many_of" = some (some (.ref f_Counter_many_of))) (i_Counter_many_of : PySem.W.isFn K (.ref f_Counter_many_of) = true)
    (l_Counter_many_of : K.lookup f_Counter_many_of = some ⟨oc_Counter_many_of, od_Counter_many_of, .func (PySem.W.fnOf "many_of" "Counter.many_of" (defArgs s_Counter_many_of) (defBody s_Counter_many_of) (defScope s_Counter_many_of) .none kV_Counter_many_of dc_Counter_many_of pm_Counter_many_of an_Counter_many_of cd_Counter_many_of ct_Counter_many_of), sl_Counter_many_of⟩)
    (c_Counter_many_of : PySem.W.codeIn K cd_Counter_many_of "Counter.many_of" = true) (k_Counter_many_of : PySem.W.keepIn K (.ref f_Counter_many_of) = true)
    {f_Counter_begun : Addr} {oc_Counter_begun kV_Counter_begun dc_Counter_begun pm_Counter_begun cd_Counter_begun ct_Counter_begun : Value} {od_Counter_begun an_Counter_begun : Option Addr} {sl_Counter_begun : Array (Option Value)}
    (a_Counter_begun : PySem.W.findIn K (.ref C_Counter) "begun" = some (some (.ref f_Counter_begun))) (i_Counter_begun : PySem.W.isFn K (.ref f_Counter_begun) = true)
    (l_Counter_begun : K.lookup f_Counter_begun = some ⟨oc_Counter_begun, od_Counter_begun, .func (PySem.W.fnOf "begun" "Counter.begun" (defArgs s_Counter_begun) (defBody s_Counter_begun) (defScope s_Counter_begun) .none kV_Counter_begun dc_Counter_begun pm_Counter_begun an_Counter_begun cd_Counter_begun ct_Counter_begun), sl_Counter_begun⟩)
    (c_Counter_begun : PySem.W.codeIn K cd_Counter_begun "Counter.begun" = true) (k_Counter_begun : PySem.W.keepIn K (.ref f_Counter_begun) = true)
    {f_counts_of : Addr} {oc_counts_of kV_counts_of dc_counts_of pm_counts_of cd_counts_of ct_counts_of : Value} {od_counts_of an_counts_of : Option Addr} {sl_counts_of : Array (Option Value)}
    (a_counts_of : PySem.W.nsIn K mainGlobals "counts_of" = some (some (.ref f_counts_of)))
    (l_counts_of : K.lookup f_counts_of = some ⟨oc_counts_of, od_counts_of, .func (PySem.W.fnOf "counts_of" "counts_of" (defArgs s_counts_of) (defBody s_counts_of) (defScope s_counts_of) .none kV_counts_of dc_counts_of pm_counts_of an_counts_of cd_counts_of ct_counts_of), sl_counts_of⟩)
    (c_counts_of : PySem.W.codeIn K cd_counts_of "counts_of" = true) (k_counts_of : PySem.W.keepIn K (.ref f_counts_of) = true)
    {f__law_pool : Addr} {oc__law_pool kV__law_pool dc__law_pool pm__law_pool cd__law_pool ct__law_pool : Value} {od__law_pool an__law_pool : Option Addr} {sl__law_pool : Array (Option Value)}
    (a__law_pool : PySem.W.nsIn K mainGlobals "_law_pool" = some (some (.ref f__law_pool)))
    (l__law_pool : K.lookup f__law_pool = some ⟨oc__law_pool, od__law_pool, .func (PySem.W.fnOf "_law_pool" "_law_pool" (defArgs s__law_pool) (defBody s__law_pool) (defScope s__law_pool) .none kV__law_pool dc__law_pool pm__law_pool an__law_pool cd__law_pool ct__law_pool), sl__law_pool⟩)
    (c__law_pool : PySem.W.codeIn K cd__law_pool "_law_pool" = true) (k__law_pool : PySem.W.keepIn K (.ref f__law_pool) = true)
    {f__law_take : Addr} {oc__law_take kV__law_take dc__law_take pm__law_take cd__law_take ct__law_take : Value} {od__law_take an__law_take : Option Addr} {sl__law_take : Array (Option Value)}
    (a__law_take : PySem.W.nsIn K mainGlobals "_law_take" = some (some (.ref f__law_take)))
    (l__law_take : K.lookup f__law_take = some ⟨oc__law_take, od__law_take, .func (PySem.W.fnOf "_law_take" "_law_take" (defArgs s__law_take) (defBody s__law_take) (defScope s__law_take) .none kV__law_take dc__law_take pm__law_take an__law_take cd__law_take ct__law_take), sl__law_take⟩)
    (c__law_take : PySem.W.codeIn K cd__law_take "_law_take" = true) (k__law_take : PySem.W.keepIn K (.ref f__law_take) = true)
    {f__law_kind : Addr} {oc__law_kind kV__law_kind dc__law_kind pm__law_kind cd__law_kind ct__law_kind : Value} {od__law_kind an__law_kind : Option Addr} {sl__law_kind : Array (Option Value)}
    (a__law_kind : PySem.W.nsIn K mainGlobals "_law_kind" = some (some (.ref f__law_kind)))
    (l__law_kind : K.lookup f__law_kind = some ⟨oc__law_kind, od__law_kind, .func (PySem.W.fnOf "_law_kind" "_law_kind" (defArgs s__law_kind) (defBody s__law_kind) (defScope s__law_kind) .none kV__law_kind dc__law_kind pm__law_kind an__law_kind cd__law_kind ct__law_kind), sl__law_kind⟩)
    (c__law_kind : PySem.W.codeIn K cd__law_kind "_law_kind" = true) (k__law_kind : PySem.W.keepIn K (.ref f__law_kind) = true)
    {f__law_case : Addr} {oc__law_case kV__law_case dc__law_case pm__law_case cd__law_case ct__law_case : Value} {od__law_case an__law_case : Option Addr} {sl__law_case : Array (Option Value)}
    (a__law_case : PySem.W.nsIn K mainGlobals "_law_case" = some (some (.ref f__law_case)))
    (l__law_case : K.lookup f__law_case = some ⟨oc__law_case, od__law_case, .func (PySem.W.fnOf "_law_case" "_law_case" (defArgs s__law_case) (defBody s__law_case) (defScope s__law_case) .none kV__law_case dc__law_case pm__law_case an__law_case cd__law_case ct__law_case), sl__law_case⟩)
    (c__law_case : PySem.W.codeIn K cd__law_case "_law_case" = true) (k__law_case : PySem.W.keepIn K (.ref f__law_case) = true)
    {f__law_ways : Addr} {oc__law_ways kV__law_ways dc__law_ways pm__law_ways cd__law_ways ct__law_ways : Value} {od__law_ways an__law_ways : Option Addr} {sl__law_ways : Array (Option Value)}
    (a__law_ways : PySem.W.nsIn K mainGlobals "_law_ways" = some (some (.ref f__law_ways)))
    (l__law_ways : K.lookup f__law_ways = some ⟨oc__law_ways, od__law_ways, .func (PySem.W.fnOf "_law_ways" "_law_ways" (defArgs s__law_ways) (defBody s__law_ways) (defScope s__law_ways) .none kV__law_ways dc__law_ways pm__law_ways an__law_ways cd__law_ways ct__law_ways), sl__law_ways⟩)
    (c__law_ways : PySem.W.codeIn K cd__law_ways "_law_ways" = true) (k__law_ways : PySem.W.keepIn K (.ref f__law_ways) = true)
    {f__law_all : Addr} {oc__law_all kV__law_all dc__law_all pm__law_all cd__law_all ct__law_all : Value} {od__law_all an__law_all : Option Addr} {sl__law_all : Array (Option Value)}
    (a__law_all : PySem.W.nsIn K mainGlobals "_law_all" = some (some (.ref f__law_all)))
    (l__law_all : K.lookup f__law_all = some ⟨oc__law_all, od__law_all, .func (PySem.W.fnOf "_law_all" "_law_all" (defArgs s__law_all) (defBody s__law_all) (defScope s__law_all) .none kV__law_all dc__law_all pm__law_all an__law_all cd__law_all ct__law_all), sl__law_all⟩)
    (c__law_all : PySem.W.codeIn K cd__law_all "_law_all" = true) (k__law_all : PySem.W.keepIn K (.ref f__law_all) = true)
    {f__law_few : Addr} {oc__law_few kV__law_few dc__law_few pm__law_few cd__law_few ct__law_few : Value} {od__law_few an__law_few : Option Addr} {sl__law_few : Array (Option Value)}
    (a__law_few : PySem.W.nsIn K mainGlobals "_law_few" = some (some (.ref f__law_few)))
    (l__law_few : K.lookup f__law_few = some ⟨oc__law_few, od__law_few, .func (PySem.W.fnOf "_law_few" "_law_few" (defArgs s__law_few) (defBody s__law_few) (defScope s__law_few) .none kV__law_few dc__law_few pm__law_few an__law_few cd__law_few ct__law_few), sl__law_few⟩)
    (c__law_few : PySem.W.codeIn K cd__law_few "_law_few" = true) (k__law_few : PySem.W.keepIn K (.ref f__law_few) = true)
    {f__law_gone : Addr} {oc__law_gone kV__law_gone dc__law_gone pm__law_gone cd__law_gone ct__law_gone : Value} {od__law_gone an__law_gone : Option Addr} {sl__law_gone : Array (Option Value)}
    (a__law_gone : PySem.W.nsIn K mainGlobals "_law_gone" = some (some (.ref f__law_gone)))
    (l__law_gone : K.lookup f__law_gone = some ⟨oc__law_gone, od__law_gone, .func (PySem.W.fnOf "_law_gone" "_law_gone" (defArgs s__law_gone) (defBody s__law_gone) (defScope s__law_gone) .none kV__law_gone dc__law_gone pm__law_gone an__law_gone cd__law_gone ct__law_gone), sl__law_gone⟩)
    (c__law_gone : PySem.W.codeIn K cd__law_gone "_law_gone" = true) (k__law_gone : PySem.W.keepIn K (.ref f__law_gone) = true)
    {f_law : Addr} {oc_law kV_law dc_law pm_law cd_law ct_law : Value} {od_law an_law : Option Addr} {sl_law : Array (Option Value)}
    (a_law : PySem.W.nsIn K mainGlobals "law" = some (some (.ref f_law)))
    (l_law : K.lookup f_law = some ⟨oc_law, od_law, .func (PySem.W.fnOf "law" "law" (defArgs s_law) (defBody s_law) (defScope s_law) .none kV_law dc_law pm_law an_law cd_law ct_law), sl_law⟩)
    (c_law : PySem.W.codeIn K cd_law "law" = true) (k_law : PySem.W.keepIn K (.ref f_law) = true)
    (ma_Counter : PySem.W.nsIn K mainGlobals "Counter" = some (some (.ref C_Counter))) (mm_Counter : PySem.W.makesIn K C_Counter = true) (mk_Counter : PySem.W.keepIn K (.ref C_Counter) = true)
    (z_len : PySem.W.nsIn K mainGlobals "len" = some none)
    (z_tuple : PySem.W.nsIn K mainGlobals "tuple" = some none)
    (z_isinstance : PySem.W.nsIn K mainGlobals "isinstance" = some none)
    (z_str : PySem.W.nsIn K mainGlobals "str" = some none)
    (z_sorted : PySem.W.nsIn K mainGlobals "sorted" = some none)
    (z_int : PySem.W.nsIn K mainGlobals "int" = some none)
    (z_range : PySem.W.nsIn K mainGlobals "range" = some none)
    (z_min : PySem.W.nsIn K mainGlobals "min" = some none)
    (z_max : PySem.W.nsIn K mainGlobals "max" = some none)
    (z_list : PySem.W.nsIn K mainGlobals "list" = some none)
    (z_bool : PySem.W.nsIn K mainGlobals "bool" = some none)
    {t_LETTERS : Tok} (e_LETTERS : PySem.W.nsIn K mainGlobals "LETTERS" = some (some (.str "abcdefghijklmnopqrstuvwxyz" t_LETTERS)))
    {t_LONGEST : Tok} (e_LONGEST : PySem.W.nsIn K mainGlobals "LONGEST" = some (some (.int 6 t_LONGEST)))
    {p_ONE : Addr} {dd_ONE : Option Addr} {n_ONE : Nat} {sl_ONE : Array (Option Value)} {t_ONE : Tok} (e_ONE : PySem.W.nsIn K mainGlobals "ONE" = some (some (.ref p_ONE))) (q_ONE : K.lookup p_ONE = some ⟨.type "tuple", dd_ONE, .seq #[.str "one" t_ONE] n_ONE, sl_ONE⟩)
    {t_MOST_DEPTH : Tok} (e_MOST_DEPTH : PySem.W.nsIn K mainGlobals "MOST_DEPTH" = some (some (.int 12 t_MOST_DEPTH)))
    {t_MOST_LEAVES : Tok} (e_MOST_LEAVES : PySem.W.nsIn K mainGlobals "MOST_LEAVES" = some (some (.int 24 t_MOST_LEAVES)))
    {t_DEEPEST : Tok} (e_DEEPEST : PySem.W.nsIn K mainGlobals "DEEPEST" = some (some (.int 12 t_DEEPEST)))
    {p_SIGNS : Addr} {n_SIGNS : Nat} {h0_SIGNS : Int} {t0_SIGNS u0_SIGNS : Tok} {h1_SIGNS : Int} {t1_SIGNS u1_SIGNS : Tok} (e_SIGNS : PySem.W.nsIn K mainGlobals "SIGNS" = some (some (.ref p_SIGNS))) (q_SIGNS : K.lookup p_SIGNS = some ⟨.type "dict", none, .dict #[⟨h0_SIGNS, .str "->" t0_SIGNS, .str "to" u0_SIGNS⟩, ⟨h1_SIGNS, .str "*" t1_SIGNS, .str "both" u1_SIGNS⟩] n_SIGNS, #[]⟩) (low_SIGNS : (p_SIGNS == sysModules) = false)
    (hh0_SIGNS : h0_SIGNS = PyData.keyHash w.params "->")
    (hh1_SIGNS : h1_SIGNS = PyData.keyHash w.params "*")
    {C_NoKind : Addr} (ka_NoKind : PySem.W.nsIn K mainGlobals "NoKind" = some (some (.ref C_NoKind))) (kb_NoKind : PySem.W.subIn K (.ref C_NoKind) (.type "BaseException") = some true) (kt_NoKind : PySem.W.typeIn K (.ref C_NoKind) = some (.type "type"))
    (kk_NoKind : PySem.W.keepIn K (.ref C_NoKind) = true) (kx_NoKind : PySem.W.excIn K C_NoKind [.type "ValueError", .type "Exception", .type "BaseException", .type "object"] "ValueError.__new__" = true) :
    ∃ fd : FuncData, (∀ (s : Shared) (v : Value), BindsTo s fd ⟨[v], []⟩ [("_law_script", v)]) ∧ ∀ base : Heap, K.In base → base.Ns mainGlobals mg → FnS l.prog w K mg base CX0 400 fa fd ["_law_script"] (liftSp K (lawSp 63)) := by
  have e := hfa.symm.trans (PySem.W.mg_of X G a_law)
  cases e
  have cl_Counter : Cls K C_Counter := ⟨cg_Counter, ch_Counter, co_Counter, cs_Counter⟩
  have N_is_mark' := fn_mk (ps := P_is_mark) X G a_is_mark l_is_mark c_is_mark k_is_mark fun _ _ _ _ _ _ us hl => match us, hl with | [_], _ => rfl
  have N_has_form' := fn_mk (ps := P_has_form) X G a_has_form l_has_form c_has_form k_has_form fun _ _ _ _ _ _ us hl => match us, hl with | [_, _], _ => rfl
  have N_is_kind' := fn_mk (ps := P_is_kind) X G a_is_kind l_is_kind c_is_kind k_is_kind fun _ _ _ _ _ _ us hl => match us, hl with | [_], _ => rfl
  have N_leaves_of' := fn_mk (ps := P_leaves_of) X G a_leaves_of l_leaves_of c_leaves_of k_leaves_of fun _ _ _ _ _ _ us hl => match us, hl with | [_], _ => rfl
  have N_ends_of' := fn_mk (ps := P_ends_of) X G a_ends_of l_ends_of c_ends_of k_ends_of fun _ _ _ _ _ _ us hl => match us, hl with | [_], _ => rfl
  have N_ways_of' := fn_mk (ps := P_ways_of) X G a_ways_of l_ways_of c_ways_of k_ways_of fun _ _ _ _ _ _ us hl => match us, hl with | [_], _ => rfl
  have N_shown_kind' := fn_mk (ps := P_shown_kind) X G a_shown_kind l_shown_kind c_shown_kind k_shown_kind fun _ _ _ _ _ _ us hl => match us, hl with | [_], _ => rfl
  have N_word_at' := fn_mk (ps := P_word_at) X G a_word_at l_word_at c_word_at k_word_at fun _ _ _ _ _ _ us hl => match us, hl with | [_, _], _ => rfl
  have N_kind_from' := fn_mk (ps := P_kind_from) X G a_kind_from l_kind_from c_kind_from k_kind_from fun _ _ _ _ _ _ us hl => match us, hl with | [_, _, _], _ => rfl
  have N_read_kind' := fn_mk (ps := P_read_kind) X G a_read_kind l_read_kind c_read_kind k_read_kind fun _ _ _ _ _ _ us hl => match us, hl with | [_], _ => rfl
  have N_move_ends' := fn_mk (ps := P_move_ends) X G a_move_ends l_move_ends c_move_ends k_move_ends fun _ _ _ _ _ _ us hl => match us, hl with | [_], _ => rfl
  have N_Counter___init__' := mt_mk (ps := P_Counter___init__) a_Counter___init__ i_Counter___init__ l_Counter___init__ c_Counter___init__ k_Counter___init__ fun _ _ _ _ _ _ us hl => match us, hl with | [_], _ => rfl
  have N_Counter_ways_by' := mt_mk (ps := P_Counter_ways_by) a_Counter_ways_by i_Counter_ways_by l_Counter_ways_by c_Counter_ways_by k_Counter_ways_by fun _ _ _ _ _ _ us hl => match us, hl with | [_, _], _ => rfl
  have N_Counter_put_in' := mt_mk (ps := P_Counter_put_in) a_Counter_put_in i_Counter_put_in l_Counter_put_in c_Counter_put_in k_Counter_put_in fun _ _ _ _ _ _ us hl => match us, hl with | [_, _, _], _ => rfl
  have N_Counter_tasks' := mt_mk (ps := P_Counter_tasks) a_Counter_tasks i_Counter_tasks l_Counter_tasks c_Counter_tasks k_Counter_tasks fun _ _ _ _ _ _ us hl => match us, hl with | [_, _, _], _ => rfl
  have N_Counter_many' := mt_mk (ps := P_Counter_many) a_Counter_many i_Counter_many l_Counter_many c_Counter_many k_Counter_many fun _ _ _ _ _ _ us hl => match us, hl with | [_, _, _], _ => rfl
  have N_Counter_many_of' := mt_mk (ps := P_Counter_many_of) a_Counter_many_of i_Counter_many_of l_Counter_many_of c_Counter_many_of k_Counter_many_of fun _ _ _ _ _ _ us hl => match us, hl with | [_, _, _], _ => rfl
  have N_Counter_begun' := mt_mk (ps := P_Counter_begun) a_Counter_begun i_Counter_begun l_Counter_begun c_Counter_begun k_Counter_begun fun _ _ _ _ _ _ us hl => match us, hl with | [_, _, _], _ => rfl
  have N_counts_of' := fn_mk (ps := P_counts_of) X G a_counts_of l_counts_of c_counts_of k_counts_of fun _ _ _ _ _ _ us hl => match us, hl with | [_, _, _], _ => rfl
  have N__law_pool' := fn_mk (ps := P__law_pool) X G a__law_pool l__law_pool c__law_pool k__law_pool fun _ _ _ _ _ _ us hl => match us, hl with | [_, _], _ => rfl
  have N__law_take' := fn_mk (ps := P__law_take) X G a__law_take l__law_take c__law_take k__law_take fun _ _ _ _ _ _ us hl => match us, hl with | [_, _], _ => rfl
  have N__law_kind' := fn_mk (ps := P__law_kind) X G a__law_kind l__law_kind c__law_kind k__law_kind fun _ _ _ _ _ _ us hl => match us, hl with | [_, _, _], _ => rfl
  have N__law_case' := fn_mk (ps := P__law_case) X G a__law_case l__law_case c__law_case k__law_case fun _ _ _ _ _ _ us hl => match us, hl with | [_, _], _ => rfl
  have N__law_ways' := fn_mk (ps := P__law_ways) X G a__law_ways l__law_ways c__law_ways k__law_ways fun _ _ _ _ _ _ us hl => match us, hl with | [_], _ => rfl
  have N__law_all' := fn_mk (ps := P__law_all) X G a__law_all l__law_all c__law_all k__law_all fun _ _ _ _ _ _ us hl => match us, hl with | [_, _, _], _ => rfl
  have N__law_few' := fn_mk (ps := P__law_few) X G a__law_few l__law_few c__law_few k__law_few fun _ _ _ _ _ _ us hl => match us, hl with | [_, _], _ => rfl
  have N__law_gone' := fn_mk (ps := P__law_gone) X G a__law_gone l__law_gone c__law_gone k__law_gone fun _ _ _ _ _ _ us hl => match us, hl with | [_, _, _, _], _ => rfl
  have N_law' := fn_mk (ps := P_law) X G a_law l_law c_law k_law fun _ _ _ _ _ _ us hl => match us, hl with | [_], _ => rfl
  have mn_Counter : MkN K mg "Counter" C_Counter f_Counter___init__ := ⟨⟨mm_Counter, a_Counter___init__, i_Counter___init__, mk_Counter⟩, PySem.W.mg_of X G ma_Counter⟩
  have m_len : mg "len" = none := PySem.W.mg_none_of X G z_len
  have m_tuple : mg "tuple" = none := PySem.W.mg_none_of X G z_tuple
  have m_isinstance : mg "isinstance" = none := PySem.W.mg_none_of X G z_isinstance
  have m_str : mg "str" = none := PySem.W.mg_none_of X G z_str
  have m_sorted : mg "sorted" = none := PySem.W.mg_none_of X G z_sorted
  have m_int : mg "int" = none := PySem.W.mg_none_of X G z_int
  have m_range : mg "range" = none := PySem.W.mg_none_of X G z_range
  have m_min : mg "min" = none := PySem.W.mg_none_of X G z_min
  have m_max : mg "max" = none := PySem.W.mg_none_of X G z_max
  have m_list : mg "list" = none := PySem.W.mg_none_of X G z_list
  have m_bool : mg "bool" = none := PySem.W.mg_none_of X G z_bool
  have c_LETTERS : Cst K mg "LETTERS" (.str "abcdefghijklmnopqrstuvwxyz") := cst_str (PySem.W.mg_of X G e_LETTERS)
  have c_LONGEST : Cst K mg "LONGEST" (.int 6) := cst_int (PySem.W.mg_of X G e_LONGEST)
  have c_ONE : Cst K mg "ONE" (.tup [.str "one"]) := cst_strs (ys := ["one"]) (PySem.W.mg_of X G e_ONE) q_ONE rfl rfl (.cons ⟨_, rfl⟩ .nil) (by decide)
  have c_MOST_DEPTH : Cst K mg "MOST_DEPTH" (.int 12) := cst_int (PySem.W.mg_of X G e_MOST_DEPTH)
  have c_MOST_LEAVES : Cst K mg "MOST_LEAVES" (.int 24) := cst_int (PySem.W.mg_of X G e_MOST_LEAVES)
  have c_DEEPEST : Cst K mg "DEEPEST" (.int 12) := cst_int (PySem.W.mg_of X G e_DEEPEST)
  have t_SIGNS : CDic K w mg "SIGNS" tab_SIGNS := ⟨p_SIGNS, _, _, PySem.W.mg_of X G e_SIGNS, ⟨q_SIGNS, ⟨⟨_, _, rfl, hh0_SIGNS⟩, ⟨⟨_, _, rfl, hh1_SIGNS⟩, trivial⟩⟩, low_SIGNS⟩, (.cons ⟨⟨_, rfl⟩, _, rfl⟩ (.cons ⟨⟨_, rfl⟩, _, rfl⟩ .nil))⟩
  have x_NoKind : ExN K mg "NoKind" C_NoKind := ⟨PySem.W.mg_of X G ka_NoKind, kx_NoKind, kk_NoKind, kb_NoKind, kt_NoKind⟩
  let T : TxW w K mg := { C_Counter := C_Counter, cl_Counter := cl_Counter, na_Counter_ways := na_Counter_ways, na_Counter_sums := na_Counter_sums, mk_Counter := mn_Counter, a_is_mark := _, fd_is_mark := _, n_is_mark := N_is_mark', a_has_form := _, fd_has_form := _, n_has_form := N_has_form', a_is_kind := _, fd_is_kind := _, n_is_kind := N_is_kind', a_leaves_of := _, fd_leaves_of := _, n_leaves_of := N_leaves_of', a_ends_of := _, fd_ends_of := _, n_ends_of := N_ends_of', a_ways_of := _, fd_ways_of := _, n_ways_of := N_ways_of', a_shown_kind := _, fd_shown_kind := _, n_shown_kind := N_shown_kind', a_word_at := _, fd_word_at := _, n_word_at := N_word_at', a_kind_from := _, fd_kind_from := _, n_kind_from := N_kind_from', a_read_kind := _, fd_read_kind := _, n_read_kind := N_read_kind', a_move_ends := _, fd_move_ends := _, n_move_ends := N_move_ends', a_Counter___init__ := _, fd_Counter___init__ := _, n_Counter___init__ := N_Counter___init__', a_Counter_ways_by := _, fd_Counter_ways_by := _, n_Counter_ways_by := N_Counter_ways_by', a_Counter_put_in := _, fd_Counter_put_in := _, n_Counter_put_in := N_Counter_put_in', a_Counter_tasks := _, fd_Counter_tasks := _, n_Counter_tasks := N_Counter_tasks', a_Counter_many := _, fd_Counter_many := _, n_Counter_many := N_Counter_many', a_Counter_many_of := _, fd_Counter_many_of := _, n_Counter_many_of := N_Counter_many_of', a_Counter_begun := _, fd_Counter_begun := _, n_Counter_begun := N_Counter_begun', a_counts_of := _, fd_counts_of := _, n_counts_of := N_counts_of', a__law_pool := _, fd__law_pool := _, n__law_pool := N__law_pool', a__law_take := _, fd__law_take := _, n__law_take := N__law_take', a__law_kind := _, fd__law_kind := _, n__law_kind := N__law_kind', a__law_case := _, fd__law_case := _, n__law_case := N__law_case', a__law_ways := _, fd__law_ways := _, n__law_ways := N__law_ways', a__law_all := _, fd__law_all := _, n__law_all := N__law_all', a__law_few := _, fd__law_few := _, n__law_few := N__law_few', a__law_gone := _, fd__law_gone := _, n__law_gone := N__law_gone', a_law := _, fd_law := _, n_law := N_law', m_len := m_len, m_tuple := m_tuple, m_isinstance := m_isinstance, m_str := m_str, m_sorted := m_sorted, m_int := m_int, m_range := m_range, m_min := m_min, m_max := m_max, m_list := m_list, m_bool := m_bool, c_LETTERS := c_LETTERS, c_LONGEST := c_LONGEST, c_ONE := c_ONE, c_MOST_DEPTH := c_MOST_DEPTH, c_MOST_LEAVES := c_MOST_LEAVES, c_DEEPEST := c_DEEPEST, t_SIGNS := t_SIGNS, C_NoKind := C_NoKind, x_NoKind := x_NoKind }
  exact ⟨_, fun s v => .of_eq rfl, fun base _ _ => ok_law T⟩
end Kf
open PySem PySem.W PyProof.Rows
set_option maxHeartbeats 0 in
theorem PySem.Challenge.cw_kindfill_k52_counts_by_hand_holds : PySem.Challenge.rw_kindfill_k52_counts_by_hand.Holds := by
  w_on; o_law; k_head; (case hw => w_witness2)
  k_fill
  refine Kf.walk_ofS (l := PySem.Challenge.rw_kindfill_k52_counts_by_hand) (n := 63) (k := 400) (x := "_law_script") (CX := fun _ => L2.CX0) (sp := fun w => Kf.liftSp _ (Kf.lawSp 63)) rfl (by decide) rfl ⟨rfl, by decide, by decide, rfl⟩ (fun w h Y => PySem.W.kIn_of Y) ?F (fun _ _ a ns hl _ hS => Kf.law_start hl hS) (fun _ _ _ _ _ h => h)
  case F =>
    intro w mg fa h KX G hmg
    refine' Kf.all_mk KX G hmg ?cg_Counter ?ch_Counter ?co_Counter ?cs_Counter ?na_Counter_ways ?na_Counter_sums ?a_is_mark ?l_is_mark ?c_is_mark ?k_is_mark ?a_has_form ?l_has_form ?c_has_form ?k_has_form ?a_is_kind ?l_is_kind ?c_is_kind ?k_is_kind ?a_leaves_of ?l_leaves_of ?c_leaves_of ?k_leaves_of ?a_ends_of ?l_ends_of ?c_ends_of ?k_ends_of ?a_ways_of ?l_ways_of ?c_ways_of ?k_ways_of ?a_shown_kind ?l_shown_kind ?c_shown_kind ?k_shown_kind ?a_word_at ?l_word_at ?c_word_at ?k_word_at ?a_kind_from ?l_kind_from ?c_kind_from ?k_kind_from ?a_read_kind ?l_read_kind ?c_read_kind ?k_read_kind ?a_move_ends ?l_move_ends ?c_move_ends ?k_move_ends ?a_Counter___init__ ?i_Counter___init__ ?l_Counter___init__ ?c_Counter___init__ ?k_Counter___init__ ?a_Counter_ways_by ?i_Counter_ways_by ?l_Counter_ways_by ?c_Counter_ways_by ?k_Counter_ways_by ?a_Counter_put_in ?i_Counter_put_in ?l_Counter_put_in ?c_Counter_put_in ?k_Counter_put_in ?a_Counter_tasks ?i_Counter_tasks ?l_Counter_tasks ?c_Counter_tasks ?k_Counter_tasks ?a_Counter_many ?i_Counter_many ?l_Counter_many ?c_Counter_many ?k_Counter_many ?a_Counter_many_of ?i_Counter_many_of ?l_Counter_many_of ?c_Counter_many_of ?k_Counter_many_of ?a_Counter_begun ?i_Counter_begun ?l_Counter_begun ?c_Counter_begun ?k_Counter_begun ?a_counts_of ?l_counts_of ?c_counts_of ?k_counts_of ?a__law_pool ?l__law_pool ?c__law_pool ?k__law_pool ?a__law_take ?l__law_take ?c__law_take ?k__law_take ?a__law_kind ?l__law_kind ?c__law_kind ?k__law_kind ?a__law_case ?l__law_case ?c__law_case ?k__law_case ?a__law_ways ?l__law_ways ?c__law_ways ?k__law_ways ?a__law_all ?l__law_all ?c__law_all ?k__law_all ?a__law_few ?l__law_few ?c__law_few ?k__law_few ?a__law_gone ?l__law_gone ?c__law_gone ?k__law_gone ?a_law ?l_law ?c_law ?k_law ?ma_Counter ?mm_Counter ?mk_Counter ?z_len ?z_tuple ?z_isinstance ?z_str ?z_sorted ?z_int ?z_range ?z_min ?z_max ?z_list ?z_bool ?e_LETTERS ?e_LONGEST ?e_ONE ?q_ONE ?e_MOST_DEPTH ?e_MOST_LEAVES ?e_DEEPEST ?e_SIGNS ?q_SIGNS ?low_SIGNS ?hh0_SIGNS ?hh1_SIGNS ?ka_NoKind ?kb_NoKind ?kt_NoKind ?kk_NoKind ?kx_NoKind
    (case ma_Counter => k_is)
    (case cg_Counter => k_is)
    (case ch_Counter => k_is)
    (case co_Counter => k_is)
    (case cs_Counter => k_is)
    (case na_Counter_ways => k_is)
    (case na_Counter_sums => k_is)
    (case a_is_mark => k_is)
    (case l_is_mark => k_is)
    (case c_is_mark => k_is)
    (case k_is_mark => k_is)
    (case a_has_form => k_is)
    (case l_has_form => k_is)
    (case c_has_form => k_is)
    (case k_has_form => k_is)
    (case a_is_kind => k_is)
    (case l_is_kind => k_is)
    (case c_is_kind => k_is)
    (case k_is_kind => k_is)
    (case a_leaves_of => k_is)
    (case l_leaves_of => k_is)
    (case c_leaves_of => k_is)
    (case k_leaves_of => k_is)
    (case a_ends_of => k_is)
    (case l_ends_of => k_is)
    (case c_ends_of => k_is)
    (case k_ends_of => k_is)
    (case a_ways_of => k_is)
    (case l_ways_of => k_is)
    (case c_ways_of => k_is)
    (case k_ways_of => k_is)
    (case a_shown_kind => k_is)
    (case l_shown_kind => k_is)
    (case c_shown_kind => k_is)
    (case k_shown_kind => k_is)
    (case a_word_at => k_is)
    (case l_word_at => k_is)
    (case c_word_at => k_is)
    (case k_word_at => k_is)
    (case a_kind_from => k_is)
    (case l_kind_from => k_is)
    (case c_kind_from => k_is)
    (case k_kind_from => k_is)
    (case a_read_kind => k_is)
    (case l_read_kind => k_is)
    (case c_read_kind => k_is)
    (case k_read_kind => k_is)
    (case a_move_ends => k_is)
    (case l_move_ends => k_is)
    (case c_move_ends => k_is)
    (case k_move_ends => k_is)
    (case a_Counter___init__ => k_is)
    (case i_Counter___init__ => k_is)
    (case l_Counter___init__ => k_is)
    (case c_Counter___init__ => k_is)
    (case k_Counter___init__ => k_is)
    (case a_Counter_ways_by => k_is)
    (case i_Counter_ways_by => k_is)
    (case l_Counter_ways_by => k_is)
    (case c_Counter_ways_by => k_is)
    (case k_Counter_ways_by => k_is)
    (case a_Counter_put_in => k_is)
    (case i_Counter_put_in => k_is)
    (case l_Counter_put_in => k_is)
    (case c_Counter_put_in => k_is)
    (case k_Counter_put_in => k_is)
    (case a_Counter_tasks => k_is)
    (case i_Counter_tasks => k_is)
    (case l_Counter_tasks => k_is)
    (case c_Counter_tasks => k_is)
    (case k_Counter_tasks => k_is)
    (case a_Counter_many => k_is)
    (case i_Counter_many => k_is)
    (case l_Counter_many => k_is)
    (case c_Counter_many => k_is)
    (case k_Counter_many => k_is)
    (case a_Counter_many_of => k_is)
    (case i_Counter_many_of => k_is)
    (case l_Counter_many_of => k_is)
    (case c_Counter_many_of => k_is)
    (case k_Counter_many_of => k_is)
    (case a_Counter_begun => k_is)
    (case i_Counter_begun => k_is)
    (case l_Counter_begun => k_is)
    (case c_Counter_begun => k_is)
    (case k_Counter_begun => k_is)
    (case a_counts_of => k_is)
    (case l_counts_of => k_is)
    (case c_counts_of => k_is)
    (case k_counts_of => k_is)
    (case a__law_pool => k_is)
    (case l__law_pool => k_is)
    (case c__law_pool => k_is)
    (case k__law_pool => k_is)
    (case a__law_take => k_is)
    (case l__law_take => k_is)
    (case c__law_take => k_is)
    (case k__law_take => k_is)
    (case a__law_kind => k_is)
    (case l__law_kind => k_is)
    (case c__law_kind => k_is)
    (case k__law_kind => k_is)
    (case a__law_case => k_is)
    (case l__law_case => k_is)
    (case c__law_case => k_is)
    (case k__law_case => k_is)
    (case a__law_ways => k_is)
    (case l__law_ways => k_is)
    (case c__law_ways => k_is)
    (case k__law_ways => k_is)
    (case a__law_all => k_is)
    (case l__law_all => k_is)
    (case c__law_all => k_is)
    (case k__law_all => k_is)
    (case a__law_few => k_is)
    (case l__law_few => k_is)
    (case c__law_few => k_is)
    (case k__law_few => k_is)
    (case a__law_gone => k_is)
    (case l__law_gone => k_is)
    (case c__law_gone => k_is)
    (case k__law_gone => k_is)
    (case a_law => k_is)
    (case l_law => k_is)
    (case c_law => k_is)
    (case k_law => k_is)
    (case mm_Counter => k_is)
    (case mk_Counter => k_is)
    (case z_len => k_is)
    (case z_tuple => k_is)
    (case z_isinstance => k_is)
    (case z_str => k_is)
    (case z_sorted => k_is)
    (case z_int => k_is)
    (case z_range => k_is)
    (case z_min => k_is)
    (case z_max => k_is)
    (case z_list => k_is)
    (case z_bool => k_is)
    (case e_LETTERS => k_is)
    (case e_LONGEST => k_is)
    (case e_ONE => k_is)
    (case q_ONE => k_is)
    (case e_MOST_DEPTH => k_is)
    (case e_MOST_LEAVES => k_is)
    (case e_DEEPEST => k_is)
    (case e_SIGNS => k_is)
    (case q_SIGNS => k_is)
    (case low_SIGNS => decide)
    (case hh0_SIGNS => rfl)
    (case hh1_SIGNS => rfl)
    (case ka_NoKind => k_is)
    (case kb_NoKind => k_is)
    (case kt_NoKind => k_is)
    (case kk_NoKind => k_is)
    (case kx_NoKind => k_exc)
