import PyProof.Rows.All
import Wide.All
import OpenK.AllK
import Wide.FinOn
import HandS.ForMost
import HandS.ForExc
import HandS.IsInst
import HandS.Deep
import HandS.Wide
import HandS.RevRange
import HandS.More
import HandS.TupLe
import HandS.ExcIs
import HandS.RaiseMore
import KE.KRevSl
import HandS.SortKw
import KE.KMinKey
import HandS.CallSlots
import HandS.Defaults
import HandS.Flow
import HandS.NoneIn
import KE.GoesMore
import KE.KExcIs
import HandS.Finally
import HandS.DictComp
import KE.DataMinMax
import KE.KEqDict
import HandS.ExcInit
import HandS.ExcValue
import KE.SortData
import HandS.Replace
import HandS.ReplaceLit
import HandS.SetFor
import HandS.SetTxt0
import HandS.Text
import PyProof.Rows.StrSplitCount
import PyProof.Rows.ReprOcc
import PySem.Challenge.RW_kindfill_k05_kind_texts
set_option Elab.async false
set_option maxRecDepth 100000
set_option linter.all false
/-! Kf: a layer of readings over plain data. -/
namespace Kf
open PySem PySem.Spec L2
open PyProof.Rows hiding St

/-- plain data; scr is the script, ref an owned cell -/
inductive D where
  | non | bl (b : Bool) | int (i : Int) | str (x : Str) | tup (ds : List D) | lst (ds : List D) | ref (a : Addr) | ty (n : String) | scr (ns : List Int) | edic
  deriving Inhabited

/-- what an owned address holds -/
inductive Cell where
  | lst (ds : List D)
  | pool
  | dic (kvs : List (Key × D))
  | dicL (kvs : List (Key × D)) (o : HO)
  | exc (cls : Value) (fs : Option (List (Str × D)))
  | ins (C : Addr) (fs : List (Str × D))

abbrev Ow := Addr → Option Cell
def updO (O : Ow) (a : Addr) (c : Cell) : Ow := fun b => if b = a then some c else O b
theorem updO_same {O : Ow} {a : Addr} {c : Cell} : updO O a c a = some c := if_pos rfl
theorem updO_ne {O : Ow} {a b : Addr} {c : Cell} (h : b ≠ a) : updO O a c b = O b := if_neg h
theorem updO_updO {O : Ow} {a : Addr} {c d : Cell} : updO (updO O a c) a d = updO O a d := by
  funext b; unfold updO; split <;> rfl
theorem updO_self {O : Ow} {a : Addr} {c : Cell} (h : O a = some c) : updO O a c = O := by
  funext b; unfold updO; split
  · rename_i e; rw [e, h]
  · rfl
/-- without a cell -/
def delO (O : Ow) (a : Addr) : Ow := fun b => if b = a then none else O b
theorem delO_updO {O : Ow} {a : Addr} {c : Cell} (h : O a = none) : delO (updO O a c) a = O := by
  funext b; unfold delO updO; split
  · rename_i e; rw [e, h]
  · rfl

abbrev DEnv := List (Option D)
abbrev VD := D → Ow → Prop
abbrev FE := DEnv → Ow → VD → Prop
abbrev FT := DEnv → Ow → (Bool → Ow → Prop) → Prop
abbrev FA := DEnv → Ow → (List D → Ow → Prop) → Prop

section
variable (K : PySem.W.Frag) (F : Hp)
mutual
def Rep : D → V → Prop
  | .non, v => v = .non
  | .bl b, v => v = .bl b
  | .int i, v => v = .int i
  | .str x, v => v = .str x
  | .tup ds, v => ∃ a xs, v = .ref a ∧ SqT K F a xs ∧ RepAll ds xs
  | .lst ds, v => ∃ a xs, v = .ref a ∧ F a = some (.lst xs) ∧ RepAll ds xs
  | .ref a, v => v = .ref a
  | .ty n, v => v = .ty n
  | .scr ns, v => ∃ a, v = .ref a ∧ SqL K F a (ns.map V.int)
  | .edic, v => ∃ a, v = .ref a ∧ F a = some (.dK [])
def RepAll : List D → List V → Prop
  | [], vs => vs = []
  | d :: ds, vs => ∃ v r, vs = v :: r ∧ Rep d v ∧ RepAll ds r
end
end

theorem Same.seqT {K : PySem.W.Frag} {H H' : Hp} {a : Addr} {xs : List V} (e : Same H H') (h : SqT K H a xs) : SqT K H' a xs := by
  rcases h with (h | ⟨o, h⟩) | h
  · exact .inl (.inl (e _ _ h))
  · exact .inl (.inr ⟨o, e _ _ h⟩)
  · exact .inr h

section
variable {K : PySem.W.Frag} {F F' : Hp}
mutual
theorem Rep.mono (s : Same F F') : ∀ (d : D) (v : V), Rep K F d v → Rep K F' d v
  | .non, _, h => by simpa only [Rep] using h
  | .bl _, _, h => by simpa only [Rep] using h
  | .int _, _, h => by simpa only [Rep] using h
  | .str _, _, h => by simpa only [Rep] using h
  | .ref _, _, h => by simpa only [Rep] using h
  | .ty _, _, h => by simpa only [Rep] using h
  | .tup ds, _, h => by
    simp only [Rep] at h ⊢
    obtain ⟨a, xs, e, h1, h2⟩ := h
    exact ⟨a, xs, e, Same.seqT s h1, RepAll.mono s ds xs h2⟩
  | .lst ds, _, h => by
    simp only [Rep] at h ⊢
    obtain ⟨a, xs, e, h1, h2⟩ := h
    exact ⟨a, xs, e, s _ _ h1, RepAll.mono s ds xs h2⟩
  | .scr ns, _, h => by
    simp only [Rep] at h ⊢
    obtain ⟨a, e, h1⟩ := h
    exact ⟨a, e, s.seq h1⟩
  | .edic, _, h => by
    simp only [Rep] at h ⊢
    obtain ⟨a, e, h1⟩ := h
    exact ⟨a, e, s _ _ h1⟩
theorem RepAll.mono (s : Same F F') : ∀ (ds : List D) (vs : List V), RepAll K F ds vs → RepAll K F' ds vs
  | [], _, h => by simpa only [RepAll] using h
  | d :: ds, _, h => by
    simp only [RepAll] at h ⊢
    obtain ⟨v, r, e, h1, h2⟩ := h
    exact ⟨v, r, e, Rep.mono s d v h1, RepAll.mono s ds r h2⟩
end
theorem RepAll.length : ∀ {ds : List D} {vs : List V}, RepAll K F ds vs → ds.length = vs.length
  | [], _, h => by simp only [RepAll] at h; rw [h]; rfl
  | d :: ds, _, h => by
    simp only [RepAll] at h
    obtain ⟨v, r, rfl, _, h2⟩ := h
    rw [List.length_cons, List.length_cons, RepAll.length h2]
theorem RepAll.get : ∀ {ds : List D} {vs : List V} {i : Nat} {d : D}, RepAll K F ds vs → ds[i]? = some d → ∃ v, vs[i]? = some v ∧ Rep K F d v
  | [], _, _, _, h, e => by simp at e
  | d :: ds, _, i, _, h, e => by
    simp only [RepAll] at h
    obtain ⟨v, r, rfl, h1, h2⟩ := h
    cases i with
    | zero => simp at e; subst e; exact ⟨v, rfl, h1⟩
    | succ i => simp at e ⊢; exact RepAll.get h2 e
theorem RepAll.append : ∀ {ds es : List D} {vs ws : List V}, RepAll K F ds vs → RepAll K F es ws → RepAll K F (ds ++ es) (vs ++ ws)
  | [], _, _, _, h, q => by simp only [RepAll] at h; subst h; exact q
  | d :: ds, es, _, ws, h, q => by
    simp only [RepAll] at h
    obtain ⟨v, r, rfl, h1, h2⟩ := h
    rw [List.cons_append, List.cons_append]
    simp only [RepAll]
    exact ⟨v, r ++ ws, rfl, h1, RepAll.append h2 q⟩
theorem RepAll.nil : RepAll K F [] [] := by simp only [RepAll]
theorem RepAll.cons {d : D} {ds : List D} {v : V} {vs : List V} (h : Rep K F d v) (q : RepAll K F ds vs) : RepAll K F (d :: ds) (v :: vs) := by
  simp only [RepAll]; exact ⟨v, vs, rfl, h, q⟩
theorem RepAll.one {d : D} {v : V} (h : Rep K F d v) : RepAll K F [d] [v] := .cons h .nil
theorem RepAll.set {x : D} {y : V} (hx : Rep K F x y) : ∀ {ds : List D} {vs : List V} (i : Nat), RepAll K F ds vs → RepAll K F (ds.set i x) (vs.set i y)
  | [], _, _, h => by simp only [RepAll] at h; subst h; exact .nil
  | d :: ds, _, i, h => by
    simp only [RepAll] at h
    obtain ⟨v, r, rfl, h1, h2⟩ := h
    cases i with
    | zero => exact .cons hx h2
    | succ i => exact .cons h1 (RepAll.set hx i h2)
theorem RepAll.drop : ∀ {ds : List D} {vs : List V} (n : Nat), RepAll K F ds vs → RepAll K F (ds.drop n) (vs.drop n)
  | _, _, 0, h => h
  | [], _, n + 1, h => by simp only [RepAll] at h; subst h; exact .nil
  | d :: ds, _, n + 1, h => by
    simp only [RepAll] at h
    obtain ⟨v, r, rfl, h1, h2⟩ := h
    exact RepAll.drop n h2
theorem RepAll.take : ∀ {ds : List D} {vs : List V} (n : Nat), RepAll K F ds vs → RepAll K F (ds.take n) (vs.take n)
  | _, _, 0, h => .nil
  | [], _, n + 1, h => by simp only [RepAll] at h; subst h; exact .nil
  | d :: ds, _, n + 1, h => by
    simp only [RepAll] at h
    obtain ⟨v, r, rfl, h1, h2⟩ := h
    exact .cons h1 (RepAll.take n h2)
theorem RepAll.eraseIdx : ∀ {ds : List D} {vs : List V} (n : Nat), RepAll K F ds vs → RepAll K F (ds.eraseIdx n) (vs.eraseIdx n)
  | [], _, n, h => by simp only [RepAll] at h; subst h; exact .nil
  | d :: ds, _, n, h => by
    simp only [RepAll] at h
    obtain ⟨v, r, rfl, h1, h2⟩ := h
    cases n with
    | zero => exact h2
    | succ n => exact .cons h1 (RepAll.eraseIdx n h2)
theorem RepAll.reverse {ds : List D} {vs : List V} (h : RepAll K F ds vs) : RepAll K F ds.reverse vs.reverse := by
  induction ds generalizing vs with
  | nil => simp only [RepAll] at h; subst h; exact .nil
  | cons d ds ih =>
    simp only [RepAll] at h
    obtain ⟨v, r, rfl, h1, h2⟩ := h
    rw [List.reverse_cons, List.reverse_cons]
    exact .append (ih h2) (.one h1)
theorem RepAll.ints {vs : List V} : ∀ {ns : List Int}, RepAll K F (ns.map D.int) vs → vs = ns.map V.int := by
  intro ns h
  induction ns generalizing vs with
  | nil => rw [List.map_nil] at h; simpa only [RepAll, List.map_nil] using h
  | cons n ns ih =>
    rw [List.map_cons] at h
    simp only [RepAll, Rep] at h
    obtain ⟨v, r, rfl, rfl, h2⟩ := h
    rw [ih h2]; rfl
theorem RepAll.strs {vs : List V} : ∀ {ns : List Str}, RepAll K F (ns.map D.str) vs → vs = ns.map V.str := by
  intro ns h
  induction ns generalizing vs with
  | nil => rw [List.map_nil] at h; simpa only [RepAll, List.map_nil] using h
  | cons n ns ih =>
    rw [List.map_cons] at h
    simp only [RepAll, Rep] at h
    obtain ⟨v, r, rfl, rfl, h2⟩ := h
    rw [ih h2]; rfl
theorem RepAll.bls {vs : List V} : ∀ {ns : List Bool}, RepAll K F (ns.map D.bl) vs → vs = ns.map V.bl := by
  intro ns h
  induction ns generalizing vs with
  | nil => rw [List.map_nil] at h; simpa only [RepAll, List.map_nil] using h
  | cons n ns ih =>
    rw [List.map_cons] at h
    simp only [RepAll, Rep] at h
    obtain ⟨v, r, rfl, rfl, h2⟩ := h
    rw [ih h2]; rfl
theorem RepAll.of_ints : ∀ {ns : List Int}, RepAll K F (ns.map D.int) (ns.map V.int)
  | [] => .nil
  | n :: ns => .cons (by simp only [Rep]) RepAll.of_ints
theorem RepAll.of_strs : ∀ {ns : List Str}, RepAll K F (ns.map D.str) (ns.map V.str)
  | [] => .nil
  | n :: ns => .cons (by simp only [Rep]) RepAll.of_strs
end

/-! ### the ghost state -/
/-- the entries of a dict -/
def KvOk (K : PySem.W.Frag) (F : Hp) : List (Key × D) → List (Key × V) → Prop := Paired fun p q => p.1 = q.1 ∧ Rep K F p.2 q.2
theorem KvOk.mono {K : PySem.W.Frag} {F F' : Hp} (s : Same F F') {kvs : List (Key × D)} {vs : List (Key × V)} (h : KvOk K F kvs vs) : KvOk K F' kvs vs := Paired.mapP h fun _ _ z => ⟨z.1, z.2.mono s⟩
/-- the fields of an instance -/
def FsOk (K : PySem.W.Frag) (F : Hp) : List (Str × D) → List (Str × V) → Prop := Paired fun p q => p.1 = q.1 ∧ Rep K F p.2 q.2
theorem FsOk.mono {K : PySem.W.Frag} {F F' : Hp} (s : Same F F') {fs : List (Str × D)} {fv : List (Str × V)} (h : FsOk K F fs fv) : FsOk K F' fs fv := Paired.mapP h fun _ _ z => ⟨z.1, z.2.mono s⟩
/-- an exception's object, held as a value -/
def IsX (a : Addr) (cls : Value) (d : Option Addr) (o : HO) : Prop := ∃ φ, o = .ext φ ∧ ∀ h, φ h → ∃ oe vs, h.get? a = some oe ∧ Zc cls d oe ∧ oe.data = .fields vs
def XdR (K : PySem.W.Frag) (F : Hp) : Option (List (Str × D)) → Option Addr → Prop
  | none, dd => dd = none
  | some fs, dd => ∃ dx fv, dd = some dx ∧ F dx = some (.xd fv) ∧ FsOk K F fs fv
theorem XdR.mono {K : PySem.W.Frag} {F F' : Hp} (s : Same F F') {fs : Option (List (Str × D))} {dd : Option Addr} (h : XdR K F fs dd) : XdR K F' fs dd := by
  cases fs with
  | none => exact h
  | some fs => obtain ⟨dx, fv, e, h1, h2⟩ := h; exact ⟨dx, fv, e, s _ _ h1, h2.mono s⟩
def CellOk (K : PySem.W.Frag) (F H : Hp) (a : Addr) : Cell → Prop
  | .lst ds => ∃ vs, H a = some (.lst vs) ∧ RepAll K F ds vs
  | .pool => ∃ x y : Int, H a = some (.lst [.int x, .int y]) ∧ 0 ≤ x ∧ 0 ≤ y ∧ y < 2147483647
  | .dic kvs => ∃ vs : List (Key × V), H a = some (.dK vs) ∧ KvOk K F kvs vs
  | .dicL kvs o => H a = some o ∧ ∃ (od : Obj) (vs : List (Key × V)), o = .frz od (.dK vs) ∧ KvOk K F kvs vs
  | .exc cls fs => ∃ o d, H a = some o ∧ IsX a cls d o ∧ XdR K F fs d
  | .ins C fs => ∃ dx vs, H a = some (.ins C dx vs) ∧ FsOk K F fs vs
/-- what is known of F and P all the while: it bears more of both -/
structure MX where
  rel : Hp → Hp → Prop
  mono : ∀ {F F' P P' : Hp}, rel F P → Same F F' → Same P P' → rel F' P'
def MT : MX := ⟨fun _ _ => True, fun _ _ _ => trivial⟩
variable {M : MX}
/-- F: what never changes; O: what is owned; P: what stands aside -/
structure Gd (M : MX) (K : PySem.W.Frag) (F : Hp) (O : Ow) (P : Hp) (H : Hp) : Prop where
  fz : Same F H
  ow : ∀ a c, O a = some c → F a = none ∧ P a = none ∧ CellOk K F H a c
  as : ∀ a o, P a = some o → F a = none ∧ H a = some o
  rl : M.rel F P

theorem CellOk.some {K : PySem.W.Frag} {F H : Hp} {a : Addr} {c : Cell} (h : CellOk K F H a c) : ∃ o, H a = some o := by
  cases c with
  | lst ds => obtain ⟨vs, h, _⟩ := h; exact ⟨_, h⟩
  | pool => obtain ⟨x, y, h, _⟩ := h; exact ⟨_, h⟩
  | dic kvs => obtain ⟨vs, h, _⟩ := h; exact ⟨_, h⟩
  | dicL kvs o => exact ⟨_, h.1⟩
  | exc cls fs => obtain ⟨o, d, h, _⟩ := h; exact ⟨_, h⟩
  | ins C fs => obtain ⟨dx, vs, h, _⟩ := h; exact ⟨_, h⟩
theorem CellOk.mono {K : PySem.W.Frag} {F F' H H' : Hp} {a : Addr} {c : Cell} (h : CellOk K F H a c) (s : Same F F') (e : H' a = H a) : CellOk K F' H' a c := by
  cases c with
  | lst ds => obtain ⟨vs, h, r⟩ := h; exact ⟨vs, e.trans h, r.mono s⟩
  | pool => obtain ⟨x, y, h, r⟩ := h; exact ⟨x, y, e.trans h, r⟩
  | dic kvs => obtain ⟨vs, h, r⟩ := h; exact ⟨vs, e.trans h, r.mono s⟩
  | dicL kvs o => obtain ⟨h, od, vs, r1, r2⟩ := h; exact ⟨e.trans h, od, vs, r1, r2.mono s⟩
  | exc cls fs => obtain ⟨o, d, h, r1, r2⟩ := h; exact ⟨o, d, e.trans h, r1, r2.mono s⟩
  | ins C fs => obtain ⟨dx, vs, h, r⟩ := h; exact ⟨dx, vs, e.trans h, r.mono s⟩

section
variable {K : PySem.W.Frag} {F P H : Hp} {O : Ow} {p : Addr} {o : HO}
theorem Gd.freeF (g : Gd M K F O P H) (h : H p = none) : F p = none := g.fz.free h
theorem Gd.freeO (g : Gd M K F O P H) (h : H p = none) : O p = none := by
  cases e : O p with
  | none => rfl
  | some c =>
    obtain ⟨u, q⟩ := (g.ow p c e).2.2.some
    rw [h] at q; cases q
theorem Gd.freeP (g : Gd M K F O P H) (h : H p = none) : P p = none := by
  cases e : P p with
  | none => rfl
  | some c =>
    have q := (g.as p c e).2
    rw [h] at q; cases q
theorem same_upd {H : Hp} {p : Addr} {o : HO} (h : H p = none) : Same H (upd H p o) := fun b x e => by
  rw [upd_ne (ne_of_none e h)]; exact e
theorem Same.upd2 {F H : Hp} {p : Addr} {o : HO} (s : Same F H) : Same (upd F p o) (upd H p o) := fun b x e => by
  unfold upd at e ⊢
  split
  · rename_i q; rw [if_pos q] at e; exact e
  · rename_i q; rw [if_neg q] at e; exact s b x e
/-- a new thing that never changes -/
theorem Gd.new (g : Gd M K F O P H) (h : H p = none) : Gd M K (upd F p o) O P (upd H p o) := by
  have hF := g.freeF h
  have hO := g.freeO h
  have hP := g.freeP h
  refine ⟨Same.upd2 g.fz, fun a c e => ?_, fun a u e => ?_, M.mono g.rl (same_upd hF) (Same.refl _)⟩
  · have ne : a ≠ p := fun q => by rw [q, hO] at e; cases e
    obtain ⟨h1, h2, h3⟩ := g.ow a c e
    exact ⟨(upd_ne ne).trans h1, h2, h3.mono (same_upd hF) (upd_ne ne)⟩
  · have ne : a ≠ p := fun q => by rw [q, hP] at e; cases e
    obtain ⟨h1, h2⟩ := g.as a u e
    exact ⟨(upd_ne ne).trans h1, (upd_ne ne).trans h2⟩
/-- a thing of the heap that nothing speaks of -/
theorem Gd.skip (g : Gd M K F O P H) (h : H p = none) : Gd M K F O P (upd H p o) := by
  have hO := g.freeO h
  have hP := g.freeP h
  refine ⟨fun b x e => (same_upd h) b x (g.fz b x e), fun a c e => ?_, fun a u e => ?_, g.rl⟩
  · have ne : a ≠ p := fun q => by rw [q, hO] at e; cases e
    obtain ⟨h1, h2, h3⟩ := g.ow a c e
    exact ⟨h1, h2, h3.mono (Same.refl _) (upd_ne ne)⟩
  · have ne : a ≠ p := fun q => by rw [q, hP] at e; cases e
    obtain ⟨h1, h2⟩ := g.as a u e
    exact ⟨h1, (upd_ne ne).trans h2⟩
/-- a new owned cell -/
theorem Gd.newO (g : Gd M K F O P H) (h : H p = none) {c : Cell} (hc : CellOk K F (upd H p o) p c) : Gd M K F (updO O p c) P (upd H p o) := by
  have hF := g.freeF h
  have g' := g.skip (o := o) h
  refine ⟨g'.fz, fun a d e => ?_, g'.as, g'.rl⟩
  by_cases q : a = p
  · subst q
    rw [updO_same] at e; cases e
    exact ⟨hF, g.freeP h, hc⟩
  · rw [updO_ne q] at e
    exact g'.ow a d e
/-- an owned cell changes -/
theorem Gd.setO (g : Gd M K F O P H) {c0 : Cell} (h : O p = some c0) {c : Cell} (hc : CellOk K F (upd H p o) p c) : Gd M K F (updO O p c) P (upd H p o) := by
  obtain ⟨hF, hP, _⟩ := g.ow p c0 h
  refine ⟨fun b x e => ?_, fun a d e => ?_, fun a u e => ?_, g.rl⟩
  · have ne : b ≠ p := fun q => by rw [q, hF] at e; cases e
    rw [upd_ne ne]; exact g.fz b x e
  · by_cases q : a = p
    · subst q
      rw [updO_same] at e; cases e
      exact ⟨hF, hP, hc⟩
    · rw [updO_ne q] at e
      obtain ⟨h1, h2, h3⟩ := g.ow a d e
      exact ⟨h1, h2, h3.mono (Same.refl _) (upd_ne q)⟩
  · have ne : a ≠ p := fun q => by rw [q, hP] at e; cases e
    obtain ⟨h1, h2⟩ := g.as a u e
    exact ⟨h1, (upd_ne ne).trans h2⟩
/-- an owned cell's word is another one of the same thing -/
theorem Gd.retell (g : Gd M K F O P H) {c0 : Cell} (h : O p = some c0) {c : Cell} (hc : CellOk K F H p c) : Gd M K F (updO O p c) P H := by
  obtain ⟨hF, hP, _⟩ := g.ow p c0 h
  refine ⟨g.fz, fun a d e => ?_, g.as, g.rl⟩
  by_cases q : a = p
  · subst q
    rw [updO_same] at e; cases e
    exact ⟨hF, hP, hc⟩
  · rw [updO_ne q] at e
    exact g.ow a d e
/-- an owned list is owned no more: it never changes from now on -/
theorem Gd.freeze (g : Gd M K F O P H) {ds : List D} (h : O p = some (.lst ds)) : ∃ F', Same F F' ∧ Gd M K F' (delO O p) P H ∧ Rep K F' (.lst ds) (.ref p) := by
  obtain ⟨hF, hP, vs, hH, hr⟩ := g.ow p _ h
  have s : Same F (upd F p (.lst vs)) := same_upd hF
  refine ⟨upd F p (.lst vs), s, ⟨fun b x e => ?_, fun a c e => ?_, fun a u e => ?_, M.mono g.rl s (Same.refl _)⟩, ?_⟩
  · by_cases q : b = p
    · subst q; rw [upd_same] at e; cases e; exact hH
    · rw [upd_ne q] at e; exact g.fz b x e
  · unfold delO at e
    by_cases q : a = p
    · rw [if_pos q] at e; cases e
    · rw [if_neg q] at e
      obtain ⟨h1, h2, h3⟩ := g.ow a c e
      exact ⟨(upd_ne q).trans h1, h2, h3.mono s rfl⟩
  · have q : a ≠ p := fun z => by rw [z, hP] at e; cases e
    obtain ⟨h1, h2⟩ := g.as a u e
    exact ⟨(upd_ne q).trans h1, h2⟩
  · simp only [Rep]
    exact ⟨p, vs, rfl, upd_same, hr.mono s⟩
/-- an owned cell is forgotten -/
theorem Gd.drop (g : Gd M K F O P H) : Gd M K F (delO O p) P H := by
  refine ⟨g.fz, fun a c e => ?_, g.as, g.rl⟩
  unfold delO at e
  by_cases q : a = p
  · rw [if_pos q] at e; cases e
  · rw [if_neg q] at e; exact g.ow a c e
end

/-! ### environments -/
def EnvOk (K : PySem.W.Frag) (F : Hp) (ρ : DEnv) (σ : St) : Prop := ρ.length = σ.length ∧ ∀ (i : Nat) (d : D), ρ[i]? = some (some d) → ∃ v, σ[i]? = some (some v) ∧ Rep K F d v
section
variable {K : PySem.W.Frag} {F F' : Hp} {ρ : DEnv} {σ : St}
theorem EnvOk.mono (h : EnvOk K F ρ σ) (s : Same F F') : EnvOk K F' ρ σ := ⟨h.1, fun i d e => let ⟨v, q, r⟩ := h.2 i d e; ⟨v, q, r.mono s⟩⟩
theorem EnvOk.set (h : EnvOk K F ρ σ) {d : D} {v : V} (r : Rep K F d v) (i : Nat) : EnvOk K F (ρ.set i (some d)) (σ.set i (some v)) := by
  refine ⟨by rw [List.length_set, List.length_set, h.1], fun j e q => ?_⟩
  by_cases c : i = j
  · subst c
    by_cases hl : i < ρ.length
    · rw [List.getElem?_set_self hl] at q
      cases q
      exact ⟨v, by rw [List.getElem?_set_self (h.1 ▸ hl)], r⟩
    · rw [List.getElem?_eq_none (by rw [List.length_set]; omega)] at q; cases q
  · rw [List.getElem?_set_ne c] at q ⊢
    exact h.2 j e q
theorem EnvOk.wipe (h : EnvOk K F ρ σ) (i : Nat) : EnvOk K F (ρ.set i none) (σ.set i none) := by
  refine ⟨by rw [List.length_set, List.length_set, h.1], fun j e q => ?_⟩
  by_cases c : i = j
  · subst c
    by_cases hl : i < ρ.length
    · rw [List.getElem?_set_self hl] at q; cases q
    · rw [List.getElem?_eq_none (by rw [List.length_set]; omega)] at q; cases q
  · rw [List.getElem?_set_ne c] at q ⊢
    exact h.2 j e q
theorem envOk_start : ∀ {ds : List D} {vs : List V} (n : Nat), RepAll K F ds vs → EnvOk K F (ds.map some ++ List.replicate n none) (vs.map some ++ List.replicate n none) := by
  intro ds vs n h
  have hl := h.length
  refine ⟨by simp [hl], fun i d e => ?_⟩
  by_cases c : i < ds.length
  · rw [List.getElem?_append_left (by simpa using c), List.getElem?_map] at e
    obtain ⟨d', e1, e2⟩ := Option.map_eq_some_iff.mp e
    cases e2
    obtain ⟨v, h1, h2⟩ := h.get e1
    refine ⟨v, ?_, h2⟩
    rw [List.getElem?_append_left (by simpa [← hl] using c), List.getElem?_map, h1]; rfl
  · rw [List.getElem?_append_right (by simpa using c)] at e
    rw [List.getElem?_replicate] at e
    split at e <;> cases e
end

/-! ### readings over data, lifted -/
def PostE (M : MX) (K : PySem.W.Frag) (F P : Hp) (R : VD) (Q : VK) : Prop := ∀ d O' F' H' v, R d O' → Same F F' → Gd M K F' O' P H' → Rep K F' d v → Q v H'
def PostT (M : MX) (K : PySem.W.Frag) (F P : Hp) (R : Bool → Ow → Prop) (Q : Bool → Hp → Prop) : Prop := ∀ b O' F' H', R b O' → Same F F' → Gd M K F' O' P H' → Q b H'
def PostA (M : MX) (K : PySem.W.Frag) (F P : Hp) (R : List D → Ow → Prop) (Q : List V → Hp → Prop) : Prop := ∀ ds O' F' H' vs, R ds O' → Same F F' → Gd M K F' O' P H' → RepAll K F' ds vs → Q vs H'
def liftE (M : MX) (K : PySem.W.Frag) (f : FE) : TE := fun σ H Q => ∃ F O P ρ R, Gd M K F O P H ∧ EnvOk K F ρ σ ∧ f ρ O R ∧ PostE M K F P R Q
def liftT (M : MX) (K : PySem.W.Frag) (f : FT) : TT := fun σ H Q => ∃ F O P ρ R, Gd M K F O P H ∧ EnvOk K F ρ σ ∧ f ρ O R ∧ PostT M K F P R Q
def liftA (M : MX) (K : PySem.W.Frag) (f : FA) : TA := fun σ H Q => ∃ F O P ρ R, Gd M K F O P H ∧ EnvOk K F ρ σ ∧ f ρ O R ∧ PostA M K F P R Q
abbrev DE (M : MX) (X : Cx) (e : Expr) (f : FE) : Prop := PE X e (liftE M X.K f)
abbrev DT (M : MX) (X : Cx) (e : Expr) (f : FT) : Prop := PT X e (liftT M X.K f)
abbrev DA (M : MX) (X : Cx) (es : List Expr) (f : FA) : Prop := PA X es (liftA M X.K f)

theorem peMono {X : Cx} {e : Expr} {t t' : TE} (h : PE X e t) (imp : ∀ σ H Q, t' σ H Q → t σ H Q) : PE X e t' := ⟨fun pins s σ H Q I q => h.run pins s σ H Q I (imp σ H Q q)⟩
theorem ptMono {X : Cx} {e : Expr} {t t' : TT} (h : PT X e t) (imp : ∀ σ H Q, t' σ H Q → t σ H Q) : PT X e t' := ⟨fun pins s σ H Q I q => h.run pins s σ H Q I (imp σ H Q q)⟩
theorem pwMono {X : Cx} {e : Expr} {t t' : TT} (h : PW X e t) (imp : ∀ σ H Q, t' σ H Q → t σ H Q) : PW X e t' := ⟨fun whole pins s σ H Q I q => h.run whole pins s σ H Q I (imp σ H Q q)⟩
theorem paMono {X : Cx} {es : List Expr} {t t' : TA} (h : PA X es t) (imp : ∀ σ H Q, t' σ H Q → t σ H Q) : PA X es t' := ⟨fun pos pins s σ H Q I q => h.run pos pins s σ H Q I (imp σ H Q q)⟩
theorem psMono {X : Cx} {st : Stmt} {t t' : TS} (h : PS X st t) (imp : ∀ D σ H, t' D σ H → t D σ H) : PS X st t' := ⟨fun pins s σ H D I q => h.run pins s σ H D I (imp D σ H q)⟩
theorem pssMono {X : Cx} {st : List Stmt} {t t' : TS} (h : PSs X st t) (imp : ∀ D σ H, t' D σ H → t D σ H) : PSs X st t' := ⟨fun pins s σ H D I q => h.run pins s σ H D I (imp D σ H q)⟩

section
variable {X : Cx} {a b c e : Expr} {es : List Expr} {fa fb fc : FE} {pos : Pos}

/-! ### names and constants -/
def envGet (o : Option (Option D)) (O : Ow) (Q : VD) : Prop := match o with
  | some (some d) => Q d O
  | _ => False
theorem envGet_s {d : D} {O : Ow} {Q : VD} : envGet (some (some d)) O Q = Q d O := rfl
def fVar (i : Nat) : FE := fun ρ O Q => envGet ρ[i]? O Q
def fC (d : D) : FE := fun _ O Q => Q d O
theorem de_var (i : Nat) {x : Str} (hN : X.N[i]? = some x := by rfl) (hv : Vis X.env.scope x := by first | exact Or.inl rfl | exact Or.inr (Or.inl rfl) | exact Or.inr (Or.inr rfl)) (hd : (x == ("__debug__" : Str)) = false := by decide)
    (hcd : (x == ("__classdict__" : Str)) = false := by decide) : DE M X (.Name x pos) (fVar i) := by
  refine peMono (pe_var hN hv hd hcd) fun σ H Q h => ?_
  obtain ⟨F, O, P, ρ, R, g, en, q, po⟩ := h
  unfold fVar envGet at q
  split at q
  · rename_i d e
    obtain ⟨v, e', r⟩ := en.2 i d e
    exact ⟨v, e', po d O F H v q (Same.refl _) g r⟩
  · exact q.elim
/-- a constant: what is the same everywhere -/
theorem de_const {t : TE} {d : D} {v : V} (h : PE X e t) (ht : ∀ σ H Q, Q v H → t σ H Q) (hr : ∀ F, Rep X.K F d v) : DE M X e (fC d) := by
  refine peMono h fun σ H Q h => ?_
  obtain ⟨F, O, P, ρ, R, g, en, q, po⟩ := h
  exact ht σ H Q (po d O F H v q (Same.refl _) g (hr F))
theorem de_int {i : Int} {j : Nat} : DE M X (.Constant (.int i) j pos) (fC (.int i)) := de_const pe_int (fun _ _ _ q => q) fun _ => by simp only [Rep]
theorem de_bl {i : Bool} {j : Nat} : DE M X (.Constant (.bool i) j pos) (fC (.bl i)) := de_const pe_bl (fun _ _ _ q => q) fun _ => by simp only [Rep]
theorem de_non {j : Nat} : DE M X (.Constant .none j pos) (fC .non) := de_const pe_non (fun _ _ _ q => q) fun _ => by simp only [Rep]
theorem de_str {x : Str} {j : Nat} : DE M X (.Constant (.str x) j pos) (fC (.str x)) := de_const pe_str (fun _ _ _ q => q) fun _ => by simp only [Rep]
theorem de_glob {x : Str} {d : D} {v : V} {u : Value} (hg : Gl X x) (hm : X.mg x = some u) (r : RelV v u) (hr : ∀ F, Rep X.K F d v) (hd : (x == ("__debug__" : Str)) = false := by decide) : DE M X (.Name x pos) (fC d) :=
  de_const (pe_glob hg hm r hd) (fun _ _ _ q => q) hr
theorem de_bltn {x : Str} {d : D} {v : V} {u : Value} (hg : Gl X x) (hm : X.mg x = none) (hv : bootBuiltins x = some u) (r : RelV v u) (hr : ∀ F, Rep X.K F d v) (hn : x ≠ "__name__" := by decide) (hd : (x == ("__debug__" : Str)) = false := by decide) : DE M X (.Name x pos) (fC d) :=
  de_const (pe_bltn hg hm hv r hn hd) (fun _ _ _ q => q) hr

/-! ### operators -/
abbrev R2D := D → D → Ow → VD → Prop
abbrev R1D := D → Ow → VD → Prop
def liftR2 (M : MX) (K : PySem.W.Frag) (r : R2D) : R2 := fun x y H Q => ∃ F O P dx dy R, Gd M K F O P H ∧ Rep K F dx x ∧ Rep K F dy y ∧ r dx dy O R ∧ PostE M K F P R Q
def liftR1 (M : MX) (K : PySem.W.Frag) (r : R1D) : V → Hp → VK → Prop := fun x H Q => ∃ F O P dx R, Gd M K F O P H ∧ Rep K F dx x ∧ r dx O R ∧ PostE M K F P R Q
def liftRA (M : MX) (K : PySem.W.Frag) (r : List D → Ow → VD → Prop) : List V → Hp → VK → Prop := fun xs H Q => ∃ F O P ds R, Gd M K F O P H ∧ RepAll K F ds xs ∧ r ds O R ∧ PostE M K F P R Q
def fOp (r : R2D) (fa fb : FE) : FE := fun ρ O Q => fa ρ O fun x O1 => fb ρ O1 fun y O2 => r x y O2 Q
theorem fOp_lift {r : R2D} : ∀ σ H Q, liftE M X.K (fOp r fa fb) σ H Q → tOp (liftR2 M X.K r) (liftE M X.K fa) (liftE M X.K fb) σ H Q := by
  intro σ H Q h
  obtain ⟨F, O, P, ρ, R, g, en, q, po⟩ := h
  refine ⟨F, O, P, ρ, _, g, en, q, fun x O1 F1 H1 v q1 s1 g1 r1 => ?_⟩
  refine ⟨F1, O1, P, ρ, _, g1, en.mono s1, q1, fun y O2 F2 H2 w q2 s2 g2 r2 => ?_⟩
  exact ⟨F2, O2, P, x, y, R, g2, r1.mono s2, r2, q2, fun d O' F' H' z q3 s3 g3 r3 => po d O' F' H' z q3 (s1.trans (s2.trans s3)) g3 r3⟩
abbrev OpD (M : MX) (X : Cx) (f : Value → Value → Sem Value) (r : R2D) : Prop := OpR X f (liftR2 M X.K r)
theorem de_op {op : Operator} {r : R2D} (ho : OpD M X (binaryOp op) r) (ha : DE M X a fa) (hb : DE M X b fb) : DE M X (.BinOp a op b pos) (fOp r fa fb) := peMono (pe_op ho ha hb) fOp_lift
theorem de_cmp {op : CmpOp} {r : R2D} (ho : OpD M X (compareOp op) r) (ha : DE M X a fa) (hb : DE M X b fb) (hm : behindInMarks op b = false) : DE M X (.Compare a [op] [b] pos) (fOp r fa fb) := peMono (pe_cmpR ho ha hb hm) fOp_lift
/-- a value as a test: it must be a bool -/
def fTest (f : FE) : FT := fun ρ O Q => f ρ O fun d O1 => ∃ k, d = .bl k ∧ Q k O1
theorem tTest_lift {f : FE} {t : TE} (hl : ∀ σ H Q, liftE M X.K f σ H Q → t σ H Q) : ∀ σ H Q, liftT M X.K (fTest f) σ H Q → tTest t σ H Q := by
  intro σ H Q h
  obtain ⟨F, O, P, ρ, R, g, en, q, po⟩ := h
  refine hl σ H _ ⟨F, O, P, ρ, _, g, en, q, fun d O' F' H' v q1 s1 g1 r1 => ?_⟩
  obtain ⟨k, rfl, q2⟩ := q1
  simp only [Rep] at r1
  exact ⟨k, r1, po k O' F' H' q2 s1 g1⟩
theorem dt_cmp {op : CmpOp} {r : R2D} (ho : OpD M X (compareOp op) r) (ha : DE M X a fa) (hb : DE M X b fb) (hm : behindInMarks op b = false) : DT M X (.Compare a [op] [b] pos) (fTest (fOp r fa fb)) :=
  ptMono (pt_cmpR ho ha hb hm) (tTest_lift fOp_lift)
theorem dt_val (h : DE M X e fa) (he : ∀ whole, isTrue e X.env whole = (do let v ← whole; standAt e.pos; holding [v] (truthy v)) := by intro _; rfl) : DT M X e (fTest fa) :=
  ptMono (pt_val h he) (tTest_lift fun _ _ _ q => q)
/-- a op1 b op2 c -/
def fChain (r r' : R2D) (fa fb fc : FE) : FE := fun ρ O Q => fa ρ O fun x O1 => fb ρ O1 fun y O2 => r x y O2 fun z O3 => ∃ k, z = .bl k ∧ (if k = true then fc ρ O3 fun w O4 => r' y w O4 Q else Q (.bl false) O3)
theorem fChain_lift {r r' : R2D} : ∀ σ H Q, liftE M X.K (fChain r r' fa fb fc) σ H Q → tChain (liftR2 M X.K r) (liftR2 M X.K r') (liftE M X.K fa) (liftE M X.K fb) (liftE M X.K fc) σ H Q := by
  intro σ H Q h
  obtain ⟨F, O, P, ρ, R, g, en, q, po⟩ := h
  refine ⟨F, O, P, ρ, _, g, en, q, fun x O1 F1 H1 v q1 s1 g1 r1 => ?_⟩
  refine ⟨F1, O1, P, ρ, _, g1, en.mono s1, q1, fun y O2 F2 H2 w q2 s2 g2 r2 => ?_⟩
  refine ⟨F2, O2, P, x, y, _, g2, r1.mono s2, r2, q2, fun d O3 F3 H3 z q3 s3 g3 r3 => ?_⟩
  obtain ⟨k, rfl, q4⟩ := q3
  simp only [Rep] at r3
  refine ⟨k, r3, ?_⟩
  cases k with
  | true =>
    rw [if_pos rfl] at q4 ⊢
    refine ⟨F3, O3, P, ρ, _, g3, en.mono (s1.trans (s2.trans s3)), q4, fun w2 O4 F4 H4 z q5 s4 g4 r4 => ?_⟩
    exact ⟨F4, O4, P, y, w2, R, g4, r2.mono (s3.trans s4), r4, q5, fun d O' F' H' z q6 s5 g5 r5 => po d O' F' H' z q6 (s1.trans (s2.trans (s3.trans (s4.trans s5)))) g5 r5⟩
  | false =>
    rw [if_neg Bool.false_ne_true] at q4 ⊢
    exact po _ O3 F3 H3 _ q4 (s1.trans (s2.trans s3)) g3 (by simp only [Rep])
theorem de_chain {op op' : CmpOp} {r r' : R2D} (ho : OpD M X (compareOp op) r) (ho' : OpD M X (compareOp op') r') (ha : DE M X a fa) (hb : DE M X b fb) (hc : DE M X c fc)
    (hm : lastMarks [op, op'] [b, c] = false := by with_unfolding_all rfl) : DE M X (.Compare a [op, op'] [b, c] pos) (fChain r r' fa fb fc) := peMono (pe_chain ho ho' ha hb hc hm) fChain_lift
theorem dt_chain {op op' : CmpOp} {r r' : R2D} (ho : OpD M X (compareOp op) r) (ho' : OpD M X (compareOp op') r') (ha : DE M X a fa) (hb : DE M X b fb) (hc : DE M X c fc)
    (hm : lastMarks [op, op'] [b, c] = false := by with_unfolding_all rfl) : DT M X (.Compare a [op, op'] [b, c] pos) (fTest (fChain r r' fa fb fc)) := ptMono (pt_chain ho ho' ha hb hc hm) (tTest_lift fChain_lift)
/-! ### and, or, not -/
variable {tA tB' : FT} {rest : List Expr}
def fAnd (t u : FT) : FT := fun ρ O Q => t ρ O fun c O1 => if c = true then u ρ O1 Q else Q false O1
def fOr (t u : FT) : FT := fun ρ O Q => t ρ O fun c O1 => if c = true then Q true O1 else u ρ O1 Q
def fNot (t : FT) : FT := fun ρ O Q => t ρ O fun c O1 => Q (!c) O1
abbrev DW (M : MX) (X : Cx) (e : Expr) (f : FT) : Prop := PW X e (liftT M X.K f)
theorem fAnd_lift : ∀ σ H Q, liftT M X.K (fAnd tA tB') σ H Q → tAnd (liftT M X.K tA) (liftT M X.K tB') σ H Q := by
  intro σ H Q h
  obtain ⟨F, O, P, ρ, R, g, en, q, po⟩ := h
  refine ⟨F, O, P, ρ, _, g, en, q, fun k O1 F1 H1 q1 s1 g1 => ?_⟩
  cases k with
  | true =>
    rw [if_pos rfl] at q1 ⊢
    exact ⟨F1, O1, P, ρ, R, g1, en.mono s1, q1, fun b O' F' H' q2 s2 g2 => po b O' F' H' q2 (s1.trans s2) g2⟩
  | false =>
    rw [if_neg Bool.false_ne_true] at q1 ⊢
    exact po _ O1 F1 H1 q1 s1 g1
theorem fOr_lift : ∀ σ H Q, liftT M X.K (fOr tA tB') σ H Q → tOr (liftT M X.K tA) (liftT M X.K tB') σ H Q := by
  intro σ H Q h
  obtain ⟨F, O, P, ρ, R, g, en, q, po⟩ := h
  refine ⟨F, O, P, ρ, _, g, en, q, fun k O1 F1 H1 q1 s1 g1 => ?_⟩
  cases k with
  | false =>
    rw [if_neg Bool.false_ne_true] at q1 ⊢
    exact ⟨F1, O1, P, ρ, R, g1, en.mono s1, q1, fun b O' F' H' q2 s2 g2 => po b O' F' H' q2 (s1.trans s2) g2⟩
  | true =>
    rw [if_pos rfl] at q1 ⊢
    exact po _ O1 F1 H1 q1 s1 g1
theorem dw_and1 (ha : DT M X a tA) : DW M X (.BoolOp .And [a] pos) tA := pw_and1 ha
theorem dw_or1 (ha : DT M X a tA) : DW M X (.BoolOp .Or [a] pos) tA := pw_or1 ha
theorem dw_and (ha : DT M X a tA) (hb : DW M X (.BoolOp .And (b :: rest) pos) tB') : DW M X (.BoolOp .And (a :: b :: rest) pos) (fAnd tA tB') := pwMono (pw_and ha hb) fAnd_lift
theorem dw_or (ha : DT M X a tA) (hb : DW M X (.BoolOp .Or (b :: rest) pos) tB') : DW M X (.BoolOp .Or (a :: b :: rest) pos) (fOr tA tB') := pwMono (pw_or ha hb) fOr_lift
theorem dt_of (h : DW M X e tA) : DT M X e tA := h.pt
theorem dt_not (ha : DT M X a tA) : DT M X (.UnaryOp .Not a pos) (fNot tA) := by
  refine ptMono (pt_not ha) fun σ H Q h => ?_
  obtain ⟨F, O, P, ρ, R, g, en, q, po⟩ := h
  exact ⟨F, O, P, ρ, _, g, en, q, fun k O1 F1 H1 q1 s1 g1 => po _ O1 F1 H1 q1 s1 g1⟩
/-- .. as values (bools) -/
def fAndV (fa fb : FE) : FE := fun ρ O Q => fa ρ O fun x O1 => ∃ c, x = .bl c ∧ if c = true then fb ρ O1 Q else Q (.bl false) O1
def fOrV (fa fb : FE) : FE := fun ρ O Q => fa ρ O fun x O1 => ∃ c, x = .bl c ∧ if c = true then Q (.bl true) O1 else fb ρ O1 Q
def fNotV (fa : FE) : FE := fun ρ O Q => fa ρ O fun x O1 => ∃ c, x = .bl c ∧ Q (.bl (!c)) O1
theorem de_one {op} (h : DE M X a fa) : DE M X (.BoolOp op [a] pos) fa := pe_one h
theorem de_and (ha : DE M X a fa) (hb : DE M X (.BoolOp .And (b :: rest) pos) fb) : DE M X (.BoolOp .And (a :: b :: rest) pos) (fAndV fa fb) := by
  refine peMono (pe_and ha hb) fun σ H Q h => ?_
  obtain ⟨F, O, P, ρ, R, g, en, q, po⟩ := h
  refine ⟨F, O, P, ρ, _, g, en, q, fun k O1 F1 H1 v q1 s1 g1 r1 => ?_⟩
  obtain ⟨c, rfl, q1⟩ := q1
  simp only [Rep] at r1
  refine ⟨c, r1, ?_⟩
  cases c with
  | true =>
    rw [if_pos rfl] at q1 ⊢
    exact ⟨F1, O1, P, ρ, R, g1, en.mono s1, q1, fun b O' F' H' v q2 s2 g2 => po b O' F' H' v q2 (s1.trans s2) g2⟩
  | false =>
    rw [if_neg Bool.false_ne_true] at q1 ⊢
    exact po _ O1 F1 H1 _ q1 s1 g1 (by simp only [Rep])
theorem de_or (ha : DE M X a fa) (hb : DE M X (.BoolOp .Or (b :: rest) pos) fb) : DE M X (.BoolOp .Or (a :: b :: rest) pos) (fOrV fa fb) := by
  refine peMono (pe_or ha hb) fun σ H Q h => ?_
  obtain ⟨F, O, P, ρ, R, g, en, q, po⟩ := h
  refine ⟨F, O, P, ρ, _, g, en, q, fun k O1 F1 H1 v q1 s1 g1 r1 => ?_⟩
  obtain ⟨c, rfl, q1⟩ := q1
  simp only [Rep] at r1
  refine ⟨c, r1, ?_⟩
  cases c with
  | false =>
    rw [if_neg Bool.false_ne_true] at q1 ⊢
    exact ⟨F1, O1, P, ρ, R, g1, en.mono s1, q1, fun b O' F' H' v q2 s2 g2 => po b O' F' H' v q2 (s1.trans s2) g2⟩
  | true =>
    rw [if_pos rfl] at q1 ⊢
    exact po _ O1 F1 H1 _ q1 s1 g1 (by simp only [Rep])
theorem de_not (ha : DE M X a fa) : DE M X (.UnaryOp .Not a pos) (fNotV fa) := by
  refine peMono (pe_not ha) fun σ H Q h => ?_
  obtain ⟨F, O, P, ρ, R, g, en, q, po⟩ := h
  refine ⟨F, O, P, ρ, _, g, en, q, fun k O1 F1 H1 v q1 s1 g1 r1 => ?_⟩
  obtain ⟨c, rfl, q1⟩ := q1
  simp only [Rep] at r1
  exact ⟨c, r1, po _ O1 F1 H1 _ q1 s1 g1 (by simp only [Rep])⟩
/-- a if t else b -/
def fIf (t : FT) (fa fb : FE) : FE := fun ρ O Q => t ρ O fun c O1 => if c = true then fa ρ O1 Q else fb ρ O1 Q
theorem de_ifExp (hc : DT M X c tA) (ha : DE M X a fa) (hb : DE M X b fb) : DE M X (.IfExp c a b pos) (fIf tA fa fb) := by
  refine peMono (pe_ifExp hc ha hb) fun σ H Q h => ?_
  obtain ⟨F, O, P, ρ, R, g, en, q, po⟩ := h
  refine ⟨F, O, P, ρ, _, g, en, q, fun k O1 F1 H1 q1 s1 g1 => ?_⟩
  cases k with
  | true =>
    rw [if_pos rfl] at q1 ⊢
    exact ⟨F1, O1, P, ρ, R, g1, en.mono s1, q1, fun b O' F' H' v q2 s2 g2 => po b O' F' H' v q2 (s1.trans s2) g2⟩
  | false =>
    rw [if_neg Bool.false_ne_true] at q1 ⊢
    exact ⟨F1, O1, P, ρ, R, g1, en.mono s1, q1, fun b O' F' H' v q2 s2 g2 => po b O' F' H' v q2 (s1.trans s2) g2⟩
/-! ### argument lists, displays -/
def fNil : FA := fun _ O Q => Q [] O
def fCons (fa : FE) (fr : FA) : FA := fun ρ O Q => fa ρ O fun x O1 => fr ρ O1 fun xs O2 => Q (x :: xs) O2
variable {fr : FA}
theorem da_nil : DA M X [] fNil := paMono pa_nil fun σ H Q h => by
  obtain ⟨F, O, P, ρ, R, g, en, q, po⟩ := h
  exact po [] O F H [] q (Same.refl _) g .nil
theorem da_cons (ha : DE M X e fa) (hr : DA M X es fr) (hs : starEach (e :: es) X.env = (false, eval e X.env) :: starEach es X.env := by rfl) : DA M X (e :: es) (fCons fa fr) := by
  refine paMono (pa_cons ha hr hs) fun σ H Q h => ?_
  obtain ⟨F, O, P, ρ, R, g, en, q, po⟩ := h
  refine ⟨F, O, P, ρ, _, g, en, q, fun x O1 F1 H1 v q1 s1 g1 r1 => ?_⟩
  exact ⟨F1, O1, P, ρ, _, g1, en.mono s1, q1, fun xs O2 F2 H2 vs q2 s2 g2 r2 => po _ O2 F2 H2 _ q2 (s1.trans s2) g2 (.cons (r1.mono s2) r2)⟩
def fTup (fr : FA) : FE := fun ρ O Q => fr ρ O fun xs O1 => xs.length ≤ sizeLine ∧ Q (.tup xs) O1
theorem de_tup {x1} (h : DA M X es fr) : DE M X (.Tuple es x1 pos) (fTup fr) := by
  refine peMono (pe_tup h) fun σ H Q h => ?_
  obtain ⟨F, O, P, ρ, R, g, en, q, po⟩ := h
  refine ⟨F, O, P, ρ, _, g, en, q, fun xs O1 F1 H1 vs q1 s1 g1 r1 => ?_⟩
  refine ⟨by rw [← r1.length]; exact q1.1, fun p hp => ?_⟩
  have hF := g1.freeF hp
  refine po (.tup xs) O1 (upd F1 p (.tup vs)) _ _ q1.2 (s1.trans (same_upd hF)) (g1.new hp) ?_
  simp only [Rep]
  exact ⟨p, vs, rfl, .inl (.inl upd_same), r1.mono (same_upd hF)⟩
/-- a list that never changes -/
def fLst (fr : FA) : FE := fun ρ O Q => fr ρ O fun xs O1 => xs.length ≤ sizeLine ∧ Q (.lst xs) O1
theorem de_lst (h : DA M X es fr) : DE M X (.List es pos) (fLst fr) := by
  refine peMono (pe_lst h) fun σ H Q h => ?_
  obtain ⟨F, O, P, ρ, R, g, en, q, po⟩ := h
  refine ⟨F, O, P, ρ, _, g, en, q, fun xs O1 F1 H1 vs q1 s1 g1 r1 => ?_⟩
  refine ⟨by rw [← r1.length]; exact q1.1, fun p hp => ?_⟩
  have hF := g1.freeF hp
  refine po (.lst xs) O1 (upd F1 p (.lst vs)) _ _ q1.2 (s1.trans (same_upd hF)) (g1.new hp) ?_
  simp only [Rep]
  exact ⟨p, vs, rfl, upd_same, r1.mono (same_upd hF)⟩
/-- a list that is owned -/
def fLstO (fr : FA) : FE := fun ρ O Q => fr ρ O fun xs O1 => xs.length ≤ sizeLine ∧ ∀ p, O1 p = none → Q (.ref p) (updO O1 p (.lst xs))
theorem de_lstO (h : DA M X es fr) : DE M X (.List es pos) (fLstO fr) := by
  refine peMono (pe_lst h) fun σ H Q h => ?_
  obtain ⟨F, O, P, ρ, R, g, en, q, po⟩ := h
  refine ⟨F, O, P, ρ, _, g, en, q, fun xs O1 F1 H1 vs q1 s1 g1 r1 => ?_⟩
  refine ⟨by rw [← r1.length]; exact q1.1, fun p hp => ?_⟩
  exact po (.ref p) _ F1 _ _ (q1.2 p (g1.freeO hp)) s1 (g1.newO hp ⟨vs, upd_same, r1⟩) (by simp only [Rep])
/-- the law's pool: two numbers that are not negative -/
def rPool (xs : List D) (O : Ow) (Q : VD) : Prop := match xs with
  | [.int x, .int y] => 0 ≤ x ∧ 0 ≤ y ∧ y < 2147483647 ∧ ∀ p, O p = none → Q (.ref p) (updO O p .pool)
  | _ => False
def fPool (fr : FA) : FE := fun ρ O Q => fr ρ O fun xs O1 => rPool xs O1 Q
theorem de_pool (h : DA M X es fr) : DE M X (.List es pos) (fPool fr) := by
  refine peMono (pe_lst h) fun σ H Q h => ?_
  obtain ⟨F, O, P, ρ, R, g, en, q, po⟩ := h
  refine ⟨F, O, P, ρ, _, g, en, q, fun xs O1 F1 H1 vs q1 s1 g1 r1 => ?_⟩
  unfold rPool at q1
  split at q1
  · simp only [RepAll, Rep] at r1
    obtain ⟨_, _, rfl, rfl, _, _, rfl, rfl, rfl⟩ := r1
    refine ⟨show 2 ≤ sizeLine by decide, fun p hp => ?_⟩
    exact po (.ref p) _ F1 _ _ (q1.2.2.2 p (g1.freeO hp)) s1 (g1.newO hp ⟨_, _, upd_same, q1.1, q1.2.1, q1.2.2.1⟩) (by simp only [Rep])
  · exact q1.elim
end
end Kf
namespace Kf
open PySem PySem.Spec L2
open PyProof.Rows hiding St
variable {M : MX}

/-! ### data that is told apart by == -/
mutual
def toPy : D → PyData
  | .non => .none
  | .bl b => .bool b
  | .int i => .int i
  | .str x => .str x
  | .tup ds => .tuple (toPys ds)
  | .lst ds => .list (toPys ds)
  | .ref _ => .dict []
  | .ty _ => .dict []
  | .scr ns => .list (ns.map .int)
  | .edic => .dict []
def toPys : List D → List PyData
  | [] => []
  | d :: ds => toPy d :: toPys ds
end
mutual
def isPy : D → Bool
  | .non => true
  | .bl _ => true
  | .int _ => true
  | .str x => PyData.strOk x
  | .tup ds => isPys ds
  | .lst ds => isPys ds
  | .ref _ => false
  | .ty _ => false
  | .scr _ => false
  | .edic => false
def isPys : List D → Bool
  | [] => true
  | d :: ds => isPy d && isPys ds
end
theorem toPys_map : ∀ ds : List D, toPys ds = ds.map toPy
  | [] => rfl
  | d :: ds => by rw [toPys, toPys_map ds, List.map_cons]
theorem isPys_all : ∀ ds : List D, isPys ds = ds.all isPy
  | [] => rfl
  | d :: ds => by rw [isPys, isPys_all ds, List.all_cons]
mutual
theorem isPy_lay : ∀ d : D, isPy d = true → (toPy d).canLay0 = true
  | .non, _ => by simp only [toPy, PyData.canLay0]
  | .bl _, _ => by simp only [toPy, PyData.canLay0]
  | .int _, _ => by simp only [toPy, PyData.canLay0]
  | .str x, h => by simp only [isPy] at h; simp only [toPy, PyData.canLay0]; exact h
  | .tup ds, h => by simp only [isPy] at h; simp only [toPy, PyData.canLay0]; exact isPys_lay ds h
  | .lst ds, h => by simp only [isPy] at h; simp only [toPy, PyData.canLay0]; exact isPys_lay ds h
  | .ref _, h => by simp only [isPy] at h; cases h
  | .ty _, h => by simp only [isPy] at h; cases h
  | .scr _, h => by simp only [isPy] at h; cases h
  | .edic, h => by simp only [isPy] at h; cases h
theorem isPys_lay : ∀ ds : List D, isPys ds = true → PyData.canLayAll0 (toPys ds) = true
  | [], _ => by simp only [toPys, PyData.canLayAll0]
  | d :: ds, h => by
    simp only [isPys, Bool.and_eq_true] at h
    simp only [toPys, PyData.canLayAll0, Bool.and_eq_true]
    exact ⟨isPy_lay d h.1, isPys_lay ds h.2⟩
end
/-- how deep a datum is -/
def dp (d : D) : Nat := (toPy d).depth
section
variable {K : PySem.W.Frag} {F H : Hp}
mutual
theorem Rep.dp (s : Same F H) : ∀ (d : D) (v : V), isPy d = true → Rep K F d v → Dp K H v (toPy d)
  | .non, v, _, r => by simp only [Rep] at r; subst r; simp only [toPy]; exact .non
  | .bl b, v, _, r => by simp only [Rep] at r; subst r; simp only [toPy]; exact .bl b
  | .int b, v, _, r => by simp only [Rep] at r; subst r; simp only [toPy]; exact .int b
  | .str b, v, _, r => by simp only [Rep] at r; subst r; simp only [toPy]; exact .str b
  | .tup ds, v, h, r => by
    simp only [isPy] at h
    simp only [Rep] at r
    obtain ⟨a, xs, rfl, r1, r2⟩ := r
    simp only [toPy]
    exact .tup (Same.seqT s r1) (RepAll.dp s ds xs h r2)
  | .lst ds, v, h, r => by
    simp only [isPy] at h
    simp only [Rep] at r
    obtain ⟨a, xs, rfl, r1, r2⟩ := r
    simp only [toPy]
    exact .lst (SqL.of (s _ _ r1)) (RepAll.dp s ds xs h r2)
  | .ref _, _, h, _ => by simp only [isPy] at h; cases h
  | .ty _, _, h, _ => by simp only [isPy] at h; cases h
  | .scr _, _, h, _ => by simp only [isPy] at h; cases h
  | .edic, _, h, _ => by simp only [isPy] at h; cases h
theorem RepAll.dp (s : Same F H) : ∀ (ds : List D) (vs : List V), isPys ds = true → RepAll K F ds vs → DpAll K H vs (toPys ds)
  | [], vs, _, r => by simp only [RepAll] at r; subst r; simp only [toPys]; exact .nil
  | d :: ds, vs, h, r => by
    simp only [isPys, Bool.and_eq_true] at h
    simp only [RepAll] at r
    obtain ⟨v, q, rfl, r1, r2⟩ := r
    simp only [toPys]
    exact .cons (Rep.dp s d v h.1 r1) (RepAll.dp s ds q h.2 r2)
end
end

/-! ### an owned list read -/
def deref (O : Ow) : D → D
  | .ref a => match O a with
    | some (.lst ds) => .lst ds
    | _ => .ref a
  | d => d
/-- as Rep, but a list may be owned -/
def RepH (K : PySem.W.Frag) (F H : Hp) (d : D) (v : V) : Prop := match d with
  | .lst ds => ∃ a xs, v = .ref a ∧ H a = some (.lst xs) ∧ RepAll K F ds xs
  | d => Rep K F d v
section
variable {K : PySem.W.Frag} {F P H : Hp} {O : Ow}
theorem Gd.deref (g : Gd M K F O P H) {d : D} {v : V} (r : Rep K F d v) : RepH K F H (deref O d) v := by
  cases d with
  | lst ds =>
    simp only [Rep] at r
    obtain ⟨a, xs, e, h1, h2⟩ := r
    exact ⟨a, xs, e, g.fz _ _ h1, h2⟩
  | ref a =>
    cases e : O a with
    | none =>
      have z : Kf.deref O (.ref a) = .ref a := by simp only [Kf.deref, e]
      rw [z]; exact r
    | some c =>
      cases c with
      | pool =>
        have z : Kf.deref O (.ref a) = .ref a := by simp only [Kf.deref, e]
        rw [z]; exact r
      | dic kvs =>
        have z : Kf.deref O (.ref a) = .ref a := by simp only [Kf.deref, e]
        rw [z]; exact r
      | dicL kvs o =>
        have z : Kf.deref O (.ref a) = .ref a := by simp only [Kf.deref, e]
        rw [z]; exact r
      | exc _ _ =>
        have z : Kf.deref O (.ref a) = .ref a := by simp only [Kf.deref, e]
        rw [z]; exact r
      | ins _ _ =>
        have z : Kf.deref O (.ref a) = .ref a := by simp only [Kf.deref, e]
        rw [z]; exact r
      | lst ds =>
        have z : Kf.deref O (.ref a) = .lst ds := by simp only [Kf.deref, e]
        rw [z]
        obtain ⟨_, _, vs, h1, h2⟩ := g.ow a _ e
        simp only [Rep] at r
        exact ⟨a, vs, r, h1, h2⟩
  | _ => exact r
theorem RepH.dp (s : Same F H) {d : D} {v : V} (h : isPy d = true) (r : RepH K F H d v) : Dp K H v (toPy d) := by
  cases d with
  | lst ds =>
    obtain ⟨a, xs, rfl, h1, h2⟩ := r
    simp only [isPy] at h
    simp only [toPy]
    exact .lst (SqL.of h1) (RepAll.dp s ds xs h h2)
  | _ => exact Rep.dp s _ v h r

/-- read through owned lists at any depth -/
def ddf (O : Ow) : Nat → D → D
  | 0, d => d
  | n + 1, .ref a => match O a with
    | some (.lst ds) => .lst (ds.map (ddf O n))
    | _ => .ref a
  | n + 1, .tup ds => .tup (ds.map (ddf O n))
  | n + 1, .lst ds => .lst (ds.map (ddf O n))
  | _ + 1, d => d
theorem repAll_map {f : D → D} {F' : Hp} (h : ∀ d v, Rep K F d v → Rep K F' (f d) v) : ∀ {ds : List D} {vs : List V}, RepAll K F ds vs → RepAll K F' (ds.map f) vs
  | [], _, r => by simp only [RepAll] at r; subst r; exact .nil
  | d :: ds, _, r => by
    simp only [RepAll] at r
    obtain ⟨v, w, rfl, r1, r2⟩ := r
    rw [List.map_cons]
    exact .cons (h d v r1) (repAll_map h r2)
theorem Gd.ddf (g : Gd M K F O P H) : ∀ (n : Nat) (d : D) (v : V), Rep K F d v → Rep K H (ddf O n d) v
  | 0, d, v, r => r.mono g.fz
  | n + 1, d, v, r => by
    cases d with
    | tup ds =>
      simp only [Rep] at r
      obtain ⟨a, xs, e, h1, h2⟩ := r
      simp only [Kf.ddf, Rep]
      exact ⟨a, xs, e, Same.seqT g.fz h1, repAll_map (Gd.ddf g n) h2⟩
    | lst ds =>
      simp only [Rep] at r
      obtain ⟨a, xs, e, h1, h2⟩ := r
      simp only [Kf.ddf, Rep]
      exact ⟨a, xs, e, g.fz _ _ h1, repAll_map (Gd.ddf g n) h2⟩
    | ref a =>
      cases e : O a with
      | none =>
        have z : Kf.ddf O (n + 1) (.ref a) = .ref a := by simp only [Kf.ddf, e]
        rw [z]; exact r.mono g.fz
      | some c =>
        cases c with
        | lst ds =>
          have z : Kf.ddf O (n + 1) (.ref a) = .lst (ds.map (Kf.ddf O n)) := by simp only [Kf.ddf, e]
          rw [z]
          obtain ⟨_, _, vs, h1, h2⟩ := g.ow a _ e
          simp only [Rep] at r ⊢
          exact ⟨a, vs, r, h1, repAll_map (Gd.ddf g n) h2⟩
        | _ =>
          have z : Kf.ddf O (n + 1) (.ref a) = .ref a := by simp only [Kf.ddf, e]
          rw [z]; exact r.mono g.fz
    | _ => simp only [Kf.ddf]; exact r.mono g.fz
/-! what holds no owned list is read as it is -/
theorem ddf_py {O : Ow} : ∀ (n : Nat) (d : D), isPy d = true → ddf O n d = d
  | 0, d, h => rfl
  | n + 1, d, h => by
    have hm : ∀ ds : List D, isPys ds = true → ds.map (ddf O n) = ds := fun ds hd => by
      rw [isPys_all, List.all_eq_true] at hd
      exact (List.map_congr_left fun x hx => ddf_py n x (hd x hx)).trans (List.map_id' ds)
    cases d with
    | tup ds => simp only [isPy] at h; simp only [ddf, hm ds h]
    | lst ds => simp only [isPy] at h; simp only [ddf, hm ds h]
    | ref a => simp [isPy] at h
    | _ => rfl
theorem ddf_deref {O : Ow} {n : Nat} {d : D} (h : isPy (deref O d) = true) : ddf O (n + 1) d = deref O d := by
  cases d with
  | ref a =>
    cases e : O a with
    | none =>
      have z : deref O (.ref a) = .ref a := by simp only [deref, e]
      rw [z] at h; simp [isPy] at h
    | some c =>
      cases c with
      | lst ds =>
        have z : deref O (.ref a) = .lst ds := by simp only [deref, e]
        have z2 : ddf O (n + 1) (.ref a) = .lst (ds.map (ddf O n)) := by simp only [ddf, e]
        rw [z] at h ⊢
        rw [z2]
        simp only [isPy] at h
        rw [isPys_all, List.all_eq_true] at h
        rw [(List.map_congr_left fun x hx => ddf_py n x (h x hx)).trans (List.map_id' ds)]
      | _ =>
        have z : deref O (.ref a) = .ref a := by simp only [deref, e]
        rw [z] at h; simp [isPy] at h
  | _ => exact ddf_py (n + 1) _ h
/-! ### ends -/
theorem PostE.at {R : VD} {Q : VK} {d : D} {v : V} (po : PostE M K F P R Q) (g : Gd M K F O P H) (h : R d O) (r : Rep K F d v) : Q v H := po d O F H v h (Same.refl _) g r
theorem PostE.lst {R : VD} {Q : VK} {ds : List D} {vs : List V} {p : Addr} (po : PostE M K F P R Q) (g : Gd M K F O P H) (h : R (.lst ds) O) (r : RepAll K F ds vs) (hp : H p = none) : Q (.ref p) (upd H p (.lst vs)) := by
  have hF := g.freeF hp
  refine po (.lst ds) O (upd F p (.lst vs)) _ _ h (same_upd hF) (g.new hp) ?_
  simp only [Rep]
  exact ⟨p, vs, rfl, upd_same, r.mono (same_upd hF)⟩
theorem PostE.tup {R : VD} {Q : VK} {ds : List D} {vs : List V} {p : Addr} (po : PostE M K F P R Q) (g : Gd M K F O P H) (h : R (.tup ds) O) (r : RepAll K F ds vs) (hp : H p = none) : Q (.ref p) (upd H p (.tup vs)) := by
  have hF := g.freeF hp
  refine po (.tup ds) O (upd F p (.tup vs)) _ _ h (same_upd hF) (g.new hp) ?_
  simp only [Rep]
  exact ⟨p, vs, rfl, .inl (.inl upd_same), r.mono (same_upd hF)⟩
theorem PostE.lstO {R : VD} {Q : VK} {ds : List D} {vs : List V} {p : Addr} (po : PostE M K F P R Q) (g : Gd M K F O P H) (h : ∀ p, O p = none → R (.ref p) (updO O p (.lst ds))) (r : RepAll K F ds vs) (hp : H p = none) : Q (.ref p) (upd H p (.lst vs)) :=
  po (.ref p) _ F _ _ (h p (g.freeO hp)) (Same.refl _) (g.newO hp ⟨vs, upd_same, r⟩) (by simp only [Rep])
theorem PostE.more {R : VD} {Q : VK} {F' : Hp} (po : PostE M K F P R Q) (s : Same F F') : PostE M K F' P R Q := fun d O' F2 H' v q s2 g r => po d O' F2 H' v q (s.trans s2) g r
end

section
variable {X : Cx}
theorem opD_of {f : Value → Value → Sem Value} {r : R2D}
    (h : ∀ (pins : List (Addr × Obj)) (s : Shared) (σ : St) (F P H : Hp) (O : Ow) (x y : V) (dx dy : D) (v u : Value) (R : VD) (Q : VK), Inv X pins σ H s → RelV x v → RelV y u → Gd M X.K F O P H → Rep X.K F dx x → Rep X.K F dy y → r dx dy O R → PostE M X.K F P R Q →
      ∃ r0, OpR X f r0 ∧ r0 x y H Q) : OpD M X f r := by
  intro pins s σ H x y v u Q I rx ry q
  obtain ⟨F, O, P, dx, dy, R, g, r1, r2, q, po⟩ := q
  obtain ⟨r0, o, z⟩ := h pins s σ F P H O x y dx dy v u R Q I rx ry g r1 r2 q po
  exact o pins s σ H x y v u Q I rx ry z

/-! ### + - * // % ** -/
def rAddD : R2D := fun x y O Q => match deref O x, deref O y with
  | .int i, .int j => Q (.int (i + j)) O
  | .int i, .bl k => Q (.int (i + b2i k)) O
  | .str i, .str j => i.length + j.length ≤ sizeLine ∧ Q (.str (i ++ j)) O
  | .lst xs, .lst ys => xs.length + ys.length ≤ sizeLine ∧ Q (.lst (xs ++ ys)) O
  | .tup xs, .tup ys => xs ≠ [] ∧ xs.length + ys.length ≤ sizeLine ∧ Q (.tup (xs ++ ys)) O
  | _, _ => False
/-- .. of two lists, the new one owned -/
def rCatO : R2D := fun x y O Q => match deref O x, deref O y with
  | .lst xs, .lst ys => xs.length + ys.length ≤ sizeLine ∧ ∀ p, O p = none → Q (.ref p) (updO O p (.lst (xs ++ ys)))
  | _, _ => False
theorem od_add : OpD M X (binaryOp .Add) rAddD := by
  refine opD_of fun pins s σ F P H O x y dx dy v u R Q I rx ry g r1 r2 q po => ?_
  have h1 := g.deref r1
  have h2 := g.deref r2
  unfold rAddD at q
  revert q h1 h2
  generalize Kf.deref O dx = ex
  generalize Kf.deref O dy = ey
  intro q h1 h2
  cases ex <;> cases ey <;> first | exact q.elim | skip
  · simp only [RepH, Rep] at h1 h2
    exact ⟨_, op_add_ib, _, _, h1, h2, po.at g q (by simp only [Rep])⟩
  · simp only [RepH, Rep] at h1 h2
    exact ⟨_, op_add, _, _, h1, h2, po.at g q (by simp only [Rep])⟩
  · simp only [RepH, Rep] at h1 h2
    exact ⟨_, op_add_str, _, _, h1, h2, q.1, po.at g q.2 (by simp only [Rep])⟩
  · simp only [RepH, Rep] at h1 h2
    obtain ⟨a, xs, rfl, a1, a2⟩ := h1
    obtain ⟨b, ys, rfl, b1, b2⟩ := h2
    obtain ⟨q1, q2, q3⟩ := q
    refine ⟨_, op_catT, a, b, xs, ys, rfl, rfl, Same.seqT g.fz a1, Same.seqT g.fz b1, ?_, by rw [← a2.length, ← b2.length]; exact q2, fun e => ?_, fun e p hp => ?_⟩
    · intro e; rw [e] at a2; have := a2.length; exact q1 (List.eq_nil_of_length_eq_zero (by simpa using this))
    · rw [e] at b2
      have l0 := b2.length
      rename_i ex ey
      have e0 : ey = [] := List.eq_nil_of_length_eq_zero (by simpa using l0)
      rw [e0, List.append_nil] at q3
      refine po.at g q3 ?_
      simp only [Rep]
      exact ⟨a, xs, rfl, a1, a2⟩
    · exact po.tup g q3 (a2.append b2) hp
  · obtain ⟨a, xs, rfl, a1, a2⟩ := h1
    obtain ⟨b, ys, rfl, b1, b2⟩ := h2
    exact ⟨_, op_cat, a, b, xs, ys, rfl, rfl, a1, b1, by rw [← a2.length, ← b2.length]; exact q.1, fun p hp => po.lst g q.2 (a2.append b2) hp⟩
theorem od_catO : OpD M X (binaryOp .Add) rCatO := by
  refine opD_of fun pins s σ F P H O x y dx dy v u R Q I rx ry g r1 r2 q po => ?_
  have h1 := g.deref r1
  have h2 := g.deref r2
  unfold rCatO at q
  revert q h1 h2
  generalize Kf.deref O dx = ex
  generalize Kf.deref O dy = ey
  intro q h1 h2
  cases ex <;> cases ey <;> first | exact q.elim | skip
  obtain ⟨a, xs, rfl, a1, a2⟩ := h1
  obtain ⟨b, ys, rfl, b1, b2⟩ := h2
  exact ⟨_, op_cat, a, b, xs, ys, rfl, rfl, a1, b1, by rw [← a2.length, ← b2.length]; exact q.1, fun p hp => po.lstO g q.2 (a2.append b2) hp⟩
def rInts (C : Int → Int → Prop) (f : Int → Int → D) : R2D := fun x y O Q => match x, y with
  | .int i, .int j => C i j ∧ Q (f i j) O
  | _, _ => False
theorem od_ints {f : Value → Value → Sem Value} {C : Int → Int → Prop} {g : Int → Int → V} {k : Int → Int → D} (h : OpR X f (rI C g)) (hk : ∀ F i j, Rep X.K F (k i j) (g i j)) : OpD M X f (rInts C k) := by
  refine opD_of fun pins s σ F P H O x y dx dy v u R Q I rx ry gd r1 r2 q po => ?_
  unfold rInts at q
  cases dx <;> first | exact q.elim | skip
  cases dy <;> first | exact q.elim | skip
  simp only [Rep] at r1 r2
  exact ⟨_, h, _, _, r1, r2, q.1, po.at gd q.2 (hk F _ _)⟩
def rInts0 (f : Int → Int → D) : R2D := fun x y O Q => match x, y with
  | .int i, .int j => Q (f i j) O
  | _, _ => False
theorem od_ints0 {f : Value → Value → Sem Value} {g : Int → Int → V} {k : Int → Int → D} (h : OpR X f (rI0 g)) (hk : ∀ F i j, Rep X.K F (k i j) (g i j)) : OpD M X f (rInts0 k) := by
  refine opD_of fun pins s σ F P H O x y dx dy v u R Q I rx ry gd r1 r2 q po => ?_
  unfold rInts0 at q
  cases dx <;> first | exact q.elim | skip
  cases dy <;> first | exact q.elim | skip
  simp only [Rep] at r1 r2
  exact ⟨_, h, _, _, r1, r2, po.at gd q (hk F _ _)⟩
theorem od_sub : OpD M X (binaryOp .Sub) (rInts0 fun i j => .int (i - j)) := od_ints0 op_sub fun _ _ _ => by simp only [Rep]
theorem od_mul : OpD M X (binaryOp .Mult) (rInts CMul fun i j => .int (i * j)) := od_ints op_mul fun _ _ _ => by simp only [Rep]
/-- // and divmod by a positive divisor below 2 ^ 60 -/
def CDv (i j : Int) : Prop := 0 < j ∧ j < 1329227995784915872903807060280344576
theorem CDv.w {i j : Int} (h : CDv i j) : CDivW i j := by
  obtain ⟨h1, h2⟩ := h
  exact wide_div h1 (b := 120) (by omega) (by decide) (by decide)
theorem op_fdivV : OpR X (binaryOp .FloorDiv) (rI CDv fun i j => .int (i / j)) := fun pins s σ H x y v u Q I rx ry ⟨i, j, e1, e2, c, q⟩ => op_fdivW pins s σ H x y v u Q I rx ry ⟨i, j, e1, e2, c.w, q⟩
theorem od_div : OpD M X (binaryOp .FloorDiv) (rInts CDv fun i j => .int (i / j)) := od_ints op_fdivV fun _ _ _ => by simp only [Rep]
theorem od_mod : OpD M X (binaryOp .Mod) (rInts (fun _ j => 0 < j) fun i j => .int (i % j)) := od_ints op_mod fun _ _ _ => by simp only [Rep]
theorem od_pow : OpD M X (binaryOp .Pow) (rInts CPow fun i j => .int (i ^ j.toNat)) := od_ints op_pow fun _ _ _ => by simp only [Rep]
/-! ### comparisons -/
/-- < of ints, of texts -/
def rLtD : R2D := fun x y O Q => match x, y with
  | .int i, .int j => Q (.bl (decide (i < j))) O
  | .str i, .str j => Q (.bl (decide (i.cps.toList < j.cps.toList))) O
  | _, _ => False
theorem od_lt : OpD M X (compareOp .Lt) rLtD := by
  refine opD_of fun pins s σ F P H O x y dx dy v u R Q I rx ry gd r1 r2 q po => ?_
  unfold rLtD at q
  cases dx <;> first | exact q.elim | skip
  all_goals cases dy <;> first | exact q.elim | skip
  · simp only [Rep] at r1 r2
    exact ⟨_, op_lt, _, _, r1, r2, po.at gd q (by simp only [Rep])⟩
  · simp only [Rep] at r1 r2
    exact ⟨_, op_lt_str, _, _, r1, r2, po.at gd q (by simp only [Rep])⟩
def rLeD : R2D := fun x y O Q => match x, y with
  | .int i, .int j => Q (.bl (decide (i ≤ j))) O
  | .str i, .str j => Q (.bl (!decide (j.cps.toList < i.cps.toList))) O
  | _, _ => False
theorem od_le : OpD M X (compareOp .LtE) rLeD := by
  refine opD_of fun pins s σ F P H O x y dx dy v u R Q I rx ry gd r1 r2 q po => ?_
  unfold rLeD at q
  cases dx <;> first | exact q.elim | skip
  all_goals cases dy <;> first | exact q.elim | skip
  · simp only [Rep] at r1 r2
    exact ⟨_, op_le, _, _, r1, r2, po.at gd q (by simp only [Rep])⟩
  · simp only [Rep] at r1 r2
    exact ⟨_, op_le_str, _, _, r1, r2, po.at gd q (by simp only [Rep])⟩
theorem od_gt : OpD M X (compareOp .Gt) (rInts0 fun i j => .bl (decide (j < i))) := od_ints0 op_gt fun _ _ _ => by simp only [Rep]
theorem od_ge : OpD M X (compareOp .GtE) (rInts0 fun i j => .bl (decide (j ≤ i))) := od_ints0 op_ge fun _ _ _ => by simp only [Rep]
/-- == of data; the answer by eqv -/
def rEqD (neg : Bool) : R2D := fun x y O Q => isPy (ddf O 192 x) = true ∧ isPy (ddf O 192 y) = true ∧ min (dp (ddf O 192 x)) (dp (ddf O 192 y)) ≤ 190 ∧ Q (.bl (neg ^^ PyData.eqv (toPy (ddf O 192 x)) (toPy (ddf O 192 y)))) O
theorem od_eq (hu : X.A.units + 200 < cLine) : OpD M X (compareOp .Eq) (rEqD false) := by
  intro pins s σ H x y v u Q I rx ry q
  obtain ⟨F, O, P, dx, dy, R, g, r1, r2, ⟨q1, q2, q3, q4⟩, po⟩ := q
  obtain ⟨as, w1⟩ := Dp.reads I _ x v (Rep.dp (Same.refl _) _ _ q1 (g.ddf 192 _ _ r1)) rx
  obtain ⟨bs, w2⟩ := Dp.reads I _ y u (Rep.dp (Same.refl _) _ _ q2 (g.ddf 192 _ _ r2)) ry
  have hroom : X.A.units + min (toPy (ddf O 192 dx)).depth (toPy (ddf O 192 dy)).depth < cLine := by
    have : min (toPy (ddf O 192 dx)).depth (toPy (ddf O 192 dy)).depth ≤ 190 := q3
    omega
  refine SeqAt.compareEq_reads w1 w2 (isPy_lay _ q1) (isPy_lay _ q2) hroom ⟨.bl _, H, I, rfl, ?_⟩
  rw [Bool.false_xor] at q4
  exact po.at g q4 (by simp only [Rep])
theorem od_ne (hu : X.A.units + 200 < cLine) : OpD M X (compareOp .NotEq) (rEqD true) := by
  intro pins s σ H x y v u Q I rx ry q
  obtain ⟨F, O, P, dx, dy, R, g, r1, r2, ⟨q1, q2, q3, q4⟩, po⟩ := q
  obtain ⟨as, w1⟩ := Dp.reads I _ x v (Rep.dp (Same.refl _) _ _ q1 (g.ddf 192 _ _ r1)) rx
  obtain ⟨bs, w2⟩ := Dp.reads I _ y u (Rep.dp (Same.refl _) _ _ q2 (g.ddf 192 _ _ r2)) ry
  have hroom : X.A.units + min (toPy (ddf O 192 dx)).depth (toPy (ddf O 192 dy)).depth < cLine := by
    have : min (toPy (ddf O 192 dx)).depth (toPy (ddf O 192 dy)).depth ≤ 190 := q3
    omega
  refine SeqAt.compareNe_reads w1 w2 (isPy_lay _ q1) (isPy_lay _ q2) hroom ⟨.bl _, H, I, rfl, ?_⟩
  rw [Bool.true_xor] at q4
  exact po.at g q4 (by simp only [Rep])
/-- is None, is not None -/
def isNon : D → Bool
  | .non => true
  | _ => false
theorem Rep.isNon {K : PySem.W.Frag} {F : Hp} {d : D} {v : V} (r : Rep K F d v) : decide (v = .non) = isNon d := by
  cases d <;> simp only [Rep] at r <;> first | (subst r; rfl) | (obtain ⟨a, xs, rfl, _⟩ := r; rfl) | (obtain ⟨a, rfl, _⟩ := r; rfl)
def rIsN (neg : Bool) : R2D := fun x y O Q => match y with
  | .non => Q (.bl (neg ^^ isNon x)) O
  | _ => False
theorem od_is : OpD M X (compareOp .Is) (rIsN false) := by
  refine opD_of fun pins s σ F P H O x y dx dy v u R Q I rx ry g r1 r2 q po => ?_
  unfold rIsN at q
  cases dy <;> first | exact q.elim | skip
  simp only [Rep] at r2
  refine ⟨_, op_isN, r2, ?_⟩
  rw [Bool.false_xor] at q
  rw [r1.isNon]
  exact po.at g q (by simp only [Rep])
theorem od_isnot : OpD M X (compareOp .IsNot) (rIsN true) := by
  refine opD_of fun pins s σ F P H O x y dx dy v u R Q I rx ry g r1 r2 q po => ?_
  unfold rIsN at q
  cases dy <;> first | exact q.elim | skip
  simp only [Rep] at r2
  refine ⟨_, op_notN, r2, ?_⟩
  rw [Bool.true_xor] at q
  rw [r1.isNon]
  exact po.at g q (by simp only [Rep])
/-- x in y: one sign in a text; a datum in a list; a flat one in a tuple -/
def flatD : D → Bool
  | .non => true
  | .bl _ => true
  | .int _ => true
  | .str x => PyData.strOk x
  | _ => false
def rInD (neg : Bool) : R2D := fun x y O Q => match deref O y with
  | .str z => match x with
    | .str i => ∃ c, i = ⟨#[c]⟩ ∧ Q (.bl (neg ^^ decide (c ∈ z.cps.toList))) O
    | _ => False
  | .lst ds => isPy (deref O x) = true ∧ isPys ds = true ∧ dp (deref O x) ≤ 190 ∧ Q (.bl (neg ^^ ds.any fun z => PyData.eqv (toPy z) (toPy (deref O x)))) O
  | .tup ds => isPy (deref O x) = true ∧ isPys ds = true ∧ dp (deref O x) ≤ 190 ∧ Q (.bl (neg ^^ ds.any fun z => PyData.eqv (toPy z) (toPy (deref O x)))) O
  | _ => False
theorem any_toPys (d : PyData) : ∀ ds : List D, (toPys ds).any (fun z => PyData.eqv z d) = ds.any fun z => PyData.eqv (toPy z) d
  | [] => rfl
  | x :: ds => by rw [toPys, List.any_cons, List.any_cons, any_toPys d ds]
theorem flat_of {K : PySem.W.Frag} {F : Hp} {d : D} {v : V} (h : flatD d = true) (r : Rep K F d v) : flatV v = true := by
  cases d <;> simp only [flatD] at h <;> first | cases h | skip
  all_goals simp only [Rep] at r; subst r; rfl
theorem eqV_of {K : PySem.W.Frag} {F : Hp} {d e : D} {v u : V} (h : flatD d = true) (h' : flatD e = true) (r : Rep K F d v) (r' : Rep K F e u) : eqV v u = PyData.eqv (toPy d) (toPy e) := by
  cases d <;> simp only [flatD] at h <;> first | cases h | skip
  all_goals cases e <;> simp only [flatD] at h' <;> first | cases h' | skip
  all_goals simp only [Rep] at r r'; subst r r'; simp only [eqV, toPy, PyData.eqv]
theorem inV_of {K : PySem.W.Frag} {F : Hp} {x : D} {v : V} (h : flatD x = true) (r : Rep K F x v) : ∀ {ds : List D} {vs : List V}, ds.all flatD = true → RepAll K F ds vs → vs.all flatV = true ∧ inV v vs = ds.any fun z => PyData.eqv (toPy z) (toPy x)
  | [], vs, _, q => by simp only [RepAll] at q; subst q; exact ⟨rfl, rfl⟩
  | d :: ds, vs, hd, q => by
    simp only [RepAll] at q
    obtain ⟨w, ws, rfl, q1, q2⟩ := q
    rw [List.all_cons, Bool.and_eq_true] at hd
    obtain ⟨i1, i2⟩ := inV_of h r hd.2 q2
    unfold inV at i2 ⊢
    rw [List.all_cons, List.any_cons, List.any_cons, i2, eqV_of hd.1 h q1 r, flat_of hd.1 q1, i1]
    exact ⟨rfl, rfl⟩
theorem od_in_gen {op : CmpOp} {neg : Bool} (hu : X.A.units + 200 < cLine)
    (h1 : OpR X (compareOp op) (fun x y H Q => ∃ (c : Nat) (z : Str), x = .str ⟨#[c]⟩ ∧ y = .str z ∧ Q (.bl (neg ^^ decide (c ∈ z.cps.toList))) H))
    (h2 : ∀ (pins : List (Addr × Obj)) (s : Shared) (σ : St) (H : Hp) (x y : V) (v u : Value) (Q : VK) (d : PyData) (ds : List PyData), Inv X pins σ H s → RelV x v → RelV y u → Dp X.K H x d → Dp X.K H y (.list ds) → d.canLay0 = true → PyData.canLayAll0 ds = true → d.depth ≤ 190 →
      Q (.bl (neg ^^ ds.any fun z => PyData.eqv z d)) H → wpAny (model X.prog X.w) X.A (compareOp op v u) (EP X pins σ Q) X.xe s)
    (h3 : ∀ (pins : List (Addr × Obj)) (s : Shared) (σ : St) (H : Hp) (x y : V) (v u : Value) (Q : VK) (d : PyData) (ds : List PyData), Inv X pins σ H s → RelV x v → RelV y u → Dp X.K H x d → Dp X.K H y (.tuple ds) → d.canLay0 = true → PyData.canLayAll0 ds = true → d.depth ≤ 190 →
      Q (.bl (neg ^^ ds.any fun z => PyData.eqv z d)) H → wpAny (model X.prog X.w) X.A (compareOp op v u) (EP X pins σ Q) X.xe s) : OpD M X (compareOp op) (rInD neg) := by
  intro pins s σ H x y v u Q I rx ry q
  obtain ⟨F, O, P, dx, dy, R, g, r1, r2, q, po⟩ := q
  have e2 := g.deref r2
  unfold rInD at q
  revert q e2
  generalize hey : Kf.deref O dy = ey
  intro q e2
  cases ey <;> first | exact q.elim | skip
  · cases dx <;> first | exact q.elim | skip
    simp only [RepH, Rep] at e2 r1
    obtain ⟨c, rfl, q⟩ := q
    exact h1 pins s σ H x y v u Q I rx ry ⟨c, _, r1, e2, po.at g q (by simp only [Rep])⟩
  · simp only [RepH, Rep] at e2
    obtain ⟨b, ys, rfl, b1, b2⟩ := e2
    obtain ⟨q1, q2, q3, q4⟩ := q
    refine h3 pins s σ H x _ v u Q _ _ I rx ry ((g.deref r1).dp g.fz q1) (.tup (Same.seqT g.fz b1) (RepAll.dp g.fz _ ys q2 b2)) (isPy_lay _ q1) (isPys_lay _ q2) q3 ?_
    rw [any_toPys]
    exact po.at g q4 (by simp only [Rep])
  · obtain ⟨q1, q2, q3, q4⟩ := q
    obtain ⟨b, ys, rfl, b1, b2⟩ := e2
    refine h2 pins s σ H x _ v u Q _ _ I rx ry ((g.deref r1).dp g.fz q1) (.lst (SqL.of b1) (RepAll.dp g.fz _ ys q2 b2)) (isPy_lay _ q1) (isPys_lay _ q2) q3 ?_
    rw [any_toPys]
    exact po.at g q4 (by simp only [Rep])
theorem od_in (hu : X.A.units + 200 < cLine) : OpD M X (compareOp .In) (rInD false) := by
  refine od_in_gen hu (fun pins s σ H x y v u Q I rx ry q => ?_) (fun pins s σ H x y v u Q d ds I rx ry hd he c1 c2 c3 q => ?_) (fun pins s σ H x y v u Q d ds I rx ry hd he c1 c2 c3 q => ?_)
  · obtain ⟨c, z, e1, e2, q⟩ := q
    rw [Bool.false_xor] at q
    exact op_in_sign pins s σ H x y v u Q I rx ry ⟨c, z, e1, e2, q⟩
  · obtain ⟨as, r1⟩ := Dp.reads I d x v hd rx
    obtain ⟨bs, r2⟩ := Dp.reads I (.list ds) y u he ry
    rw [Bool.false_xor] at q
    exact SeqAt.in_list_reads r2 r1 c2 c1 (by omega) ⟨.bl _, H, I, rfl, q⟩
  · obtain ⟨as, r1⟩ := Dp.reads I d x v hd rx
    obtain ⟨bs, r2⟩ := Dp.reads I (.tuple ds) y u he ry
    rw [Bool.false_xor] at q
    exact SeqAt.in_tuple_reads r2 r1 c2 c1 (by omega) ⟨.bl _, H, I, rfl, q⟩
theorem od_notin (hu : X.A.units + 200 < cLine) : OpD M X (compareOp .NotIn) (rInD true) := by
  refine od_in_gen hu (fun pins s σ H x y v u Q I rx ry q => ?_) (fun pins s σ H x y v u Q d ds I rx ry hd he c1 c2 c3 q => ?_) (fun pins s σ H x y v u Q d ds I rx ry hd he c1 c2 c3 q => ?_)
  · obtain ⟨c, z, e1, e2, q⟩ := q
    rw [Bool.true_xor] at q
    exact op_notIn_sign pins s σ H x y v u Q I rx ry ⟨c, z, e1, e2, q⟩
  · obtain ⟨as, r1⟩ := Dp.reads I d x v hd rx
    obtain ⟨bs, r2⟩ := Dp.reads I (.list ds) y u he ry
    rw [Bool.true_xor] at q
    exact SeqAt.notIn_list_reads r2 r1 c2 c1 (by omega) ⟨.bl _, H, I, rfl, q⟩
  · obtain ⟨as, r1⟩ := Dp.reads I d x v hd rx
    obtain ⟨bs, r2⟩ := Dp.reads I (.tuple ds) y u he ry
    rw [Bool.true_xor] at q
    exact SeqAt.notIn_tuple_reads r2 r1 c2 c1 (by omega) ⟨.bl _, H, I, rfl, q⟩
end
end Kf
namespace Kf
open PySem PySem.Spec L2
open PyProof.Rows hiding St
variable {M : MX}

section
variable {X : Cx} {a b e : Expr} {es : List Expr} {fa fb : FE} {fr : FA} {pos p2 : Pos}

/-! ### subscripts -/
def rIxD : R2D := fun x y O Q => match deref O x, y with
  | .lst ds, .int i => match atI ds i with
    | some d => Q d O
    | none => False
  | .tup ds, .int i => match atI ds i with
    | some d => Q d O
    | none => False
  | .str z, .int i => z.length ≤ sizeLine ∧ match atI z.cps.toList i with
    | some c => Q (.str ⟨#[c]⟩) O
    | none => False
  | .scr ns, .int i => match atI ns i with
    | some n => Q (.int n) O
    | none => False
  | .ref a, .int i => match O a with
    | some .pool => (i = 0 ∧ ∀ x : Int, 0 ≤ x → Q (.int x) O) ∨ (i = 1 ∧ ∀ x : Int, 0 ≤ x → x < 2147483647 → Q (.int x) O)
    | _ => False
  | _, _ => False
theorem RepAll.atI {K : PySem.W.Frag} {F : Hp} {ds : List D} {vs : List V} {i : Int} {d : D} (r : RepAll K F ds vs) (h : atI ds i = some d) : ∃ v, L2.atI vs i = some v ∧ Rep K F d v := by
  unfold L2.atI at h ⊢
  rw [← r.length]
  obtain ⟨j, h1, h2⟩ := Option.bind_eq_some_iff.mp h
  obtain ⟨v, e, q⟩ := r.get h2
  exact ⟨v, Option.bind_eq_some_iff.mpr ⟨j, h1, e⟩, q⟩
theorem atI_map {α β : Type} (f : α → β) (xs : List α) (i : Int) : L2.atI (xs.map f) i = (L2.atI xs i).map f := by
  unfold L2.atI
  rw [List.length_map]
  cases ixN xs.length i with
  | none => rfl
  | some j => simp
theorem id_ix : IxR X (liftR2 M X.K rIxD) := by
  intro value slice pins s σ H x y v u Q I rx ry q hp
  obtain ⟨F, O, P, dx, dy, R, g, r1, r2, q, po⟩ := q
  have h1 := g.deref r1
  unfold rIxD at q
  revert q h1
  generalize Kf.deref O dx = ex
  intro q h1
  cases ex <;> first | exact q.elim | skip
  all_goals cases dy <;> first | exact q.elim | skip
  all_goals simp only [Rep] at r2; subst r2
  · rename_i z i
    simp only [RepH, Rep] at h1; subst h1
    dsimp only at q
    obtain ⟨q0, q⟩ := q
    cases e : L2.atI z.cps.toList i with
    | none => rw [e] at q; exact q.elim
    | some c =>
      rw [e] at q
      exact ix_str value slice pins s σ H _ _ v u Q I rx ry ⟨z, i, c, rfl, rfl, q0, e, po.at g q (by simp only [Rep])⟩ hp
  · rename_i ds i
    simp only [RepH, Rep] at h1
    obtain ⟨c, xs, rfl, h1, h2⟩ := h1
    dsimp only at q
    cases e : L2.atI ds i with
    | none => rw [e] at q; exact q.elim
    | some d =>
      rw [e] at q
      obtain ⟨w, e2, rw'⟩ := h2.atI e
      exact ix_tup value slice pins s σ H _ _ v u Q I rx ry ⟨c, xs, i, w, rfl, rfl, Same.seqT g.fz h1, e2, po.at g q rw'⟩ hp
  · rename_i ds i
    obtain ⟨c, xs, rfl, h1, h2⟩ := h1
    dsimp only at q
    cases e : L2.atI ds i with
    | none => rw [e] at q; exact q.elim
    | some d =>
      rw [e] at q
      obtain ⟨w, e2, rw'⟩ := h2.atI e
      exact ix_list value slice pins s σ H _ _ v u Q I rx ry ⟨c, xs, i, w, rfl, rfl, SqL.of h1, e2, po.at g q rw'⟩ hp
  · rename_i c i
    simp only [RepH, Rep] at h1
    subst h1
    dsimp only at q
    cases e : O c with
    | none => rw [e] at q; exact q.elim
    | some cl =>
      rw [e] at q
      cases cl with
      | lst _ => exact q.elim
      | dic _ => exact q.elim
      | dicL _ _ => exact q.elim
      | exc _ _ => exact q.elim
      | ins _ _ => exact q.elim
      | pool =>
        obtain ⟨_, _, z, y, hH, h2, h3, h4⟩ := g.ow c _ e
        rcases q with ⟨rfl, q⟩ | ⟨rfl, q⟩
        · exact ix_list value slice pins s σ H _ _ v u Q I rx ry ⟨c, _, 0, .int z, rfl, rfl, SqL.of hH, rfl, po.at g (q z h2) (by simp only [Rep])⟩ hp
        · exact ix_list value slice pins s σ H _ _ v u Q I rx ry ⟨c, _, 1, .int y, rfl, rfl, SqL.of hH, rfl, po.at g (q y h3 h4) (by simp only [Rep])⟩ hp
  · rename_i ns i
    simp only [RepH, Rep] at h1
    obtain ⟨c, rfl, h1⟩ := h1
    dsimp only at q
    cases e : L2.atI ns i with
    | none => rw [e] at q; exact q.elim
    | some n =>
      rw [e] at q
      have e2 : L2.atI (ns.map V.int) i = some (.int n) := by rw [atI_map, e]; rfl
      exact ix_list value slice pins s σ H _ _ v u Q I rx ry ⟨c, _, i, _, rfl, rfl, g.fz.seq h1, e2, po.at g q (by simp only [Rep])⟩ hp
theorem de_ix (ha : DE M X a fa) (hb : DE M X b fb) (hs : PlainIx b := by intro _ _; rfl) : DE M X (.Subscript a b pos) (fOp rIxD fa fb) := peMono (pe_ix id_ix ha hb hs) fOp_lift
/-! ### slices -/
abbrev FO := DEnv → Ow → (Option Int → Ow → Prop) → Prop
def liftO (M : MX) (K : PySem.W.Frag) (f : FO) : TO := fun σ H Q => ∃ F O P ρ R, Gd M K F O P H ∧ EnvOk K F ρ σ ∧ f ρ O R ∧ ∀ o O' F' H', R o O' → Same F F' → Gd M K F' O' P H' → Q o H'
abbrev DO (M : MX) (X : Cx) (e : Option Expr) (f : FO) : Prop := PO X e (liftO M X.K f)
theorem poMono {X : Cx} {e : Option Expr} {t t' : TO} (h : PO X e t) (imp : ∀ σ H Q, t' σ H Q → t σ H Q) : PO X e t' := ⟨fun pins s σ H Q I q => h.run pins s σ H Q I (imp σ H Q q)⟩
def fNoPart : FO := fun _ O Q => Q none O
def asI (d : D) (O : Ow) (Q : Option Int → Ow → Prop) : Prop := match d with
  | .int i => Q (some i) O
  | _ => False
theorem asI_i {i : Int} {O : Ow} {Q : Option Int → Ow → Prop} : asI (.int i) O Q = Q (some i) O := rfl
def fPart (f : FE) : FO := fun ρ O Q => f ρ O fun d O1 => asI d O1 Q
theorem do_none : DO M X none fNoPart := poMono po_none fun σ H Q h => by
  obtain ⟨F, O, P, ρ, R, g, en, q, po⟩ := h
  exact po none O F H q (Same.refl _) g
theorem do_some (h : DE M X e fa) : DO M X (some e) (fPart fa) := poMono (po_some h) fun σ H Q h => by
  obtain ⟨F, O, P, ρ, R, g, en, q, po⟩ := h
  refine ⟨F, O, P, ρ, _, g, en, q, fun d O' F' H' v q1 s1 g1 r1 => ?_⟩
  unfold asI at q1
  cases d <;> first | exact q1.elim | skip
  simp only [Rep] at r1
  exact ⟨_, r1, po _ O' F' H' q1 s1 g1⟩
def cut {α : Type} (xs : List α) (lo hi : Option Int) : List α := (xs.drop (HT.sIx xs.length 0 lo)).take (HT.sIx xs.length xs.length hi - HT.sIx xs.length 0 lo)
theorem RepAll.cut {K : PySem.W.Frag} {F : Hp} {ds : List D} {vs : List V} (r : RepAll K F ds vs) (lo hi : Option Int) : RepAll K F (Kf.cut ds lo hi) (cutV vs lo hi) := by
  unfold Kf.cut cutV
  rw [r.length]
  exact (r.drop _).take _
abbrev R3D := D → Option Int → Option Int → Ow → VD → Prop
def rSlD : R3D := fun x lo hi O Q => match deref O x with
  | .lst ds => Q (.lst (cut ds lo hi)) O
  | .tup ds => ¬ (HT.sIx ds.length 0 lo = 0 ∧ HT.sIx ds.length ds.length hi = ds.length) ∧ Q (.tup (cut ds lo hi)) O
  | .str z => z.length ≤ sizeLine ∧ Q (.str (cutS z lo hi)) O
  | _ => False
/-- .. the new list owned -/
def rSlO : R3D := fun x lo hi O Q => match deref O x with
  | .lst ds => ∀ p, O p = none → Q (.ref p) (updO O p (.lst (cut ds lo hi)))
  | _ => False
def liftR3 (M : MX) (K : PySem.W.Frag) (r : R3D) : V → Option Int → Option Int → Hp → VK → Prop := fun x lo hi H Q => ∃ F O P dx R, Gd M K F O P H ∧ Rep K F dx x ∧ r dx lo hi O R ∧ PostE M K F P R Q
theorem sd_sl : SlR X (liftR3 M X.K rSlD) := by
  intro pins s σ H x v vl vu lo hi sl Q I rx hs pl pu q
  obtain ⟨F, O, P, dx, R, g, r1, q, po⟩ := q
  have h1 := g.deref r1
  unfold rSlD at q
  revert q h1
  generalize Kf.deref O dx = ex
  intro q h1
  cases ex <;> first | exact q.elim | skip
  · simp only [RepH, Rep] at h1
    exact sl_str pins s σ H x v vl vu lo hi sl Q I rx hs pl pu ⟨_, h1, q.1, po.at g q.2 (by simp only [Rep])⟩
  · simp only [RepH, Rep] at h1
    obtain ⟨c, xs, rfl, h1, h2⟩ := h1
    refine sl_tup pins s σ H _ v vl vu lo hi sl Q I rx hs pl pu ⟨c, xs, rfl, Same.seqT g.fz h1, by rw [← h2.length]; exact q.1, fun p hp => po.tup g q.2 (h2.cut lo hi) hp⟩
  · obtain ⟨c, xs, rfl, h1, h2⟩ := h1
    exact sl_list pins s σ H _ v vl vu lo hi sl Q I rx hs pl pu ⟨c, xs, rfl, SqL.of h1, fun p hp => po.lst g q (h2.cut lo hi) hp⟩
theorem sd_slO : SlR X (liftR3 M X.K rSlO) := by
  intro pins s σ H x v vl vu lo hi sl Q I rx hs pl pu q
  obtain ⟨F, O, P, dx, R, g, r1, q, po⟩ := q
  have h1 := g.deref r1
  unfold rSlO at q
  revert q h1
  generalize Kf.deref O dx = ex
  intro q h1
  cases ex <;> first | exact q.elim | skip
  obtain ⟨c, xs, rfl, h1, h2⟩ := h1
  exact sl_list pins s σ H _ v vl vu lo hi sl Q I rx hs pl pu ⟨c, xs, rfl, SqL.of h1, fun p hp => po.lstO g q (h2.cut lo hi) hp⟩
def fSl (r : R3D) (fe : FE) (fl fh : FO) : FE := fun ρ O Q => fe ρ O fun x O1 => fl ρ O1 fun l O2 => fh ρ O2 fun u O3 => r x l u O3 Q
theorem de_sliceR {r : R3D} {lo hi : Option Expr} {fl fh : FO} (hr : SlR X (liftR3 M X.K r)) (he : DE M X e fa) (hl : DO M X lo fl) (hu : DO M X hi fh) : DE M X (.Subscript e (.Slice lo hi none p2) pos) (fSl r fa fl fh) := by
  refine peMono (pe_slice hr he hl hu) fun σ H Q h => ?_
  obtain ⟨F, O, P, ρ, R, g, en, q, po⟩ := h
  refine ⟨F, O, P, ρ, _, g, en, q, fun x O1 F1 H1 v q1 s1 g1 r1 => ?_⟩
  refine ⟨F1, O1, P, ρ, _, g1, en.mono s1, q1, fun l O2 F2 H2 q2 s2 g2 => ?_⟩
  refine ⟨F2, O2, P, ρ, _, g2, en.mono (s1.trans s2), q2, fun u O3 F3 H3 q3 s3 g3 => ?_⟩
  exact ⟨F3, O3, P, x, R, g3, r1.mono (s2.trans s3), q3, po.more (s1.trans (s2.trans s3))⟩
theorem de_slice {lo hi : Option Expr} {fl fh : FO} (he : DE M X e fa) (hl : DO M X lo fl) (hu : DO M X hi fh) : DE M X (.Subscript e (.Slice lo hi none p2) pos) (fSl rSlD fa fl fh) := de_sliceR sd_sl he hl hu
theorem de_sliceO {lo hi : Option Expr} {fl fh : FO} (he : DE M X e fa) (hl : DO M X lo fl) (hu : DO M X hi fh) : DE M X (.Subscript e (.Slice lo hi none p2) pos) (fSl rSlO fa fl fh) := de_sliceR sd_slO he hl hu
/-! ### -a -/
def rNeg : R1D := fun x O Q => match x with
  | .int i => Q (.int (-i)) O
  | _ => False
def fUn (r : R1D) (f : FE) : FE := fun ρ O Q => f ρ O fun x O1 => r x O1 Q
theorem de_neg (ha : DE M X a fa) : DE M X (.UnaryOp .USub a pos) (fUn rNeg fa) := by
  refine peMono (pe_un un_neg ha) fun σ H Q h => ?_
  obtain ⟨F, O, P, ρ, R, g, en, q, po⟩ := h
  refine ⟨F, O, P, ρ, _, g, en, q, fun x O1 F1 H1 v q1 s1 g1 r1 => ?_⟩
  cases x <;> first | exact q1.elim | skip
  simp only [Rep] at r1
  exact ⟨_, r1, (po.more s1).at g1 q1 (by simp only [Rep])⟩
/-! ### calls of built-ins -/
abbrev RAD := List D → Ow → VD → Prop
abbrev CallD (M : MX) (X : Cx) (f : Value) (r : RAD) : Prop := CallR X f (liftRA M X.K r)
def fCB (r : RAD) (fr : FA) : FE := fun ρ O Q => fr ρ O fun ds O1 => r ds O1 Q
theorem fCB_lift {r : RAD} : ∀ σ H Q, liftE M X.K (fCB r fr) σ H Q → tCB (liftRA M X.K r) (liftA M X.K fr) σ H Q := by
  intro σ H Q h
  obtain ⟨F, O, P, ρ, R, g, en, q, po⟩ := h
  refine ⟨F, O, P, ρ, _, g, en, q, fun ds O1 F1 H1 vs q1 s1 g1 r1 => ?_⟩
  exact ⟨F1, O1, P, ds, R, g1, r1, q1, po.more s1⟩
theorem de_callB {id : String} {r : RAD} {x : Str} {p : Pos} (hc : CallD M X (.builtin id) r) (hg : Gl X x) (hm : X.mg x = none) (hv : bootBuiltins x = some (.builtin id)) (ha : DA M X (e :: es) fr) (hn : x ≠ "__name__" := by decide) (hdb : (x == ("__debug__" : Str)) = false := by decide)
    (he : starEach (e :: es) X.env = (false, eval e X.env) :: starEach es X.env := by rfl) (hpl : (backTo pos (starEach es X.env)).any (·.1) = false := by rfl) : DE M X (.Call (.Name x p) (e :: es) [] pos) (fCB r fr) :=
  peMono (pe_callB hc hg hm hv ha hn hdb he hpl) fCB_lift
theorem de_callTy {T : String} {r : RAD} {x : Str} {p : Pos} (hc : CallD M X (.type T) r) (hg : Gl X x) (hm : X.mg x = none) (hv : bootBuiltins x = some (.type T)) (ha : DA M X (e :: es) fr) (hn : x ≠ "__name__" := by decide) (hdb : (x == ("__debug__" : Str)) = false := by decide)
    (he : starEach (e :: es) X.env = (false, eval e X.env) :: starEach es X.env := by rfl) (hpl : (backTo pos (starEach es X.env)).any (·.1) = false := by rfl) : DE M X (.Call (.Name x p) (e :: es) [] pos) (fCB r fr) :=
  peMono (pe_callTy hc hg hm hv ha hn hdb he hpl) fCB_lift
theorem callD_of {f : Value} {r : RAD}
    (h : ∀ (F P H : Hp) (O : Ow) (xs : List V) (ds : List D) (R : VD) (Q : VK), Gd M X.K F O P H → RepAll X.K F ds xs → r ds O R → PostE M X.K F P R Q → ∃ r0, CallR X f r0 ∧ r0 xs H Q) : CallD M X f r := by
  intro pins s σ H xs us Q I rx q
  obtain ⟨F, O, P, ds, R, g, r1, q, po⟩ := q
  obtain ⟨r0, o, z⟩ := h F P H O xs ds R Q g r1 q po
  exact o pins s σ H xs us Q I rx z
/-- len -/
def rLenD : RAD := fun ds O Q => match ds with
  | [x] => match deref O x with
    | .lst ds => Q (.int ds.length) O
    | .tup ds => Q (.int ds.length) O
    | .str z => z.length ≤ sizeLine ∧ Q (.int z.length) O
    | .scr ns => Q (.int ns.length) O
    | _ => False
  | _ => False
theorem RepAll.one' {K : PySem.W.Frag} {F : Hp} {d : D} {vs : List V} (h : RepAll K F [d] vs) : ∃ v, vs = [v] ∧ Rep K F d v := by
  simp only [RepAll] at h
  obtain ⟨v, r, rfl, h1, rfl⟩ := h
  exact ⟨v, rfl, h1⟩
theorem RepAll.two' {K : PySem.W.Frag} {F : Hp} {d e : D} {vs : List V} (h : RepAll K F [d, e] vs) : ∃ v w, vs = [v, w] ∧ Rep K F d v ∧ Rep K F e w := by
  simp only [RepAll] at h
  obtain ⟨v, r, rfl, h1, w, r2, rfl, h2, rfl⟩ := h
  exact ⟨v, w, rfl, h1, h2⟩
theorem cd_len : CallD M X (.builtin "len") rLenD := by
  refine callD_of fun F P H O xs ds R Q g r1 q po => ?_
  match ds, q with
  | [x], q =>
    obtain ⟨v, rfl, r1'⟩ := r1.one'
    have h1 := g.deref r1'
    unfold rLenD at q
    dsimp only at q
    revert q h1
    generalize Kf.deref O x = ex
    intro q h1
    cases ex <;> first | exact q.elim | skip
    · simp only [RepH, Rep] at h1
      exact ⟨_, call_len_str, _, by rw [h1], q.1, po.at g q.2 (by simp only [Rep])⟩
    · simp only [RepH, Rep] at h1
      obtain ⟨c, xs, rfl, h1, h2⟩ := h1
      exact ⟨_, call_len_seq, c, xs, rfl, .inr (Same.seqT g.fz h1), po.at g q (by simp only [Rep]; rw [h2.length])⟩
    · obtain ⟨c, xs, rfl, h1, h2⟩ := h1
      exact ⟨_, call_len_seq, c, xs, rfl, .inl (SqL.of h1), po.at g q (by simp only [Rep]; rw [h2.length])⟩
    · simp only [RepH, Rep] at h1
      obtain ⟨c, rfl, h1⟩ := h1
      exact ⟨_, call_len_seq, c, _, rfl, .inl (g.fz.seq h1), po.at g q (by simp only [Rep]; rw [List.length_map])⟩
/-- max, min of two ints -/
def rMax2 : RAD := fun ds O Q => match ds with
  | [.int i, .int j] => Q (.int (if j > i then j else i)) O
  | _ => False
def rMin2 : RAD := fun ds O Q => match ds with
  | [.int i, .int j] => Q (.int (if j < i then j else i)) O
  | _ => False
theorem cd_max2 (hc : X.calm = true) : CallD M X (.builtin "max") rMax2 := by
  refine callD_of fun F P H O xs ds R Q g r1 q po => ?_
  unfold rMax2 at q
  split at q
  · obtain ⟨v, w, rfl, h1, h2⟩ := r1.two'
    simp only [Rep] at h1 h2
    exact ⟨_, call_max2 hc, _, _, by rw [h1, h2], po.at g q (by simp only [Rep])⟩
  · exact q.elim
theorem cd_min2 (hc : X.calm = true) : CallD M X (.builtin "min") rMin2 := by
  refine callD_of fun F P H O xs ds R Q g r1 q po => ?_
  unfold rMin2 at q
  split at q
  · obtain ⟨v, w, rfl, h1, h2⟩ := r1.two'
    simp only [Rep] at h1 h2
    exact ⟨_, call_min2 hc, _, _, by rw [h1, h2], po.at g q (by simp only [Rep])⟩
  · exact q.elim
/-- int(i), int(b); str(i) -/
def rInt1 : RAD := fun ds O Q => match ds with
  | [.int i] => Q (.int i) O
  | [.bl k] => Q (.int (if k then 1 else 0)) O
  | _ => False
theorem cd_int1 : CallD M X (.type "int") rInt1 := by
  refine callD_of fun F P H O xs ds R Q g r1 q po => ?_
  unfold rInt1 at q
  split at q
  · obtain ⟨v, rfl, h1⟩ := r1.one'
    simp only [Rep] at h1
    exact ⟨_, call_int1, .inl ⟨_, by rw [h1], po.at g q (by simp only [Rep])⟩⟩
  · obtain ⟨v, rfl, h1⟩ := r1.one'
    simp only [Rep] at h1
    exact ⟨_, call_int1, .inr ⟨_, by rw [h1], po.at g q (by simp only [Rep])⟩⟩
  · exact q.elim
def rStr1 : RAD := fun ds O Q => match ds with
  | [.int i] => i.natAbs.log2 < 1920 ∧ Q (.str (toString i)) O
  | _ => False
theorem cd_str1 : CallD M X (.type "str") rStr1 := by
  refine callD_of fun F P H O xs ds R Q g r1 q po => ?_
  unfold rStr1 at q
  split at q
  · obtain ⟨v, rfl, h1⟩ := r1.one'
    simp only [Rep] at h1
    exact ⟨_, call_str_int, _, by rw [h1], q.1, po.at g q.2 (by simp only [Rep])⟩
  · exact q.elim
/-- list(x): a new list; tuple(x) -/
def rList1 : RAD := fun ds O Q => match ds with
  | [x] => match deref O x with
    | .lst ds => Q (.lst ds) O
    | .tup ds => Q (.lst ds) O
    | _ => False
  | _ => False
def rList1O : RAD := fun ds O Q => match ds with
  | [x] => match deref O x with
    | .lst ds => ∀ p, O p = none → Q (.ref p) (updO O p (.lst ds))
    | .tup ds => ∀ p, O p = none → Q (.ref p) (updO O p (.lst ds))
    | _ => False
  | _ => False
def rTup1 : RAD := fun ds O Q => match ds with
  | [x] => match deref O x with
    | .lst ds => Q (.tup ds) O
    | .tup ds => Q (.tup ds) O
    | _ => False
  | _ => False
theorem cd_list1 : CallD M X (.type "list") rList1 := by
  refine callD_of fun F P H O xs ds R Q g r1 q po => ?_
  match ds, q with
  | [x], q =>
    obtain ⟨v, rfl, r1'⟩ := r1.one'
    have h1 := g.deref r1'
    unfold rList1 at q
    dsimp only at q
    revert q h1
    generalize Kf.deref O x = ex
    intro q h1
    cases ex <;> first | exact q.elim | skip
    · simp only [RepH, Rep] at h1
      obtain ⟨c, xs, rfl, h1, h2⟩ := h1
      exact ⟨_, call_list_of, c, xs, rfl, .inr (Same.seqT g.fz h1), fun p hp => po.lst g q h2 hp⟩
    · obtain ⟨c, xs, rfl, h1, h2⟩ := h1
      exact ⟨_, call_list_of, c, xs, rfl, .inl (SqL.of h1), fun p hp => po.lst g q h2 hp⟩
theorem cd_list1O : CallD M X (.type "list") rList1O := by
  refine callD_of fun F P H O xs ds R Q g r1 q po => ?_
  match ds, q with
  | [x], q =>
    obtain ⟨v, rfl, r1'⟩ := r1.one'
    have h1 := g.deref r1'
    unfold rList1O at q
    dsimp only at q
    revert q h1
    generalize Kf.deref O x = ex
    intro q h1
    cases ex <;> first | exact q.elim | skip
    · simp only [RepH, Rep] at h1
      obtain ⟨c, xs, rfl, h1, h2⟩ := h1
      exact ⟨_, call_list_of, c, xs, rfl, .inr (Same.seqT g.fz h1), fun p hp => po.lstO g q h2 hp⟩
    · obtain ⟨c, xs, rfl, h1, h2⟩ := h1
      exact ⟨_, call_list_of, c, xs, rfl, .inl (SqL.of h1), fun p hp => po.lstO g q h2 hp⟩
theorem cd_tup1 : CallD M X (.type "tuple") rTup1 := by
  refine callD_of fun F P H O xs ds R Q g r1 q po => ?_
  match ds, q with
  | [x], q =>
    obtain ⟨v, rfl, r1'⟩ := r1.one'
    have h1 := g.deref r1'
    unfold rTup1 at q
    dsimp only at q
    revert q h1
    generalize Kf.deref O x = ex
    intro q h1
    cases ex <;> first | exact q.elim | skip
    · have h0 := h1
      simp only [RepH, Rep] at h1
      obtain ⟨c, xs, rfl, h1, h2⟩ := h1
      exact ⟨_, call_tuple_of, c, xs, rfl, .inr ⟨Same.seqT g.fz h1, po.at g q h0⟩⟩
    · obtain ⟨c, xs, rfl, h1, h2⟩ := h1
      exact ⟨_, call_tuple_of, c, xs, rfl, .inl ⟨SqL.of h1, fun p hp => po.tup g q h2 hp⟩⟩
/-- sum of a list of ints -/
def asInts : List D → Option (List Int)
  | [] => some []
  | .int i :: ds => (asInts ds).map (i :: ·)
  | _ :: _ => none
theorem asInts_map (ns : List Int) : asInts (ns.map D.int) = some ns := by
  induction ns with
  | nil => rfl
  | cons n ns ih => rw [List.map_cons, asInts, ih]; rfl
theorem of_asInts : ∀ {ds : List D} {ns : List Int}, asInts ds = some ns → ds = ns.map D.int
  | [], ns, h => by cases h; rfl
  | d :: ds, ns, h => by
    cases d <;> simp only [asInts] at h <;> first | cases h | skip
    obtain ⟨m, h1, rfl⟩ := Option.map_eq_some_iff.mp h
    rw [of_asInts h1]; rfl
def rSumD : RAD := fun ds O Q => match ds with
  | [x] => match deref O x with
    | .lst ds => match asInts ds with
      | some ns => Q (.int ns.sum) O
      | none => False
    | _ => False
  | _ => False
theorem cd_sum (hc : X.calm = true) : CallD M X (.builtin "sum") rSumD := by
  refine callD_of fun F P H O xs ds R Q g r1 q po => ?_
  match ds, q with
  | [x], q =>
    obtain ⟨v, rfl, r1'⟩ := r1.one'
    have h1 := g.deref r1'
    unfold rSumD at q
    dsimp only at q
    revert q h1
    generalize Kf.deref O x = ex
    intro q h1
    cases ex <;> first | exact q.elim | skip
    rename_i ds
    obtain ⟨c, xs, rfl, h1, h2⟩ := h1
    dsimp only at q
    cases e : asInts ds with
    | none => rw [e] at q; exact q.elim
    | some ns =>
      rw [e] at q
      rw [of_asInts e] at h2
      have e3 := h2.ints
      subst e3
      exact ⟨_, cr_sum hc, c, ns, rfl, SqL.of h1, po.at g q (by simp only [Rep])⟩
/-- divmod: a new tuple -/
def rDivmod : RAD := fun ds O Q => match ds with
  | [.int i, .int j] => CDv i j ∧ Q (.tup [.int (i / j), .int (i % j)]) O
  | _ => False
theorem call_divmodW : CallR X (.builtin "divmod") (fun xs H Q => ∃ i j, xs = [.int i, .int j] ∧ CDv i j ∧ ∀ p, H p = none → Q (.ref p) (upd H p (.tup [.int (i / j), .int (i % j)]))) := by
  intro pins s σ H xs us Q I r h
  obtain ⟨i, j, rfl, c, q⟩ := h
  obtain ⟨u, w', rfl, ⟨t, rfl⟩, ⟨t', rfl⟩⟩ := vals2 r
  have h1 : (0 : Int) < j := c.1
  refine divmod_int (by omega) ?_ (.inl (PyProof.noPylong_of_log2 c.w.2))
  rw [Int.fdiv_eq_ediv_of_nonneg i (by omega), Int.fmod_eq_emod_of_nonneg i (by omega)]
  have hn : H s.heap.objs.size = none := I.hok.fresh (Nat.le_refl _)
  refine ⟨.ref s.heap.objs.size, _, ?_, rfl, q _ hn⟩
  refine I.laid (fun b o e => Heap.get?_push_of_some _ e) (Nat.le_refl _) ⟨show 2 ≤ sizeLine by decide, [.int (i / j) s.toks, .int (i % j) (s.toks + 1)], .cons ⟨_, rfl⟩ (.cons ⟨_, rfl⟩ .nil), ?_⟩
  exact ⟨_, Heap.get?_push_size s.heap rfl, rfl, 0, rfl⟩
theorem cd_divmod : CallD M X (.builtin "divmod") rDivmod := by
  refine callD_of fun F P H O xs ds R Q g r1 q po => ?_
  unfold rDivmod at q
  split at q
  · obtain ⟨v, w, rfl, h1, h2⟩ := r1.two'
    simp only [Rep] at h1 h2
    subst h1 h2
    exact ⟨_, call_divmodW, _, _, rfl, q.1, fun p hp => po.tup g q.2 (.cons (by simp only [Rep]) (.one (by simp only [Rep]))) hp⟩
  · exact q.elim
/-! ### isinstance -/
def tyNm (O : Ow) : D → String
  | .non => "NoneType"
  | .bl _ => "bool"
  | .int _ => "int"
  | .str _ => "str"
  | .tup _ => "tuple"
  | .lst _ => "list"
  | .edic => "dict"
  | .ref a => match O a with
    | some (.lst _) => "list"
    | some .pool => "list"
    | some (.dic _) => "dict"
    | _ => ""
  | _ => ""
def insOf (t n : String) : Bool := t == n || (t == "bool" && n == "int")
def insTy : List String := ["NoneType", "bool", "int", "str", "tuple", "list", "dict"]
def insCl : List String := ["bool", "int", "str", "tuple", "list", "dict"]
theorem ins_kit : (insTy.all fun t => insCl.all fun n => decide (kitB t n = some (insOf t n))) = true := by decide +kernel
theorem ins_kit' {t n : String} (ht : t ∈ insTy) (hn : n ∈ insCl) : kitB t n = some (insOf t n) := by
  have h := List.all_eq_true.mp (List.all_eq_true.mp ins_kit t ht) n hn
  exact of_decide_eq_true h
def rIsiD : RAD := fun ds O Q => match ds with
  | [x, .ty n] => insCl.contains n = true ∧ insTy.contains (tyNm O x) = true ∧ Q (.bl (insOf (tyNm O x) n)) O
  | _ => False
theorem tyX_of {K : PySem.W.Frag} {F P H : Hp} {O : Ow} {d : D} {v : V} (g : Gd M K F O P H) (r : Rep K F d v) (h : insTy.contains (tyNm O d) = true) : TyX K H v (.type (tyNm O d)) := by
  cases d with
  | non => simp only [Rep] at r; subst r; exact .base .non
  | bl b => simp only [Rep] at r; subst r; exact .base (.bl b)
  | int i => simp only [Rep] at r; subst r; exact .base (.int i)
  | str x => simp only [Rep] at r; subst r; exact .base (.str x)
  | tup ds =>
    simp only [Rep] at r
    obtain ⟨a, xs, rfl, h1, _⟩ := r
    rcases h1 with (h1 | ⟨o, h1⟩) | ⟨o, its, n, h1, h2, _⟩
    · exact .base (.tup (g.fz _ _ h1))
    · exact .fTuple (g.fz _ _ h1)
    · exact .kTuple h1 h2
  | lst ds =>
    simp only [Rep] at r
    obtain ⟨a, xs, rfl, h1, _⟩ := r
    exact .base (.lst (g.fz _ _ h1))
  | edic =>
    simp only [Rep] at r
    obtain ⟨a, rfl, h1⟩ := r
    exact .base (.dK (g.fz _ _ h1))
  | ref a =>
    simp only [Rep] at r
    subst r
    cases e : O a with
    | none =>
      have z : tyNm O (.ref a) = "" := by simp only [tyNm, e]
      rw [z] at h; exact absurd h (by decide)
    | some c =>
      have q := (g.ow a c e).2.2
      cases c with
      | lst ds =>
        have z : tyNm O (.ref a) = "list" := by simp only [tyNm, e]
        rw [z]; obtain ⟨vs, q, _⟩ := q; exact .base (.lst q)
      | pool =>
        have z : tyNm O (.ref a) = "list" := by simp only [tyNm, e]
        rw [z]; obtain ⟨x, y, q, _⟩ := q; exact .base (.lst q)
      | dic kvs =>
        have z : tyNm O (.ref a) = "dict" := by simp only [tyNm, e]
        rw [z]; obtain ⟨vs, q, _⟩ := q; exact .base (.dK q)
      | dicL kvs o =>
        have z : tyNm O (.ref a) = "" := by simp only [tyNm, e]
        rw [z] at h; exact absurd h (by decide)
      | exc _ _ =>
        have z : tyNm O (.ref a) = "" := by simp only [tyNm, e]
        rw [z] at h; exact absurd h (by decide)
      | ins _ _ =>
        have z : tyNm O (.ref a) = "" := by simp only [tyNm, e]
        rw [z] at h; exact absurd h (by decide)
  | ty n => simp [tyNm, insTy] at h
  | scr ns => simp [tyNm, insTy] at h
theorem cd_isi : CallD M X (.builtin "isinstance") rIsiD := by
  refine callD_of fun F P H O xs ds R Q g r1 q po => ?_
  unfold rIsiD at q
  split at q
  · obtain ⟨v, w, rfl, h1, h2⟩ := r1.two'
    simp only [Rep] at h2
    subst h2
    obtain ⟨q1, q2, q3⟩ := q
    exact ⟨_, call_isi, _, _, _, _, _, rfl, .ty _, tyX_of g h1 q2, kit_ty (ins_kit' (by simpa using q2) (by simpa using q1)), po.at g q3 (by simp only [Rep])⟩
  · exact q.elim
/-! ### methods of built-in types -/
abbrev RMD := D → List D → Ow → VD → Prop
def liftRM (M : MX) (K : PySem.W.Frag) (r : RMD) : V → List V → Hp → VK → Prop := fun x xs H Q => ∃ F O P dx ds R, Gd M K F O P H ∧ Rep K F dx x ∧ RepAll K F ds xs ∧ r dx ds O R ∧ PostE M K F P R Q
abbrev MtD (M : MX) (X : Cx) (id : String) (r : RMD) : Prop := MtR X id (liftRM M X.K r)
def tyOk (T : String) (O : Ow) (d : D) : Bool := T == "list" && tyNm O d == "list" || T == "str" && tyNm O d == "str"
theorem tyV_of {K : PySem.W.Frag} {F P H : Hp} {O : Ow} {d : D} {v : V} {T : String} (g : Gd M K F O P H) (r : Rep K F d v) (h : tyOk T O d = true) : tyV K T v H := by
  unfold tyOk at h
  rw [Bool.or_eq_true, Bool.and_eq_true, Bool.and_eq_true] at h
  rcases h with ⟨h1, h2⟩ | ⟨h1, h2⟩
  · have e1 : T = "list" := by simpa using h1
    have e2 : tyNm O d = "list" := by simpa using h2
    subst e1
    cases d <;> first | (simp [tyNm] at e2; done) | skip
    · simp only [Rep] at r
      obtain ⟨a, xs, rfl, q, _⟩ := r
      exact Or.inl ⟨rfl, xs, SqL.of (g.fz _ _ q)⟩
    · rename_i a
      simp only [Rep] at r
      subst r
      cases e : O a with
      | none => simp [tyNm, e] at e2
      | some c =>
        have q := (g.ow a c e).2.2
        cases c with
        | lst ds => obtain ⟨vs, q, _⟩ := q; exact Or.inl ⟨rfl, vs, SqL.of q⟩
        | pool => obtain ⟨x, y, q, _⟩ := q; exact Or.inl ⟨rfl, _, SqL.of q⟩
        | dic _ => simp [tyNm, e] at e2
        | dicL _ _ => simp [tyNm, e] at e2
        | exc _ _ => simp [tyNm, e] at e2
        | ins _ _ => simp [tyNm, e] at e2
  · have e1 : T = "str" := by simpa using h1
    have e2 : tyNm O d = "str" := by simpa using h2
    subst e1
    cases d <;> first | (simp [tyNm] at e2; done) | skip
    · simp only [Rep] at r; subst r; rfl
    · rename_i a
      cases e : O a with
      | none => simp [tyNm, e] at e2
      | some c => cases c <;> simp [tyNm, e] at e2
def fBM (T : String) (r : RMD) (fo : FE) (fr : FA) : FE := fun ρ O Q => fo ρ O fun x O1 => tyOk T O1 x = true ∧ fr ρ O1 fun ds O2 => r x ds O2 Q
def fBM0 (T : String) (r : RMD) (fo : FE) : FE := fun ρ O Q => fo ρ O fun x O1 => tyOk T O1 x = true ∧ r x [] O1 Q
variable {o : Expr} {fo : FE} {name : Str} {apos cpos : Pos} {T id : String} {r : RMD}
theorem de_bm (pa : PlainAttrs T) (slot : Slot T name id) (hty : typeOf (.builtin id) = pure (.type "method_descriptor")) (hm : MtD M X id r) (ho : DE M X o fo) (ha : DA M X (e :: es) fr)
    (hbase : attributeBase o name X.env (eval o X.env) = eval o X.env := by rfl)
    (hfew : ((backTo cpos (starEach (e :: es) X.env)).all (fun x => !x.1) && (backToKw cpos (keywordEach [] X.env)).all (fun x => x.1.isSome)
      && decide ((e :: es).length + ([] : List Keyword).length + (if ([] : List Keyword).isEmpty then 0 else 1) < 30)) = true := by rfl)
    (hline : (apos.endLine == cpos.line) = true := by rfl) (hs : starEach (e :: es) X.env = (false, eval e X.env) :: starEach es X.env := by rfl) (hplain : (backTo cpos (starEach es X.env)).any (·.1) = false := by rfl) :
    DE M X (.Call (.Attribute o name apos) (e :: es) [] cpos) (fBM T r fo fr) := by
  refine peMono (pe_bm pa slot hty hm ho ha hbase hfew hline hs hplain) fun σ H Q h => ?_
  obtain ⟨F, O, P, ρ, R, g, en, q, po⟩ := h
  refine ⟨F, O, P, ρ, _, g, en, q, fun x O1 F1 H1 v q1 s1 g1 r1 => ⟨tyV_of g1 r1 q1.1, ?_⟩⟩
  refine ⟨F1, O1, P, ρ, _, g1, en.mono s1, q1.2, fun ds O2 F2 H2 vs q2 s2 g2 r2 => ?_⟩
  exact ⟨F2, O2, P, x, ds, R, g2, r1.mono s2, r2, q2, po.more (s1.trans s2)⟩
theorem de_bm0 (pa : PlainAttrs T) (slot : Slot T name id) (hty : typeOf (.builtin id) = pure (.type "method_descriptor")) (hm : MtD M X id r) (ho : DE M X o fo)
    (hbase : attributeBase o name X.env (eval o X.env) = eval o X.env := by rfl) (hline : (apos.endLine == cpos.line) = true := by rfl) : DE M X (.Call (.Attribute o name apos) [] [] cpos) (fBM0 T r fo) := by
  refine peMono (pe_bm0 pa slot hty hm ho hbase hline) fun σ H Q h => ?_
  obtain ⟨F, O, P, ρ, R, g, en, q, po⟩ := h
  refine ⟨F, O, P, ρ, _, g, en, q, fun x O1 F1 H1 v q1 s1 g1 r1 => ⟨tyV_of g1 r1 q1.1, ?_⟩⟩
  exact ⟨F1, O1, P, x, [], R, g1, r1, .nil, q1.2, po.more s1⟩
theorem mtD_of {id : String} {r : RMD}
    (h : ∀ (F P H : Hp) (O : Ow) (x : V) (xs : List V) (dx : D) (ds : List D) (R : VD) (Q : VK), Gd M X.K F O P H → Rep X.K F dx x → RepAll X.K F ds xs → r dx ds O R → PostE M X.K F P R Q → ∃ r0, MtR X id r0 ∧ r0 x xs H Q) : MtD M X id r := by
  intro pins s σ H x xs v us Q I rx rxs q
  obtain ⟨F, O, P, dx, ds, R, g, r1, r2, q, po⟩ := q
  obtain ⟨r0, o, z⟩ := h F P H O x xs dx ds R Q g r1 r2 q po
  exact o pins s σ H x xs v us Q I rx rxs z
/-- xs.append(y), an owned list -/
def rAppendD : RMD := fun x ds O Q => match x, ds with
  | .ref a, [y] => match O a with
    | some (.lst xs) => xs.length < sizeLine ∧ Q .non (updO O a (.lst (xs ++ [y])))
    | _ => False
  | _, _ => False
theorem md_append : MtD M X "list.append" rAppendD := by
  refine mtD_of fun F P H O x xs dx ds R Q g r1 r2 q po => ?_
  unfold rAppendD at q
  split at q
  · rename_i a y
    obtain ⟨v, rfl, r2'⟩ := r2.one'
    simp only [Rep] at r1
    subst r1
    cases e : O a with
    | none => rw [e] at q; exact q.elim
    | some c =>
      rw [e] at q
      cases c with
      | pool => exact q.elim
      | dic _ => exact q.elim
      | dicL _ _ => exact q.elim
      | exc _ _ => exact q.elim
      | ins _ _ => exact q.elim
      | lst zs =>
        obtain ⟨_, _, vs, h1, h2⟩ := g.ow a _ e
        refine ⟨_, mt_append, a, vs, v, rfl, rfl, h1, by rw [← h2.length]; exact q.1, ?_⟩
        exact po .non _ F _ _ q.2 (Same.refl _) (g.setO e ⟨_, upd_same, h2.append (.one r2')⟩) (by simp only [Rep])
  · exact q.elim
/-- xs.extend(ys) -/
def rExtendD : RMD := fun x ds O Q => match x, ds with
  | .ref a, [y] => match O a, deref O y with
    | some (.lst xs), .lst ys => xs.length + ys.length ≤ sizeLine ∧ Q .non (updO O a (.lst (xs ++ ys)))
    | _, _ => False
  | _, _ => False
theorem md_extend : MtD M X "list.extend" rExtendD := by
  refine mtD_of fun F P H O x xs dx ds R Q g r1 r2 q po => ?_
  unfold rExtendD at q
  split at q
  · rename_i a y
    obtain ⟨v, rfl, r2'⟩ := r2.one'
    simp only [Rep] at r1
    subst r1
    have h2 := g.deref r2'
    revert q h2
    generalize Kf.deref O y = ey
    intro q h2
    cases e : O a with
    | none => rw [e] at q; exact q.elim
    | some c =>
      rw [e] at q
      cases c with
      | pool => exact q.elim
      | dic _ => exact q.elim
      | dicL _ _ => exact q.elim
      | exc _ _ => exact q.elim
      | ins _ _ => exact q.elim
      | lst zs =>
        cases ey <;> first | exact q.elim | skip
        obtain ⟨b, ws, rfl, h3, h4⟩ := h2
        obtain ⟨_, _, vs, h5, h6⟩ := g.ow a _ e
        refine ⟨_, mt_extend, a, b, vs, ws, rfl, rfl, h5, h3, by rw [← h6.length, ← h4.length]; exact q.1, ?_⟩
        exact po .non _ F _ _ q.2 (Same.refl _) (g.setO e ⟨_, upd_same, h6.append h4⟩) (by simp only [Rep])
  · exact q.elim
/-- xs.pop() -/
def rPopD : RMD := fun x ds O Q => match x, ds with
  | .ref a, [] => match O a with
    | some (.lst xs) => match xs[xs.length - 1]? with
      | some d => Q d (updO O a (.lst xs.dropLast))
      | none => False
    | _ => False
  | _, _ => False
theorem RepAll.dropLast {K : PySem.W.Frag} {F : Hp} {ds : List D} {vs : List V} (h : RepAll K F ds vs) : RepAll K F ds.dropLast vs.dropLast := by
  rw [List.dropLast_eq_take, List.dropLast_eq_take, h.length]
  exact h.take _
theorem md_pop : MtD M X "list.pop" rPopD := by
  refine mtD_of fun F P H O x xs dx ds R Q g r1 r2 q po => ?_
  unfold rPopD at q
  split at q
  · rename_i a
    simp only [RepAll] at r2
    subst r2
    simp only [Rep] at r1
    subst r1
    cases e : O a with
    | none => rw [e] at q; exact q.elim
    | some c =>
      rw [e] at q
      cases c with
      | pool => exact q.elim
      | dic _ => exact q.elim
      | dicL _ _ => exact q.elim
      | exc _ _ => exact q.elim
      | ins _ _ => exact q.elim
      | lst zs =>
        dsimp only at q
        obtain ⟨_, _, vs, h1, h2⟩ := g.ow a _ e
        cases e2 : zs[zs.length - 1]? with
        | none => rw [e2] at q; exact q.elim
        | some d =>
          rw [e2] at q
          obtain ⟨v, e3, r3⟩ := h2.get e2
          refine ⟨_, mt_pop, a, vs, v, rfl, rfl, h1, by rw [← h2.length]; exact e3, ?_⟩
          exact po d _ F _ _ q (Same.refl _) (g.setO e ⟨_, upd_same, h2.dropLast⟩) r3
  · exact q.elim
/-- sep.join(xs) -/
def asStrs : List D → Option (List Str)
  | [] => some []
  | .str i :: ds => (asStrs ds).map (i :: ·)
  | _ :: _ => none
theorem asStrs_map (ns : List Str) : asStrs (ns.map D.str) = some ns := by
  induction ns with
  | nil => rfl
  | cons n ns ih => rw [List.map_cons, asStrs, ih]; rfl
theorem of_asStrs : ∀ {ds : List D} {ns : List Str}, asStrs ds = some ns → ds = ns.map D.str
  | [], ns, h => by cases h; rfl
  | d :: ds, ns, h => by
    cases d <;> simp only [asStrs] at h <;> first | cases h | skip
    obtain ⟨m, h1, rfl⟩ := Option.map_eq_some_iff.mp h
    rw [of_asStrs h1]; rfl
end
end Kf
namespace Kf
open PySem PySem.Spec L2
open PyProof.Rows hiding St
variable {M : MX}

/-! ### statements -/
structure DEnds where
  nx : DEnv → Ow → Prop
  rt : VD
  bk : DEnv → Ow → Prop := fun _ _ => False
  ct : DEnv → Ow → Prop := fun _ _ => False
abbrev GS := DEnds → DEnv → Ow → Prop
def PostN (M : MX) (K : PySem.W.Frag) (F P : Hp) (R : DEnv → Ow → Prop) (Q : L2.St → Hp → Prop) : Prop := ∀ ρ O' F' H' σ, R ρ O' → Same F F' → Gd M K F' O' P H' → EnvOk K F' ρ σ → Q σ H'
structure PostS (M : MX) (K : PySem.W.Frag) (F P : Hp) (R : DEnds) (D : Ends) : Prop where
  nx : PostN M K F P R.nx D.nx
  rt : PostE M K F P R.rt D.rt
  bk : PostN M K F P R.bk D.bk
  ct : PostN M K F P R.ct D.ct
theorem PostN.more {K : PySem.W.Frag} {F F' P : Hp} {R : DEnv → Ow → Prop} {Q : L2.St → Hp → Prop} (po : PostN M K F P R Q) (s : Same F F') : PostN M K F' P R Q := fun ρ O' F2 H' σ q s2 g en => po ρ O' F2 H' σ q (s.trans s2) g en
theorem PostS.more {K : PySem.W.Frag} {F F' P : Hp} {R : DEnds} {D : Ends} (po : PostS M K F P R D) (s : Same F F') : PostS M K F' P R D := ⟨po.nx.more s, po.rt.more s, po.bk.more s, po.ct.more s⟩
def liftS (M : MX) (K : PySem.W.Frag) (g : GS) : TS := fun D σ H => ∃ F O P ρ R, Gd M K F O P H ∧ EnvOk K F ρ σ ∧ g R ρ O ∧ PostS M K F P R D
abbrev DS (M : MX) (X : Cx) (st : Stmt) (g : GS) : Prop := PS X st (liftS M X.K g)
abbrev DSs (M : MX) (X : Cx) (st : List Stmt) (g : GS) : Prop := PSs X st (liftS M X.K g)

section
variable {X : Cx} {st : Stmt} {rest : List Stmt} {g u : GS} {e c : Expr} {fe : FE} {ft : FT} {pos : Pos}
def gNext : GS := fun R ρ O => R.nx ρ O
def gSeq (g u : GS) : GS := fun R ρ O => g { R with nx := u R } ρ O
theorem dss_nil : DSs M X [] gNext := pssMono pss_nil fun D σ H h => by
  obtain ⟨F, O, P, ρ, R, g, en, q, po⟩ := h
  exact po.nx ρ O F H σ q (Same.refl _) g en
theorem dss_cons (h1 : DS M X st g) (h2 : DSs M X rest u) : DSs M X (st :: rest) (gSeq g u) := pssMono (pss_cons h1 h2) fun D σ H h => by
  obtain ⟨F, O, P, ρ, R, g, en, q, po⟩ := h
  exact ⟨F, O, P, ρ, { R with nx := u R }, g, en, q, fun ρ' O' F' H' σ' q' s g' en' => ⟨F', O', P, ρ', R, g', en', q', po.more s⟩, po.rt, po.bk, po.ct⟩
theorem dss_one (h1 : DS M X st g) : DSs M X [st] g := pss_one h1
theorem ds_pass : DS M X (.Pass pos) gNext := psMono ps_pass fun D σ H h => by
  obtain ⟨F, O, P, ρ, R, g, en, q, po⟩ := h
  exact po.nx ρ O F H σ q (Same.refl _) g en
/-- what is never come to -/
def gNever : GS := fun _ _ _ => False
theorem ds_never : DS M X st gNever := psMono ps_never fun D σ H h => by
  obtain ⟨F, O, P, ρ, R, g, en, q, po⟩ := h
  exact q
def gBreak : GS := fun R ρ O => R.bk ρ O
theorem ds_break : DS M X (.Break pos) gBreak := psMono ps_break fun D σ H h => by
  obtain ⟨F, O, P, ρ, R, g, en, q, po⟩ := h
  exact po.bk ρ O F H σ q (Same.refl _) g en
def gDrop (fe : FE) : GS := fun R ρ O => fe ρ O fun _ O1 => R.nx ρ O1
theorem ds_expr (he : DE M X e fe) (hs : swapsWith e none pos.line X.env = pure false := by rfl) : DS M X (.Expr e pos) (gDrop fe) := psMono (ps_expr he hs) fun D σ H h => by
  obtain ⟨F, O, P, ρ, R, g, en, q, po⟩ := h
  exact ⟨F, O, P, ρ, _, g, en, q, fun d O1 F1 H1 v q1 s1 g1 _ => po.nx ρ O1 F1 H1 σ q1 s1 g1 (en.mono s1)⟩
def gRet (fe : FE) : GS := fun R ρ O => fe ρ O R.rt
theorem ds_ret (he : DE M X e fe) : DS M X (.Return (some e) pos) (gRet fe) := psMono (ps_ret he) fun D σ H h => by
  obtain ⟨F, O, P, ρ, R, g, en, q, po⟩ := h
  exact ⟨F, O, P, ρ, R.rt, g, en, q, po.rt⟩
/-- an owned list is handed back: from now on it never changes -/
def gRetF (fe : FE) : GS := fun R ρ O => fe ρ O fun d O1 => match d with
  | .ref a => match O1 a with
    | some (.lst ds) => R.rt (.lst ds) (delO O1 a)
    | _ => False
  | _ => False
theorem ds_retF (he : DE M X e fe) : DS M X (.Return (some e) pos) (gRetF fe) := psMono (ps_ret he) fun D σ H h => by
  obtain ⟨F, O, P, ρ, R, g, en, q, po⟩ := h
  refine ⟨F, O, P, ρ, _, g, en, q, fun d O1 F1 H1 v q1 s1 g1 r1 => ?_⟩
  split at q1 <;> first | exact q1.elim | skip
  rename_i a
  split at q1 <;> first | exact q1.elim | skip
  rename_i ds e1
  simp only [Rep] at r1
  subst r1
  obtain ⟨F2, s2, g2, r2⟩ := g1.freeze e1
  exact po.rt (.lst ds) (delO O1 a) F2 H1 (.ref a) q1 (s1.trans s2) g2 r2
def gRetN : GS := fun R _ O => R.rt .non O
theorem ds_retN : DS M X (.Return none pos) gRetN := psMono ps_retN fun D σ H h => by
  obtain ⟨F, O, P, ρ, R, g, en, q, po⟩ := h
  exact po.rt.at g q (by simp only [Rep])
def gIf (c : FT) (g u : GS) : GS := fun R ρ O => c ρ O fun b O1 => if b = true then g R ρ O1 else u R ρ O1
theorem ds_if {a b : List Stmt} (hc : DT M X c ft) (ha : DSs M X a g) (hb : DSs M X b u) : DS M X (.If c a b pos) (gIf ft g u) := psMono (ps_if hc ha hb) fun D σ H h => by
  obtain ⟨F, O, P, ρ, R, g, en, q, po⟩ := h
  refine ⟨F, O, P, ρ, _, g, en, q, fun k O1 F1 H1 q1 s1 g1 => ?_⟩
  cases k with
  | true => rw [if_pos rfl] at q1 ⊢; exact ⟨F1, O1, P, ρ, R, g1, en.mono s1, q1, po.more s1⟩
  | false => rw [if_neg Bool.false_ne_true] at q1 ⊢; exact ⟨F1, O1, P, ρ, R, g1, en.mono s1, q1, po.more s1⟩
/-- an owned list in slot i never changes from now on -/
def gFrz (i : Nat) (g : GS) : GS := fun R ρ O => match ρ[i]? with
  | some (some (.ref a)) => match O a with
    | some (.lst ds) => g R (ρ.set i (some (.lst ds))) (delO O a)
    | _ => False
  | _ => False
theorem EnvOk.frz {K : PySem.W.Frag} {F F' : Hp} {ρ : DEnv} {σ : L2.St} {i : Nat} {a : Addr} {d : D} (h : EnvOk K F ρ σ) (s : Same F F') (e : ρ[i]? = some (some (.ref a))) (r : Rep K F' d (.ref a)) : EnvOk K F' (ρ.set i (some d)) σ := by
  obtain ⟨v, e1, r1⟩ := h.2 i _ e
  simp only [Rep] at r1
  subst r1
  refine ⟨by rw [List.length_set]; exact h.1, fun j d' q => ?_⟩
  by_cases c : i = j
  · subst c
    by_cases hl : i < ρ.length
    · rw [List.getElem?_set_self hl] at q
      cases q
      exact ⟨.ref a, e1, r⟩
    · rw [List.getElem?_eq_none (by rw [List.length_set]; omega)] at q; cases q
  · rw [List.getElem?_set_ne c] at q
    exact (h.mono s).2 j d' q
theorem liftS_frz {i : Nat} : ∀ D σ H, liftS M X.K (gFrz i g) D σ H → liftS M X.K g D σ H := fun D σ H h => by
  obtain ⟨F, O, P, ρ, R, gd, en, q, po⟩ := h
  unfold gFrz at q
  split at q
  · rename_i a e1
    split at q
    · rename_i ds e2
      obtain ⟨F2, s2, g2, r2⟩ := gd.freeze e2
      exact ⟨F2, delO O a, P, _, R, g2, en.frz s2 e1 r2, q, po.more s2⟩
    · exact q.elim
  · exact q.elim
theorem dss_frz (i : Nat) (h : DSs M X rest g) : DSs M X rest (gFrz i g) := pssMono h liftS_frz

/-! ### targets -/
inductive Pat where
  | nm (i : Nat)
  | tp (ps : List Pat)
mutual
def patT (K : PySem.W.Frag) : Pat → TG
  | .nm i => gName i
  | .tp ps => gTup K ps.length (patTs K ps)
def patTs (K : PySem.W.Frag) : List Pat → TGs
  | [] => gNil
  | p :: ps => gCons (patT K p) (patTs K ps)
end
mutual
def patD : Pat → D → DEnv → Option DEnv
  | .nm i, d, ρ => some (ρ.set i (some d))
  | .tp ps, .tup ds, ρ => patDs ps ds ρ
  | .tp _, _, _ => none
def patDs : List Pat → List D → DEnv → Option DEnv
  | [], [], ρ => some ρ
  | p :: ps, d :: ds, ρ => (patD p d ρ).bind (patDs ps ds)
  | _, _, _ => none
end
mutual
def patI : Pat → List Nat
  | .nm i => [i]
  | .tp ps => patIs ps
def patIs : List Pat → List Nat
  | [] => []
  | p :: ps => patI p ++ patIs ps
end
/-- the two states are alike but at some slots -/
def Off (vs : List Nat) (σ σ' : L2.St) : Prop := σ.length = σ'.length ∧ ∀ i, i ∉ vs → σ'[i]? = σ[i]?
theorem patDs_length : ∀ {ps : List Pat} {ds : List D} {ρ ρ' : DEnv}, patDs ps ds ρ = some ρ' → ps.length = ds.length
  | [], [], _, _, _ => rfl
  | [], _ :: _, _, _, h => by simp only [patDs] at h; cases h
  | _ :: _, [], _, _, h => by simp only [patDs] at h; cases h
  | p :: ps, d :: ds, ρ, ρ', h => by
    simp only [patDs] at h
    obtain ⟨ρ1, h1, h2⟩ := Option.bind_eq_some_iff.mp h
    rw [List.length_cons, List.length_cons, patDs_length h2]
mutual
theorem pat_ok {K : PySem.W.Frag} {F P H : Hp} {O : Ow} (gd : Gd M K F O P H) : ∀ (p : Pat) (d : D) (v : V) (ρ ρ' : DEnv) (σ : L2.St) (Q : L2.St → Hp → Prop), patD p d ρ = some ρ' → Rep K F d v → EnvOk K F ρ σ →
    (∀ σ', EnvOk K F ρ' σ' → Off (patI p) σ σ' → Q σ' H) → patT K p v σ H Q
  | .nm i, d, v, ρ, ρ', σ, Q, h, r, en, q => by
    simp only [patD] at h
    cases h
    simp only [patT]
    refine q _ (en.set r i) ⟨by rw [List.length_set], fun j hj => ?_⟩
    simp only [patI, List.mem_singleton] at hj
    rw [List.getElem?_set_ne (fun e => hj e.symm)]
  | .tp ps, d, v, ρ, ρ', σ, Q, h, r, en, q => by
    cases d <;> simp only [patD] at h <;> first | cases h | skip
    simp only [Rep] at r
    obtain ⟨a, xs, rfl, r1, r2⟩ := r
    simp only [patT]
    refine ⟨a, xs, rfl, Same.seqT gd.fz r1, ?_, ?_⟩
    · rw [← r2.length, patDs_length h]
    · exact pats_ok gd ps _ xs ρ ρ' σ Q h r2 en fun σ' en' off => q σ' en' (by simpa only [patI] using off)
theorem pats_ok {K : PySem.W.Frag} {F P H : Hp} {O : Ow} (gd : Gd M K F O P H) : ∀ (ps : List Pat) (ds : List D) (vs : List V) (ρ ρ' : DEnv) (σ : L2.St) (Q : L2.St → Hp → Prop), patDs ps ds ρ = some ρ' → RepAll K F ds vs → EnvOk K F ρ σ →
    (∀ σ', EnvOk K F ρ' σ' → Off (patIs ps) σ σ' → Q σ' H) → patTs K ps vs σ H Q
  | [], [], vs, ρ, ρ', σ, Q, h, r, en, q => by
    simp only [patDs] at h
    cases h
    simp only [RepAll] at r
    subst r
    simp only [patTs]
    exact ⟨rfl, q σ en ⟨rfl, fun _ _ => rfl⟩⟩
  | [], _ :: _, _, _, _, _, _, h, _, _, _ => by simp only [patDs] at h; cases h
  | _ :: _, [], _, _, _, _, _, h, _, _, _ => by simp only [patDs] at h; cases h
  | p :: ps, d :: ds, vs, ρ, ρ', σ, Q, h, r, en, q => by
    simp only [patDs] at h
    obtain ⟨ρ1, h1, h2⟩ := Option.bind_eq_some_iff.mp h
    simp only [RepAll] at r
    obtain ⟨v, ws, rfl, r1, r2⟩ := r
    simp only [patTs]
    refine ⟨v, ws, rfl, ?_⟩
    refine pat_ok gd p d v ρ ρ1 σ _ h1 r1 en fun σ1 en1 off1 => ?_
    refine pats_ok gd ps ds ws ρ1 ρ' σ1 Q h2 r2 en1 fun σ2 en2 off2 => q σ2 en2 ⟨off1.1.trans off2.1, fun i hi => ?_⟩
    simp only [patIs, List.mem_append, not_or] at hi
    rw [off2.2 i hi.2, off1.2 i hi.1]
end
abbrev DP (X : Cx) (tg : Expr) (p : Pat) : Prop := PG X tg (patT X.K p)
abbrev DPs (X : Cx) (tgs : List Expr) (ps : List Pat) : Prop := PGs X tgs (patTs X.K ps)
theorem dp_name {i : Nat} {x : Str} (hN : X.N.Nodup) (hi : X.N[i]? = some x) (hx : Loc X.env.scope x) (hf : X.fn x = true ∨ X.env.scope.names.lookup x = some .local := by first | exact .inl rfl | exact .inr rfl | assumption) : DP X (.Name x pos) (.nm i) := by
  show PG X _ (patT X.K (.nm i))
  rw [show patT X.K (.nm i) = gName i by simp only [patT]]
  exact pg_name hN hi hx hf
theorem dps_nil : DPs X [] [] := by
  show PGs X _ (patTs X.K [])
  rw [show patTs X.K [] = gNil by simp only [patTs]]
  exact pgs_nil
theorem dps_cons {e : Expr} {es : List Expr} {p : Pat} {ps : List Pat} (h1 : DP X e p) (h2 : DPs X es ps)
    (hs : (assignEach (e :: es) X.env).map (·.2) = assign e X.env :: (assignEach es X.env).map (·.2) := by rfl) : DPs X (e :: es) (p :: ps) := by
  show PGs X _ (patTs X.K (p :: ps))
  rw [show patTs X.K (p :: ps) = gCons (patT X.K p) (patTs X.K ps) by simp only [patTs]]
  exact pgs_cons h1 h2 hs
theorem dp_tup {es : List Expr} {k : Nat} {ps : List Pat} (hc : X.calm = true) (h : DPs X es ps)
    (hn : (assignEach es X.env).length = ps.length := by rfl) (hst : (assignEach es X.env).findIdx? (·.1) = none := by rfl) : DP X (.Tuple es k pos) (.tp ps) := by
  show PG X _ (patT X.K (.tp ps))
  rw [show patT X.K (.tp ps) = gTup X.K ps.length (patTs X.K ps) by simp only [patT]]
  exact pg_tup hc h hn hst
def patGet (o : Option DEnv) (N : DEnv → Prop) : Prop := match o with
  | some ρ => N ρ
  | none => False
theorem patGet_s {ρ : DEnv} {N : DEnv → Prop} : patGet (some ρ) N = N ρ := rfl
/-- target = value -/
def gAsg (fe : FE) (p : Pat) : GS := fun R ρ O => fe ρ O fun d O1 => patGet (patD p d ρ) fun ρ' => R.nx ρ' O1
theorem ds_asg {tg e : Expr} {p : Pat} (he : DE M X e fe) (hg : DP X tg p) (hs : swapsWithSole [tg] e pos.line X.env = pure false := by rfl) (hw : swappedStores [tg] e X.env = pure none := by rfl) (h1 : (assignEach [tg] X.env).map (·.2) = [assign tg X.env] := by rfl) : DS M X (.Assign [tg] e pos) (gAsg fe p) :=
  psMono (ps_asg he hg hs hw h1) fun D σ H h => by
    obtain ⟨F, O, P, ρ, R, g, en, q, po⟩ := h
    refine ⟨F, O, P, ρ, _, g, en, q, fun d O1 F1 H1 v q1 s1 g1 r1 => ?_⟩
    cases e1 : patD p d ρ with
    | none => rw [e1] at q1; exact q1.elim
    | some ρ' =>
      rw [e1] at q1
      exact pat_ok g1 p d v ρ ρ' σ _ e1 r1 (en.mono s1) fun σ' en' _ => po.nx ρ' O1 F1 H1 σ' q1 s1 g1 en'
/-- name = value -/
def gSet (fe : FE) (i : Nat) : GS := fun R ρ O => fe ρ O fun d O1 => R.nx (ρ.set i (some d)) O1
theorem gSet_lift {te : TE} {i : Nat} (hl : ∀ σ H Q, liftE M X.K fe σ H Q → te σ H Q) : ∀ D σ H, liftS M X.K (gSet fe i) D σ H → tAsg te (gName i) D σ H := fun D σ H h => by
  obtain ⟨F, O, P, ρ, R, g, en, q, po⟩ := h
  exact hl _ _ _ ⟨F, O, P, ρ, _, g, en, q, fun d O1 F1 H1 v q1 s1 g1 r1 => po.nx _ O1 F1 H1 _ q1 s1 g1 ((en.mono s1).set r1 i)⟩
theorem ds_set {i : Nat} {x : Str} {e : Expr} {pos' : Pos} (hN : X.N.Nodup) (hi : X.N[i]? = some x) (hx : Loc X.env.scope x) (he : DE M X e fe) (hs : swapsWith e (some (.Name x pos')) pos.line X.env = pure false := by rfl) (hf : X.fn x = true ∨ X.env.scope.names.lookup x = some .local := by first | exact .inl rfl | exact .inr rfl | assumption) :
    DS M X (.Assign [.Name x pos'] e pos) (gSet fe i) := psMono (ps_set hN hi hx he hs hf) (gSet_lift fun _ _ _ q => q)
/-- name op= e -/
def gAug (i : Nat) (fe : FE) (r : R2D) : GS := fun R ρ O => match ρ[i]? with
  | some (some x) => fe ρ O fun y O1 => r x y O1 fun z O2 => R.nx (ρ.set i (some z)) O2
  | _ => False
theorem ds_aug {i : Nat} {x : Str} {e : Expr} {op : Operator} {r : R2D} {pos' : Pos} (hN : X.N.Nodup) (hi : X.N[i]? = some x) (hx : Loc X.env.scope x) (he : DE M X e fe) (ho : OpD M X (inplaceOp op) r) (hf : X.fn x = true ∨ X.env.scope.names.lookup x = some .local := by first | exact .inl rfl | exact .inr rfl | assumption) :
    DS M X (.AugAssign (.Name x pos') op e pos) (gAug i fe r) := psMono (ps_aug (ti := liftR2 M X.K r) hN hi hx he ho hf) fun D σ H h => by
  obtain ⟨F, O, P, ρ, R, g, en, q, po⟩ := h
  unfold gAug at q
  split at q <;> first | exact q.elim | skip
  rename_i d e1
  obtain ⟨v, e2, r2⟩ := en.2 i d e1
  refine ⟨v, e2, F, O, P, ρ, _, g, en, q, fun y O1 F1 H1 w q1 s1 g1 r1 => ?_⟩
  exact ⟨F1, O1, P, d, y, _, g1, r2.mono s1, r1, q1, fun z O2 F2 H2 zv q2 s2 g2 r3 => po.nx _ O2 F2 H2 _ q2 (s1.trans s2) g2 ((en.mono (s1.trans s2)).set r3 i)⟩
/-- o[i] = v, an owned list -/
def rSetD (x y d : D) (O : Ow) (N : Ow → Prop) : Prop := match x, y with
  | .ref a, .int k => match O a with
    | some (.lst ds) => match ixN ds.length k with
      | some j => N (updO O a (.lst (ds.set j d)))
      | none => False
    | some .pool => match d with
      | .int z => ((k = 0 ∧ 0 ≤ z) ∨ (k = 1 ∧ 0 ≤ z ∧ z < 2147483647)) ∧ N O
      | _ => False
    | _ => False
  | _, _ => False
def gSetIx (fo fi fe : FE) : GS := fun R ρ O => fe ρ O fun d O1 => fo ρ O1 fun x O2 => fi ρ O2 fun y O3 => rSetD x y d O3 (R.nx ρ)
theorem ds_setIx {o i e : Expr} {fo fi : FE} {p1 : Pos} (ho : DE M X o fo) (hi : DE M X i fi) (he : DE M X e fe)
    (ha : ∀ v, assign (.Subscript o i p1) X.env v = (do
      let ov ← holding [v] (eval o X.env)
      let iv ← holding [v, ov] (eval i X.env)
      standAt p1
      holding [v, ov, iv] (setItem ov iv v)
      release [v, ov, iv] []) := by intro _; rfl)
    (hs : swapsWithSole [.Subscript o i p1] e pos.line X.env = pure false := by rfl) (hw : swappedStores [.Subscript o i p1] e X.env = pure none := by rfl) : DS M X (.Assign [.Subscript o i p1] e pos) (gSetIx fo fi fe) :=
  psMono (ps_asg he (pg_sub ho hi set_list ha) hs hw) fun D σ H h => by
    obtain ⟨F, O, P, ρ, R, g, en, q, po⟩ := h
    refine ⟨F, O, P, ρ, _, g, en, q, fun d O1 F1 H1 v q1 s1 g1 r1 => ?_⟩
    refine ⟨F1, O1, P, ρ, _, g1, en.mono s1, q1, fun x O2 F2 H2 w q2 s2 g2 r2 => ?_⟩
    refine ⟨F2, O2, P, ρ, _, g2, en.mono (s1.trans s2), q2, fun y O3 F3 H3 z q3 s3 g3 r3 => ?_⟩
    unfold rSetD at q3
    cases x <;> first | exact q3.elim | skip
    cases y <;> first | exact q3.elim | skip
    rename_i a k
    simp only [Rep] at r2 r3
    subst r2 r3
    dsimp only at q3
    cases e1 : O3 a with
    | none => rw [e1] at q3; exact q3.elim
    | some c =>
      rw [e1] at q3
      cases c with
      | dic kvs => exact q3.elim
      | dicL _ _ => exact q3.elim
      | exc _ _ => exact q3.elim
      | ins _ _ => exact q3.elim
      | pool =>
        dsimp only at q3
        cases d <;> first | exact q3.elim | skip
        simp only [Rep] at r1
        subst r1
        obtain ⟨_, _, z, y, hH, h2, h3, h4⟩ := g3.ow a _ e1
        obtain ⟨q4, q5⟩ := q3
        have s4 := s1.trans (s2.trans s3)
        rcases q4 with ⟨rfl, h5⟩ | ⟨rfl, h5, h6⟩
        · refine ⟨a, _, 0, 0, rfl, rfl, hH, rfl, ?_⟩
          have g4 := g3.setO e1 (o := .lst [.int _, .int y]) (c := .pool) ⟨_, y, upd_same, h5, h3, h4⟩
          rw [updO_self e1] at g4
          exact po.nx ρ _ F3 _ σ q5 s4 g4 (en.mono s4)
        · refine ⟨a, _, 1, 1, rfl, rfl, hH, rfl, ?_⟩
          have g4 := g3.setO e1 (o := .lst [.int z, .int _]) (c := .pool) ⟨z, _, upd_same, h2, h5, h6⟩
          rw [updO_self e1] at g4
          exact po.nx ρ _ F3 _ σ q5 s4 g4 (en.mono s4)
      | lst ds =>
        dsimp only at q3
        cases e2 : ixN ds.length k with
        | none => rw [e2] at q3; exact q3.elim
        | some j =>
          rw [e2] at q3
          obtain ⟨_, _, vs, h1, h2⟩ := g3.ow a _ e1
          refine ⟨a, vs, k, j, rfl, rfl, h1, by rw [← h2.length]; exact e2, ?_⟩
          exact po.nx ρ _ F3 _ σ q3 (s1.trans (s2.trans s3)) (g3.setO e1 ⟨_, upd_same, h2.set (r1.mono (s2.trans s3)) j⟩) (en.mono (s1.trans (s2.trans s3)))

/-! ### what is walked -/
/-- the walk yields just these, whatever comes meanwhile -/
def ItOk (M : MX) (K : PySem.W.Frag) (F : Hp) (J : It) (ds : List D) : Prop := ∀ F' O' P' H', Same F F' → Gd M K F' O' P' H' → ∀ i : Nat,
  (∀ d, ds[i]? = some d → J.go i H' ∧ ∀ x H'', J.yld i H' x H'' → ∃ F'', Same F' F'' ∧ Gd M K F'' O' P' H'' ∧ Rep K F'' d x) ∧ (ds.length ≤ i → J.stop i H')
abbrev FI := DEnv → Ow → (List D → Ow → Prop) → Prop
def liftI (M : MX) (K : PySem.W.Frag) (f : FI) : TI := fun σ H Q => ∃ F O P ρ R, Gd M K F O P H ∧ EnvOk K F ρ σ ∧ f ρ O R ∧ ∀ ds O' F' H' J, R ds O' → Same F F' → Gd M K F' O' P H' → ItOk M K F' J ds → Q J H'
abbrev DI (M : MX) (X : Cx) (tg iter : Expr) (f : FI) : Prop := PI X tg iter (liftI M X.K f)
theorem piMono {X : Cx} {tg iter : Expr} {t t' : TI} (h : PI X tg iter t) (imp : ∀ σ H Q, t' σ H Q → t σ H Q) : PI X tg iter t' := ⟨fun pins s σ H Q I q => h.run pins s σ H Q I (imp σ H Q q)⟩
variable {tg iter l : Expr} {fl : FE} {fr : FA}
theorem SqL.inj' {K : PySem.W.Frag} {H : Hp} {a : Addr} {xs ys : List V} (h : H a = some (.lst xs)) : SqL K H a xs := SqL.of h
def asL (d : D) (O : Ow) (Q : List D → Ow → Prop) : Prop := match d with
  | .lst ds => Q ds O
  | _ => False
def asT (d : D) (O : Ow) (Q : List D → Ow → Prop) : Prop := match d with
  | .tup ds => Q ds O
  | _ => False
def asSg (d : D) (O : Ow) (Q : List D → Ow → Prop) : Prop := match d with
  | .str x => Q (x.cps.toList.map fun c => .str ⟨#[c]⟩) O
  | _ => False
def asR1 (ds : List D) (O : Ow) (Q : Int → Nat → Ow → Prop) : Prop := match ds with
  | [.int j] => -(2 ^ 62) ≤ j ∧ j < 2 ^ 62 ∧ Q 0 j.toNat O
  | _ => False
def asR2 (ds : List D) (O : Ow) (Q : Int → Nat → Ow → Prop) : Prop := match ds with
  | [.int i, .int j] => (-(2 ^ 62) ≤ i ∧ i < 2 ^ 62 ∧ -(2 ^ 62) ≤ j ∧ j < 2 ^ 62) ∧ Q i (j - i).toNat O
  | _ => False
def asL1 (ds : List D) (O : Ow) (Q : List D → Ow → Prop) : Prop := match ds with
  | [.lst ds] => Q ds O
  | _ => False
def asL2 (ds : List D) (O : Ow) (Q : List D → List D → Ow → Prop) : Prop := match ds with
  | [.lst ds, .lst es] => Q ds es O
  | _ => False
section
variable {O : Ow} {xs ys : List D} {i j : Int}
theorem asL_l {Q : List D → Ow → Prop} : asL (.lst xs) O Q = Q xs O := rfl
theorem asT_t {Q : List D → Ow → Prop} : asT (.tup xs) O Q = Q xs O := rfl
theorem asSg_s {Q : List D → Ow → Prop} {x : Str} : asSg (.str x) O Q = Q (x.cps.toList.map fun c => .str ⟨#[c]⟩) O := rfl
theorem asR1_i {Q : Int → Nat → Ow → Prop} : asR1 [.int j] O Q = (-(2 ^ 62) ≤ j ∧ j < 2 ^ 62 ∧ Q 0 j.toNat O) := rfl
theorem asR2_i {Q : Int → Nat → Ow → Prop} : asR2 [.int i, .int j] O Q = ((-(2 ^ 62) ≤ i ∧ i < 2 ^ 62 ∧ -(2 ^ 62) ≤ j ∧ j < 2 ^ 62) ∧ Q i (j - i).toNat O) := rfl
theorem asL1_l {Q : List D → Ow → Prop} : asL1 [.lst xs] O Q = Q xs O := rfl
theorem asL2_l {Q : List D → List D → Ow → Prop} : asL2 [.lst xs, .lst ys] O Q = Q xs ys O := rfl
end
/-- a list -/
def fiList (fl : FE) : FI := fun ρ O Q => fl ρ O fun d O1 => asL d O1 Q
theorem di_list (hl : DE M X l fl) : DI M X tg l (fiList fl) := piMono (pi_list hl) fun σ H Q h => by
  obtain ⟨F, O, P, ρ, R, g, en, q, po⟩ := h
  refine ⟨F, O, P, ρ, _, g, en, q, fun d O1 F1 H1 v q1 s1 g1 r1 => ?_⟩
  unfold asL at q1
  cases d <;> first | exact q1.elim | skip
  rename_i ds
  simp only [Rep] at r1
  obtain ⟨a, xs, rfl, h1, h2⟩ := r1
  refine ⟨a, rfl, ⟨xs, SqL.of (g1.fz _ _ h1)⟩, po ds O1 F1 H1 _ q1 s1 g1 fun F2 O2 P2 H2 s2 g2 i => ⟨fun d e => ?_, fun hi => ?_⟩⟩
  · have sq : SqL X.K H2 a xs := SqL.of (g2.fz _ _ (s2 _ _ h1))
    obtain ⟨w, e1, r1⟩ := h2.get e
    refine ⟨⟨xs, w, sq, e1⟩, fun x H3 hy => ?_⟩
    obtain ⟨rfl, hx⟩ := hy
    have := hx xs sq
    rw [e1] at this
    cases this
    exact ⟨F2, Same.refl _, g2, r1.mono s2⟩
  · exact ⟨xs, SqL.of (g2.fz _ _ (s2 _ _ h1)), by rw [← h2.length]; exact hi⟩
/-- a tuple -/
def fiTup (fl : FE) : FI := fun ρ O Q => fl ρ O fun d O1 => asT d O1 Q
theorem SqT.uniq {K : PySem.W.Frag} {F : Hp} {a : Addr} {xs ys : List V} (h : SqT K F a xs) (h' : SqT K F a ys) (hk : ∀ o, K.lookup a = some o → F a = none) : xs = ys := by
  rcases h with (h | ⟨o, h⟩) | ⟨o, its, n, h1, h2, h3, h4, h5⟩
  · rcases h' with (h' | ⟨o', h'⟩) | ⟨o', its', n', h1', _⟩
    · rw [h] at h'; cases h'; rfl
    · rw [h] at h'; cases h'
    · rw [hk _ h1'] at h; cases h
  · rcases h' with (h' | ⟨o', h'⟩) | ⟨o', its', n', h1', _⟩
    · rw [h] at h'; cases h'
    · rw [h] at h'; cases h'; rfl
    · rw [hk _ h1'] at h; cases h
  · rcases h' with (h' | ⟨o', h'⟩) | ⟨o', its', n', h1', h2', h3', h4', h5'⟩
    · rw [hk _ h1] at h'; cases h'
    · rw [hk _ h1] at h'; cases h'
    · rw [h1] at h1'; cases h1'
      rw [h3] at h3'; cases h3'
      exact Vals.inj h5 h5'
theorem di_tup (hl : DE M X l fl) : DI M X tg l (fiTup fl) := piMono (pi_tup hl) fun σ H Q h => by
  obtain ⟨F, O, P, ρ, R, g, en, q, po⟩ := h
  refine ⟨F, O, P, ρ, _, g, en, q, fun d O1 F1 H1 v q1 s1 g1 r1 => ?_⟩
  unfold asT at q1
  cases d <;> first | exact q1.elim | skip
  rename_i ds
  simp only [Rep] at r1
  obtain ⟨a, xs, rfl, h1, h2⟩ := r1
  refine ⟨a, rfl, ⟨xs, Same.seqT g1.fz h1⟩, po ds O1 F1 H1 _ q1 s1 g1 fun F2 O2 P2 H2 s2 g2 i => ⟨fun d e => ?_, fun hi => ?_⟩⟩
  · have sq : SqT X.K H2 a xs := Same.seqT g2.fz (Same.seqT s2 h1)
    obtain ⟨w, e1, r1⟩ := h2.get e
    refine ⟨⟨xs, w, sq, e1⟩, fun x H3 hy => ?_⟩
    obtain ⟨rfl, hx⟩ := hy
    have := hx xs sq
    rw [e1] at this
    cases this
    exact ⟨F2, Same.refl _, g2, r1.mono s2⟩
  · exact ⟨xs, Same.seqT g2.fz (Same.seqT s2 h1), by rw [← h2.length]; exact hi⟩
/-- range(n), range(a, b) -/
def rangeD (lo : Int) (n : Nat) : List D := (List.range n).map fun i => .int (lo + (i : Nat))
theorem itOk_range {K : PySem.W.Frag} {F : Hp} (lo : Int) (n : Nat) : ItOk M K F (Itr lo n) (rangeD lo n) := fun F2 O2 P2 H2 s2 g2 i => by
  refine ⟨fun d e => ?_, fun hi => ?_⟩
  · unfold rangeD at e
    rw [List.getElem?_map] at e
    obtain ⟨j, e1, e2⟩ := Option.map_eq_some_iff.mp e
    have hi : i < n := by
      have := List.getElem?_eq_some_iff.mp e1
      obtain ⟨h, _⟩ := this
      simpa using h
    have hj : j = i := by
      rw [List.getElem?_range hi] at e1
      exact (Option.some.inj e1).symm
    subst hj
    subst e2
    refine ⟨hi, fun x H3 hy => ?_⟩
    obtain ⟨rfl, rfl⟩ := hy
    exact ⟨F2, Same.refl _, g2, by simp only [Rep]⟩
  · unfold rangeD at hi
    rw [List.length_map, List.length_range] at hi
    exact hi
def fiRng1 (fr : FA) : FI := fun ρ O Q => fr ρ O fun ds O1 => asR1 ds O1 fun i n O2 => Q (rangeD i n) O2
theorem di_range1 {a : Expr} {p : Pos} (hg : Gl X "range") (hm : X.mg "range" = none) (ha : DA M X [a] fr) (hs : starEach [a] X.env = [(false, eval a X.env)] := by rfl) : DI M X tg (.Call (.Name "range" p) [a] [] pos) (fiRng1 fr) :=
  piMono (pi_range1 hg hm ha hs) fun σ H Q h => by
    obtain ⟨F, O, P, ρ, R, g, en, q, po⟩ := h
    refine ⟨F, O, P, ρ, _, g, en, q, fun ds O1 F1 H1 vs q1 s1 g1 r1 => ?_⟩
    unfold asR1 at q1
    split at q1
    · obtain ⟨v, rfl, r1'⟩ := r1.one'
      simp only [Rep] at r1'
      exact ⟨_, by rw [r1'], q1.1, q1.2.1, po _ O1 F1 H1 _ q1.2.2 s1 g1 (itOk_range 0 _)⟩
    · exact q1.elim
def fiRng2 (fr : FA) : FI := fun ρ O Q => fr ρ O fun ds O1 => asR2 ds O1 fun i n O2 => Q (rangeD i n) O2
theorem di_range2 {a b : Expr} {p : Pos} (hg : Gl X "range") (hm : X.mg "range" = none) (ha : DA M X [a, b] fr) (hs : starEach [a, b] X.env = [(false, eval a X.env), (false, eval b X.env)] := by rfl) (hs2 : starEach [b] X.env = [(false, eval b X.env)] := by rfl) : DI M X tg (.Call (.Name "range" p) [a, b] [] pos) (fiRng2 fr) :=
  piMono (pi_range2 hg hm ha hs hs2) fun σ H Q h => by
    obtain ⟨F, O, P, ρ, R, g, en, q, po⟩ := h
    refine ⟨F, O, P, ρ, _, g, en, q, fun ds O1 F1 H1 vs q1 s1 g1 r1 => ?_⟩
    unfold asR2 at q1
    split at q1
    · obtain ⟨v, w, rfl, r1', r2'⟩ := r1.two'
      simp only [Rep] at r1' r2'
      exact ⟨_, _, by rw [r1', r2'], q1.1, po _ O1 F1 H1 _ q1.2 s1 g1 (itOk_range _ _)⟩
    · exact q1.elim
/-- a text, sign by sign -/
def signsD (x : Str) : List D := x.cps.toList.map fun c => .str ⟨#[c]⟩
def fiStr (fl : FE) : FI := fun ρ O Q => fl ρ O fun d O1 => asSg d O1 Q
theorem di_str (hl : DE M X l fl) : DI M X tg l (fiStr fl) := piMono (pi_str hl) fun σ H Q h => by
  obtain ⟨F, O, P, ρ, R, g, en, q, po⟩ := h
  refine ⟨F, O, P, ρ, _, g, en, q, fun d O1 F1 H1 v q1 s1 g1 r1 => ?_⟩
  unfold asSg at q1
  cases d <;> first | exact q1.elim | skip
  rename_i x
  simp only [Rep] at r1
  refine ⟨x, r1, po _ O1 F1 H1 _ q1 s1 g1 fun F2 O2 P2 H2 s2 g2 i => ⟨fun d e => ?_, fun hi => ?_⟩⟩
  · unfold signsD at e
    rw [List.getElem?_map] at e
    obtain ⟨c, e1, rfl⟩ := Option.map_eq_some_iff.mp e
    have hi : i < x.cps.size := by
      obtain ⟨h, _⟩ := List.getElem?_eq_some_iff.mp e1
      simpa using h
    refine ⟨hi, fun y H3 hy => ?_⟩
    obtain ⟨rfl, c', e2, rfl⟩ := hy
    rw [Array.getElem?_toList] at e1
    rw [e1] at e2
    cases e2
    exact ⟨F2, Same.refl _, g2, by simp only [Rep]⟩
  · unfold signsD at hi
    rw [List.length_map, Array.length_toList] at hi
    exact hi
/-- enumerate(xs) -/
def enumD (ds : List D) : List D := ds.zipIdx.map fun p => .tup [.int (p.2 : Nat), p.1]
theorem enumD_get (ds : List D) (i : Nat) : (enumD ds)[i]? = ds[i]?.map fun d => .tup [.int (i : Nat), d] := by
  unfold enumD
  rw [List.getElem?_map, List.getElem?_zipIdx]
  cases ds[i]? with
  | none => rfl
  | some d => simp
theorem enumD_length (ds : List D) : (enumD ds).length = ds.length := by unfold enumD; rw [List.length_map, List.length_zipIdx]
def fiEnum (fr : FA) : FI := fun ρ O Q => fr ρ O fun ds O1 => asL1 ds O1 fun ds O2 => Q (enumD ds) O2
theorem di_enum {e : Expr} {p tpos : Pos} {elts : List Expr} {kk : Nat} (hg : Gl X "enumerate") (hm : X.mg "enumerate" = none) (ha : DA M X [e] fr) (hs : starEach [e] X.env = [(false, eval e X.env)] := by rfl) :
    DI M X (.Tuple elts kk tpos) (.Call (.Name "enumerate" p) [e] [] pos) (fiEnum fr) := piMono (pi_enum hg hm ha hs) fun σ H Q h => by
  obtain ⟨F, O, P, ρ, R, g, en, q, po⟩ := h
  refine ⟨F, O, P, ρ, _, g, en, q, fun ds O1 F1 H1 vs q1 s1 g1 r1 => ?_⟩
  unfold asL1 at q1
  split at q1
  · rename_i ds
    obtain ⟨v, rfl, r1'⟩ := r1.one'
    simp only [Rep] at r1'
    obtain ⟨a, xs, rfl, h1, h2⟩ := r1'
    refine ⟨a, xs, rfl, SqL.of (g1.fz _ _ h1), po _ O1 F1 H1 _ q1 s1 g1 fun F2 O2 P2 H2 s2 g2 i => ⟨fun d e => ?_, fun hi => ?_⟩⟩
    · rw [enumD_get] at e
      obtain ⟨d0, e0, rfl⟩ := Option.map_eq_some_iff.mp e
      have sq : SqL X.K H2 a xs := SqL.of (g2.fz _ _ (s2 _ _ h1))
      obtain ⟨w, e1, r1⟩ := h2.get e0
      refine ⟨⟨xs, w, sq, e1⟩, fun x H3 hy => ?_⟩
      obtain ⟨T, y, rfl, hT, rfl, hx⟩ := hy
      have hxx := hx xs sq
      rw [e1] at hxx
      cases hxx
      have hF := g2.freeF hT
      refine ⟨upd F2 T (.tup [.int (i : Nat), w]), same_upd hF, g2.new hT, ?_⟩
      simp only [Rep]
      refine ⟨T, _, rfl, .inl (.inl upd_same), .cons (by simp only [Rep]) (.one ((r1.mono s2).mono (same_upd hF)))⟩
    · rw [enumD_length] at hi
      exact ⟨xs, SqL.of (g2.fz _ _ (s2 _ _ h1)), by rw [← h2.length]; exact hi⟩
  · exact q1.elim
/-- zip(xs, ys) -/
def zipD (ds es : List D) : List D := (ds.zip es).map fun p => .tup [p.1, p.2]
def fiZip (fr : FA) : FI := fun ρ O Q => fr ρ O fun ds O1 => asL2 ds O1 fun ds es O2 => Q (zipD ds es) O2
theorem di_zip {e e2 : Expr} {p tpos : Pos} {elts : List Expr} {kk : Nat} (hg : Gl X "zip") (hm : X.mg "zip" = none) (ha : DA M X [e, e2] fr)
    (hs : starEach [e, e2] X.env = (false, eval e X.env) :: starEach [e2] X.env := by rfl) (hpl : (backTo pos (starEach [e2] X.env)).any (·.1) = false := by rfl) :
    DI M X (.Tuple elts kk tpos) (.Call (.Name "zip" p) [e, e2] [] pos) (fiZip fr) := piMono (pi_zip hg hm ha hs hpl) fun σ H Q h => by
  obtain ⟨F, O, P, ρ, R, g, en, q, po⟩ := h
  refine ⟨F, O, P, ρ, _, g, en, q, fun ds O1 F1 H1 vs q1 s1 g1 r1 => ?_⟩
  unfold asL2 at q1
  split at q1
  · rename_i ds es
    obtain ⟨v, w, rfl, r1', r2'⟩ := r1.two'
    simp only [Rep] at r1' r2'
    obtain ⟨a, xs, rfl, h1, h2⟩ := r1'
    obtain ⟨b, ys, rfl, k1, k2⟩ := r2'
    refine ⟨a, b, xs, ys, rfl, SqL.of (g1.fz _ _ h1), SqL.of (g1.fz _ _ k1), po _ O1 F1 H1 _ q1 s1 g1 fun F2 O2 P2 H2 s2 g2 i => ⟨fun d e => ?_, fun hi => ?_⟩⟩
    · unfold zipD at e
      rw [List.getElem?_map] at e
      obtain ⟨pq, e0, rfl⟩ := Option.map_eq_some_iff.mp e
      obtain ⟨e0a, e0b⟩ := List.getElem?_zip_eq_some.mp e0
      have sq : SqL X.K H2 a xs := SqL.of (g2.fz _ _ (s2 _ _ h1))
      have sq2 : SqL X.K H2 b ys := SqL.of (g2.fz _ _ (s2 _ _ k1))
      obtain ⟨w, e1, r1⟩ := h2.get e0a
      obtain ⟨w2, e2, r2⟩ := k2.get e0b
      refine ⟨⟨xs, ys, w, w2, sq, sq2, e1, e2⟩, fun x H3 hy => ?_⟩
      obtain ⟨T, y, y2, rfl, hT, rfl, hx, hx2⟩ := hy
      have hxx := hx xs sq
      rw [e1] at hxx
      cases hxx
      have hxx2 := hx2 ys sq2
      rw [e2] at hxx2
      cases hxx2
      have hF := g2.freeF hT
      refine ⟨upd F2 T (.tup [w, w2]), same_upd hF, g2.new hT, ?_⟩
      simp only [Rep]
      refine ⟨T, _, rfl, .inl (.inl upd_same), .cons ((r1.mono s2).mono (same_upd hF)) (.one ((r2.mono s2).mono (same_upd hF)))⟩
    · unfold zipD at hi
      rw [List.length_map, List.length_zip] at hi
      refine ⟨xs, ys, SqL.of (g2.fz _ _ (s2 _ _ h1)), SqL.of (g2.fz _ _ (s2 _ _ k1)), ?_⟩
      rw [← h2.length, ← k2.length]
      omega
  · exact q1.elim
/-- reversed(xs) -/
def fiRev (fr : FA) : FI := fun ρ O Q => fr ρ O fun ds O1 => asL1 ds O1 fun ds O2 => Q ds.reverse O2
theorem di_rev {e : Expr} {p : Pos} (hg : Gl X "reversed") (hm : X.mg "reversed" = none) (ha : DA M X [e] fr) (hs : starEach [e] X.env = [(false, eval e X.env)] := by rfl) : DI M X tg (.Call (.Name "reversed" p) [e] [] pos) (fiRev fr) := piMono (pi_reversed hg hm ha hs) fun σ H Q h => by
  obtain ⟨F, O, P, ρ, R, g, en, q, po⟩ := h
  refine ⟨F, O, P, ρ, _, g, en, q, fun ds O1 F1 H1 vs q1 s1 g1 r1 => ?_⟩
  unfold asL1 at q1
  split at q1
  · rename_i ds
    obtain ⟨v, rfl, r1'⟩ := r1.one'
    simp only [Rep] at r1'
    obtain ⟨a, xs, rfl, h1, h2⟩ := r1'
    refine ⟨a, xs, rfl, SqL.of (g1.fz _ _ h1), po _ O1 F1 H1 _ q1 s1 g1 fun F2 O2 P2 H2 s2 g2 i => ⟨fun d e => ?_, fun hi => ?_⟩⟩
    · have hl : i < ds.length := by
        obtain ⟨h, _⟩ := List.getElem?_eq_some_iff.mp e
        simpa using h
      rw [List.getElem?_reverse hl] at e
      have sq : SqL X.K H2 a xs := SqL.of (g2.fz _ _ (s2 _ _ h1))
      obtain ⟨w, e1, r1⟩ := h2.get e
      rw [h2.length] at e1
      refine ⟨⟨by rw [← h2.length]; exact hl, xs, w, sq, e1⟩, fun x H3 hy => ?_⟩
      obtain ⟨rfl, hx⟩ := hy
      have hxx := hx xs sq
      rw [e1] at hxx
      cases hxx
      exact ⟨F2, Same.refl _, g2, r1.mono s2⟩
    · rw [List.length_reverse, h2.length] at hi
      exact hi
  · exact q1.elim
/-! ### for -/
def forD (p : Pat) (gb : GS) (R : DEnds) : List D → DEnv → Ow → Prop
  | [], ρ, O => R.nx ρ O
  | d :: ds, ρ, O => patGet (patD p d ρ) fun ρ1 => gb { R with nx := forD p gb R ds, ct := forD p gb R ds, bk := R.nx } ρ1 O
def gFor (fi : FI) (p : Pat) (gb : GS) : GS := fun R ρ O => fi ρ O fun ds O1 => forD p gb R ds ρ O1
theorem ds_for {body : List Stmt} {fi : FI} {p : Pat} {gb : GS} (hp : PassesOwn (model X.prog X.w) X.A X.env X.xe) (hc : X.calm = true) (hi : DI M X tg iter fi) (hg : DP X tg p) (hb : DSs M X body gb)
    (hs : ∀ x, foldedSetIterable iter X.env x = pure x := by intro _; rfl) : DS M X (.For tg iter body [] pos) (gFor fi p gb) := psMono (ps_for hp hc hi hg hb hs) fun D σ H h => by
  obtain ⟨F, O, P, ρ, R, g, en, q, po⟩ := h
  refine ⟨F, O, P, ρ, _, g, en, q, fun ds O1 F1 H1 J q1 s1 g1 it => ?_⟩
  refine ⟨fun i m σ H => ∃ F2 O2 ρ2, i + m = ds.length ∧ Same F1 F2 ∧ Gd M X.K F2 O2 P H ∧ EnvOk X.K F2 ρ2 σ ∧ forD p gb R (ds.drop i) ρ2 O2,
    ⟨ds.length, F1, O1, ρ, by omega, Same.refl _, g1, en.mono s1, by rw [List.drop_zero]; exact q1⟩, fun i m σ2 H2 hW => ?_⟩
  obtain ⟨F2, O2, ρ2, hm, s2, g2, en2, q2⟩ := hW
  obtain ⟨it1, it2⟩ := it F2 O2 P H2 s2 g2 i
  by_cases hi : i < ds.length
  · obtain ⟨hgo, hy⟩ := it1 ds[i] (List.getElem?_eq_getElem hi)
    rw [List.drop_eq_getElem_cons hi] at q2
    unfold forD at q2
    refine .inr ⟨hgo, fun σ' H' => ∃ F3 O3 ρ3, Same F1 F3 ∧ Gd M X.K F3 O3 P H' ∧ EnvOk X.K F3 ρ3 σ' ∧ forD p gb R (ds.drop (i + 1)) ρ3 O3, fun σ' H' hN => ?_, fun x H' hyy => ?_⟩
    · obtain ⟨F3, O3, ρ3, s3, g3, en3, q3⟩ := hN
      exact ⟨m - 1, by omega, F3, O3, ρ3, by omega, s3, g3, en3, q3⟩
    · obtain ⟨F3, s3, g3, r3⟩ := hy x H' hyy
      cases e1 : patD p ds[i] ρ2 with
      | none => rw [e1] at q2; exact q2.elim
      | some ρ3 =>
        rw [e1] at q2
        refine pat_ok g3 p ds[i] x ρ2 ρ3 σ2 _ e1 r3 (en2.mono s3) fun σ4 en4 _ => ?_
        refine ⟨F3, O2, P, ρ3, _, g3, en4, q2, ⟨fun ρ5 O5 F5 H5 σ5 q5 s5 g5 en5 => ?_, ?_, ?_, fun ρ5 O5 F5 H5 σ5 q5 s5 g5 en5 => ?_⟩⟩
        · exact ⟨F5, O5, ρ5, s2.trans (s3.trans s5), g5, en5, q5⟩
        · exact po.rt.more (s1.trans (s2.trans s3))
        · exact po.nx.more (s1.trans (s2.trans s3))
        · exact ⟨F5, O5, ρ5, s2.trans (s3.trans s5), g5, en5, q5⟩
  · refine .inl ⟨it2 (by omega), ?_⟩
    rw [List.drop_eq_nil_of_le (by omega)] at q2
    exact po.nx ρ2 O2 F2 H2 σ2 q2 (s1.trans s2) g2 en2
/-! ### while -/
def gWhile (ft : FT) (gb : GS) : GS := fun R ρ O => ∃ I : Nat → DEnv → Ow → Prop, (∃ m, I m ρ O) ∧ ∀ m ρ O, I m ρ O →
  ft ρ O fun b O1 => if b = true then gb { R with nx := fun ρ' O' => ∃ m', m' < m ∧ I m' ρ' O', ct := fun ρ' O' => ∃ m', m' < m ∧ I m' ρ' O', bk := R.nx } ρ O1 else R.nx ρ O1
theorem ds_while {body : List Stmt} {gb : GS} (hp : PassesOwn (model X.prog X.w) X.A X.env X.xe) (hc : DT M X c ft) (hb : DSs M X body gb) : DS M X (.While c body [] pos) (gWhile ft gb) := psMono (ps_while hp hc hb) fun D σ H h => by
  obtain ⟨F, O, P, ρ, R, g, en, ⟨I, ⟨m0, h0⟩, hI⟩, po⟩ := h
  refine ⟨fun m σ H => ∃ F2 O2 ρ2, Same F F2 ∧ Gd M X.K F2 O2 P H ∧ EnvOk X.K F2 ρ2 σ ∧ I m ρ2 O2, ⟨m0, F, O, ρ, Same.refl _, g, en, h0⟩, fun m σ2 H2 hW => ?_⟩
  obtain ⟨F2, O2, ρ2, s2, g2, en2, q2⟩ := hW
  refine ⟨F2, O2, P, ρ2, _, g2, en2, hI m ρ2 O2 q2, fun k O3 F3 H3 q3 s3 g3 => ?_⟩
  cases k with
  | false => rw [if_neg Bool.false_ne_true] at q3 ⊢; exact po.nx ρ2 O3 F3 H3 σ2 q3 (s2.trans s3) g3 (en2.mono s3)
  | true =>
    rw [if_pos rfl] at q3 ⊢
    refine ⟨fun σ' H' => ∃ F4 O4 ρ4, Same F F4 ∧ Gd M X.K F4 O4 P H' ∧ EnvOk X.K F4 ρ4 σ' ∧ ∃ m', m' < m ∧ I m' ρ4 O4, fun σ' H' hN => ?_, ?_⟩
    · obtain ⟨F4, O4, ρ4, s4, g4, en4, m', hm, q4⟩ := hN
      exact ⟨m', hm, F4, O4, ρ4, s4, g4, en4, q4⟩
    · refine ⟨F3, O3, P, ρ2, _, g3, en2.mono s3, q3, ⟨fun ρ5 O5 F5 H5 σ5 q5 s5 g5 en5 => ?_, ?_, ?_, fun ρ5 O5 F5 H5 σ5 q5 s5 g5 en5 => ?_⟩⟩
      · exact ⟨F5, O5, ρ5, s2.trans (s3.trans s5), g5, en5, q5⟩
      · exact po.rt.more (s2.trans s3)
      · exact po.nx.more (s2.trans s3)
      · exact ⟨F5, O5, ρ5, s2.trans (s3.trans s5), g5, en5, q5⟩
end
end Kf
namespace Kf
open PySem PySem.Spec L2
open PyProof.Rows hiding St
variable {M : MX}

/-! ### a thing that stands aside -/
section
variable {K : PySem.W.Frag} {F P H : Hp} {O : Ow} {p : Addr} {o o' : HO}
theorem Gd.aside (g : Gd M K F O P H) (h : H p = none) : Gd M K F O (upd P p o) (upd H p o) := by
  have hF := g.freeF h
  have hO := g.freeO h
  have g' := g.skip (o := o) h
  refine ⟨g'.fz, fun a c e => ?_, fun a u e => ?_, M.mono g.rl (Same.refl _) (same_upd (g.freeP h))⟩
  · have ne : a ≠ p := fun q => by rw [q, hO] at e; cases e
    obtain ⟨h1, h2, h3⟩ := g'.ow a c e
    exact ⟨h1, (upd_ne ne).trans h2, h3⟩
  · by_cases q : a = p
    · subst q; rw [upd_same] at e; cases e; exact ⟨hF, upd_same⟩
    · rw [upd_ne q] at e; exact g'.as a u e
theorem Gd.asideSet (g : Gd M K F O (upd P p o) H) (mk : M.rel F (upd P p o')) : Gd M K F O (upd P p o') (upd H p o') := by
  obtain ⟨hF, hH⟩ := g.as p o upd_same
  refine ⟨fun b x e => ?_, fun a c e => ?_, fun a u e => ?_, mk⟩
  · have ne : b ≠ p := fun q => by rw [q, hF] at e; cases e
    rw [upd_ne ne]; exact g.fz b x e
  · obtain ⟨h1, h2, h3⟩ := g.ow a c e
    have ne : a ≠ p := fun q => by rw [q, upd_same] at h2; cases h2
    rw [upd_ne ne] at h2
    exact ⟨h1, (upd_ne ne).trans h2, h3.mono (Same.refl _) (upd_ne ne)⟩
  · by_cases q : a = p
    · subst q; rw [upd_same] at e; cases e; exact ⟨hF, upd_same⟩
    · rw [upd_ne q] at e
      obtain ⟨h1, h2⟩ := g.as a u ((upd_ne q).trans e)
      exact ⟨h1, (upd_ne q).trans h2⟩
theorem Gd.asideFz (g : Gd M K F O (upd P p o) H) (hP : P p = none) (mk : M.rel F P) : Same F (upd F p o) ∧ Gd M K (upd F p o) O P H := by
  obtain ⟨hF, hH⟩ := g.as p o upd_same
  have s : Same F (upd F p o) := same_upd hF
  refine ⟨s, fun b x e => ?_, fun a c e => ?_, fun a u e => ?_, M.mono mk s (Same.refl _)⟩
  · by_cases q : b = p
    · subst q; rw [upd_same] at e; cases e; exact hH
    · rw [upd_ne q] at e; exact g.fz b x e
  · obtain ⟨h1, h2, h3⟩ := g.ow a c e
    have ne : a ≠ p := fun q => by rw [q, upd_same] at h2; cases h2
    rw [upd_ne ne] at h2
    exact ⟨(upd_ne ne).trans h1, h2, h3.mono s rfl⟩
  · have ne : a ≠ p := fun q => by rw [q, hP] at e; cases e
    obtain ⟨h1, h2⟩ := g.as a u ((upd_ne ne).trans e)
    exact ⟨(upd_ne ne).trans h1, h2⟩
theorem Gd.asideOw (g : Gd M K F O (upd P p o) H) (hP : P p = none) (mk : M.rel F P) {c : Cell} (hc : CellOk K F H p c) : O p = none ∧ Gd M K F (updO O p c) P H := by
  obtain ⟨hF, hH⟩ := g.as p o upd_same
  have hO : O p = none := by
    cases e : O p with
    | none => rfl
    | some c =>
      have q := (g.ow p c e).2.1
      rw [upd_same] at q; cases q
  refine ⟨hO, g.fz, fun a d e => ?_, fun a u e => ?_, mk⟩
  · by_cases q : a = p
    · subst q; rw [updO_same] at e; cases e; exact ⟨hF, hP, hc⟩
    · rw [updO_ne q] at e
      obtain ⟨h1, h2, h3⟩ := g.ow a d e
      rw [upd_ne q] at h2
      exact ⟨h1, h2, h3⟩
  · have ne : a ≠ p := fun q => by rw [q, hP] at e; cases e
    exact g.as a u ((upd_ne ne).trans e)
end

/-! ### list comprehensions -/
def wipeD (ρ : DEnv) : List Nat → DEnv
  | [] => ρ
  | v :: vs => (wipeD ρ vs).set v none
theorem EnvOk.wipes {K : PySem.W.Frag} {F : Hp} {ρ : DEnv} {σ : L2.St} (h : EnvOk K F ρ σ) : ∀ vs : List Nat, EnvOk K F (wipeD ρ vs) (L2.wipe σ vs)
  | [] => h
  | v :: vs => by unfold wipeD L2.wipe; exact (EnvOk.wipes h vs).wipe v
theorem wipe_in {σ : L2.St} {i : Nat} : ∀ {vs : List Nat}, i ∈ vs → (wipe σ vs)[i]? = if i < σ.length then some none else none
  | [], h => by cases h
  | v :: vs, h => by
    unfold L2.wipe
    by_cases e : v = i
    · subst e
      by_cases c : v < σ.length
      · rw [if_pos c, List.getElem?_set_self (by rw [wipe_length]; exact c)]
      · rw [if_neg c, List.getElem?_eq_none (by rw [List.length_set, wipe_length]; omega)]
    · rw [List.getElem?_set_ne e]
      exact wipe_in ((List.mem_cons.mp h).resolve_left fun q => e q.symm)
theorem wipe_off {σ τ : L2.St} {vs ws : List Nat} (h : Off ws (wipe σ vs) τ) (hs : ∀ i ∈ ws, i ∈ vs) : wipe τ vs = wipe σ vs := by
  refine List.ext_getElem? fun i => ?_
  have hl : τ.length = σ.length := by rw [← h.1, wipe_length]
  by_cases c : i ∈ vs
  · rw [wipe_in c, wipe_in c, hl]
  · rw [wipe_out c]
    exact h.2 i fun q => c (hs i q)
def lcD (p : Pat) (ft : FT) (fe : FE) (ρ : DEnv) : List D → List D → Ow → (List D → Ow → Prop) → Prop
  | [], acc, O, Q => Q acc O
  | d :: ds, acc, O, Q => patGet (patD p d ρ) fun ρ1 => ft ρ1 O fun b O1 => if b = true then fe ρ1 O1 fun e O2 => acc.length < sizeLine ∧ lcD p ft fe ρ ds (acc ++ [e]) O2 Q else lcD p ft fe ρ ds acc O1 Q
def fLc (fi : FI) (p : Pat) (ft : FT) (fe : FE) (vs : List Nat) : FE := fun ρ O Q => fi ρ O fun ds O1 => lcD p ft fe (wipeD ρ vs) ds [] O1 fun acc O2 => Q (.lst acc) O2
def fLcO (fi : FI) (p : Pat) (ft : FT) (fe : FE) (vs : List Nat) : FE := fun ρ O Q => fi ρ O fun ds O1 => lcD p ft fe (wipeD ρ vs) ds [] O1 fun acc O2 => ∀ q, O2 q = none → Q (.ref q) (updO O2 q (.lst acc))
def fYes : FT := fun _ O Q => Q true O
section
variable {X : Cx} {elt tg iter : Expr} {ifs : List Expr} {scope : Scope} {own : List (Str × Nat)} {pos : Pos} {fi : FI} {p : Pat} {ft : FT} {fe : FE}
theorem dts_nil : PTs X [] (liftT M X.K fYes) := ⟨fun pins s σ H Q I h => by
  obtain ⟨F, O, P, ρ, R, g, en, q, po⟩ := h
  exact pts_nil.run pins s σ H Q I (po true O F H q (Same.refl _) g)⟩
theorem dts_one {c : Expr} (h : DT M X c ft) : PTs X [c] (liftT M X.K ft) := pts_one h
theorem fLc_core {vs : List Nat} {K : PySem.W.Frag} (hv : ∀ i ∈ patI p, i ∈ vs) {σ : L2.St} {H : Hp} {Q : VK} {F P : Hp} {O : Ow} {ρ : DEnv} {R : List D → Ow → Prop} (g : Gd M K F O P H) (en : EnvOk K F ρ σ)
    (q : fi ρ O fun ds O1 => lcD p ft fe (wipeD ρ vs) ds [] O1 R)
    (po : ∀ acc O' F' H' q vacc, R acc O' → Same F F' → P q = none → M.rel F' P → Gd M K F' O' (upd P q (.lst vacc)) H' → RepAll K F' acc vacc → Q (.ref q) H') :
    tLc (liftI M K fi) (patT K p) (liftT M K ft) (liftE M K fe) vs σ H Q := by
  refine ⟨F, O, P, ρ, _, g, en, q, fun ds O1 F1 H1 J q1 s1 g1 it D hD => ?_⟩
  have hP := g1.freeP hD
  refine ⟨fun i m H => ∃ F2 O2 acc vacc, i + m = ds.length ∧ Same F1 F2 ∧ Gd M K F2 O2 (upd P D (.lst vacc)) H ∧ RepAll K F2 acc vacc ∧ lcD p ft fe (wipeD ρ vs) (ds.drop i) acc O2 R,
    ⟨ds.length, F1, O1, [], [], by omega, Same.refl _, g1.aside hD, .nil, by rw [List.drop_zero]; exact q1⟩, fun i m H2 hW => ?_⟩
  obtain ⟨F2, O2, acc, vacc, hm, s2, g2, ra, q2⟩ := hW
  obtain ⟨it1, it2⟩ := it F2 O2 (upd P D (.lst vacc)) H2 s2 g2 i
  by_cases hi : i < ds.length
  · obtain ⟨hgo, hy⟩ := it1 ds[i] (List.getElem?_eq_getElem hi)
    rw [List.drop_eq_getElem_cons hi] at q2
    unfold lcD at q2
    refine .inr ⟨hgo, fun H' => ∃ F3 O3 acc vacc, Same F1 F3 ∧ Gd M K F3 O3 (upd P D (.lst vacc)) H' ∧ RepAll K F3 acc vacc ∧ lcD p ft fe (wipeD ρ vs) (ds.drop (i + 1)) acc O3 R, fun H' hN => ?_, fun x H' hyy => ?_⟩
    · obtain ⟨F3, O3, acc3, vacc3, s3, g3, r3, q3⟩ := hN
      exact ⟨m - 1, by omega, F3, O3, acc3, vacc3, by omega, s3, g3, r3, q3⟩
    · obtain ⟨F3, s3, g3, r3⟩ := hy x H' hyy
      cases e1 : patD p ds[i] (wipeD ρ vs) with
      | none => rw [e1] at q2; exact q2.elim
      | some ρ3 =>
        rw [e1] at q2
        refine pat_ok g3 p ds[i] x (wipeD ρ vs) ρ3 (wipe σ vs) _ e1 r3 ((en.mono (s1.trans (s2.trans s3))).wipes vs) fun σ4 en4 off => ?_
        refine ⟨wipe_off off hv, F3, O2, upd P D (.lst vacc), ρ3, _, g3, en4, q2, fun b O5 F5 H5 q5 s5 g5 => ?_⟩
        cases b with
        | true =>
          rw [if_pos rfl] at q5 ⊢
          refine ⟨F5, O5, upd P D (.lst vacc), ρ3, _, g5, en4.mono s5, q5, fun y O6 F6 H6 w q6 s6 g6 r6 => ?_⟩
          refine ⟨vacc, (g6.as D _ upd_same).2, by rw [← ra.length]; exact q6.1, F6, O6, acc ++ [y], vacc ++ [w], s2.trans (s3.trans (s5.trans s6)), g6.asideSet (M.mono g1.rl (s2.trans (s3.trans (s5.trans s6))) (same_upd hP)), (ra.mono (s3.trans (s5.trans s6))).append (.one r6), q6.2⟩
        | false =>
          rw [if_neg Bool.false_ne_true] at q5 ⊢
          exact ⟨F5, O5, acc, vacc, s2.trans (s3.trans s5), g5, ra.mono (s3.trans s5), q5⟩
  · rw [List.drop_eq_nil_of_le (by omega)] at q2
    exact .inl ⟨it2 (by omega), po acc O2 F2 H2 D vacc q2 (s1.trans s2) hP (M.mono g1.rl s2 (Same.refl _)) g2 ra⟩
theorem fLc_lift {vs : List Nat} {K : PySem.W.Frag} (hv : ∀ i ∈ patI p, i ∈ vs) : ∀ σ H Q, liftE M K (fLc fi p ft fe vs) σ H Q → tLc (liftI M K fi) (patT K p) (liftT M K ft) (liftE M K fe) vs σ H Q := fun σ H Q h => by
  obtain ⟨F, O, P, ρ, R, g, en, q, po⟩ := h
  refine fLc_core hv g en q fun acc O' F' H' a vacc q1 s1 hP mk g1 r1 => ?_
  obtain ⟨s2, g2⟩ := g1.asideFz hP mk
  refine po (.lst acc) O' _ H' _ q1 (s1.trans s2) g2 ?_
  simp only [Rep]
  exact ⟨a, vacc, rfl, upd_same, r1.mono s2⟩
theorem fLcO_lift {vs : List Nat} {K : PySem.W.Frag} (hv : ∀ i ∈ patI p, i ∈ vs) : ∀ σ H Q, liftE M K (fLcO fi p ft fe vs) σ H Q → tLc (liftI M K fi) (patT K p) (liftT M K ft) (liftE M K fe) vs σ H Q := fun σ H Q h => by
  obtain ⟨F, O, P, ρ, R, g, en, q, po⟩ := h
  refine fLc_core hv g en q fun acc O' F' H' a vacc q1 s1 hP mk g1 r1 => ?_
  obtain ⟨hO, g2⟩ := g1.asideOw hP mk (c := .lst acc) ⟨vacc, (g1.as a _ upd_same).2, r1⟩
  exact po (.ref a) _ F' H' _ (q1 a hO) s1 g2 (by simp only [Rep])
theorem pat_in {vs : List Nat} (h : ((patI p).all fun i => vs.contains i) = true) : ∀ i ∈ patI p, i ∈ vs := fun i hi => by
  have := List.all_eq_true.mp h i hi
  simpa using this
theorem de_lc {vs : List Nat} (hc : X.calm = true) (hN : X.N.Nodup) (hi : DI M X tg iter fi) (ok : BlkOk X.N X.env.scope scope own)
    (hg : ∀ (s : Shared) (H : Hp) (C : Addr) (cl : List (Str × Addr)) (fp : List Addr), DP (X.blk s H scope (compEnvC scope cl C X.env) fp) tg p) (ht : ∀ (s : Shared) (H : Hp) (C : Addr) (cl : List (Str × Addr)) (fp : List Addr), PTs (X.blk s H scope (compEnvC scope cl C X.env) fp) ifs (liftT M X.K ft))
    (he : ∀ (s : Shared) (H : Hp) (C : Addr) (cl : List (Str × Addr)) (fp : List Addr), DE M (X.blk s H scope (compEnvC scope cl C X.env) fp) elt fe) (hvs : own.map (·.2) = vs := by rfl) (hv : ((patI p).all fun i => vs.contains i) = true := by decide) (hs : ∀ x, foldedSetIterable iter X.env x = pure x := by intro _; rfl) :
    DE M X (.ListComp elt [⟨tg, iter, ifs, 0⟩] scope pos) (fLc fi p ft fe vs) := by
  subst hvs
  exact peMono (pe_lc (te := liftE M X.K fe) (g := patT X.K p) hc hN hi ok hg ht he hs) (fLc_lift (pat_in hv))
theorem de_lcO {vs : List Nat} (hc : X.calm = true) (hN : X.N.Nodup) (hi : DI M X tg iter fi) (ok : BlkOk X.N X.env.scope scope own)
    (hg : ∀ (s : Shared) (H : Hp) (C : Addr) (cl : List (Str × Addr)) (fp : List Addr), DP (X.blk s H scope (compEnvC scope cl C X.env) fp) tg p) (ht : ∀ (s : Shared) (H : Hp) (C : Addr) (cl : List (Str × Addr)) (fp : List Addr), PTs (X.blk s H scope (compEnvC scope cl C X.env) fp) ifs (liftT M X.K ft))
    (he : ∀ (s : Shared) (H : Hp) (C : Addr) (cl : List (Str × Addr)) (fp : List Addr), DE M (X.blk s H scope (compEnvC scope cl C X.env) fp) elt fe) (hvs : own.map (·.2) = vs := by rfl) (hv : ((patI p).all fun i => vs.contains i) = true := by decide) (hs : ∀ x, foldedSetIterable iter X.env x = pure x := by intro _; rfl) :
    DE M X (.ListComp elt [⟨tg, iter, ifs, 0⟩] scope pos) (fLcO fi p ft fe vs) := by
  subst hvs
  exact peMono (pe_lc (te := liftE M X.K fe) (g := patT X.K p) hc hN hi ok hg ht he hs) (fLcO_lift (pat_in hv))
/-- name = [..] on one line, the name a local -/
theorem ds_setLc {i : Nat} {vs : List Nat} {y : Str} {py spos : Pos} (hc : X.calm = true) (hN : X.N.Nodup) (hy : X.N[i]? = some y) (hyl : X.env.scope.names.lookup y = some .local)
    (hsw : swapsWith (.ListComp elt [⟨tg, iter, ifs, 0⟩] scope pos) (some (.Name y py)) spos.line X.env = pure true) (hi : DI M X tg iter fi) (ok : BlkOk X.N X.env.scope scope own)
    (hg : ∀ (s : Shared) (H : Hp) (C : Addr) (cl : List (Str × Addr)) (fp : List Addr), DP (X.blk s H scope (compEnvC scope cl C X.env) fp) tg p) (ht : ∀ (s : Shared) (H : Hp) (C : Addr) (cl : List (Str × Addr)) (fp : List Addr), PTs (X.blk s H scope (compEnvC scope cl C X.env) fp) ifs (liftT M X.K ft))
    (he : ∀ (s : Shared) (H : Hp) (C : Addr) (cl : List (Str × Addr)) (fp : List Addr), DE M (X.blk s H scope (compEnvC scope cl C X.env) fp) elt fe) (hvs : own.map (·.2) = vs := by rfl) (hv : ((patI p).all fun i => vs.contains i) = true := by decide) (hs : ∀ x, foldedSetIterable iter X.env x = pure x := by intro _; rfl) :
    DS M X (.Assign [.Name y py] (.ListComp elt [⟨tg, iter, ifs, 0⟩] scope pos) spos) (gSet (fLc fi p ft fe vs) i) := by
  subst hvs
  exact psMono (ps_setLc (te := liftE M X.K fe) (g := patT X.K p) hc hN hy hyl hsw hi ok hg ht he hs) (gSet_lift (fLc_lift (pat_in hv)))
theorem ds_setLcO {i : Nat} {vs : List Nat} {y : Str} {py spos : Pos} (hc : X.calm = true) (hN : X.N.Nodup) (hy : X.N[i]? = some y) (hyl : X.env.scope.names.lookup y = some .local)
    (hsw : swapsWith (.ListComp elt [⟨tg, iter, ifs, 0⟩] scope pos) (some (.Name y py)) spos.line X.env = pure true) (hi : DI M X tg iter fi) (ok : BlkOk X.N X.env.scope scope own)
    (hg : ∀ (s : Shared) (H : Hp) (C : Addr) (cl : List (Str × Addr)) (fp : List Addr), DP (X.blk s H scope (compEnvC scope cl C X.env) fp) tg p) (ht : ∀ (s : Shared) (H : Hp) (C : Addr) (cl : List (Str × Addr)) (fp : List Addr), PTs (X.blk s H scope (compEnvC scope cl C X.env) fp) ifs (liftT M X.K ft))
    (he : ∀ (s : Shared) (H : Hp) (C : Addr) (cl : List (Str × Addr)) (fp : List Addr), DE M (X.blk s H scope (compEnvC scope cl C X.env) fp) elt fe) (hvs : own.map (·.2) = vs := by rfl) (hv : ((patI p).all fun i => vs.contains i) = true := by decide) (hs : ∀ x, foldedSetIterable iter X.env x = pure x := by intro _; rfl) :
    DS M X (.Assign [.Name y py] (.ListComp elt [⟨tg, iter, ifs, 0⟩] scope pos) spos) (gSet (fLcO fi p ft fe vs) i) := by
  subst hvs
  exact psMono (ps_setLc (te := liftE M X.K fe) (g := patT X.K p) hc hN hy hyl hsw hi ok hg ht he hs) (gSet_lift (fLcO_lift (pat_in hv)))
end

/-! ### what a def promises, over data -/
theorem Gd.re {M' : MX} {K : PySem.W.Frag} {F P H : Hp} {O : Ow} (g : Gd M K F O P H) (mk : M'.rel F P) : Gd M' K F O P H := ⟨g.fz, g.ow, g.as, mk⟩
theorem Gd.mt {K : PySem.W.Frag} {F P H : Hp} {O : Ow} (g : Gd M K F O P H) : Gd MT K F O P H := g.re trivial
theorem Gd.less {K : PySem.W.Frag} {F P P0 H : Hp} {O : Ow} (g : Gd MT K F O P H) (s : Same P0 P) : Gd MT K F O P0 H := by
  refine ⟨g.fz, fun a c e => ?_, fun a o e => g.as a o (s a o e), trivial⟩
  obtain ⟨h1, h2, h3⟩ := g.ow a c e
  exact ⟨h1, s.free h2, h3⟩
theorem PostE.mt {K : PySem.W.Frag} {F F1 P H : Hp} {O : Ow} {R : VD} {Q : VK} (po : PostE M K F P R Q) (g : Gd M K F1 O P H) (s1 : Same F F1) : PostE MT K F1 P R Q := fun d O' F' H' v q s g' r => po d O' F' H' v q (s1.trans s) (g'.re (M.mono g.rl s (Same.refl _))) r
abbrev XD := Value → Option (List (Str × D)) → Ow → Prop
abbrev DSp := List D → Ow → VD → XD → Prop
def XdOk (K : PySem.W.Frag) (F _H : Hp) : Option (List (Str × D)) → Option Addr → Prop := XdR K F
def PostX (K : PySem.W.Frag) (F P : Hp) (RE : XD) (E : XK) : Prop := ∀ cls fs O' F' H' dd, RE cls fs O' → Same F F' → Gd MT K F' O' P H' → XdOk K F' H' fs dd → E cls dd H'
theorem PostX.more {K : PySem.W.Frag} {F F' P : Hp} {RE : XD} {E : XK} (po : PostX K F P RE E) (s : Same F F') : PostX K F' P RE E := fun cls fs O' F2 H' dd q s2 g x => po cls fs O' F2 H' dd q (s.trans s2) g x
def liftSp (K : PySem.W.Frag) (dsp : DSp) : Sp := fun vs H Q E => ∃ F O P ds R RE, Gd MT K F O P H ∧ RepAll K F ds vs ∧ dsp ds O R RE ∧ PostE MT K F P R Q ∧ PostX K F P RE E
abbrev X0 : XD := fun _ _ _ => False
section
variable {X : Cx} {e : Expr} {es : List Expr} {fr : FA} {CX : CXT} {k : Nat} {f : Addr} {fd : FuncData} {ps : List Str} {dsp : DSp} {x : Str} {p pos : Pos}
def fCall (dsp : DSp) (fr : FA) : FE := fun ρ O Q => fr ρ O fun ds O1 => dsp ds O1 Q X0
theorem de_call (G : FnOk X.prog X.w X.K X.mg X.base CX0 k f fd ps (liftSp X.K dsp)) (hr : Room k X.A) (hg : Gl X x) (hm : X.mg x = some (.ref f)) (hk : PySem.W.keepIn X.K (.ref f) = true) (hb : Binds X.K fd ps [])
    (ha : DA M X (e :: es) fr) (hdb : (x == ("__debug__" : Str)) = false := by decide) (he : starEach (e :: es) X.env = (false, eval e X.env) :: starEach es X.env := by rfl) (hpl : (backTo pos (starEach es X.env)).any (·.1) = false := by rfl) :
    DE M X (.Call (.Name x p) (e :: es) [] pos) (fCall dsp fr) := peMono (pe_call G hr hg hm hk hb .nil pass0 ha hdb he hpl) fun σ H Q h => by
  obtain ⟨F, O, P, ρ, R, g, en, q, po⟩ := h
  refine ⟨F, O, P, ρ, _, g, en, q, fun ds O1 F1 H1 vs q1 s1 g1 r1 => ?_⟩
  show liftSp X.K dsp (vs ++ []) H1 Q E0
  rw [List.append_nil]
  exact ⟨F1, O1, P, ds, R, X0, g1.mt, r1, q1, po.mt g1 s1, fun _ _ _ _ _ _ z => z.elim⟩
end
section
variable {P : Program} {w : World} {K : PySem.W.Frag} {mg : Str → Option Value} {base : Heap}
/-- the names' values at the entry -/
def startD (N : List Str) (ds : List D) : DEnv := ds.map some ++ List.replicate (N.length - ds.length) none
theorem fn_d {x qual : Str} {st : Stmt} {f : Addr} {fd : FuncData} {N ps : List Str} {k : Nat} {dsp : DSp} {g : GS} (F : Fun K x qual st f fd) (S : FnScope N ps (defScope st)) (len : ∀ ds O R RE, dsp ds O R RE → ds.length = ps.length)
    (hder : ∀ (cdv : Value) (A : Around) (outer : List Env) (s : Shared) (H : Hp) (E : XK), Room k (A.deeper (envOfC qual (defScope st) s.heap.objs.size f cdv)) →
      DSs MT (cxOf CX0 P w K mg base N qual (defScope st) f cdv A outer s H E).nox (defBody st) g)
    (hread : ∀ ds O R RE, dsp ds O R RE → g { nx := fun _ O' => R .non O', rt := R } (startD N ds) O) : FnOk P w K mg base CX0 (k + 1) f fd ps (liftSp K dsp) := by
  refine F.ok S (fun vs H Q E h => ?_) fun cdv A outer s H vs Q E hr h => ?_
  · obtain ⟨F, O, P, ds, R, RE, g, r, q, _⟩ := h
    rw [← r.length]; exact len ds O R RE q
  · obtain ⟨F, O, P, ds, R, RE, gd, r, q, po, _⟩ := h
    refine ⟨_, hder cdv A outer s H E hr, F, O, P, startD N ds, { nx := fun _ O' => R .non O', rt := R }, gd, ?_, hread ds O R RE q, ⟨fun ρ O' F' H' σ q1 s1 g1 _ => ?_, po, fun _ _ _ _ _ z => z.elim, fun _ _ _ _ _ z => z.elim⟩⟩
    · unfold startD L2.start
      rw [r.length]
      exact envOk_start _ r
    · exact po .non O' F' H' .non q1 s1 g1 (by simp only [Rep])
end
/-- no calls are left -/
theorem none_left {P : Program} {w : World} {K : PySem.W.Frag} {mg : Str → Option Value} {base : Heap} {CX : CXT} {f : Addr} {fd : FuncData} {ps : List Str} {dsp : DSp} {k : Nat} (no : ∀ ds O R RE, ¬ dsp ds O R RE) : FnOk P w K mg base CX k f fd ps (liftSp K dsp) := by
  have no' : ∀ vs H Q E, ¬ liftSp K dsp vs H Q E := fun vs H Q E h => by
    obtain ⟨F, O, P, ds, R, RE, g, r, q, _⟩ := h
    exact no ds O R RE q
  exact ⟨fun vs H Q E h => absurd h (no' vs H Q E), fun A outer s H args us vs Q E _ _ _ _ h => absurd h (no' vs H Q E)⟩
/-- the law's own promise -/
def lawSp (n : Nat) : DSp := fun ds _ R _ => ∃ ns : List Int, ds = [.scr ns] ∧ ns.length ≤ n ∧ ∀ O, R (.bl true) O
theorem law_start {K : PySem.W.Frag} {H : Hp} {a : Addr} {ns : List Int} {n : Nat} (hl : ns.length ≤ n) (h : SqL K H a (ns.map V.int)) : liftSp K (lawSp n) [.ref a] H (fun v _ => v = .bl true) fun _ _ _ => False := by
  refine ⟨fun b => if b = a then H b else none, fun _ => none, fun _ => none, [.scr ns], fun d _ => d = .bl true, X0, ⟨fun b o e => ?_, (fun _ _ e => nomatch e), (fun _ _ e => nomatch e), trivial⟩, ?_, ⟨ns, rfl, hl, fun _ => rfl⟩, fun d O' F' H' v q _ _ r => ?_, fun _ _ _ _ _ _ z => z.elim⟩
  · split at e
    · exact e
    · cases e
  · refine .one ?_
    simp only [Rep]
    refine ⟨a, rfl, ?_⟩
    rcases h with (h | ⟨o, h⟩) | h
    · exact .inl (.inl ((if_pos rfl).trans h))
    · exact .inl (.inr ⟨o, (if_pos rfl).trans h⟩)
    · exact .inr h
  · subst q
    simpa only [Rep] using r
end Kf
namespace Kf
open PySem PySem.Spec L2
open PyProof.Rows hiding St
variable {M : MX}

abbrev rSubD : R2D := rInts0 fun i j => .int (i - j)
abbrev rMulD : R2D := rInts CMul fun i j => .int (i * j)
abbrev rDivD : R2D := rInts CDv fun i j => .int (i / j)
abbrev rModD : R2D := rInts (fun _ j => 0 < j) fun i j => .int (i % j)
abbrev rPowD : R2D := rInts CPow fun i j => .int (i ^ j.toNat)
abbrev rGtD : R2D := rInts0 fun i j => .bl (decide (j < i))
abbrev rGeD : R2D := rInts0 fun i j => .bl (decide (j ≤ i))
abbrev rIAdd : R2D := rInts0 fun i j => .int (i + j)
theorem oi_add {X : Cx} : OpD M X (inplaceOp .Add) rIAdd := od_ints0 iop_add fun _ _ _ => by simp only [Rep]
theorem oi_sub {X : Cx} : OpD M X (inplaceOp .Sub) rSubD := od_ints0 iop_sub fun _ _ _ => by simp only [Rep]

theorem _root_.L2.Room.u200 {k : Nat} {A : Around} (r : Room k A) : A.units + 200 < cLine := by have := r.un; omega

/-- a def of the text: its place, its name, how it is called -/
structure Fn (K : PySem.W.Frag) (mg : Str → Option Value) (x : Str) (st : Stmt) (ps : List Str) (f : Addr) (fd : FuncData) : Prop where
  F : Fun K x x st f fd
  m : mg x = some (.ref f)
  b : Binds K fd ps []
section
variable {X : Cx} {e : Expr} {es : List Expr} {fr : FA} {k : Nat} {f : Addr} {fd : FuncData} {ps : List Str} {dsp : DSp} {x : Str} {st : Stmt} {p pos : Pos}
theorem de_callN (N : Fn X.K X.mg x st ps f fd) (G : FnOk X.prog X.w X.K X.mg X.base CX0 k f fd ps (liftSp X.K dsp)) (hr : Room k X.A) (hg : Gl X x)
    (ha : DA M X (e :: es) fr) (hdb : (x == ("__debug__" : Str)) = false := by decide) (he : starEach (e :: es) X.env = (false, eval e X.env) :: starEach es X.env := by rfl) (hpl : (backTo pos (starEach es X.env)).any (·.1) = false := by rfl) :
    DE M X (.Call (.Name x p) (e :: es) [] pos) (fCall dsp fr) := de_call G hr hg N.m N.F.kp N.b ha hdb he hpl
/-- a constant of the module -/
def Cst (K : PySem.W.Frag) (mg : Str → Option Value) (x : Str) (d : D) : Prop := ∃ u v, mg x = some u ∧ RelV v u ∧ ∀ F, Rep K F d v
theorem de_cst {d : D} (c : Cst X.K X.mg x d) (hg : Gl X x) (hd : (x == ("__debug__" : Str)) = false := by decide) : DE M X (.Name x pos) (fC d) := by
  obtain ⟨u, v, h1, h2, h3⟩ := c
  exact de_glob hg h1 h2 h3 hd
/-- a built-in class as a value -/
theorem de_ty {n : String} (hv : bootBuiltins x = some (.type n)) (hm : X.mg x = none) (hg : Gl X x) (hn : x ≠ "__name__" := by decide) (hd : (x == ("__debug__" : Str)) = false := by decide) : DE M X (.Name x pos) (fC (.ty n)) :=
  de_bltn (v := .ty n) hg hm hv rfl (fun _ => by simp only [Rep]) hn hd
end
theorem bb_len : bootBuiltins "len" = some (.builtin "len") := by decide +kernel
theorem bb_isinstance : bootBuiltins "isinstance" = some (.builtin "isinstance") := by decide +kernel
theorem bb_max : bootBuiltins "max" = some (.builtin "max") := by decide +kernel
theorem bb_min : bootBuiltins "min" = some (.builtin "min") := by decide +kernel
theorem bb_divmod : bootBuiltins "divmod" = some (.builtin "divmod") := by decide +kernel
theorem bb_sum : bootBuiltins "sum" = some (.builtin "sum") := by decide +kernel
theorem bb_sorted : bootBuiltins "sorted" = some (.builtin "sorted") := by decide +kernel
theorem bb_int : bootBuiltins "int" = some (.type "int") := by decide +kernel
theorem bb_str : bootBuiltins "str" = some (.type "str") := by decide +kernel
theorem bb_bool : bootBuiltins "bool" = some (.type "bool") := by decide +kernel
theorem bb_tuple : bootBuiltins "tuple" = some (.type "tuple") := by decide +kernel
theorem bb_list : bootBuiltins "list" = some (.type "list") := by decide +kernel
theorem bb_dict : bootBuiltins "dict" = some (.type "dict") := by decide +kernel

/-! ### ends that are known -/
theorem cst_int {K : PySem.W.Frag} {mg : Str → Option Value} {x : Str} {i : Int} {t : Tok} (h : mg x = some (.int i t)) : Cst K mg x (.int i) := ⟨_, .int i, h, ⟨t, rfl⟩, fun _ => by simp only [Rep]⟩
theorem cst_str {K : PySem.W.Frag} {mg : Str → Option Value} {x y : Str} {t : Tok} (h : mg x = some (.str y t)) : Cst K mg x (.str y) := ⟨_, .str y, h, ⟨t, rfl⟩, fun _ => by simp only [Rep]⟩
/-- a tuple of texts that stands in the written part -/
theorem cst_strs {K : PySem.W.Frag} {mg : Str → Option Value} {x : Str} {a : Addr} {o : Obj} {its : Array Value} {n : Nat} {ys : List Str} (h : mg x = some (.ref a)) (h1 : K.lookup a = some o) (h2 : o.cls = .type "tuple") (h3 : o.data = .seq its n)
    (h4 : Vals (ys.map V.str) its.toList) (h5 : ys.length ≤ sizeLine) : Cst K mg x (.tup (ys.map .str)) := by
  refine ⟨_, .ref a, h, rfl, fun F => ?_⟩
  simp only [Rep]
  refine ⟨a, ys.map V.str, rfl, .inr ⟨o, its, n, h1, h2, h3, ?_, h4⟩, .of_strs⟩
  have h6 : ys.length = its.size := by
    have := h4.length
    rw [List.length_map] at this
    rw [this]; simp
  omega
end Kf
namespace Kf
open PySem PySem.Spec L2
open PyProof.Rows hiding St
variable {M : MX}

/-! ### the readings at known data -/
section
variable {O : Ow} {Q : VD} {i j : Int} {a b : Str} {xs ys : List D} {d e x y z u : D} {p : Addr} {neg : Bool} {ns : List Int}
theorem deref_ref (h : O p = some (.lst xs)) : deref O (.ref p) = .lst xs := by simp only [deref, h]
theorem deref_tup : deref O (.tup xs) = .tup xs := rfl
theorem deref_lst : deref O (.lst xs) = .lst xs := rfl
theorem deref_int : deref O (.int i) = .int i := rfl
theorem deref_str : deref O (.str a) = .str a := rfl
theorem deref_bl {k : Bool} : deref O (.bl k) = .bl k := rfl
theorem deref_non : deref O .non = .non := rfl
theorem deref_scr : deref O (.scr ns) = .scr ns := rfl
theorem rLt_i : rLtD (.int i) (.int j) O Q = Q (.bl (decide (i < j))) O := rfl
theorem rLt_s : rLtD (.str a) (.str b) O Q = Q (.bl (decide (a.cps.toList < b.cps.toList))) O := rfl
theorem rLe_i : rLeD (.int i) (.int j) O Q = Q (.bl (decide (i ≤ j))) O := rfl
theorem rLe_s : rLeD (.str a) (.str b) O Q = Q (.bl (!decide (b.cps.toList < a.cps.toList))) O := rfl
theorem rInts_i {C : Int → Int → Prop} {f : Int → Int → D} : rInts C f (.int i) (.int j) O Q = (C i j ∧ Q (f i j) O) := rfl
theorem rInts0_i {f : Int → Int → D} : rInts0 f (.int i) (.int j) O Q = Q (f i j) O := rfl
theorem rAdd_i : rAddD (.int i) (.int j) O Q = Q (.int (i + j)) O := rfl
theorem rAdd_ib {k : Bool} : rAddD (.int i) (.bl k) O Q = Q (.int (i + b2i k)) O := rfl
theorem rAdd_s : rAddD (.str a) (.str b) O Q = (a.length + b.length ≤ sizeLine ∧ Q (.str (a ++ b)) O) := rfl
theorem rAdd_l : rAddD (.lst xs) (.lst ys) O Q = (xs.length + ys.length ≤ sizeLine ∧ Q (.lst (xs ++ ys)) O) := rfl
theorem rAdd_t : rAddD (.tup xs) (.tup ys) O Q = (xs ≠ [] ∧ xs.length + ys.length ≤ sizeLine ∧ Q (.tup (xs ++ ys)) O) := rfl
theorem rCatO_l : rCatO (.lst xs) (.lst ys) O Q = (xs.length + ys.length ≤ sizeLine ∧ ∀ p, O p = none → Q (.ref p) (updO O p (.lst (xs ++ ys)))) := rfl
theorem rNeg_i : rNeg (.int i) O Q = Q (.int (-i)) O := rfl
theorem rLen_t : rLenD [.tup xs] O Q = Q (.int xs.length) O := rfl
theorem rLen_l : rLenD [.lst xs] O Q = Q (.int xs.length) O := rfl
theorem rLen_c : rLenD [.scr ns] O Q = Q (.int ns.length) O := rfl
theorem rLen_s : rLenD [.str a] O Q = (a.length ≤ sizeLine ∧ Q (.int a.length) O) := rfl
theorem rLen_r (h : O p = some (.lst xs)) : rLenD [.ref p] O Q = Q (.int xs.length) O := by simp only [rLenD, deref, h]
theorem rMax_i : rMax2 [.int i, .int j] O Q = Q (.int (if j > i then j else i)) O := rfl
theorem rMin_i : rMin2 [.int i, .int j] O Q = Q (.int (if j < i then j else i)) O := rfl
theorem rDivmod_i : rDivmod [.int i, .int j] O Q = (CDv i j ∧ Q (.tup [.int (i / j), .int (i % j)]) O) := rfl
theorem rInt_i : rInt1 [.int i] O Q = Q (.int i) O := rfl
theorem rInt_b {k : Bool} : rInt1 [.bl k] O Q = Q (.int (if k then 1 else 0)) O := rfl
theorem rStr_i : rStr1 [.int i] O Q = (i.natAbs.log2 < 1920 ∧ Q (.str (toString i)) O) := rfl
theorem rList_l : rList1 [.lst xs] O Q = Q (.lst xs) O := rfl
theorem rList_t : rList1 [.tup xs] O Q = Q (.lst xs) O := rfl
theorem rListO_l : rList1O [.lst xs] O Q = ∀ p, O p = none → Q (.ref p) (updO O p (.lst xs)) := rfl
theorem rListO_t : rList1O [.tup xs] O Q = ∀ p, O p = none → Q (.ref p) (updO O p (.lst xs)) := rfl
theorem rTup_l : rTup1 [.lst xs] O Q = Q (.tup xs) O := rfl
theorem rTup_t : rTup1 [.tup xs] O Q = Q (.tup xs) O := rfl
theorem rSum_l {ns : List Int} (h : asInts xs = some ns) : rSumD [.lst xs] O Q = Q (.int ns.sum) O := by simp only [rSumD, deref, h]
theorem ixC0 {α : Type} (x : α) (r : List α) : atI (x :: r) 0 = some x := by
  have := atI_nat (xs := x :: r) (j := 0) (v := x) rfl
  simpa using this
theorem ixC1 {α : Type} (x y : α) (r : List α) : atI (x :: y :: r) 1 = some y := by
  have := atI_nat (xs := x :: y :: r) (j := 1) (v := y) rfl
  simpa using this
theorem ixC2 {α : Type} (x y z : α) (r : List α) : atI (x :: y :: z :: r) 2 = some z := by
  have := atI_nat (xs := x :: y :: z :: r) (j := 2) (v := z) rfl
  simpa using this
theorem ixC3 {α : Type} (x y z u : α) (r : List α) : atI (x :: y :: z :: u :: r) 3 = some u := by
  have := atI_nat (xs := x :: y :: z :: u :: r) (j := 3) (v := u) rfl
  simpa using this
theorem rIx_t (h : atI xs i = some d) : rIxD (.tup xs) (.int i) O Q = Q d O := by simp only [rIxD, deref, h]
theorem rIx_l (h : atI xs i = some d) : rIxD (.lst xs) (.int i) O Q = Q d O := by simp only [rIxD, deref, h]
theorem rIx_c {n : Int} (h : atI ns i = some n) : rIxD (.scr ns) (.int i) O Q = Q (.int n) O := by simp only [rIxD, deref, h]
theorem rIx_s {c : Nat} (h : atI a.cps.toList i = some c) : rIxD (.str a) (.int i) O Q = (a.length ≤ sizeLine ∧ Q (.str ⟨#[c]⟩) O) := by simp only [rIxD, deref, h]
theorem rIx_r (h' : O p = some (.lst xs)) (h : atI xs i = some d) : rIxD (.ref p) (.int i) O Q = Q d O := by simp only [rIxD, deref, h', h]
theorem rIx_t0 : rIxD (.tup (x :: xs)) (.int 0) O Q = Q x O := rIx_t (ixC0 _ _)
theorem rIx_t1 : rIxD (.tup (x :: y :: xs)) (.int 1) O Q = Q y O := rIx_t (ixC1 _ _ _)
theorem rIx_t2 : rIxD (.tup (x :: y :: z :: xs)) (.int 2) O Q = Q z O := rIx_t (ixC2 _ _ _ _)
theorem rIx_t3 : rIxD (.tup (x :: y :: z :: u :: xs)) (.int 3) O Q = Q u O := rIx_t (ixC3 _ _ _ _ _)
theorem rIx_l0 : rIxD (.lst (x :: xs)) (.int 0) O Q = Q x O := rIx_l (ixC0 _ _)
theorem rIx_l1 : rIxD (.lst (x :: y :: xs)) (.int 1) O Q = Q y O := rIx_l (ixC1 _ _ _)
theorem rIx_l2 : rIxD (.lst (x :: y :: z :: xs)) (.int 2) O Q = Q z O := rIx_l (ixC2 _ _ _ _)
theorem rIx_p0 (h : O p = some .pool) : rIxD (.ref p) (.int 0) O Q = ∀ x : Int, 0 ≤ x → Q (.int x) O := by
  simp only [rIxD, deref, h]; simp
theorem rIx_p1 (h : O p = some .pool) : rIxD (.ref p) (.int 1) O Q = ∀ x : Int, 0 ≤ x → x < 2147483647 → Q (.int x) O := by
  simp only [rIxD, deref, h]; simp
theorem rIsN_non : rIsN neg .non .non O Q = Q (.bl (neg ^^ true)) O := rfl
theorem rIsN_t : rIsN neg (.tup xs) .non O Q = Q (.bl (neg ^^ false)) O := rfl
theorem rIsN_x : rIsN neg x .non O Q = Q (.bl (neg ^^ isNon x)) O := rfl
theorem isNon_t : isNon (.tup xs) = false := rfl
theorem isNon_n : isNon .non = true := rfl
theorem isNon_i : isNon (.int i) = false := rfl
theorem isNon_s : isNon (.str a) = false := rfl
theorem isNon_l : isNon (.lst xs) = false := rfl
/-! == -/
/-- == of data -/
def deq (x y : D) : Bool := PyData.eqv (toPy x) (toPy y)
def deqs (xs ys : List D) : Bool := PyData.eqvAll (toPys xs) (toPys ys)
theorem deq_t : deq (.tup xs) (.tup ys) = deqs xs ys := by simp only [deq, toPy, PyData.eqv, deqs]
theorem deq_l : deq (.lst xs) (.lst ys) = deqs xs ys := by simp only [deq, toPy, PyData.eqv, deqs]
theorem deq_tl : deq (.tup xs) (.lst ys) = false := by simp only [deq, toPy, PyData.eqv]
theorem deq_lt : deq (.lst xs) (.tup ys) = false := by simp only [deq, toPy, PyData.eqv]
theorem deq_ts : deq (.tup xs) (.str a) = false := by simp only [deq, toPy, PyData.eqv]
theorem deq_st : deq (.str a) (.tup xs) = false := by simp only [deq, toPy, PyData.eqv]
theorem deq_ls : deq (.lst xs) (.str a) = false := by simp only [deq, toPy, PyData.eqv]
theorem deq_sl : deq (.str a) (.lst xs) = false := by simp only [deq, toPy, PyData.eqv]
theorem deq_ti : deq (.tup xs) (.int i) = false := by simp only [deq, toPy, PyData.eqv]
theorem deq_it : deq (.int i) (.tup xs) = false := by simp only [deq, toPy, PyData.eqv]
theorem deq_li : deq (.lst xs) (.int i) = false := by simp only [deq, toPy, PyData.eqv]
theorem deq_il : deq (.int i) (.lst xs) = false := by simp only [deq, toPy, PyData.eqv]
theorem deq_is : deq (.int i) (.str a) = false := by simp only [deq, toPy, PyData.eqv]
theorem deq_si : deq (.str a) (.int i) = false := by simp only [deq, toPy, PyData.eqv]
theorem deq_nt : deq .non (.tup xs) = false := by simp only [deq, toPy, PyData.eqv]
theorem deq_tn : deq (.tup xs) .non = false := by simp only [deq, toPy, PyData.eqv]
theorem deq_nn : deq .non .non = true := by simp only [deq, toPy, PyData.eqv]
theorem deq_ns : deq .non (.str a) = false := by simp only [deq, toPy, PyData.eqv]
theorem deq_sn : deq (.str a) .non = false := by simp only [deq, toPy, PyData.eqv]
theorem str_beq (a b : Str) : (a == b) = decide (a = b) := by
  by_cases h : a = b
  · subst h; simp
  · rw [decide_eq_false h]; exact beq_eq_false_iff_ne.mpr h
theorem deq_s : deq (.str a) (.str b) = decide (a = b) := by simp only [deq, toPy, PyData.eqv, str_beq]
theorem deq_i : deq (.int i) (.int j) = decide (i = j) := by simp only [deq, toPy, PyData.eqv, Bool.beq_eq_decide_eq]
theorem deq_b {k l : Bool} : deq (.bl k) (.bl l) = decide (k = l) := by simp only [deq, toPy, PyData.eqv, Bool.beq_eq_decide_eq]
theorem deqs_nn : deqs [] [] = true := by simp only [deqs, toPys, PyData.eqvAll]
theorem deqs_nc : deqs [] (y :: ys) = false := by simp only [deqs, toPys, PyData.eqvAll]
theorem deqs_cn : deqs (x :: xs) [] = false := by simp only [deqs, toPys, PyData.eqvAll]
theorem deqs_cc : deqs (x :: xs) (y :: ys) = (deq x y && deqs xs ys) := by simp only [deqs, deq, toPys, PyData.eqvAll]
/-- == at data read through: what is asked, what is answered -/
theorem rEq_dd (hx : isPy (ddf O 192 x) = true) (hy : isPy (ddf O 192 y) = true) (hd : dp (ddf O 192 x) ≤ 190) : rEqD neg x y O Q = Q (.bl (neg ^^ deq (ddf O 192 x) (ddf O 192 y))) O := by
  have hm : min (dp (ddf O 192 x)) (dp (ddf O 192 y)) ≤ 190 := Nat.le_trans (Nat.min_le_left _ _) hd
  simp only [rEqD, hx, hy, hm, deq, true_and]
/-- .. where the right one is flat -/
theorem rEq_dr (hx : isPy (deref O x) = true) (hy : isPy (deref O y) = true) (hd : dp (deref O y) ≤ 190) : rEqD neg x y O Q = Q (.bl (neg ^^ deq (deref O x) (deref O y))) O := by
  have ex : ddf O 192 x = deref O x := ddf_deref hx
  have ey : ddf O 192 y = deref O y := ddf_deref hy
  have hm : min (dp (deref O x)) (dp (deref O y)) ≤ 190 := Nat.le_trans (Nat.min_le_right _ _) hd
  simp only [rEqD, ex, ey, hx, hy, hm, deq, true_and]
/-- == at data: what is asked, what is answered -/
theorem rEq_d (hx : isPy (deref O x) = true) (hy : isPy (deref O y) = true) (hd : dp (deref O x) ≤ 190) : rEqD neg x y O Q = Q (.bl (neg ^^ deq (deref O x) (deref O y))) O := by
  have ex : ddf O 192 x = deref O x := ddf_deref hx
  have ey : ddf O 192 y = deref O y := ddf_deref hy
  rw [rEq_dd (by rw [ex]; exact hx) (by rw [ey]; exact hy) (by rw [ex]; exact hd), ex, ey]
theorem rEq_i : rEqD neg (.int i) (.int j) O Q = Q (.bl (neg ^^ decide (i = j))) O := by
  rw [rEq_d (by simp only [deref, isPy]) (by simp only [deref, isPy]) (by simp [deref, dp, toPy, PyData.depth]), deref_int, deref_int, deq_i]
theorem rEq_b {k l : Bool} : rEqD neg (.bl k) (.bl l) O Q = Q (.bl (neg ^^ decide (k = l))) O := by
  rw [rEq_d (by simp only [deref, isPy]) (by simp only [deref, isPy]) (by simp [deref, dp, toPy, PyData.depth]), deref_bl, deref_bl, deq_b]
theorem rEq_s (h1 : PyData.strOk a = true) (h2 : PyData.strOk b = true) : rEqD neg (.str a) (.str b) O Q = Q (.bl (neg ^^ decide (a = b))) O := by
  rw [rEq_d (by simpa only [deref, isPy] using h1) (by simpa only [deref, isPy] using h2) (by simp [deref, dp, toPy, PyData.depth]), deref_str, deref_str, deq_s]
theorem rIsi_ty {n : String} (h1 : insCl.contains n = true) (h2 : insTy.contains (tyNm O x) = true) : rIsiD [x, .ty n] O Q = Q (.bl (insOf (tyNm O x) n)) O := by
  simp only [rIsiD, h1, h2, true_and]
theorem rApp_r (h : O p = some (.lst xs)) : rAppendD (.ref p) [y] O Q = (xs.length < sizeLine ∧ Q .non (updO O p (.lst (xs ++ [y])))) := by simp only [rAppendD, h]
theorem rExt_r (h : O p = some (.lst xs)) (h' : deref O y = .lst ys) : rExtendD (.ref p) [y] O Q = (xs.length + ys.length ≤ sizeLine ∧ Q .non (updO O p (.lst (xs ++ ys)))) := by simp only [rExtendD, h, h']
theorem rPop_r (h : O p = some (.lst xs)) (h' : xs[xs.length - 1]? = some d) : rPopD (.ref p) [] O Q = Q d (updO O p (.lst xs.dropLast)) := by simp only [rPopD, h, h']
theorem rPop_app (h : O p = some (.lst (xs ++ [d]))) : rPopD (.ref p) [] O Q = Q d (updO O p (.lst xs)) := by
  rw [rPop_r h (d := d) (by simp), List.dropLast_concat]
theorem tyOk_r (h : O p = some (.lst xs)) : tyOk "list" O (.ref p) = true := by simp [tyOk, tyNm, h]
theorem tyOk_l : tyOk "list" O (.lst xs) = true := rfl
theorem tyOk_s : tyOk "str" O (.str a) = true := rfl
theorem rPool_i : rPool [.int i, .int j] O Q = (0 ≤ i ∧ 0 ≤ j ∧ j < 2147483647 ∧ ∀ p, O p = none → Q (.ref p) (updO O p .pool)) := rfl
theorem rSet_p0 {N : Ow → Prop} (h : O p = some .pool) : rSetD (.ref p) (.int 0) (.int i) O N = (0 ≤ i ∧ N O) := by
  simp only [rSetD, h]; simp
theorem rSet_p1 {N : Ow → Prop} (h : O p = some .pool) : rSetD (.ref p) (.int 1) (.int i) O N = ((0 ≤ i ∧ i < 2147483647) ∧ N O) := by
  simp only [rSetD, h]; simp
theorem rSet_r {N : Ow → Prop} {k : Nat} (h : O p = some (.lst xs)) (h' : ixN xs.length i = some k) : rSetD (.ref p) (.int i) d O N = N (updO O p (.lst (xs.set k d))) := by
  simp only [rSetD, h, h']
end
theorem sz_small {n : Nat} (h : n ≤ 1000000) : n ≤ sizeLine := by have := sizeLine_eq; omega
theorem sz_small' {n : Nat} (h : n < 1000000) : n < sizeLine := by have := sizeLine_eq; omega
theorem notX {b : Bool} : (true ^^ b) = !b := Bool.true_xor b
theorem notX' {b : Bool} : (false ^^ b) = b := Bool.false_xor b
/-- patterns -/
theorem patD_nm {i : Nat} {d : D} {ρ : DEnv} : patD (.nm i) d ρ = some (ρ.set i (some d)) := by simp only [patD]
theorem patD_tp {ps : List Pat} {ds : List D} {ρ : DEnv} : patD (.tp ps) (.tup ds) ρ = patDs ps ds ρ := by simp only [patD]
theorem patDs_nil {ρ : DEnv} : patDs [] [] ρ = some ρ := by simp only [patDs]
theorem patDs_cons {p : Pat} {ps : List Pat} {d : D} {ds : List D} {ρ : DEnv} : patDs (p :: ps) (d :: ds) ρ = (patD p d ρ).bind (patDs ps ds) := by simp only [patDs]
/-- a walk that keeps a word -/
theorem forD_inv {p : Pat} {gb : GS} {R : DEnds} (I : DEnv → Ow → Prop) : ∀ (ds : List D) (ρ : DEnv) (O : Ow), I ρ O → (∀ ρ O, I ρ O → R.nx ρ O) →
    (∀ d ∈ ds, ∀ ρ O, I ρ O → ∀ N, (∀ ρ O, I ρ O → N ρ O) → patGet (patD p d ρ) fun ρ1 => gb { R with nx := N, ct := N, bk := R.nx } ρ1 O) → forD p gb R ds ρ O
  | [], ρ, O, h, hd, _ => hd ρ O h
  | d :: ds, ρ, O, h, hd, hs => by
    have q := hs d List.mem_cons_self ρ O h (forD p gb R ds) fun ρ' O' h' => forD_inv I ds ρ' O' h' hd fun d' hm => hs d' (List.mem_cons_of_mem _ hm)
    unfold forD
    exact q

theorem isi_i_int {i : Int} {O : Ow} {Q : VD} : rIsiD [(.int i), .ty "int"] O Q = Q (.bl true) O := by simp [rIsiD, insCl, insTy, tyNm, insOf]
theorem isi_i_bool {i : Int} {O : Ow} {Q : VD} : rIsiD [(.int i), .ty "bool"] O Q = Q (.bl false) O := by simp [rIsiD, insCl, insTy, tyNm, insOf]
theorem isi_i_str {i : Int} {O : Ow} {Q : VD} : rIsiD [(.int i), .ty "str"] O Q = Q (.bl false) O := by simp [rIsiD, insCl, insTy, tyNm, insOf]
theorem isi_i_tuple {i : Int} {O : Ow} {Q : VD} : rIsiD [(.int i), .ty "tuple"] O Q = Q (.bl false) O := by simp [rIsiD, insCl, insTy, tyNm, insOf]
theorem isi_i_list {i : Int} {O : Ow} {Q : VD} : rIsiD [(.int i), .ty "list"] O Q = Q (.bl false) O := by simp [rIsiD, insCl, insTy, tyNm, insOf]
theorem isi_i_dict {i : Int} {O : Ow} {Q : VD} : rIsiD [(.int i), .ty "dict"] O Q = Q (.bl false) O := by simp [rIsiD, insCl, insTy, tyNm, insOf]
theorem isi_b_int {k : Bool} {O : Ow} {Q : VD} : rIsiD [(.bl k), .ty "int"] O Q = Q (.bl true) O := by simp [rIsiD, insCl, insTy, tyNm, insOf]
theorem isi_b_bool {k : Bool} {O : Ow} {Q : VD} : rIsiD [(.bl k), .ty "bool"] O Q = Q (.bl true) O := by simp [rIsiD, insCl, insTy, tyNm, insOf]
theorem isi_b_str {k : Bool} {O : Ow} {Q : VD} : rIsiD [(.bl k), .ty "str"] O Q = Q (.bl false) O := by simp [rIsiD, insCl, insTy, tyNm, insOf]
theorem isi_b_tuple {k : Bool} {O : Ow} {Q : VD} : rIsiD [(.bl k), .ty "tuple"] O Q = Q (.bl false) O := by simp [rIsiD, insCl, insTy, tyNm, insOf]
theorem isi_b_list {k : Bool} {O : Ow} {Q : VD} : rIsiD [(.bl k), .ty "list"] O Q = Q (.bl false) O := by simp [rIsiD, insCl, insTy, tyNm, insOf]
theorem isi_b_dict {k : Bool} {O : Ow} {Q : VD} : rIsiD [(.bl k), .ty "dict"] O Q = Q (.bl false) O := by simp [rIsiD, insCl, insTy, tyNm, insOf]
theorem isi_s_int {a : Str} {O : Ow} {Q : VD} : rIsiD [(.str a), .ty "int"] O Q = Q (.bl false) O := by simp [rIsiD, insCl, insTy, tyNm, insOf]
theorem isi_s_bool {a : Str} {O : Ow} {Q : VD} : rIsiD [(.str a), .ty "bool"] O Q = Q (.bl false) O := by simp [rIsiD, insCl, insTy, tyNm, insOf]
theorem isi_s_str {a : Str} {O : Ow} {Q : VD} : rIsiD [(.str a), .ty "str"] O Q = Q (.bl true) O := by simp [rIsiD, insCl, insTy, tyNm, insOf]
theorem isi_s_tuple {a : Str} {O : Ow} {Q : VD} : rIsiD [(.str a), .ty "tuple"] O Q = Q (.bl false) O := by simp [rIsiD, insCl, insTy, tyNm, insOf]
theorem isi_s_list {a : Str} {O : Ow} {Q : VD} : rIsiD [(.str a), .ty "list"] O Q = Q (.bl false) O := by simp [rIsiD, insCl, insTy, tyNm, insOf]
theorem isi_s_dict {a : Str} {O : Ow} {Q : VD} : rIsiD [(.str a), .ty "dict"] O Q = Q (.bl false) O := by simp [rIsiD, insCl, insTy, tyNm, insOf]
theorem isi_t_int {xs : List D} {O : Ow} {Q : VD} : rIsiD [(.tup xs), .ty "int"] O Q = Q (.bl false) O := by simp [rIsiD, insCl, insTy, tyNm, insOf]
theorem isi_t_bool {xs : List D} {O : Ow} {Q : VD} : rIsiD [(.tup xs), .ty "bool"] O Q = Q (.bl false) O := by simp [rIsiD, insCl, insTy, tyNm, insOf]
theorem isi_t_str {xs : List D} {O : Ow} {Q : VD} : rIsiD [(.tup xs), .ty "str"] O Q = Q (.bl false) O := by simp [rIsiD, insCl, insTy, tyNm, insOf]
theorem isi_t_tuple {xs : List D} {O : Ow} {Q : VD} : rIsiD [(.tup xs), .ty "tuple"] O Q = Q (.bl true) O := by simp [rIsiD, insCl, insTy, tyNm, insOf]
theorem isi_t_list {xs : List D} {O : Ow} {Q : VD} : rIsiD [(.tup xs), .ty "list"] O Q = Q (.bl false) O := by simp [rIsiD, insCl, insTy, tyNm, insOf]
theorem isi_t_dict {xs : List D} {O : Ow} {Q : VD} : rIsiD [(.tup xs), .ty "dict"] O Q = Q (.bl false) O := by simp [rIsiD, insCl, insTy, tyNm, insOf]
theorem isi_l_int {xs : List D} {O : Ow} {Q : VD} : rIsiD [(.lst xs), .ty "int"] O Q = Q (.bl false) O := by simp [rIsiD, insCl, insTy, tyNm, insOf]
theorem isi_l_bool {xs : List D} {O : Ow} {Q : VD} : rIsiD [(.lst xs), .ty "bool"] O Q = Q (.bl false) O := by simp [rIsiD, insCl, insTy, tyNm, insOf]
theorem isi_l_str {xs : List D} {O : Ow} {Q : VD} : rIsiD [(.lst xs), .ty "str"] O Q = Q (.bl false) O := by simp [rIsiD, insCl, insTy, tyNm, insOf]
theorem isi_l_tuple {xs : List D} {O : Ow} {Q : VD} : rIsiD [(.lst xs), .ty "tuple"] O Q = Q (.bl false) O := by simp [rIsiD, insCl, insTy, tyNm, insOf]
theorem isi_l_list {xs : List D} {O : Ow} {Q : VD} : rIsiD [(.lst xs), .ty "list"] O Q = Q (.bl true) O := by simp [rIsiD, insCl, insTy, tyNm, insOf]
theorem isi_l_dict {xs : List D} {O : Ow} {Q : VD} : rIsiD [(.lst xs), .ty "dict"] O Q = Q (.bl false) O := by simp [rIsiD, insCl, insTy, tyNm, insOf]
theorem isi_n_int  {O : Ow} {Q : VD} : rIsiD [.non, .ty "int"] O Q = Q (.bl false) O := by simp [rIsiD, insCl, insTy, tyNm, insOf]
theorem isi_n_bool  {O : Ow} {Q : VD} : rIsiD [.non, .ty "bool"] O Q = Q (.bl false) O := by simp [rIsiD, insCl, insTy, tyNm, insOf]
theorem isi_n_str  {O : Ow} {Q : VD} : rIsiD [.non, .ty "str"] O Q = Q (.bl false) O := by simp [rIsiD, insCl, insTy, tyNm, insOf]
theorem isi_n_tuple  {O : Ow} {Q : VD} : rIsiD [.non, .ty "tuple"] O Q = Q (.bl false) O := by simp [rIsiD, insCl, insTy, tyNm, insOf]
theorem isi_n_list  {O : Ow} {Q : VD} : rIsiD [.non, .ty "list"] O Q = Q (.bl false) O := by simp [rIsiD, insCl, insTy, tyNm, insOf]
theorem isi_n_dict  {O : Ow} {Q : VD} : rIsiD [.non, .ty "dict"] O Q = Q (.bl false) O := by simp [rIsiD, insCl, insTy, tyNm, insOf]
theorem isi_d_int  {O : Ow} {Q : VD} : rIsiD [.edic, .ty "int"] O Q = Q (.bl false) O := by simp [rIsiD, insCl, insTy, tyNm, insOf]
theorem isi_d_bool  {O : Ow} {Q : VD} : rIsiD [.edic, .ty "bool"] O Q = Q (.bl false) O := by simp [rIsiD, insCl, insTy, tyNm, insOf]
theorem isi_d_str  {O : Ow} {Q : VD} : rIsiD [.edic, .ty "str"] O Q = Q (.bl false) O := by simp [rIsiD, insCl, insTy, tyNm, insOf]
theorem isi_d_tuple  {O : Ow} {Q : VD} : rIsiD [.edic, .ty "tuple"] O Q = Q (.bl false) O := by simp [rIsiD, insCl, insTy, tyNm, insOf]
theorem isi_d_list  {O : Ow} {Q : VD} : rIsiD [.edic, .ty "list"] O Q = Q (.bl false) O := by simp [rIsiD, insCl, insTy, tyNm, insOf]
theorem isi_d_dict  {O : Ow} {Q : VD} : rIsiD [.edic, .ty "dict"] O Q = Q (.bl true) O := by simp [rIsiD, insCl, insTy, tyNm, insOf]
theorem isi_r_int {p : Addr} {xs : List D} {O : Ow} {Q : VD} (h : O p = some (.lst xs)) : rIsiD [.ref p, .ty "int"] O Q = Q (.bl false) O := by simp [rIsiD, insCl, insTy, tyNm, insOf, h]
theorem isi_r_bool {p : Addr} {xs : List D} {O : Ow} {Q : VD} (h : O p = some (.lst xs)) : rIsiD [.ref p, .ty "bool"] O Q = Q (.bl false) O := by simp [rIsiD, insCl, insTy, tyNm, insOf, h]
theorem isi_r_str {p : Addr} {xs : List D} {O : Ow} {Q : VD} (h : O p = some (.lst xs)) : rIsiD [.ref p, .ty "str"] O Q = Q (.bl false) O := by simp [rIsiD, insCl, insTy, tyNm, insOf, h]
theorem isi_r_tuple {p : Addr} {xs : List D} {O : Ow} {Q : VD} (h : O p = some (.lst xs)) : rIsiD [.ref p, .ty "tuple"] O Q = Q (.bl false) O := by simp [rIsiD, insCl, insTy, tyNm, insOf, h]
theorem isi_r_list {p : Addr} {xs : List D} {O : Ow} {Q : VD} (h : O p = some (.lst xs)) : rIsiD [.ref p, .ty "list"] O Q = Q (.bl true) O := by simp [rIsiD, insCl, insTy, tyNm, insOf, h]
theorem isi_r_dict {p : Addr} {xs : List D} {O : Ow} {Q : VD} (h : O p = some (.lst xs)) : rIsiD [.ref p, .ty "dict"] O Q = Q (.bl false) O := by simp [rIsiD, insCl, insTy, tyNm, insOf, h]
end Kf
namespace Kf
open PySem PySem.Spec L2
open PyProof.Rows hiding St
variable {M : MX}

/-! ### kinds -/
inductive Kd where
  | mk (m : Str) | one | to (a b : Kd) | both (a b : Kd)
  deriving DecidableEq, Inhabited
def dK : Kd → D
  | .mk m => .tup [.str "mark", .str m]
  | .one => .tup [.str "one"]
  | .to a b => .tup [.str "to", dK a, dK b]
  | .both a b => .tup [.str "both", dK a, dK b]
def Kd.leaves : Kd → Nat
  | .mk _ => 1
  | .one => 1
  | .to a b => a.leaves + b.leaves
  | .both a b => a.leaves + b.leaves
def Kd.depth : Kd → Nat
  | .mk _ => 0
  | .one => 0
  | .to a b => max a.depth b.depth + 1
  | .both a b => max a.depth b.depth + 1
theorem Kd.depth_lt : ∀ k : Kd, k.depth < k.leaves
  | .mk _ => by simp [depth, leaves]
  | .one => by simp [depth, leaves]
  | .to a b => by have := a.depth_lt; have := b.depth_lt; simp only [depth, leaves]; omega
  | .both a b => by have := a.depth_lt; have := b.depth_lt; simp only [depth, leaves]; omega
def Kd.ok : Kd → Bool
  | .mk m => PyData.strOk m
  | .one => true
  | .to a b => a.ok && b.ok
  | .both a b => a.ok && b.ok
theorem so_mark : PyData.strOk "mark" = true := by decide +kernel
theorem so_one : PyData.strOk "one" = true := by decide +kernel
theorem so_to : PyData.strOk "to" = true := by decide +kernel
theorem so_both : PyData.strOk "both" = true := by decide +kernel
theorem isPy_dK : ∀ k : Kd, isPy (dK k) = k.ok
  | .mk m => by simp [dK, isPy, isPys, Kd.ok, so_mark]
  | .one => by simp [dK, isPy, isPys, Kd.ok, so_one]
  | .to a b => by simp [dK, isPy, isPys, Kd.ok, so_to, isPy_dK a, isPy_dK b]
  | .both a b => by simp [dK, isPy, isPys, Kd.ok, so_both, isPy_dK a, isPy_dK b]
theorem dpT (ds : List D) : dp (.tup ds) = PyData.depthAll (toPys ds) + 1 := by simp [dp, toPy, PyData.depth]
theorem dpL (ds : List D) : dp (.lst ds) = PyData.depthAll (toPys ds) + 1 := by simp [dp, toPy, PyData.depth]
theorem dpC (d : D) (ds : List D) : PyData.depthAll (toPys (d :: ds)) = max (dp d) (PyData.depthAll (toPys ds)) := by simp [dp, toPys, PyData.depthAll]
theorem dpN : PyData.depthAll (toPys []) = 0 := by simp [toPys, PyData.depthAll]
theorem dpS (x : Str) : dp (.str x) = 0 := by simp [dp, toPy, PyData.depth]
theorem dpI (x : Int) : dp (.int x) = 0 := by simp [dp, toPy, PyData.depth]
theorem dpB (x : Bool) : dp (.bl x) = 0 := by simp [dp, toPy, PyData.depth]
theorem dpO : dp .non = 0 := by simp [dp, toPy, PyData.depth]
theorem dp_dK : ∀ k : Kd, dp (dK k) = k.depth + 1
  | .mk m => by simp [dK, dpT, dpC, dpN, dpS, Kd.depth]
  | .one => by simp [dK, dpT, dpC, dpN, dpS, Kd.depth]
  | .to a b => by simp [dK, dpT, dpC, dpN, dpS, Kd.depth, dp_dK a, dp_dK b]
  | .both a b => by simp [dK, dpT, dpC, dpN, dpS, Kd.depth, dp_dK a, dp_dK b]
theorem dps_le {n : Nat} : ∀ {ds : List D}, (∀ d ∈ ds, dp d ≤ n) → PyData.depthAll (toPys ds) ≤ n
  | [], _ => by rw [dpN]; omega
  | d :: ds, h => by
    rw [dpC]
    exact Nat.max_le.mpr ⟨h d List.mem_cons_self, dps_le fun e he => h e (List.mem_cons_of_mem _ he)⟩
theorem deref_dK {O : Ow} (k : Kd) : deref O (dK k) = dK k := by cases k <;> rfl
theorem sd_tb : decide (Str.ofString "to" = Str.ofString "both") = false := by decide +kernel
theorem sd_bt : decide (Str.ofString "both" = Str.ofString "to") = false := by decide +kernel
/-- == of kinds is = -/
theorem deq_K : ∀ a b : Kd, deq (dK a) (dK b) = decide (a = b) := by
  intro a
  induction a with
  | mk m => intro b; cases b <;> simp [dK, deq_t, deqs_cc, deqs_nn, deqs_nc, deqs_cn, deq_s]
  | one => intro b; cases b <;> simp [dK, deq_t, deqs_cc, deqs_nn, deqs_nc, deqs_cn, deq_s]
  | to a c ih1 ih2 =>
    intro b
    cases b with
    | both _ _ => simp only [dK, deq_t, deqs_cc, deq_s, sd_tb]; simp
    | _ => simp [dK, deq_t, deqs_cc, deqs_nn, deqs_nc, deqs_cn, deq_s, ih1, ih2]
  | both a c ih1 ih2 =>
    intro b
    cases b with
    | to _ _ => simp only [dK, deq_t, deqs_cc, deq_s, sd_bt]; simp
    | _ => simp [dK, deq_t, deqs_cc, deqs_nn, deqs_nc, deqs_cn, deq_s, ih1, ih2]
theorem rEq_K {neg : Bool} {a b : Kd} {O : Ow} {Q : VD} (ha : a.ok = true) (hb : b.ok = true) (hd : a.depth < 190) : rEqD neg (dK a) (dK b) O Q = Q (.bl (neg ^^ decide (a = b))) O := by
  rw [rEq_d (by rw [deref_dK, isPy_dK, ha]) (by rw [deref_dK, isPy_dK, hb]) (by rw [deref_dK, dp_dK]; omega), deref_dK, deref_dK, deq_K]
/-- == against the empty list -/
theorem deq_nil (xs : List D) : deq (.lst xs) (.lst []) = xs.isEmpty := by
  cases xs <;> simp [deq_l, deqs_nn, deqs_cn]
theorem rEq_nil {neg : Bool} {x : D} {xs : List D} {O : Ow} {Q : VD} (hx : deref O x = .lst xs) (h : isPys xs = true) (hd : dp (.lst xs) ≤ 190) : rEqD neg x (.lst []) O Q = Q (.bl (neg ^^ xs.isEmpty)) O := by
  rw [rEq_d (by rw [hx]; simpa only [isPy] using h) (by simp only [deref, isPy, isPys]) (by rw [hx]; exact hd), hx, deref_lst, deq_nil]
theorem rEq_nilA {neg : Bool} {x : D} {xs : List D} {O : Ow} {Q : VD} (hx : deref O x = .lst xs) (h : isPys xs = true) : rEqD neg x (.lst []) O Q = Q (.bl (neg ^^ xs.isEmpty)) O := by
  rw [rEq_dr (by rw [hx]; simpa only [isPy] using h) (by simp only [deref, isPy, isPys]) (by simp [deref, dp, toPy, toPys, PyData.depth, PyData.depthAll]), hx, deref_lst, deq_nil]
theorem rEq_i2 {neg : Bool} {a b c d : Int} {O : Ow} {Q : VD} : rEqD neg (.lst [.int a, .int b]) (.lst [.int c, .int d]) O Q = Q (.bl (neg ^^ (decide (a = c) && decide (b = d)))) O := by
  rw [rEq_d (by simp [deref, isPy, isPys]) (by simp [deref, isPy, isPys]) (by simp [deref, dpL, dpC, dpN, dpI])]
  simp [deref, deq_l, deqs_cc, deqs_nn, deq_i, deq_b]
theorem rEq_b2 {neg : Bool} {a b c d : Bool} {O : Ow} {Q : VD} : rEqD neg (.lst [.bl a, .bl b]) (.lst [.bl c, .bl d]) O Q = Q (.bl (neg ^^ (decide (a = c) && decide (b = d)))) O := by
  rw [rEq_d (by simp [deref, isPy, isPys]) (by simp [deref, isPy, isPys]) (by simp [deref, dpL, dpC, dpN, dpB])]
  simp [deref, deq_l, deqs_cc, deqs_nn, deq_i, deq_b]

/-! ### the law's pool -/
theorem atI_some {α : Type} {xs : List α} {k : Int} (h0 : 0 ≤ k) (h1 : k < xs.length) : ∃ v, atI xs k = some v ∧ v ∈ xs := by
  have hk : k.toNat < xs.length := by omega
  have e : k = ((k.toNat : Nat) : Int) := by omega
  have q : atI xs ((k.toNat : Nat) : Int) = some xs[k.toNat] := atI_nat (List.getElem?_eq_getElem hk)
  rw [← e] at q
  exact ⟨xs[k.toNat], q, List.getElem_mem hk⟩
theorem poolMod (x : Int) : 0 ≤ x % 2147483647 ∧ x % 2147483647 < 2147483647 := ⟨Int.emod_nonneg _ (by decide), Int.emod_lt_of_pos _ (by decide)⟩
theorem poolNum (c : Int) {k : Int} (h0 : 0 ≤ k) (h1 : k ≤ 1000) : CPow (c % 2147483629 + 104729 * k * k + 11) 3 := by
  have h2 : k * k ≤ 1000 * 1000 := Int.mul_le_mul h1 h1 h0 (by decide)
  have h3 : 0 ≤ k * k := Int.mul_nonneg h0 h0
  have h4 : 0 ≤ c % 2147483629 := Int.emod_nonneg _ (by decide)
  have h5 : c % 2147483629 < 2147483629 := Int.emod_lt_of_pos _ (by decide)
  refine ⟨by decide, by decide, ?_⟩
  rw [Int.mul_assoc]
  omega
def spPool : DSp := fun ds O R _ => ∃ (ns : List Int) (k : Int), ds = [.scr ns, .int k] ∧ 0 ≤ k ∧ k ≤ 1000 ∧ ∀ p, O p = none → R (.ref p) (updO O p .pool)
def spTake : DSp := fun ds O R _ => ∃ (p : Addr) (m : Int), ds = [.ref p, .int m] ∧ O p = some .pool ∧ 0 < m ∧ m < 1329227995784915872903807060280344576 ∧ ∀ r : Int, 0 ≤ r → r < m → R (.int r) O
theorem take_of {p : Addr} {m : Int} {O : Ow} {R : VD} {RE : XD} (hp : O p = some .pool) (h0 : 0 < m) (h1 : m < 1329227995784915872903807060280344576) (h : ∀ r : Int, 0 ≤ r → r < m → R (.int r) O) : spTake [.ref p, .int m] O R RE := ⟨p, m, rfl, hp, h0, h1, h⟩
theorem mem_rangeD {lo : Int} {n : Nat} {d : D} (h : d ∈ rangeD lo n) : ∃ i : Nat, i < n ∧ d = .int (lo + i) := by
  unfold rangeD at h
  obtain ⟨i, h1, rfl⟩ := List.mem_map.mp h
  exact ⟨i, List.mem_range.mp h1, rfl⟩
/-- the law's own loop: how often it goes -/
theorem rngBound (n N : Nat) (hN : N ≤ 1000) (h1 : 1 ≤ N) : (-2 ^ 62 ≤ if (if (N : Int) < n then (N : Int) else n) > 1 then if (N : Int) < n then (N : Int) else n else 1) ∧
    (if (if (N : Int) < n then (N : Int) else n) > 1 then if (N : Int) < n then (N : Int) else n else 1) < 2 ^ 62 ∧
    (if (if (N : Int) < n then (N : Int) else n) > 1 then if (N : Int) < n then (N : Int) else n else 1).toNat ≤ N := by
  refine ⟨?_, ?_, ?_⟩ <;> (repeat' split) <;> omega
end Kf
namespace Kf
open PySem PySem.Spec L2
open PyProof.Rows hiding St
variable {M : MX}

section
variable {X : Cx}
/-! ### more methods -/
def rJoinD : RMD := fun x ds O Q => match x, ds with
  | .str a, [y] => match deref O y with
    | .lst ys => match asStrs ys with
      | some ts => (ts.map (·.length)).sum + ts.length * a.length ≤ 16777216 ∧ Q (.str (Str.join a ts)) O
      | none => False
    | .tup ys => match asStrs ys with
      | some ts => (ts.map (·.length)).sum + ts.length * a.length ≤ 16777216 ∧ Q (.str (Str.join a ts)) O
      | none => False
    | _ => False
  | _, _ => False
theorem md_join : MtD M X "str.join" rJoinD := by
  refine mtD_of fun F P H O x xs dx ds R Q g r1 r2 q po => ?_
  unfold rJoinD at q
  split at q <;> first | exact q.elim | skip
  rename_i a y
  obtain ⟨v, rfl, r2'⟩ := r2.one'
  simp only [Rep] at r1
  subst r1
  have h2 := g.deref r2'
  revert q h2
  generalize Kf.deref O y = ey
  intro q h2
  cases ey <;> first | exact q.elim | skip
  · rename_i ys
    dsimp only at q
    cases e : asStrs ys with
    | none => rw [e] at q; exact q.elim
    | some ts =>
      rw [e] at q
      simp only [RepH, Rep] at h2
      obtain ⟨b, ws, rfl, h3, h4⟩ := h2
      rw [of_asStrs e] at h4
      have e3 := h4.strs
      subst e3
      exact ⟨_, mt_join, a, b, ts, rfl, rfl, .inr (Same.seqT g.fz h3), q.1, po.at g q.2 (by simp only [Rep]; rw [show Txt.join a ts = Str.join a ts from PySem.StrLaws.glued_eq_join a ts])⟩
  · rename_i ys
    dsimp only at q
    cases e : asStrs ys with
    | none => rw [e] at q; exact q.elim
    | some ts =>
      rw [e] at q
      obtain ⟨b, ws, rfl, h3, h4⟩ := h2
      rw [of_asStrs e] at h4
      have e3 := h4.strs
      subst e3
      exact ⟨_, mt_join, a, b, ts, rfl, rfl, .inl (SqL.of h3), q.1, po.at g q.2 (by simp only [Rep]; rw [show Txt.join a ts = Str.join a ts from PySem.StrLaws.glued_eq_join a ts])⟩
def rInsertD : RMD := fun x ds O Q => match x, ds with
  | .ref a, [.int i, y] => match O a with
    | some (.lst xs) => xs.length < sizeLine ∧ 0 ≤ i ∧ i < 2 ^ 63 ∧ Q .non (updO O a (.lst (xs.take i.toNat ++ [y] ++ xs.drop i.toNat)))
    | _ => False
  | _, _ => False
theorem md_insert : MtD M X "list.insert" rInsertD := by
  refine mtD_of fun F P H O x xs dx ds R Q g r1 r2 q po => ?_
  unfold rInsertD at q
  split at q <;> first | exact q.elim | skip
  rename_i a i y
  obtain ⟨v, w, rfl, r2', r3'⟩ := r2.two'
  simp only [Rep] at r1 r2'
  subst r1 r2'
  cases e : O a with
  | none => rw [e] at q; exact q.elim
  | some c =>
    rw [e] at q
    cases c with
    | pool => exact q.elim
    | dic _ => exact q.elim
    | dicL _ _ => exact q.elim
    | exc _ _ => exact q.elim
    | ins _ _ => exact q.elim
    | lst zs =>
      obtain ⟨_, _, vs, h1, h2⟩ := g.ow a _ e
      refine ⟨_, mt_insert, a, vs, i, w, rfl, rfl, h1, by rw [← h2.length]; exact q.1, q.2.1, q.2.2.1, ?_⟩
      exact po .non _ F _ _ q.2.2.2 (Same.refl _) (g.setO e ⟨_, upd_same, ((h2.take _).append (.one r3')).append (h2.drop _)⟩) (by simp only [Rep])
def rPopAtD : RMD := fun x ds O Q => match x, ds with
  | .ref a, [.int i] => match O a with
    | some (.lst xs) => match ixN xs.length i with
      | some k => match xs[k]? with
        | some d => Q d (updO O a (.lst (xs.eraseIdx k)))
        | none => False
      | none => False
    | _ => False
  | _, _ => False
theorem md_popAt : MtD M X "list.pop" rPopAtD := by
  refine mtD_of fun F P H O x xs dx ds R Q g r1 r2 q po => ?_
  unfold rPopAtD at q
  split at q <;> first | exact q.elim | skip
  rename_i a i
  obtain ⟨v, rfl, r2'⟩ := r2.one'
  simp only [Rep] at r1 r2'
  subst r1 r2'
  cases e : O a with
  | none => rw [e] at q; exact q.elim
  | some c =>
    rw [e] at q
    cases c with
    | pool => exact q.elim
    | dic _ => exact q.elim
    | dicL _ _ => exact q.elim
    | exc _ _ => exact q.elim
    | ins _ _ => exact q.elim
    | lst zs =>
      dsimp only at q
      obtain ⟨_, _, vs, h1, h2⟩ := g.ow a _ e
      cases e1 : ixN zs.length i with
      | none => rw [e1] at q; exact q.elim
      | some k =>
        rw [e1] at q
        dsimp only at q
        cases e2 : zs[k]? with
        | none => rw [e2] at q; exact q.elim
        | some d =>
          rw [e2] at q
          obtain ⟨u, e3, r3⟩ := h2.get e2
          obtain ⟨k1, k2, k3, k4⟩ := ixN_seq e1
          have hz : vs.length ≤ sizeLine ∨ True := .inr trivial
          by_cases hb : -(2 ^ 63) ≤ i ∧ i < 2 ^ 63
          · refine ⟨_, mt_popAt, a, vs, i, k, u, rfl, rfl, h1, hb.1, hb.2, by rw [← h2.length]; exact k1, e3, ?_⟩
            exact po d _ F _ _ q (Same.refl _) (g.setO e ⟨_, upd_same, h2.eraseIdx k⟩) r3
          · refine ⟨fun _ _ H _ => ∃ xs : List V, H a = some (.lst xs) ∧ ¬ (-(2 ^ 63) ≤ i ∧ i < 2 ^ 63) ∧ -(xs.length : Int) ≤ i ∧ i < xs.length, ?_, vs, h1, hb, by rw [← h2.length]; exact ⟨k3, k4⟩⟩
            intro pins s σ H x xs v us Q I rx rxs h
            obtain ⟨ys, hH, nb, l1, l2⟩ := h
            obtain ⟨_, _, _, _, hl⟩ := I.lst hH
            have := sizeLine_eq
            omega
def rClearD : RMD := fun x ds O Q => match x, ds with
  | .ref a, [] => match O a with
    | some (.lst _) => Q .non (updO O a (.lst []))
    | _ => False
  | _, _ => False
theorem md_clear : MtD M X "list.clear" rClearD := by
  refine mtD_of fun F P H O x xs dx ds R Q g r1 r2 q po => ?_
  unfold rClearD at q
  split at q <;> first | exact q.elim | skip
  rename_i a
  simp only [RepAll] at r2
  simp only [Rep] at r1
  subst r1 r2
  cases e : O a with
  | none => rw [e] at q; exact q.elim
  | some c =>
    rw [e] at q
    cases c with
    | pool => exact q.elim
    | dic _ => exact q.elim
    | dicL _ _ => exact q.elim
    | exc _ _ => exact q.elim
    | ins _ _ => exact q.elim
    | lst zs =>
      obtain ⟨_, _, vs, h1, h2⟩ := g.ow a _ e
      exact ⟨_, mt_clear, a, vs, rfl, rfl, h1, po .non _ F _ _ q (Same.refl _) (g.setO e ⟨_, upd_same, .nil⟩) (by simp only [Rep])⟩
def rSplitD : RMD := fun x ds O Q => match x, ds with
  | .str a, [.str b] => (b.length == 0) = false ∧ a.length + 2 ≤ sizeLine ∧ Q (.lst ((Txt.split a b).map .str)) O
  | _, _ => False
theorem md_split : MtD M X "str.split" rSplitD := by
  refine mtD_of fun F P H O x xs dx ds R Q g r1 r2 q po => ?_
  unfold rSplitD at q
  split at q <;> first | exact q.elim | skip
  rename_i a b
  obtain ⟨v, rfl, r2'⟩ := r2.one'
  simp only [Rep] at r1 r2'
  subst r1 r2'
  exact ⟨_, mt_split, a, b, rfl, rfl, q.1, q.2.1, fun p hp => po.lst g q.2.2 .of_strs hp⟩
/-- xs.index(y): the first place of an equal one -/
def rIndexD : RMD := fun x ds O Q => match ds with
  | [y] => match deref O x with
    | .lst xs => isPys xs = true ∧ isPy (deref O y) = true ∧ dp (.lst xs) ≤ 64 ∧ dp (deref O y) ≤ 64 ∧ match xs.findIdx? (fun z => deq z (deref O y)) with
      | some j => Q (.int (j : Nat)) O
      | none => False
    | _ => False
  | _ => False
theorem toPys_get {xs : List D} {j : Nat} : (toPys xs)[j]? = xs[j]?.map toPy := by rw [toPys_map, List.getElem?_map]
theorem md_index (hu : X.A.units + 200 < cLine) : MtD M X "list.index" rIndexD := by
  refine mtD_of fun F P H O x xs dx ds R Q g r1 r2 q po => ?_
  unfold rIndexD at q
  split at q <;> first | exact q.elim | skip
  rename_i y
  obtain ⟨v, rfl, r2'⟩ := r2.one'
  have h1 := g.deref r1
  have h2 := g.deref r2'
  revert q h1
  generalize Kf.deref O dx = ex
  intro q h1
  cases ex <;> first | exact q.elim | skip
  rename_i zs
  obtain ⟨q1, q2, q3, q4, q5⟩ := q
  cases e : zs.findIdx? (fun z => deq z (Kf.deref O y)) with
  | none => rw [e] at q5; exact q5.elim
  | some j =>
    rw [e] at q5
    obtain ⟨c, ws, rfl, h3, h4⟩ := h1
    obtain ⟨hj, hp, hn⟩ := List.findIdx?_eq_some_iff_getElem.mp e
    refine ⟨_, mt_indexD (by omega), c, v, _, toPys zs, j, toPy zs[j], rfl, rfl, .lst (SqL.of h3) (RepAll.dp g.fz zs ws q1 h4), h2.dp g.fz q2, ?_, ?_, ?_, hp, fun m z' hm hz => ?_, po.at g q5 (by simp only [Rep])⟩
    · have l1 : (PyData.list (toPys zs)).canLay0 = true := by simp only [PyData.canLay0]; exact isPys_lay zs q1
      have l2 : (PyData.list (toPys zs)).depth ≤ 64 := by have := q3; simpa only [dp, toPy] using this
      simp only [SeqAt.shaped, l1, l2, decide_true, Bool.and_self]
    · have l2 : (toPy (Kf.deref O y)).depth ≤ 64 := q4
      simp only [SeqAt.shaped, isPy_lay _ q2, l2, decide_true, Bool.and_self]
    · rw [toPys_get, List.getElem?_eq_getElem hj]; rfl
    · rw [toPys_get] at hz
      obtain ⟨z, hz1, rfl⟩ := Option.map_eq_some_iff.mp hz
      have hml : m < zs.length := by omega
      rw [List.getElem?_eq_getElem hml] at hz1
      cases hz1
      have := hn m hm
      simpa [deq] using this
end
section
variable {O : Ow} {Q : VD} {i j : Int} {a b : Str} {xs ys : List D} {d e x y z u : D} {p : Addr}
theorem rJoin_l {ts : List Str} (h : asStrs xs = some ts) : rJoinD (.str a) [.lst xs] O Q = ((ts.map (·.length)).sum + ts.length * a.length ≤ 16777216 ∧ Q (.str (Str.join a ts)) O) := by simp only [rJoinD, deref, h]
theorem rJoin_m {ts : List Str} : rJoinD (.str a) [.lst (ts.map .str)] O Q = ((ts.map (·.length)).sum + ts.length * a.length ≤ 16777216 ∧ Q (.str (Str.join a ts)) O) := rJoin_l (asStrs_map ts)
theorem rJoin_r {ts : List Str} (h0 : O p = some (.lst xs)) (h : asStrs xs = some ts) : rJoinD (.str a) [.ref p] O Q = ((ts.map (·.length)).sum + ts.length * a.length ≤ 16777216 ∧ Q (.str (Str.join a ts)) O) := by simp only [rJoinD, deref, h0, h]
theorem rIns_r (h : O p = some (.lst xs)) : rInsertD (.ref p) [.int i, y] O Q = (xs.length < sizeLine ∧ 0 ≤ i ∧ i < 2 ^ 63 ∧ Q .non (updO O p (.lst (xs.take i.toNat ++ [y] ++ xs.drop i.toNat)))) := by simp only [rInsertD, h]
theorem rPop0_r (h : O p = some (.lst (x :: xs))) : rPopAtD (.ref p) [.int 0] O Q = Q x (updO O p (.lst xs)) := by
  have e : ixN (xs.length + 1) 0 = some 0 := by
    unfold ixN
    rw [if_pos (by decide), if_pos (by omega)]; rfl
  simp only [rPopAtD, h, List.length_cons, e, List.getElem?_cons_zero, List.eraseIdx_cons_zero]
theorem rClear_r (h : O p = some (.lst xs)) : rClearD (.ref p) [] O Q = Q .non (updO O p (.lst [])) := by simp only [rClearD, h]
theorem rSplit_s : rSplitD (.str a) [.str b] O Q = ((b.length == 0) = false ∧ a.length + 2 ≤ sizeLine ∧ Q (.lst ((Txt.split a b).map .str)) O) := rfl
theorem rIndex_l {j : Nat} (h1 : isPys xs = true) (h2 : isPy (deref O y) = true) (h3 : dp (.lst xs) ≤ 64) (h4 : dp (deref O y) ≤ 64) (h : xs.findIdx? (fun z => deq z (deref O y)) = some j) : rIndexD (.lst xs) [y] O Q = Q (.int (j : Nat)) O := by
  simp only [rIndexD, deref_lst, h1, h2, h3, h4, h, true_and]
end
/-! ### walks -/
/-- a walk by places -/
theorem forD_ix {p : Pat} {gb : GS} {R : DEnds} (I : Nat → DEnv → Ow → Prop) : ∀ (ds : List D) (k : Nat) (ρ : DEnv) (O : Ow), I k ρ O → (∀ ρ O, I (k + ds.length) ρ O → R.nx ρ O) →
    (∀ i d, ds[i]? = some d → ∀ ρ O, I (k + i) ρ O → ∀ N : DEnv → Ow → Prop, (∀ ρ O, I (k + i + 1) ρ O → N ρ O) → patGet (patD p d ρ) fun ρ1 => gb { R with nx := N, ct := N, bk := R.nx } ρ1 O) → forD p gb R ds ρ O
  | [], k, ρ, O, h, hd, _ => hd ρ O h
  | d :: ds, k, ρ, O, h, hd, hs => by
    have q := hs 0 d rfl ρ O h (forD p gb R ds) fun ρ' O' h' => by
      refine forD_ix I ds (k + 1) ρ' O' h' (fun ρ O z => hd ρ O ?_) fun i d' hi ρ O z N hN => hs (i + 1) d' (by simpa using hi) ρ O ?_ N fun ρ O z => hN ρ O ?_
      · have e : k + (d :: ds).length = k + 1 + ds.length := by rw [List.length_cons]; omega
        rw [e]; exact z
      · have e : k + (i + 1) = k + 1 + i := by omega
        rw [e]; exact z
      · have e : k + 1 + i + 1 = k + (i + 1) + 1 := by omega
        rw [e]; exact z
    unfold forD
    exact q
/-- a comprehension that maps -/
theorem lcD_map {p : Pat} {fe : FE} {ρ : DEnv} {O : Ow} (h : D → D) : ∀ (ds acc : List D) (Q : List D → Ow → Prop), acc.length + ds.length ≤ sizeLine →
    (∀ d ∈ ds, ∀ Q' : VD, Q' (h d) O → patGet (patD p d ρ) fun ρ1 => fe ρ1 O Q') → Q (acc ++ ds.map h) O → lcD p fYes fe ρ ds acc O Q
  | [], acc, Q, _, _, q => by simpa [lcD] using q
  | d :: ds, acc, Q, hl, hs, q => by
    rw [List.length_cons] at hl
    have z := hs d List.mem_cons_self (fun e O2 => acc.length < sizeLine ∧ lcD p fYes fe ρ ds (acc ++ [e]) O2 Q) ⟨by omega, lcD_map h ds _ Q (by rw [List.length_append, List.length_singleton]; omega) (fun d' hd => hs d' (List.mem_cons_of_mem _ hd)) (by simpa using q)⟩
    unfold lcD
    simpa [fYes] using z
/-- a comprehension whose items may be many -/
theorem lcD_all {p : Pat} {fe : FE} {ρ : DEnv} {O : Ow} (A : D → D → Prop) : ∀ (ds acc : List D) (Q : List D → Ow → Prop), acc.length + ds.length ≤ sizeLine →
    (∀ d ∈ ds, ∀ Q' : VD, (∀ e, A d e → Q' e O) → patGet (patD p d ρ) fun ρ1 => fe ρ1 O Q') → (∀ es, Paired A ds es → Q (acc ++ es) O) → lcD p fYes fe ρ ds acc O Q
  | [], acc, Q, _, _, q => by have := q [] .nil; simpa [lcD] using this
  | d :: ds, acc, Q, hl, hs, q => by
    rw [List.length_cons] at hl
    have z := hs d List.mem_cons_self (fun e O2 => acc.length < sizeLine ∧ lcD p fYes fe ρ ds (acc ++ [e]) O2 Q) fun e he => ⟨by omega, lcD_all A ds _ Q (by rw [List.length_append, List.length_singleton]; omega) (fun d' hd => hs d' (List.mem_cons_of_mem _ hd)) fun es hes => by
      have := q (e :: es) (.cons he hes)
      simpa using this⟩
    unfold lcD
    simpa [fYes] using z
/-- a comprehension that maps those that it keeps -/
theorem lcD_filter {p : Pat} {ft : FT} {fe : FE} {ρ : DEnv} {O : Ow} (b : D → Bool) (h : D → D) : ∀ (ds acc : List D) (Q : List D → Ow → Prop), acc.length + ds.length ≤ sizeLine →
    (∀ d ∈ ds, ∀ (Q1 : VD) (Q2 : Ow → Prop), (b d = true → Q1 (h d) O) → (b d = false → Q2 O) → patGet (patD p d ρ) fun ρ1 => ft ρ1 O fun k O1 => if k = true then fe ρ1 O1 Q1 else Q2 O1) → Q (acc ++ (ds.filter b).map h) O → lcD p ft fe ρ ds acc O Q
  | [], acc, Q, _, _, q => by simpa [lcD] using q
  | d :: ds, acc, Q, hl, hs, q => by
    rw [List.length_cons] at hl
    have z := hs d List.mem_cons_self (fun e O2 => acc.length < sizeLine ∧ lcD p ft fe ρ ds (acc ++ [e]) O2 Q) (fun O2 => lcD p ft fe ρ ds acc O2 Q)
      (fun hb => ⟨by omega, lcD_filter b h ds _ Q (by rw [List.length_append, List.length_singleton]; omega) (fun d' hd => hs d' (List.mem_cons_of_mem _ hd)) (by simpa [List.filter_cons, hb] using q)⟩)
      (fun hb => lcD_filter b h ds _ Q (by omega) (fun d' hd => hs d' (List.mem_cons_of_mem _ hd)) (by simpa [List.filter_cons, hb] using q))
    unfold lcD
    exact z
/-! ### what is owned may be forgotten -/
def Sub (O O' : Ow) : Prop := ∀ a c, O a = some c → O' a = some c
theorem Sub.refl (O : Ow) : Sub O O := fun _ _ h => h
theorem Sub.trans {O O1 O2 : Ow} (a : Sub O O1) (b : Sub O1 O2) : Sub O O2 := fun p c h => b p c (a p c h)
theorem sub_upd {O : Ow} {p : Addr} {c : Cell} (h : O p = none) : Sub O (updO O p c) := fun a d e => by
  have ne : a ≠ p := fun q => by rw [q, h] at e; cases e
  rw [updO_ne ne]; exact e
theorem Gd.sub {K : PySem.W.Frag} {F P H : Hp} {O O' : Ow} (g : Gd M K F O' P H) (s : Sub O O') : Gd M K F O P H := ⟨g.fz, fun a c e => g.ow a c (s a c e), g.as, g.rl⟩
/-- at the end what is owned besides is forgotten -/
def VG (R : VD) : VD := fun d O' => ∃ O, Sub O O' ∧ R d O
section
variable {P : Program} {w : World} {K : PySem.W.Frag} {mg : Str → Option Value} {base : Heap}
theorem fn_dG {x qual : Str} {st : Stmt} {f : Addr} {fd : FuncData} {N ps : List Str} {k : Nat} {dsp : DSp} {g : GS} (F : Fun K x qual st f fd) (S : FnScope N ps (defScope st)) (len : ∀ ds O R RE, dsp ds O R RE → ds.length = ps.length)
    (hder : ∀ (cdv : Value) (A : Around) (outer : List Env) (s : Shared) (H : Hp) (E : XK), Room k (A.deeper (envOfC qual (defScope st) s.heap.objs.size f cdv)) →
      DSs MT (cxOf CX0 P w K mg base N qual (defScope st) f cdv A outer s H E).nox (defBody st) g)
    (hread : ∀ ds O R RE, dsp ds O R RE → g { nx := fun _ O' => VG R .non O', rt := VG R } (startD N ds) O) : FnOk P w K mg base CX0 (k + 1) f fd ps (liftSp K dsp) := by
  refine F.ok S (fun vs H Q E h => ?_) fun cdv A outer s H vs Q E hr h => ?_
  · obtain ⟨F, O, P, ds, R, RE, g, r, q, _⟩ := h
    rw [← r.length]; exact len ds O R RE q
  · obtain ⟨F, O, P, ds, R, RE, gd, r, q, po, _⟩ := h
    refine ⟨_, hder cdv A outer s H E hr, F, O, P, startD N ds, { nx := fun _ O' => VG R .non O', rt := VG R }, gd, ?_, hread ds O R RE q, ⟨fun ρ O' F' H' σ q1 s1 g1 _ => ?_, fun d O' F' H' v q1 s1 g1 r1 => ?_, fun _ _ _ _ _ z => z.elim, fun _ _ _ _ _ z => z.elim⟩⟩
    · unfold startD L2.start
      rw [r.length]
      exact envOk_start _ r
    · obtain ⟨O2, s2, q2⟩ := q1
      exact po .non O2 F' H' .non q2 s1 (g1.sub s2) (by simp only [Rep])
    · obtain ⟨O2, s2, q2⟩ := q1
      exact po d O2 F' H' v q2 s1 (g1.sub s2) r1
end
theorem VG.at {R : VD} {d : D} {O : Ow} (h : R d O) : VG R d O := ⟨O, Sub.refl _, h⟩
theorem VG.up {R : VD} {d : D} {O : Ow} {p : Addr} {c : Cell} (h : O p = none) (q : R d O) : VG R d (updO O p c) := ⟨O, sub_upd h, q⟩
theorem rangeD_get {lo : Int} {n i : Nat} {d : D} (h : (rangeD lo n)[i]? = some d) : i < n ∧ d = .int (lo + (i : Nat)) := by
  unfold rangeD at h
  rw [List.getElem?_map] at h
  obtain ⟨j, e1, rfl⟩ := Option.map_eq_some_iff.mp h
  have hi : i < n := by
    obtain ⟨h, _⟩ := List.getElem?_eq_some_iff.mp e1
    simpa using h
  rw [List.getElem?_range hi] at e1
  cases e1
  exact ⟨hi, rfl⟩
theorem rangeD_length (lo : Int) (n : Nat) : (rangeD lo n).length = n := by unfold rangeD; rw [List.length_map, List.length_range]
theorem cut_all {α : Type} {xs : List α} {n : Nat} (h : xs.length ≤ n) : cut xs none (some (n : Int)) = xs := by
  unfold cut
  rw [HT.sIx_none, HT.sIx_nat, List.drop_zero, Nat.sub_zero, Nat.min_eq_right h, List.take_length]
theorem rSl_l {xs : List D} {lo hi : Option Int} {O : Ow} {Q : VD} : rSlD (.lst xs) lo hi O Q = Q (.lst (cut xs lo hi)) O := rfl
theorem rSl_r {xs : List D} {lo hi : Option Int} {O : Ow} {Q : VD} {p : Addr} (h : O p = some (.lst xs)) : rSlD (.ref p) lo hi O Q = Q (.lst (cut xs lo hi)) O := by simp only [rSlD, deref, h]
theorem rSl_t {xs : List D} {lo hi : Option Int} {O : Ow} {Q : VD} (h : ¬ (HT.sIx xs.length 0 lo = 0 ∧ HT.sIx xs.length xs.length hi = xs.length)) : rSlD (.tup xs) lo hi O Q = Q (.tup (cut xs lo hi)) O := by simp only [rSlD, deref, h, not_false_eq_true, true_and]
theorem rSl_s {a : Str} {lo hi : Option Int} {O : Ow} {Q : VD} : rSlD (.str a) lo hi O Q = (a.length ≤ sizeLine ∧ Q (.str (cutS a lo hi)) O) := rfl
end Kf
namespace Kf
open PySem PySem.Spec L2
open PyProof.Rows hiding St
variable {M : MX}
/-! ### t < u of pairs (a number, a truth) -/
def ltIB (a : Int) (p : Bool) (b : Int) (q : Bool) : Bool := if a = b then (!p && q) else decide (a < b)
section
variable {X : Cx}
theorem op_ltIB (hu : X.A.units < cLine) : OpR X (compareOp .Lt) (fun x y H Q => ∃ (l m : Addr) (a b : Int) (p q : Bool), x = .ref l ∧ y = .ref m ∧ SqT X.K H l [.int a, .bl p] ∧ SqT X.K H m [.int b, .bl q] ∧ Q (.bl (ltIB a p b q)) H) := by
  intro pins s σ H x y v u Q I rx ry h
  obtain ⟨l, m, a, b, p, q, rfl, rfl, ha, hb, q0⟩ := h
  cases rx
  cases ry
  obtain ⟨its, r1, p1, _⟩ := I.tuple ha
  obtain ⟨its2, r2, p2, _⟩ := I.tuple hb
  cases r1 with
  | cons x1 t1 =>
    cases t1 with
    | cons x2 t2 =>
      cases t2
      cases r2 with
      | cons y1 u1 =>
        cases u1 with
        | cons y2 u2 =>
          cases u2
          rename_i v1 v2 w1 w2
          obtain ⟨k1, rfl⟩ := x1
          cases x2
          obtain ⟨k2, rfl⟩ := y1
          cases y2
          have R := Ob.RcOp.tuples_lt (A := X.A) (s := s) (e := fun j => if j = 0 then a == b else p == q) (r := fun j => if j = 0 then decide (a < b) else decide (b2i p < b2i q)) p1 p2 hu (fun j h1 h2 => by
            match j, h1, h2 with
            | 0, _, _ => exact SeqAt.EqAt.int_int _ _ _ _
            | 1, _, _ => exact eqAt_V (y := .bl p) (x := .bl q) rfl rfl rfl rfl
            | k + 2, h1, _ => have h3 : k + 2 < 2 := h1; omega) (fun j h1 h2 _ => by
            match j, h1, h2 with
            | 0, _, _ => exact Ob.RcOp.lt_int _ _ _ _
            | 1, _, _ => exact fun _ _ _ _ h => PyProof.Rows.lt_bool h
            | k + 2, h1, _ => have h3 : k + 2 < 2 := h1; omega)
          have e : Ob.lexAt (fun j => if j = 0 then a == b else p == q) (fun j => if j = 0 then decide (a < b) else decide (b2i p < b2i q)) (decide (#[Value.int a k1, Value.bool p].size < #[Value.int b k2, Value.bool q].size)) 0 (min #[Value.int a k1, Value.bool p].size #[Value.int b k2, Value.bool q].size) = ltIB a p b q := by
            have e2 : min #[Value.int a k1, Value.bool p].size #[Value.int b k2, Value.bool q].size = 2 := rfl
            rw [e2]
            simp only [Ob.lexAt_succ, Ob.lexAt_zero, if_true, ltIB]
            by_cases h : a = b
            · subst h; cases p <;> cases q <;> simp [b2i]
            · simp [h]
          have z : wpAny (model X.prog X.w) X.A (compareOp .Lt (.ref l) (.ref m)) (EP X pins σ Q) X.xe s := R X.prog X.w X.xe (EP X pins σ Q) ⟨.bl _, H, I, rfl, by
            have := q0
            rw [← e] at this
            exact this⟩
          exact z
def rLtTD : R2D := fun x y O Q => match x, y with
  | .tup [.int a, .bl p], .tup [.int b, .bl q] => Q (.bl (ltIB a p b q)) O
  | _, _ => False
theorem od_ltT (hu : X.A.units + 200 < cLine) : OpD M X (compareOp .Lt) rLtTD := by
  refine opD_of fun pins s σ F P H O x y dx dy v u R Q I rx ry gd r1 r2 q po => ?_
  unfold rLtTD at q
  split at q
  · rename_i a p b q'
    simp only [Rep, RepAll] at r1 r2
    obtain ⟨l, vs, rfl, hl, rv⟩ := r1
    obtain ⟨m, ws, rfl, hm, rw_⟩ := r2
    obtain ⟨_, _, rfl, rfl, _, _, rfl, rfl, rfl⟩ := rv
    obtain ⟨_, _, rfl, rfl, _, _, rfl, rfl, rfl⟩ := rw_
    exact ⟨_, op_ltIB (by omega), l, m, a, b, p, q', rfl, rfl, Same.seqT gd.fz hl, Same.seqT gd.fz hm, po.at gd q (by simp only [Rep])⟩
  · exact q.elim
end
theorem rLtT_i {a b : Int} {p q : Bool} {O : Ow} {Q : VD} : rLtTD (.tup [.int a, .bl p]) (.tup [.int b, .bl q]) O Q = Q (.bl (ltIB a p b q)) O := rfl
end Kf
namespace Kf
open PySem PySem.Spec L2
open PyProof.Rows hiding St
variable {M : MX}

/-! ### exceptions: what is wished of one, over data -/
abbrev XW := Value → Option (List (Str × D)) → DEnv → Ow → Prop
def PostW (K : PySem.W.Frag) (F P : Hp) (RX : XW) (W : WX) : Prop := ∀ cls fs ρ O' F' H' dd σ, RX cls fs ρ O' → Same F F' → Gd MT K F' O' P H' → XdOk K F' H' fs dd → EnvOk K F' ρ σ → W cls dd σ H'
def mxw (K : PySem.W.Frag) (RX : XW) (W : WX) : MX where
  rel F P := ∃ P0, Same P0 P ∧ PostW K F P0 RX W
  mono := fun ⟨P0, s0, po⟩ s s' => ⟨P0, s0.trans s', fun cls fs ρ O' F' H' dd σ q s2 => po cls fs ρ O' F' H' dd σ q (s.trans s2)⟩
theorem Gd.wish {K : PySem.W.Frag} {F P H : Hp} {O : Ow} {RX : XW} {W : WX} {cls : Value} {fs : Option (List (Str × D))} {ρ : DEnv} {dd : Option Addr} {σ : L2.St}
    (g : Gd (mxw K RX W) K F O P H) (q : RX cls fs ρ O) (x : XdOk K F H fs dd) (en : EnvOk K F ρ σ) : W cls dd σ H := by
  obtain ⟨P0, s0, po⟩ := g.rl
  exact po cls fs ρ O F H dd σ q (Same.refl _) (g.mt.less s0) x en
/-- of nothing -/
abbrev RX0 : XW := fun _ _ _ _ => False

/-- an own class of exceptions without an __init__ of its own -/
structure ExN (K : PySem.W.Frag) (mg : Str → Option Value) (x : Str) (C : Addr) : Prop where
  g : mg x = some (.ref C)
  ex : PySem.W.excIn K C [.type "ValueError", .type "Exception", .type "BaseException", .type "object"] "ValueError.__new__" = true
  kp : PySem.W.keepIn K (.ref C) = true
  sb : PySem.W.subIn K (.ref C) (.type "BaseException") = some true
  ty : PySem.W.typeIn K (.ref C) = some (.type "type")

section
variable {X : Cx} {RX : XW} {W : WX} {x m : Str} {C : Addr} {j : Nat} {p p2 pos pos' : Pos}
def gRaise (RX : XW) (cls : Value) : GS := fun _ ρ O => RX cls none ρ O
theorem ds_raise (N : ExN X.K X.mg x C) (hc : X.calm = true) (tk : Takes X W) (hg : Gl X x) (hdb : (x == ("__debug__" : Str)) = false := by decide) :
    DS (mxw X.K RX W) X (.Raise (some (.Call (.Name x p) [.Constant (.str m) j p2] [] pos)) none pos') (gRaise RX (.ref C)) :=
  psMono (ps_raise hc tk (pmk_own PySem.F.excBase_ValueError N.ex N.g N.kp (raises_own N.sb N.ty) hg hdb)) fun D σ H h => by
    obtain ⟨F, O, P, ρ, R, g, en, q, po⟩ := h
    exact g.wish q rfl en
end
section
variable {X : Cx} {RX : XW} {W : WX} {e : Expr} {es : List Expr} {fr : FA} {k : Nat} {f : Addr} {fd : FuncData} {ps : List Str} {dsp : DSp} {x : Str} {st : Stmt} {p pos : Pos}
/-- a call that may raise -/
def fCallX (dsp : DSp) (RX : XW) (fr : FA) : FE := fun ρ O Q => fr ρ O fun ds O1 => dsp ds O1 Q fun cls fs O' => RX cls fs ρ O'
theorem de_callX (N : Fn X.K X.mg x st ps f fd) (G : FnOk X.prog X.w X.K X.mg X.base (L2.CX X.prog X.w) k f fd ps (liftSp X.K dsp)) (hr : Room k X.A) (tk : Takes X W) (hg : Gl X x)
    (ha : DA (mxw X.K RX W) X (e :: es) fr) (hdb : (x == ("__debug__" : Str)) = false := by decide) (he : starEach (e :: es) X.env = (false, eval e X.env) :: starEach es X.env := by rfl) (hpl : (backTo pos (starEach es X.env)).any (·.1) = false := by rfl) :
    DE (mxw X.K RX W) X (.Call (.Name x p) (e :: es) [] pos) (fCallX dsp RX fr) := peMono (pe_callS G hr hg N.m N.F.kp N.b (fun σ => passAt tk σ) ha hdb he hpl) fun σ H Q h => by
  obtain ⟨F, O, P, ρ, R, g, en, q, po⟩ := h
  refine ⟨F, O, P, ρ, _, g, en, q, fun ds O1 F1 H1 vs q1 s1 g1 r1 => ?_⟩
  refine ⟨F1, O1, P, ds, R, _, g1.mt, r1, q1, po.mt g1 s1, fun cls fs O' F' H' dd q2 s2 g2 xd => ?_⟩
  exact (g2.re ((mxw X.K RX W).mono g1.rl s2 (Same.refl _))).wish q2 xd (en.mono (s1.trans s2))
end
section
variable {P : Program} {w : World} {K : PySem.W.Frag} {mg : Str → Option Value} {base : Heap}
/-- at the end what is owned besides is forgotten -/
def XG (RE : XD) : XW := fun cls fs _ O' => ∃ O, Sub O O' ∧ RE cls fs O
/-- a def that may raise, by its reading -/
theorem fn_dX {x qual : Str} {st : Stmt} {f : Addr} {fd : FuncData} {N ps : List Str} {k : Nat} {dsp : DSp} {g : XW → GS} (F : Fun K x qual st f fd) (S : FnScope N ps (defScope st)) (len : ∀ ds O R RE, dsp ds O R RE → ds.length = ps.length)
    (hder : ∀ (RX : XW) (W : WX) (cdv : Value) (A : Around) (outer : List Env) (s : Shared) (H : Hp) (E : XK), Takes (cxOf (L2.CX P w) P w K mg base N qual (defScope st) f cdv A outer s H E) W →
      PassesOwn (model (cxOf (L2.CX P w) P w K mg base N qual (defScope st) f cdv A outer s H E).prog (cxOf (L2.CX P w) P w K mg base N qual (defScope st) f cdv A outer s H E).w) (cxOf (L2.CX P w) P w K mg base N qual (defScope st) f cdv A outer s H E).A (cxOf (L2.CX P w) P w K mg base N qual (defScope st) f cdv A outer s H E).env (cxOf (L2.CX P w) P w K mg base N qual (defScope st) f cdv A outer s H E).xe →
      Room k (A.deeper (envOfC qual (defScope st) s.heap.objs.size f cdv)) →
      DSs (mxw K RX W) (cxOf (L2.CX P w) P w K mg base N qual (defScope st) f cdv A outer s H E) (defBody st) (g RX))
    (hread : ∀ ds O R RE, dsp ds O R RE → g (XG RE) { nx := fun _ O' => VG R .non O', rt := VG R } (startD N ds) O) : FnOk P w K mg base (L2.CX P w) (k + 1) f fd ps (liftSp K dsp) := by
  refine F.okX S (fun vs H Q E h => ?_) fun cdv A outer s H vs Q E hr h => ?_
  · obtain ⟨F, O, P, ds, R, RE, g, r, q, _⟩ := h
    rw [← r.length]; exact len ds O R RE q
  · obtain ⟨F, O, P', ds, R, RE, gd, r, q, po, px⟩ := h
    have tk : Takes (cxOf (L2.CX P w) P w K mg base N qual (defScope st) f cdv A outer s H E) (fun cls d _ H => E cls d H) := takes_of rfl rfl rfl rfl
    refine ⟨_, hder (XG RE) _ cdv A outer s H E tk (passes_of rfl) hr, F, O, P', startD N ds, { nx := fun _ O' => VG R .non O', rt := VG R }, gd.re ⟨P', Same.refl _, fun cls fs ρ O' F' H' dd σ q1 s1 g1 xd _ => ?_⟩, ?_, hread ds O R RE q, ⟨fun ρ O' F' H' σ q1 s1 g1 _ => ?_, fun d O' F' H' v q1 s1 g1 r1 => ?_, fun _ _ _ _ _ z => z.elim, fun _ _ _ _ _ z => z.elim⟩⟩
    · obtain ⟨O2, s2, q2⟩ := q1
      exact px cls fs O2 F' H' dd q2 s1 (g1.sub s2) xd
    · unfold startD L2.start
      rw [r.length]
      exact envOk_start _ r
    · obtain ⟨O2, s2, q2⟩ := q1
      exact po .non O2 F' H' .non q2 s1 (g1.mt.sub s2) (by simp only [Rep])
    · obtain ⟨O2, s2, q2⟩ := q1
      exact po d O2 F' H' v q2 s1 (g1.mt.sub s2) r1
end

/-! ### try -/
def mxe (K : PySem.W.Frag) (fs : Option (List (Str × D))) (d : Option Addr) : MX where
  rel F _ := XdR K F fs d
  mono := fun h s _ => h.mono s
/-- the fields are held still -/
theorem Gd.holdX {K : PySem.W.Frag} {F P H : Hp} {O : Ow} {fs : Option (List (Str × D))} {dd : Option Addr} (g : Gd MT K F O P H) (x : XdOk K F H fs dd) : ∃ F', Same F F' ∧ Gd (mxe K fs dd) K F' O P H := ⟨F, Same.refl _, g.re x⟩
end Kf
namespace Kf
open PySem PySem.Spec L2
open PyProof.Rows hiding St
variable {M : MX}

def liftSW (K : PySem.W.Frag) (W : WX) (g : XW → GS) : TS := fun D σ H => ∃ RX, liftS (mxw K RX W) K (g RX) D σ H
def liftSE (K : PySem.W.Frag) (g : Option (List (Str × D)) → GS) (d : Option Addr) : TS := fun D σ H => ∃ fs, liftS (mxe K fs d) K (g fs) D σ H
theorem PostS.re {M' : MX} {K : PySem.W.Frag} {F P H : Hp} {O : Ow} {R : DEnds} {D : Ends} (po : PostS M K F P R D) (g : Gd M K F O P H) : PostS M' K F P R D :=
  ⟨fun ρ O' F' H' σ q s g' en => po.nx ρ O' F' H' σ q s (g'.re (M.mono g.rl s (Same.refl _))) en, fun d O' F' H' v q s g' r => po.rt d O' F' H' v q s (g'.re (M.mono g.rl s (Same.refl _))) r,
    fun ρ O' F' H' σ q s g' en => po.bk ρ O' F' H' σ q s (g'.re (M.mono g.rl s (Same.refl _))) en, fun ρ O' F' H' σ q s g' en => po.ct ρ O' F' H' σ q s (g'.re (M.mono g.rl s (Same.refl _))) en⟩
/-- what is wished outside -/
def Outs (M : MX) (K : PySem.W.Frag) (RXo : XW) (Wo : WX) : Prop := ∀ F O P H cls fs ρ dd σ, Gd M K F O P H → RXo cls fs ρ O → XdOk K F H fs dd → EnvOk K F ρ σ → Wo cls dd σ H
theorem outs0 {K : PySem.W.Frag} : Outs M K RX0 (fun _ _ _ _ => False) := fun _ _ _ _ _ _ _ _ _ _ z _ _ => z
theorem outsX {K : PySem.W.Frag} {RX : XW} {W : WX} : Outs (mxw K RX W) K RX W := fun _ _ _ _ _ _ _ _ _ g q x en => g.wish q x en
section
variable {X : Cx} {x n : Str} {c : Value} {i : Nat} {body suite : List Stmt} {b₀ : Stmt} {np pos pos' : Pos} {gb : XW → GS} {gs : Addr → Value → Option (List (Str × D)) → GS} {RXo : XW} {Wo : WX}
theorem pss_sw {W : WX} (h : ∀ RX, DSs (mxw X.K RX W) X body (gb RX)) : PSs X body (liftSW X.K W gb) := ⟨fun pins s σ H D I ⟨RX, q⟩ => (h RX).run pins s σ H D I q⟩
theorem pss_se {d : Option Addr} {g : Option (List (Str × D)) → GS} (h : ∀ fs, DSs (mxe X.K fs d) X body (g fs)) : PSs X body (liftSE X.K g d) := ⟨fun pins s σ H D I ⟨fs, q⟩ => (h fs).run pins s σ H D I q⟩
/-- the ends with slot i empty -/
def endsNo (i : Nat) (R : DEnds) : DEnds := { nx := fun ρ O => R.nx (ρ.set i none) O, rt := R.rt, bk := fun ρ O => R.bk (ρ.set i none) O, ct := fun ρ O => R.ct (ρ.set i none) O }
def xAs (K : PySem.W.Frag) (c : Value) (i : Nat) (gs : Addr → Value → Option (List (Str × D)) → GS) (RXo : XW) (R : DEnds) : XW := fun cls fs ρ O => ∃ b, PySem.W.exmOne K cls c = some b ∧
  (b = true → ∀ a, O a = none → gs a cls fs (endsNo i R) (ρ.set i (some (.ref a))) O) ∧ (b = false → RXo cls fs ρ O)
def xOnly (K : PySem.W.Frag) (c : Value) (gs : Addr → Value → Option (List (Str × D)) → GS) (RXo : XW) (R : DEnds) : XW := fun cls fs ρ O => ∃ b, PySem.W.exmOne K cls c = some b ∧
  (b = true → ∀ a, O a = none → gs a cls fs R ρ O) ∧ (b = false → RXo cls fs ρ O)
/-- try: .. except C as n: .. -/
def gTryAs (K : PySem.W.Frag) (c : Value) (i : Nat) (gb : XW → GS) (gs : Addr → Value → Option (List (Str × D)) → GS) (RXo : XW) : GS := fun R ρ O => gb (xAs K c i gs RXo R) R ρ O
/-- try: .. except C: .. -/
def gTry (K : PySem.W.Frag) (c : Value) (gb : XW → GS) (gs : Addr → Value → Option (List (Str × D)) → GS) (RXo : XW) : GS := fun R ρ O => gb (xOnly K c gs RXo R) R ρ O
theorem ds_try_as (hN : X.N.Nodup) (hi : X.N[i]? = some n) (hln : X.env.kindOf n = some .local) (hc : Names X x c) (tk : Takes X Wo) (ho : Outs M X.K RXo Wo)
    (hb : ∀ (RX : XW) (W : WX) (pn : List (Addr × Obj)) (xe : Value → Shared → Prop), Takes (X.tr pn xe) W → PassesOwn (model X.prog X.w) X.A X.env xe → DSs (mxw X.K RX W) (X.tr pn xe) body (gb RX))
    (hsu : ∀ (fs : Option (List (Str × D))) (a : Addr) (oe : Obj) (cls : Value) (d : Option Addr) (pn : List (Addr × Obj)), Zc cls d oe → (∃ vs, oe.data = .fields vs) → DSs (mxe X.K fs d) (X.suite a ((a, oe) :: pn)) (b₀ :: suite) (gs a cls fs))
    (hs : X.stack = X.env :: X.outer := by rfl) (hf : X.env.frame = some X.env.locals := by rfl) :
    DS M X (.Try body [.ExceptHandler (some (.Name x np)) (some n) (b₀ :: suite) pos'] [] [] pos) (gTryAs X.K c i gb gs RXo) :=
  psMono (ps_try_as (tb := fun W => liftSW X.K W gb) (ts := fun a cls d => liftSE X.K (gs a cls) d) hs hf hN hi hln hc tk (fun W pn xe tk' ps => pss_sw (X := X.tr pn xe) fun RX => hb RX W pn xe tk' ps)
    (fun a oe cls d pn hz hf' => pss_se (X := X.suite a ((a, oe) :: pn)) fun fs => hsu fs a oe cls d pn hz hf')) fun D σ H h => by
  obtain ⟨F, O, P, ρ, R, g, en, q, po⟩ := h
  refine ⟨_, F, O, P, ρ, R, g.re ⟨P, Same.refl _, fun cls fs ρ' O' F' H' dd σ' q1 s1 g1 xd en1 => ?_⟩, en, q, po.re g⟩
  obtain ⟨b, hb1, hb2, hb3⟩ := q1
  refine ⟨b, hb1, fun hbt a ha => ?_, fun hbf => ho F' O' P H' cls fs ρ' dd σ' (g1.re (M.mono g.rl s1 (Same.refl _))) (hb3 hbf) xd en1⟩
  have z := hb2 hbt a (g1.freeO ha)
  obtain ⟨F2, s2, g2⟩ := g1.holdX xd
  refine ⟨fs, F2, O', P, ρ'.set i (some (.ref a)), _, g2, (en1.mono s2).set (by simp only [Rep]) i, z, ⟨fun ρ3 O3 F3 H3 σ3 q3 s3 g3 en3 => ?_, fun d3 O3 F3 H3 v3 q3 s3 g3 r3 => ?_, fun ρ3 O3 F3 H3 σ3 q3 s3 g3 en3 => ?_, fun ρ3 O3 F3 H3 σ3 q3 s3 g3 en3 => ?_⟩⟩
  · exact po.nx _ O3 F3 H3 _ q3 (s1.trans (s2.trans s3)) (g3.re (M.mono g.rl (s1.trans (s2.trans s3)) (Same.refl _))) (en3.wipe i)
  · exact po.rt _ O3 F3 H3 _ q3 (s1.trans (s2.trans s3)) (g3.re (M.mono g.rl (s1.trans (s2.trans s3)) (Same.refl _))) r3
  · exact po.bk _ O3 F3 H3 _ q3 (s1.trans (s2.trans s3)) (g3.re (M.mono g.rl (s1.trans (s2.trans s3)) (Same.refl _))) (en3.wipe i)
  · exact po.ct _ O3 F3 H3 _ q3 (s1.trans (s2.trans s3)) (g3.re (M.mono g.rl (s1.trans (s2.trans s3)) (Same.refl _))) (en3.wipe i)
theorem ds_try (hc : Names X x c) (tk : Takes X Wo) (ho : Outs M X.K RXo Wo)
    (hb : ∀ (RX : XW) (W : WX) (pn : List (Addr × Obj)) (xe : Value → Shared → Prop), Takes (X.tr pn xe) W → PassesOwn (model X.prog X.w) X.A X.env xe → DSs (mxw X.K RX W) (X.tr pn xe) body (gb RX))
    (hsu : ∀ (fs : Option (List (Str × D))) (a : Addr) (oe : Obj) (cls : Value) (d : Option Addr) (pn : List (Addr × Obj)), Zc cls d oe → (∃ vs, oe.data = .fields vs) → DSs (mxe X.K fs d) (X.suite a ((a, oe) :: pn)) (b₀ :: suite) (gs a cls fs))
    (hs : X.stack = X.env :: X.outer := by rfl) (hf : X.env.frame = some X.env.locals := by rfl) :
    DS M X (.Try body [.ExceptHandler (some (.Name x np)) none (b₀ :: suite) pos'] [] [] pos) (gTry X.K c gb gs RXo) :=
  psMono (ps_try_only (tb := fun W => liftSW X.K W gb) (ts := fun a cls d => liftSE X.K (gs a cls) d) hs hf hc tk (fun W pn xe tk' ps => pss_sw (X := X.tr pn xe) fun RX => hb RX W pn xe tk' ps)
    (fun a oe cls d pn hz hf' => pss_se (X := X.suite a ((a, oe) :: pn)) fun fs => hsu fs a oe cls d pn hz hf')) fun D σ H h => by
  obtain ⟨F, O, P, ρ, R, g, en, q, po⟩ := h
  refine ⟨_, F, O, P, ρ, R, g.re ⟨P, Same.refl _, fun cls fs ρ' O' F' H' dd σ' q1 s1 g1 xd en1 => ?_⟩, en, q, po.re g⟩
  obtain ⟨b, hb1, hb2, hb3⟩ := q1
  refine ⟨b, hb1, fun hbt a ha => ?_, fun hbf => ho F' O' P H' cls fs ρ' dd σ' (g1.re (M.mono g.rl s1 (Same.refl _))) (hb3 hbf) xd en1⟩
  have z := hb2 hbt a (g1.freeO ha)
  obtain ⟨F2, s2, g2⟩ := g1.holdX xd
  refine ⟨fs, F2, O', P, ρ', R, g2, en1.mono s2, z, ⟨fun ρ3 O3 F3 H3 σ3 q3 s3 g3 en3 => ?_, fun d3 O3 F3 H3 v3 q3 s3 g3 r3 => ?_, fun ρ3 O3 F3 H3 σ3 q3 s3 g3 en3 => ?_, fun ρ3 O3 F3 H3 σ3 q3 s3 g3 en3 => ?_⟩⟩
  · exact po.nx _ O3 F3 H3 _ q3 (s1.trans (s2.trans s3)) (g3.re (M.mono g.rl (s1.trans (s2.trans s3)) (Same.refl _))) en3
  · exact po.rt _ O3 F3 H3 _ q3 (s1.trans (s2.trans s3)) (g3.re (M.mono g.rl (s1.trans (s2.trans s3)) (Same.refl _))) r3
  · exact po.bk _ O3 F3 H3 _ q3 (s1.trans (s2.trans s3)) (g3.re (M.mono g.rl (s1.trans (s2.trans s3)) (Same.refl _))) en3
  · exact po.ct _ O3 F3 H3 _ q3 (s1.trans (s2.trans s3)) (g3.re (M.mono g.rl (s1.trans (s2.trans s3)) (Same.refl _))) en3
end
/-! ### isinstance of the exception that a suite holds -/
def clsD : D → Value → Prop
  | .ref C, v => v = .ref C
  | .ty n, v => v = .type n
  | _, _ => False
theorem clsD.uniq {K : PySem.W.Frag} {F : Hp} {d : D} {cv u : Value} {v : V} (h : clsD d cv) (r : Rep K F d v) (rv : RelV v u) : u = cv := by
  unfold clsD at h
  split at h
  · simp only [Rep] at r; subst r; subst h; exact rv
  · simp only [Rep] at r; subst r; subst h; exact rv
  · exact h.elim
theorem clsDs {K : PySem.W.Frag} {F : Hp} : ∀ {ds : List D} {cs us : List Value} {vs : List V}, Paired clsD ds cs → RepAll K F ds vs → Vals vs us → us = cs
  | [], _, us, vs, .nil, r, rv => by simp only [RepAll] at r; subst r; cases rv; rfl
  | d :: ds, _, us, vs, .cons h t, r, rv => by
    simp only [RepAll] at r
    obtain ⟨v, w, rfl, r1, r2⟩ := r
    cases rv with
    | cons a b => rw [h.uniq r1 a, clsDs t r2 b]
def rIsED (K : PySem.W.Frag) (a : Addr) (cls : Value) (fs : Option (List (Str × D))) : RAD := fun ds O Q => match ds with
  | [.ref b, .tup cs] => b = a ∧ fs = none ∧ ∃ C us bb, cls = .ref C ∧ ExcC K C ∧ Paired clsD cs us ∧ PySem.W.kitAny K (.ref C) us = some bb ∧ Q (.bl bb) O
  | [.ref b, c] => b = a ∧ fs = none ∧ ∃ C cv bb, cls = .ref C ∧ ExcC K C ∧ clsD c cv ∧ PySem.W.kitOne K (.ref C) cv = some bb ∧ Q (.bl bb) O
  | _ => False
theorem cd_isE {X : Cx} {a : Addr} {oe : Obj} {cls : Value} {d : Option Addr} {fs : Option (List (Str × D))} {pn : List (Addr × Obj)} (hz : Zc cls d oe) (hf : ∃ vs, oe.data = .fields vs) :
    CallD (mxe X.K fs d) (X.suite a ((a, oe) :: pn)) (.builtin "isinstance") (rIsED X.K a cls fs) := by
  intro pins s σ H xs us Q I r h
  obtain ⟨F, O, P, ds, R, g, rr, q, po⟩ := h
  unfold rIsED at q
  split at q
  · rename_i b cs
    obtain ⟨rfl, rfl, C, us', bb, rfl, hC, hp, e, q⟩ := q
    have hd : d = none := g.rl
    subst hd
    obtain ⟨v, w, rfl, r1, r2⟩ := rr.two'
    simp only [Rep] at r1 r2
    subst r1
    obtain ⟨tp, vs, rfl, ht, rs⟩ := r2
    obtain ⟨its, rv, hit, _⟩ := I.tuple (Same.seqT g.fz ht)
    have eu := clsDs hp rs rv
    subst eu
    cases r with
    | cons ra rb =>
      cases rb with
      | cons rb rc =>
        cases rc
        cases ra
        cases rb
        obtain ⟨hget, _⟩ := I.pin (b, oe) (List.mem_append.mpr (.inl List.mem_cons_self))
        obtain ⟨vs, hv⟩ := hf
        have J : PySem.W.InstAt s.heap b oe C none := by
          obtain ⟨oc, od, oda, osl⟩ := oe
          obtain ⟨h1, h2⟩ := hz
          dsimp only at h1 h2 hv
          subst h1 h2 hv
          exact ⟨hget, rfl, rfl, trivial⟩
        obtain ⟨dd, n, sl, hit⟩ : ∃ dd n sl, s.heap.get? tp = some ⟨.type "tuple", dd, .seq its.toArray n, sl⟩ := by
          obtain ⟨⟨oc, od, oda, osl⟩, h1, h2, n, h3⟩ := hit
          dsimp only at h2 h3
          subst h2 h3
          exact ⟨od, n, osl, h1⟩
        exact PySem.W.kia_tup (PySem.W.handS_kitx_exc hC.hg hC.hk hC.hs hC.hd hC.ha hC.hn hC.ht hC.hm) I.kIn J hit e (fun z => nomatch z) fun tk => ⟨.bl bb, H, I.kept (t' := tk) fun _ _ z => z, rfl, po.at g q (by simp only [Rep])⟩
  · rename_i b c _
    obtain ⟨rfl, rfl, C, cv, bb, rfl, hC, hcv, e, q⟩ := q
    have hd : d = none := g.rl
    subst hd
    obtain ⟨v, w, rfl, r1, r2⟩ := rr.two'
    simp only [Rep] at r1
    subst r1
    exact call_isE hC hz hf pins s σ H _ us Q I r ⟨w, cv, bb, rfl, fun u ru => hcv.uniq r2 ru, e, po.at g q (by simp only [Rep])⟩
  · exact q.elim
end Kf
namespace Kf
open PySem PySem.Spec L2
open PyProof.Rows hiding St
/-- an own class of exceptions, as it is named -/
structure Cl (K : PySem.W.Frag) (mg : Str → Option Value) (x : Str) (C : Addr) : Prop where
  g : mg x = some (.ref C)
  sb : PySem.W.subIn K (.ref C) (.type "BaseException") = some true
  hd : PySem.W.hasDictIn K C = true
  ty : PySem.W.typeIn K (.ref C) = some (.type "type")
  sf : PySem.W.subIn K (.ref C) (.ref C) = some true
section
variable {K : PySem.W.Frag} {mg : Str → Option Value} {x : Str} {C D : Addr} {cls : Value} {b : Bool}
theorem cst_cls (c : Cl K mg x C) : Cst K mg x (.ref C) := ⟨_, .ref C, c.g, rfl, fun _ => by simp only [Rep]⟩
theorem Cl.exm (c : Cl K mg x C) (h : PySem.W.subIn K cls (.ref C) = some b) : PySem.W.exmOne K cls (.ref C) = some b := PySem.W.exm_ref c.sb c.hd c.ty h
theorem Cl.kit (c : Cl K mg x C) (h : PySem.W.subIn K (.ref D) (.ref C) = some b) : PySem.W.kitOne K (.ref D) (.ref C) = some b := by
  unfold PySem.W.kitOne
  by_cases e : D = C
  · subst e
    rw [c.sf] at h
    cases h
    rw [if_pos (by simp)]
  · rw [if_neg (by simpa using e)]
    obtain ⟨cd, hc, _⟩ := PySem.W.any_some c.hd
    have e2 : ((PySem.W.clsIn K C).isSome && PySem.W.typeIn K (.ref C) == some (.type "type")) = true := by rw [hc, c.ty] <;> rfl
    show (if ((PySem.W.clsIn K C).isSome && PySem.W.typeIn K (.ref C) == some (.type "type")) = true then PySem.W.subIn K (.ref D) (.ref C) else none) = some b
    rw [if_pos e2, h]
theorem kit_VE (h : PySem.W.subIn K (.ref D) (.type "ValueError") = some b) : PySem.W.kitOne K (.ref D) (.type "ValueError") = some b := by
  unfold PySem.W.kitOne
  rw [if_neg (by simp)]
  show (if PySem.W.kitMeta "ValueError" = true then PySem.W.subIn K (.ref D) (.type "ValueError") else none) = some b
  rw [if_pos (by decide +kernel), h]
theorem kitAny_no (h : ∀ c ∈ cs, PySem.W.kitOne K cls c = some false) : PySem.W.kitAny K cls cs = some false := by
  induction cs with
  | nil => rfl
  | cons c r ih =>
    unfold PySem.W.kitAny
    rw [h c List.mem_cons_self]
    exact ih fun c' hc => h c' (List.mem_cons_of_mem _ hc)
end
theorem bb_ValueError : bootBuiltins "ValueError" = some (.type "ValueError") := by decide +kernel
end Kf
namespace Kf
open PySem PySem.Spec L2
open PyProof.Rows hiding St
variable {M : MX}
section
variable {X : Cx} {e : Expr} {es : List Expr} {fr : FA} {k : Nat} {f : Addr} {fd : FuncData} {ps : List Str} {dsp : DSp} {x : Str} {st : Stmt} {p pos : Pos}
/-- a call that could raise, but does not here -/
theorem de_callX0 (N : Fn X.K X.mg x st ps f fd) (G : FnOk X.prog X.w X.K X.mg X.base (L2.CX X.prog X.w) k f fd ps (liftSp X.K dsp)) (hr : Room k X.A) (hg : Gl X x)
    (ha : DA M X (e :: es) fr) (hdb : (x == ("__debug__" : Str)) = false := by decide) (he : starEach (e :: es) X.env = (false, eval e X.env) :: starEach es X.env := by rfl) (hpl : (backTo pos (starEach es X.env)).any (·.1) = false := by rfl) :
    DE M X (.Call (.Name x p) (e :: es) [] pos) (fCallX dsp RX0 fr) := peMono (pe_callS (E := WE fun _ _ _ _ => False) G hr hg N.m N.F.kp N.b (fun σ => passAt takes0 σ) ha hdb he hpl) fun σ H Q h => by
  obtain ⟨F, O, P, ρ, R, g, en, q, po⟩ := h
  refine ⟨F, O, P, ρ, _, g, en, q, fun ds O1 F1 H1 vs q1 s1 g1 r1 => ?_⟩
  exact ⟨F1, O1, P, ds, R, _, g1.mt, r1, q1, po.mt g1 s1, fun cls fs O' F' H' dd q2 s2 g2 xd => q2⟩
end
/-! ### text * 0, text * 1 -/
section
variable {X : Cx}
def rMulSD : R2D := fun x y O Q => match x, y with
  | .str a, .int n => (n = 0 ∧ Q (.str "") O) ∨ (n = 1 ∧ Q (.str a) O)
  | _, _ => False
theorem op_mulS : OpR X (binaryOp .Mult) (fun x y H Q => ∃ a n, x = .str a ∧ y = .int n ∧ ((n = 0 ∧ Q (.str "") H) ∨ (n = 1 ∧ Q (.str a) H))) := by
  intro pins s σ H x y v u Q I rx ry h
  obtain ⟨a, n, rfl, rfl, h⟩ := h
  obtain ⟨t, rfl⟩ := rx
  obtain ⟨t2, rfl⟩ := ry
  rcases h with ⟨rfl, q⟩ | ⟨rfl, q⟩
  · exact PySem.P.mul_str_none (by decide) (by decide) ⟨.str "", H, I.kept (t' := s.toks + 1) fun _ _ z => z, ⟨_, rfl⟩, q⟩
  · refine PySem.P.mul_str (by decide) (fun _ h => by simp at h) (fun _ h => by simp at h) ?_
    exact ⟨.str a, H, I, ⟨_, rfl⟩, q⟩
theorem od_mulS : OpD M X (binaryOp .Mult) rMulSD := by
  refine opD_of fun pins s σ F P H O x y dx dy v u R Q I rx ry gd r1 r2 q po => ?_
  unfold rMulSD at q
  split at q
  · rename_i a n
    simp only [Rep] at r1 r2
    refine ⟨_, op_mulS, a, n, r1, r2, ?_⟩
    exact q.imp (fun h => ⟨h.1, po.at gd h.2 (by simp only [Rep])⟩) (fun h => ⟨h.1, po.at gd h.2 (by simp only [Rep])⟩)
  · exact q.elim
end
end Kf
namespace Kf
open PySem PySem.Spec L2
open PyProof.Rows hiding St
variable {M : MX}
/-! ### xs[::-1] -/
section
variable {X : Cx} {e st : Expr} {fa : FE} {te : TE} {tst : TO} {fs : FO} {pos p2 : Pos}
theorem pe_sliceRev (he : PE X e te) (hs : PO X (some st) tst) : PE X (.Subscript e (.Slice none none (some st) p2) pos) (fun σ H Q => te σ H fun x H1 => tst σ H1 fun o H2 => o = some (-1) ∧ ∃ a xs, x = .ref a ∧ SqL X.K H2 a xs ∧ ∀ p, H2 p = none → Q (.ref p) (upd H2 p (.lst xs.reverse))) := by
  refine ⟨fun pins s σ H Q I h => ?_⟩
  refine Subscript_ (thn (he.run pins s σ H _ I h) fun v s1 ⟨x, H1, I1, r1, q1⟩ => ?_)
  refine wpAny_Slice ?_
  rw [evalPart_none]
  refine wpAny_pure (wpAny_pure ?_)
  refine thn (hs.run pins s1 σ H1 _ I1 q1) fun vk s3 ⟨o, H3, I3, pk, q3⟩ => ?_
  obtain ⟨rfl, a, xs, rfl, hx, q⟩ := q3
  cases r1
  have I4 : Inv X pins σ H3 { s3 with heap := s3.heap.push { cls := .type "slice", data := .fields #[.none, .none, vk] } } := I3.kept (t' := s3.toks) fun b ob q => Heap.get?_push_of_some _ q
  obtain ⟨its, r, ht, hz⟩ := I4.list hx
  have hlen := r.length
  refine tail_any (ops := [.ref a, .ref s3.heap.objs.size]) ht.isList.typeIs slot_list_getitem.lookup ?_ (by with_unfolding_all rfl)
  refine wpAny_getItem_list_slice ht.isList (Heap.IsSliceOf.new ..) .none .none pk (by decide) ?_ (by rw [List.size_toArray] <;> omega)
  rw [PySem.W.krv_pick]
  refine ⟨.ref _, _, I4.laid (t' := s3.toks) (o := .lst xs.reverse) (fun b ob q => Heap.get?_push_of_some _ q) (Nat.le_refl _) ?_, rfl, q _ (I4.hok.fresh (Nat.le_refl _))⟩
  refine ⟨by rw [List.length_reverse]; omega, its.reverse, 0, r.reverse, Heap.get?_push_size _ rfl⟩
def rRevD (x : D) (o : Option Int) (O : Ow) (Q : VD) : Prop := o = some (-1) ∧ match deref O x with
  | .lst xs => Q (.lst xs.reverse) O
  | _ => False
def fRev (fa : FE) (fs : FO) : FE := fun ρ O Q => fa ρ O fun x O1 => fs ρ O1 fun o O2 => rRevD x o O2 Q
theorem de_rev (he : DE M X e fa) (hs : DO M X (some st) fs) : DE M X (.Subscript e (.Slice none none (some st) p2) pos) (fRev fa fs) := peMono (pe_sliceRev he hs) fun σ H Q h => by
  obtain ⟨F, O, P, ρ, R, g, en, q, po⟩ := h
  refine ⟨F, O, P, ρ, _, g, en, q, fun x O1 F1 H1 v q1 s1 g1 r1 => ?_⟩
  refine ⟨F1, O1, P, ρ, _, g1, en.mono s1, q1, fun o O2 F2 H2 q2 s2 g2 => ?_⟩
  obtain ⟨e, q2⟩ := q2
  refine ⟨e, ?_⟩
  have r2 := r1.mono s2
  have h := g2.deref r2
  revert h q2
  generalize Kf.deref O2 x = y
  intro q2 h
  cases y <;> first | exact q2.elim | skip
  rename_i ds
  obtain ⟨a, xs, rfl, h1, h2⟩ := h
  exact ⟨a, xs, rfl, SqL.of h1, fun p hp => (po.more (s1.trans s2)).lst g2 q2 h2.reverse hp⟩
theorem rRev_l {xs : List D} {O : Ow} {Q : VD} : rRevD (.lst xs) (some (-1)) O Q = Q (.lst xs.reverse) O := by simp [rRevD, deref]
theorem rRev_r {xs : List D} {O : Ow} {Q : VD} {p : Addr} (h : O p = some (.lst xs)) : rRevD (.ref p) (some (-1)) O Q = Q (.lst xs.reverse) O := by simp [rRevD, deref, h]
end
/-! ### reversed(range(n)) -/
section
variable {X : Cx} {tg a : Expr} {fa : FE} {p p2 pos pos2 : Pos}
def asIR (d : D) (O : Ow) (Q : List D → Ow → Prop) : Prop := match d with
  | .int n => -(2 ^ 62) ≤ n ∧ n < 2 ^ 62 ∧ Q (rangeD 0 n.toNat).reverse O
  | _ => False
def fiRevR (fa : FE) : FI := fun ρ O Q => fa ρ O fun d O1 => asIR d O1 Q
theorem itOk_revR {K : PySem.W.Frag} {F : Hp} (n : Nat) : ItOk M K F (Itc ((n : Int) - 1) (-1) n) (rangeD 0 n).reverse := fun F2 O2 P2 H2 s2 g2 i => by
  refine ⟨fun d e => ?_, fun hi => ?_⟩
  · have hl : i < (rangeD 0 n).length := by
      obtain ⟨h, _⟩ := List.getElem?_eq_some_iff.mp e
      simpa using h
    rw [List.getElem?_reverse hl] at e
    rw [rangeD_length] at hl e
    obtain ⟨_, rfl⟩ := rangeD_get e
    refine ⟨hl, fun x H3 hy => ?_⟩
    obtain ⟨rfl, rfl⟩ := hy
    refine ⟨F2, Same.refl _, g2, ?_⟩
    simp only [Rep]
    congr 1
    omega
  · rw [List.length_reverse, rangeD_length] at hi
    exact hi
theorem di_revR (hg : Gl X "reversed") (hm : X.mg "reversed" = none) (hg2 : Gl X "range") (hm2 : X.mg "range" = none) (ha : DE M X a fa)
    (hs : starEach [.Call (.Name "range" p2) [a] [] pos2] X.env = (false, eval (.Call (.Name "range" p2) [a] [] pos2) X.env) :: starEach [] X.env := by rfl) (na : starEach [a] X.env = (false, eval a X.env) :: starEach [] X.env := by rfl) :
    DI M X tg (.Call (.Name "reversed" p) [.Call (.Name "range" p2) [a] [] pos2] [] pos) (fiRevR fa) := piMono (pi_revR hg hm (prg_1 hg2 hm2 ha na) hs) fun σ H Q h => by
  obtain ⟨F, O, P, ρ, R, g, en, q, po⟩ := h
  refine ⟨F, O, P, ρ, _, g, en, q, fun d O1 F1 H1 v q1 s1 g1 r1 => ?_⟩
  unfold asIR at q1
  split at q1
  · rename_i n
    simp only [Rep] at r1
    refine ⟨n, r1, by decide, by decide, q1.1, q1.2.1, po _ O1 F1 H1 _ q1.2.2 s1 g1 ?_⟩
    have e1 : (n - 0).toNat = n.toNat := by rw [Int.sub_zero]
    have e2 : (0 : Int) + ((n - 0).toNat : Nat) - 1 = ((n.toNat : Nat) : Int) - 1 := by rw [e1]; omega
    rw [e2, e1]
    exact itOk_revR _
  · exact q1.elim
theorem asIR_i {n : Int} {O : Ow} {Q : List D → Ow → Prop} : asIR (.int n) O Q = (-(2 ^ 62) ≤ n ∧ n < 2 ^ 62 ∧ Q (rangeD 0 n.toNat).reverse O) := rfl
end
/-! ### sorted, of texts -/
section
variable {X : Cx}
def rSortD : RAD := fun ds O Q => match ds with
  | [x] => match deref O x with
    | .lst xs => match asStrs xs with
      | some ts => ts.length < 64 ∧ ∀ ys : List Str, ys.Perm ts → sortedS ys = true → Q (.lst (ys.map .str)) O
      | none => False
    | _ => False
  | _ => False
theorem cd_sorted : CallD M X (.builtin "sorted") rSortD := by
  refine callD_of fun F P H O xs ds R Q g r q po => ?_
  unfold rSortD at q
  split at q <;> first | exact q.elim | skip
  rename_i x
  obtain ⟨v, rfl, r1⟩ := r.one'
  have h := g.deref r1
  revert h q
  generalize Kf.deref O x = y
  intro q h
  cases y <;> first | exact q.elim | skip
  rename_i ds
  dsimp only at q
  split at q
  · rename_i ts e
    have e2 := of_asStrs e
    subst e2
    obtain ⟨a, vs, rfl, h1, h2⟩ := h
    have e3 := h2.strs
    subst e3
    exact ⟨_, cr_sortedS, a, ts, rfl, SqL.of h1, q.1, fun ys p hp hs hn => po.lst g (q.2 ys hp hs) .of_strs hn⟩
  · exact q.elim
theorem rSort_l {ts : List Str} {O : Ow} {Q : VD} : rSortD [.lst (ts.map .str)] O Q = (ts.length < 64 ∧ ∀ ys : List Str, ys.Perm ts → sortedS ys = true → Q (.lst (ys.map .str)) O) := by simp only [rSortD, deref, asStrs_map]
theorem rSort_r {ts : List Str} {O : Ow} {Q : VD} {p : Addr} (h : O p = some (.lst (ts.map .str))) : rSortD [.ref p] O Q = (ts.length < 64 ∧ ∀ ys : List Str, ys.Perm ts → sortedS ys = true → Q (.lst (ys.map .str)) O) := by simp only [rSortD, deref, h, asStrs_map]
end
end Kf
namespace Kf
open PySem PySem.Spec L2
open PyProof.Rows hiding St
variable {M : MX}
section
variable {X : Cx} {pos : Pos}
/-- {} that never changes -/
def fEdic : FE := fun _ O Q => Q .edic O
theorem de_edic : DE M X (.Dict [] [] pos) fEdic := peMono pe_dnewK fun σ H Q h => by
  obtain ⟨F, O, P, ρ, R, g, en, q, po⟩ := h
  intro p hp
  have hF := g.freeF hp
  refine po .edic O (upd F p (.dK [])) _ _ q (same_upd hF) (g.new hp) ?_
  simp only [Rep]
  exact ⟨p, rfl, upd_same⟩
end
end Kf
namespace Kf
open PySem PySem.Spec L2
open PyProof.Rows hiding St
/-! ### the readings at their arguments -/
theorem ap_gSeq (g u : GS) {R : DEnds} {ρ : DEnv} {O : Ow} : gSeq g u R ρ O = (g { R with nx := u R } ρ O) := rfl
theorem ap_gIf (c : FT) (g u : GS) {R : DEnds} {ρ : DEnv} {O : Ow} : gIf c g u R ρ O = (c ρ O fun b O1 => if b = true then g R ρ O1 else u R ρ O1) := rfl
theorem ap_gRet (fe : FE) {R : DEnds} {ρ : DEnv} {O : Ow} : gRet fe R ρ O = (fe ρ O R.rt) := rfl
theorem ap_gNext  {R : DEnds} {ρ : DEnv} {O : Ow} : gNext  R ρ O = (R.nx ρ O) := rfl
theorem ap_gSet (fe : FE) (i : Nat) {R : DEnds} {ρ : DEnv} {O : Ow} : gSet fe i R ρ O = (fe ρ O fun d O1 => R.nx (ρ.set i (some d)) O1) := rfl
theorem ap_gAsg (fe : FE) (p : Pat) {R : DEnds} {ρ : DEnv} {O : Ow} : gAsg fe p R ρ O = (fe ρ O fun d O1 => patGet (patD p d ρ) fun ρ' => R.nx ρ' O1) := rfl
theorem ap_gDrop (fe : FE) {R : DEnds} {ρ : DEnv} {O : Ow} : gDrop fe R ρ O = (fe ρ O fun _ O1 => R.nx ρ O1) := rfl
theorem ap_gRetF (fe : FE) {R : DEnds} {ρ : DEnv} {O : Ow} : gRetF fe R ρ O = (fe ρ O fun d O1 => match d with
  | .ref a => match O1 a with
    | some (.lst ds) => R.rt (.lst ds) (delO O1 a)
    | _ => False
  | _ => False) := rfl
theorem ap_gRetN  {R : DEnds} {x1_ : DEnv} {O : Ow} : gRetN  R x1_ O = (R.rt .non O) := rfl
theorem ap_gFor (fi : FI) (p : Pat) (gb : GS) {R : DEnds} {ρ : DEnv} {O : Ow} : gFor fi p gb R ρ O = (fi ρ O fun ds O1 => forD p gb R ds ρ O1) := rfl
theorem ap_gSetIx (fo fi fe : FE) {R : DEnds} {ρ : DEnv} {O : Ow} : gSetIx fo fi fe R ρ O = (fe ρ O fun d O1 => fo ρ O1 fun x O2 => fi ρ O2 fun y O3 => rSetD x y d O3 (R.nx ρ)) := rfl
theorem ap_gBreak  {R : DEnds} {ρ : DEnv} {O : Ow} : gBreak  R ρ O = (R.bk ρ O) := rfl
theorem ap_fRev (fa : FE) (fs : FO) {ρ : DEnv} {O : Ow} {Q : VD} : fRev fa fs ρ O Q = (fa ρ O fun x O1 => fs ρ O1 fun o O2 => rRevD x o O2 Q) := rfl
theorem ap_fiRevR (fa : FE) {ρ : DEnv} {O : Ow} {Q : (List D → Ow → Prop)} : fiRevR fa ρ O Q = (fa ρ O fun d O1 => asIR d O1 Q) := rfl
theorem ap_fCallX (dsp : DSp) (RX : XW) (fr : FA) {ρ : DEnv} {O : Ow} {Q : VD} : fCallX dsp RX fr ρ O Q = (fr ρ O fun ds O1 => dsp ds O1 Q fun cls fs O' => RX cls fs ρ O') := rfl
theorem ap_gRaise (RX : XW) (cls : Value) {x0_ : DEnds} {ρ : DEnv} {O : Ow} : gRaise RX cls x0_ ρ O = (RX cls none ρ O) := rfl
theorem ap_gTry (K : PySem.W.Frag) (c : Value) (gb : XW → GS) (gs : Addr → Value → Option (List (Str × D)) → GS) (RXo : XW) {R : DEnds} {ρ : DEnv} {O : Ow} : gTry K c gb gs RXo R ρ O = (gb (xOnly K c gs RXo R) R ρ O) := rfl
theorem ap_gTryAs (K : PySem.W.Frag) (c : Value) (i : Nat) (gb : XW → GS) (gs : Addr → Value → Option (List (Str × D)) → GS) (RXo : XW) {R : DEnds} {ρ : DEnv} {O : Ow} : gTryAs K c i gb gs RXo R ρ O = (gb (xAs K c i gs RXo R) R ρ O) := rfl
theorem ap_gNever  {x0_ : DEnds} {x1_ : DEnv} {x2_ : Ow} : gNever  x0_ x1_ x2_ = (False) := rfl
theorem ap_fEdic  {x0_ : DEnv} {O : Ow} {Q : VD} : fEdic  x0_ O Q = (Q .edic O) := rfl
theorem ap_fTest (f : FE) {ρ : DEnv} {O : Ow} {Q : (Bool → Ow → Prop)} : fTest f ρ O Q = (f ρ O fun d O1 => ∃ k, d = .bl k ∧ Q k O1) := rfl
theorem ap_fOp (r : R2D) (fa fb : FE) {ρ : DEnv} {O : Ow} {Q : VD} : fOp r fa fb ρ O Q = (fa ρ O fun x O1 => fb ρ O1 fun y O2 => r x y O2 Q) := rfl
theorem ap_fVar (i : Nat) {ρ : DEnv} {O : Ow} {Q : VD} : fVar i ρ O Q = (envGet ρ[i]? O Q) := rfl
theorem ap_fC (d : D) {x0_ : DEnv} {O : Ow} {Q : VD} : fC d x0_ O Q = (Q d O) := rfl
theorem ap_fCB (r : RAD) (fr : FA) {ρ : DEnv} {O : Ow} {Q : VD} : fCB r fr ρ O Q = (fr ρ O fun ds O1 => r ds O1 Q) := rfl
theorem ap_fCons (fa : FE) (fr : FA) {ρ : DEnv} {O : Ow} {Q : (List D → Ow → Prop)} : fCons fa fr ρ O Q = (fa ρ O fun x O1 => fr ρ O1 fun xs O2 => Q (x :: xs) O2) := rfl
theorem ap_fNil  {x0_ : DEnv} {O : Ow} {Q : (List D → Ow → Prop)} : fNil  x0_ O Q = (Q [] O) := rfl
theorem ap_fCall (dsp : DSp) (fr : FA) {ρ : DEnv} {O : Ow} {Q : VD} : fCall dsp fr ρ O Q = (fr ρ O fun ds O1 => dsp ds O1 Q X0) := rfl
theorem ap_fAnd (t u : FT) {ρ : DEnv} {O : Ow} {Q : (Bool → Ow → Prop)} : fAnd t u ρ O Q = (t ρ O fun c O1 => if c = true then u ρ O1 Q else Q false O1) := rfl
theorem ap_fOr (t u : FT) {ρ : DEnv} {O : Ow} {Q : (Bool → Ow → Prop)} : fOr t u ρ O Q = (t ρ O fun c O1 => if c = true then Q true O1 else u ρ O1 Q) := rfl
theorem ap_fNot (t : FT) {ρ : DEnv} {O : Ow} {Q : (Bool → Ow → Prop)} : fNot t ρ O Q = (t ρ O fun c O1 => Q (!c) O1) := rfl
theorem ap_fAndV (fa fb : FE) {ρ : DEnv} {O : Ow} {Q : VD} : fAndV fa fb ρ O Q = (fa ρ O fun x O1 => ∃ c, x = .bl c ∧ if c = true then fb ρ O1 Q else Q (.bl false) O1) := rfl
theorem ap_fOrV (fa fb : FE) {ρ : DEnv} {O : Ow} {Q : VD} : fOrV fa fb ρ O Q = (fa ρ O fun x O1 => ∃ c, x = .bl c ∧ if c = true then Q (.bl true) O1 else fb ρ O1 Q) := rfl
theorem ap_fNotV (fa : FE) {ρ : DEnv} {O : Ow} {Q : VD} : fNotV fa ρ O Q = (fa ρ O fun x O1 => ∃ c, x = .bl c ∧ Q (.bl (!c)) O1) := rfl
theorem ap_fIf (t : FT) (fa fb : FE) {ρ : DEnv} {O : Ow} {Q : VD} : fIf t fa fb ρ O Q = (t ρ O fun c O1 => if c = true then fa ρ O1 Q else fb ρ O1 Q) := rfl
theorem ap_fTup (fr : FA) {ρ : DEnv} {O : Ow} {Q : VD} : fTup fr ρ O Q = (fr ρ O fun xs O1 => xs.length ≤ sizeLine ∧ Q (.tup xs) O1) := rfl
theorem ap_fLst (fr : FA) {ρ : DEnv} {O : Ow} {Q : VD} : fLst fr ρ O Q = (fr ρ O fun xs O1 => xs.length ≤ sizeLine ∧ Q (.lst xs) O1) := rfl
theorem ap_fLstO (fr : FA) {ρ : DEnv} {O : Ow} {Q : VD} : fLstO fr ρ O Q = (fr ρ O fun xs O1 => xs.length ≤ sizeLine ∧ ∀ p, O1 p = none → Q (.ref p) (updO O1 p (.lst xs))) := rfl
theorem ap_fChain (r r' : R2D) (fa fb fc : FE) {ρ : DEnv} {O : Ow} {Q : VD} : fChain r r' fa fb fc ρ O Q = (fa ρ O fun x O1 => fb ρ O1 fun y O2 => r x y O2 fun z O3 => ∃ k, z = .bl k ∧ (if k = true then fc ρ O3 fun w O4 => r' y w O4 Q else Q (.bl false) O3)) := rfl
theorem ap_fUn (r : R1D) (f : FE) {ρ : DEnv} {O : Ow} {Q : VD} : fUn r f ρ O Q = (f ρ O fun x O1 => r x O1 Q) := rfl
theorem ap_fBM (T : String) (r : RMD) (fo : FE) (fr : FA) {ρ : DEnv} {O : Ow} {Q : VD} : fBM T r fo fr ρ O Q = (fo ρ O fun x O1 => tyOk T O1 x = true ∧ fr ρ O1 fun ds O2 => r x ds O2 Q) := rfl
theorem ap_fBM0 (T : String) (r : RMD) (fo : FE) {ρ : DEnv} {O : Ow} {Q : VD} : fBM0 T r fo ρ O Q = (fo ρ O fun x O1 => tyOk T O1 x = true ∧ r x [] O1 Q) := rfl
theorem ap_fPool (fr : FA) {ρ : DEnv} {O : Ow} {Q : VD} : fPool fr ρ O Q = (fr ρ O fun xs O1 => rPool xs O1 Q) := rfl
theorem ap_fSl (r : R3D) (fe : FE) (fl fh : FO) {ρ : DEnv} {O : Ow} {Q : VD} : fSl r fe fl fh ρ O Q = (fe ρ O fun x O1 => fl ρ O1 fun l O2 => fh ρ O2 fun u O3 => r x l u O3 Q) := rfl
theorem ap_fPart (f : FE) {ρ : DEnv} {O : Ow} {Q : (Option Int → Ow → Prop)} : fPart f ρ O Q = (f ρ O fun d O1 => asI d O1 Q) := rfl
theorem ap_fNoPart  {x0_ : DEnv} {O : Ow} {Q : (Option Int → Ow → Prop)} : fNoPart  x0_ O Q = (Q none O) := rfl
theorem ap_fiRng1 (fr : FA) {ρ : DEnv} {O : Ow} {Q : (List D → Ow → Prop)} : fiRng1 fr ρ O Q = (fr ρ O fun ds O1 => asR1 ds O1 fun i n O2 => Q (rangeD i n) O2) := rfl
theorem ap_fiRng2 (fr : FA) {ρ : DEnv} {O : Ow} {Q : (List D → Ow → Prop)} : fiRng2 fr ρ O Q = (fr ρ O fun ds O1 => asR2 ds O1 fun i n O2 => Q (rangeD i n) O2) := rfl
theorem ap_fiList (fl : FE) {ρ : DEnv} {O : Ow} {Q : (List D → Ow → Prop)} : fiList fl ρ O Q = (fl ρ O fun d O1 => asL d O1 Q) := rfl
theorem ap_fiTup (fl : FE) {ρ : DEnv} {O : Ow} {Q : (List D → Ow → Prop)} : fiTup fl ρ O Q = (fl ρ O fun d O1 => asT d O1 Q) := rfl
theorem ap_fiStr (fl : FE) {ρ : DEnv} {O : Ow} {Q : (List D → Ow → Prop)} : fiStr fl ρ O Q = (fl ρ O fun d O1 => asSg d O1 Q) := rfl
theorem ap_fiEnum (fr : FA) {ρ : DEnv} {O : Ow} {Q : (List D → Ow → Prop)} : fiEnum fr ρ O Q = (fr ρ O fun ds O1 => asL1 ds O1 fun ds O2 => Q (enumD ds) O2) := rfl
theorem ap_fiZip (fr : FA) {ρ : DEnv} {O : Ow} {Q : (List D → Ow → Prop)} : fiZip fr ρ O Q = (fr ρ O fun ds O1 => asL2 ds O1 fun ds es O2 => Q (zipD ds es) O2) := rfl
theorem ap_fiRev (fr : FA) {ρ : DEnv} {O : Ow} {Q : (List D → Ow → Prop)} : fiRev fr ρ O Q = (fr ρ O fun ds O1 => asL1 ds O1 fun ds O2 => Q ds.reverse O2) := rfl
theorem ap_fLc (fi : FI) (p : Pat) (ft : FT) (fe : FE) (vs : List Nat) {ρ : DEnv} {O : Ow} {Q : VD} : fLc fi p ft fe vs ρ O Q = (fi ρ O fun ds O1 => lcD p ft fe (wipeD ρ vs) ds [] O1 fun acc O2 => Q (.lst acc) O2) := rfl
theorem ap_fLcO (fi : FI) (p : Pat) (ft : FT) (fe : FE) (vs : List Nat) {ρ : DEnv} {O : Ow} {Q : VD} : fLcO fi p ft fe vs ρ O Q = (fi ρ O fun ds O1 => lcD p ft fe (wipeD ρ vs) ds [] O1 fun acc O2 => ∀ q, O2 q = none → Q (.ref q) (updO O2 q (.lst acc))) := rfl
theorem ap_fYes  {x0_ : DEnv} {O : Ow} {Q : (Bool → Ow → Prop)} : fYes  x0_ O Q = (Q true O) := rfl
theorem ap_gAug (i : Nat) (fe : FE) (r : R2D) {R : DEnds} {ρ : DEnv} {O : Ow} : gAug i fe r R ρ O = (match ρ[i]? with
  | some (some x) => fe ρ O fun y O1 => r x y O1 fun z O2 => R.nx (ρ.set i (some z)) O2
  | _ => False) := rfl
end Kf
/-! Dl15: owned dicts whose keys are whole numbers and texts. -/
namespace Kf
open PySem PySem.Spec L2
open PyProof.Rows hiding St
variable {M : MX}
/-! ### tables of data -/
def keyOf : D → Option Key
  | .int i => some (.inl i)
  | .str s => some (.inr s)
  | _ => none
def keyD : Key → D
  | .inl i => .int i
  | .inr s => .str s
theorem keyOf_rep {K : PySem.W.Frag} {F : Hp} {d : D} {v : V} {k : Key} (h : keyOf d = some k) (r : Rep K F d v) : v = kV k := by
  cases d <;> simp only [keyOf] at h <;> first | cases h; done | skip
  all_goals
    cases h
    simp only [Rep] at r
    subst r
    rfl
theorem keyD_rep {K : PySem.W.Frag} {F : Hp} (k : Key) : Rep K F (keyD k) (kV k) := by
  cases k <;> simp only [keyD, Rep, kV]
def valD (kvs : List (Key × D)) (k : Key) : Option D := (kvs.find? fun kv => decide (kv.1 = k)).map (·.2)
def putD (kvs : List (Key × D)) (k : Key) (d : D) : List (Key × D) :=
  if (kvs.any fun kv => decide (kv.1 = k)) = true then kvs.map (fun kv => if kv.1 = k then (kv.1, d) else kv) else kvs ++ [(k, d)]
section
variable {K : PySem.W.Frag} {F H P : Hp} {O : Ow} {kvs : List (Key × D)} {vs : List (Key × V)} {k : Key} {d : D} {v : V} {a : Addr}
theorem KvOk.val (h : KvOk K F kvs vs) : (∀ d, valD kvs k = some d → ∃ v, valV vs k = some v ∧ Rep K F d v) ∧ (valD kvs k = none → valV vs k = none) := by
  induction h with
  | nil => exact ⟨fun d e => by simp [valD] at e, fun _ => rfl⟩
  | @cons p q _ _ r t ih =>
    obtain ⟨r1, r2⟩ := r
    by_cases e : p.1 = k
    · have e2 : q.1 = k := r1 ▸ e
      refine ⟨fun d h => ?_, fun h => ?_⟩
      · simp [valD, List.find?_cons, e] at h
        subst h
        exact ⟨q.2, valV_pos e2, r2⟩
      · simp [valD, List.find?_cons, e] at h
    · have e2 : ¬ q.1 = k := fun z => e (r1.trans z)
      rw [valV_neg e2]
      have e3 : ∀ l : List (Key × D), valD (p :: l) k = valD l k := fun l => by simp [valD, List.find?_cons, e]
      rw [e3]
      exact ih
theorem KvOk.any (h : KvOk K F kvs vs) : (kvs.any fun kv => decide (kv.1 = k)) = (vs.any fun kv => decide (kv.1 = k)) := by
  induction h with
  | nil => rfl
  | cons r _ ih => rw [List.any_cons, List.any_cons, ih, r.1]
theorem KvOk.put (h : KvOk K F kvs vs) (r : Rep K F d v) : KvOk K F (putD kvs k d) (putK vs k v) := by
  unfold putD putK
  rw [h.any (k := k)]
  split
  · rename_i hh; clear hh
    induction h with
    | nil => exact .nil
    | @cons p q _ _ z t ih =>
      rw [List.map_cons, List.map_cons]
      refine .cons ?_ ih
      by_cases e : p.1 = k
      · rw [if_pos e, if_pos (z.1 ▸ e)]; exact ⟨z.1, r⟩
      · rw [if_neg e, if_neg (fun w => e (z.1.trans w))]; exact z
  · exact Paired.snoc h ⟨rfl, r⟩
theorem KvOk.keys (h : KvOk K F kvs vs) : vs.map (·.1) = kvs.map (·.1) := by
  induction h with
  | nil => rfl
  | cons r _ ih => rw [List.map_cons, List.map_cons, ih, r.1]
/-- what a dict holds, locked or not -/
def dicAt (O : Ow) (a : Addr) : Option (List (Key × D)) := match O a with
  | some (.dic kvs) => some kvs
  | some (.dicL kvs _) => some kvs
  | _ => none
theorem Gd.dic (g : Gd M K F O P H) (h : dicAt O a = some kvs) : ∃ vs, Rd H a (.dK vs) ∧ KvOk K F kvs vs := by
  unfold dicAt at h
  split at h <;> first | cases h; done | skip
  · rename_i e
    cases h
    obtain ⟨_, _, vs, h1, h2⟩ := g.ow a _ e
    exact ⟨vs, .inl h1, h2⟩
  · rename_i e
    cases h
    obtain ⟨_, _, h1, od, vs, rfl, h2⟩ := g.ow a _ e
    exact ⟨vs, .inr ⟨od, h1⟩, h2⟩
/-- what stands at a key -/
def rKey (x y : D) (O : Ow) (N : Option D → Prop) : Prop := match x, keyOf y with
  | .ref a, some k => match dicAt O a with
    | some kvs => N (valD kvs k)
    | none => False
  | _, _ => False
theorem Gd.key (g : Gd M K F O P H) {x y : D} {w : V} {N : Option D → Prop} (rx : Rep K F x v) (ry : Rep K F y w) (q : rKey x y O N) :
    ∃ a o oV, v = .ref a ∧ DGet H a w oV ∧ IsD H a ∧ N o ∧ (∀ d, o = some d → ∃ z, oV = some z ∧ Rep K F d z) ∧ (o = none → oV = none) := by
  unfold rKey at q
  split at q <;> first | exact q.elim | skip
  rename_i a k e
  split at q <;> first | exact q.elim | skip
  rename_i kvs e2
  obtain ⟨vs, h1, h2⟩ := g.dic e2
  simp only [Rep] at rx
  have ew := keyOf_rep e ry
  subst ew
  obtain ⟨v1, v2⟩ := h2.val (k := k)
  exact ⟨a, _, _, rx, .inl ⟨vs, k, h1, rfl, rfl⟩, .inl ⟨vs, h1⟩, q, v1, v2⟩
end
section
variable {X : Cx} {o i e f value : Expr} {pos pos' apos cpos : Pos} {fo fi fe fx : FE}
/-- {} that changes -/
def fDicO : FE := fun _ O Q => ∀ p, O p = none → Q (.ref p) (updO O p (.dic []))
theorem de_dicO : DE M X (.Dict [] [] pos) fDicO := peMono pe_dnewK fun σ H Q h => by
  obtain ⟨F, O, P, ρ, R, g, en, q, po⟩ := h
  intro p hp
  exact po (.ref p) _ F _ _ (q p (g.freeO hp)) (Same.refl _) (g.newO hp ⟨[], upd_same, .nil⟩) (by simp only [Rep])
/-- d[k] -/
def rDGet (x y : D) (O : Ow) (Q : VD) : Prop := rKey x y O fun o => match o with
  | some d => Q d O
  | none => False
def fDGet (fo fi : FE) : FE := fun ρ O Q => fo ρ O fun x O1 => fi ρ O1 fun y O2 => rDGet x y O2 Q
theorem de_dget (hu : X.A.units + 200 < cLine) (ho : DE M X o fo) (hi : DE M X i fi) (hs : NoSl i := by intro _ _; rfl) : DE M X (.Subscript o i pos) (fDGet fo fi) := peMono (pe_dget (by omega) ho hi hs) fun σ H Q h => by
  obtain ⟨F, O, P, ρ, R, g, en, q, po⟩ := h
  refine ⟨F, O, P, ρ, _, g, en, q, fun x O1 F1 H1 v q1 s1 g1 r1 => ?_⟩
  refine ⟨F1, O1, P, ρ, _, g1, en.mono s1, q1, fun y O2 F2 H2 w q2 s2 g2 r2 => ?_⟩
  obtain ⟨a, od, oV, rfl, h1, _, n, h2, h3⟩ := g2.key (r1.mono s2) r2 q2
  cases od with
  | none => exact n.elim
  | some d =>
    obtain ⟨z, rfl, rz⟩ := h2 d rfl
    exact ⟨a, z, rfl, h1, (po.more (s1.trans s2)).at g2 n rz⟩
/-- d.get(k), d.get(k, x) -/
def isDc (O : Ow) (x : D) : Bool := match x with
  | .ref a => (dicAt O a).isSome
  | _ => false
theorem isDc_of {K : PySem.W.Frag} {F P H : Hp} {O : Ow} {x : D} {v : V} (g : Gd M K F O P H) (r : Rep K F x v) (h : isDc O x = true) : ∃ a, v = .ref a ∧ IsD H a := by
  cases x <;> simp only [isDc] at h <;> first | cases h; done | skip
  rename_i a
  simp only [Rep] at r
  obtain ⟨kvs, e⟩ := Option.isSome_iff_exists.mp h
  obtain ⟨vs, h1, _⟩ := g.dic e
  exact ⟨a, r, .inl ⟨vs, h1⟩⟩
def fDGet1 (fo fi : FE) : FE := fun ρ O Q => fo ρ O fun x O1 => isDc O1 x = true ∧ fi ρ O1 fun y O2 => rKey x y O2 fun o => Q (o.getD .non) O2
theorem de_dget1 (hu : X.A.units + 200 < cLine) (ho : DE M X o fo) (he : DE M X e fe) (m : M1 X o "get" apos e cpos := by exact ⟨by rfl, by rfl, by rfl, by rfl⟩) : DE M X (.Call (.Attribute o "get" apos) [e] [] cpos) (fDGet1 fo fe) := peMono (pe_dget1 (by omega) ho he m) fun σ H Q h => by
  obtain ⟨F, O, P, ρ, R, g, en, q, po⟩ := h
  refine ⟨F, O, P, ρ, _, g, en, q, fun x O1 F1 H1 v q1 s1 g1 r1 => ?_⟩
  obtain ⟨a, rfl, hd⟩ := isDc_of g1 r1 q1.1
  refine ⟨a, rfl, hd, F1, O1, P, ρ, _, g1, en.mono s1, q1.2, fun y O2 F2 H2 w q2 s2 g2 r2 => ?_⟩
  obtain ⟨a', od, oV, e, h1, _, n, h2, h3⟩ := g2.key (r1.mono s2) r2 q2
  cases e
  refine ⟨oV, h1, ?_⟩
  cases od with
  | none => rw [h3 rfl]; exact (po.more (s1.trans s2)).at g2 n (by simp only [Option.getD_none, Rep])
  | some d =>
    obtain ⟨z, rfl, rz⟩ := h2 d rfl
    exact (po.more (s1.trans s2)).at g2 n rz
def fDGet2 (fo fi fx : FE) : FE := fun ρ O Q => fo ρ O fun x O1 => isDc O1 x = true ∧ fi ρ O1 fun y O2 => fx ρ O2 fun z O3 => rKey x y O3 fun o => Q (o.getD z) O3
theorem de_dget2 (hu : X.A.units + 200 < cLine) (ho : DE M X o fo) (he : DE M X e fe) (hf : DE M X f fx) (m : M2 X o "get" apos e f cpos := by exact ⟨by rfl, by rfl, by rfl, by rfl⟩) : DE M X (.Call (.Attribute o "get" apos) [e, f] [] cpos) (fDGet2 fo fe fx) := peMono (pe_dget2 (by omega) ho he hf m) fun σ H Q h => by
  obtain ⟨F, O, P, ρ, R, g, en, q, po⟩ := h
  refine ⟨F, O, P, ρ, _, g, en, q, fun x O1 F1 H1 v q1 s1 g1 r1 => ?_⟩
  obtain ⟨a, rfl, hd⟩ := isDc_of g1 r1 q1.1
  refine ⟨a, rfl, hd, F1, O1, P, ρ, _, g1, en.mono s1, q1.2, fun y O2 F2 H2 w q2 s2 g2 r2 => ?_⟩
  refine ⟨F2, O2, P, ρ, _, g2, en.mono (s1.trans s2), q2, fun z O3 F3 H3 u q3 s3 g3 r3 => ?_⟩
  obtain ⟨a', od, oV, e, h1, _, n, h2, h3⟩ := g3.key (r1.mono (s2.trans s3)) (r2.mono s3) q3
  cases e
  refine ⟨oV, h1, ?_⟩
  cases od with
  | none => rw [h3 rfl]; exact (po.more (s1.trans (s2.trans s3))).at g3 n r3
  | some d =>
    obtain ⟨z, rfl, rz⟩ := h2 d rfl
    exact (po.more (s1.trans (s2.trans s3))).at g3 n rz
/-- k in d -/
def rDIn (neg : Bool) : R2D := fun y x O Q => rKey x y O fun o => Q (.bl (o.isSome != neg)) O
theorem od_din (hu : X.A.units + 200 < cLine) : OpD M X (compareOp .In) (rDIn false) := by
  intro pins s σ H y x u v Q I ry rx h
  obtain ⟨F, O, P, dy, dx, R, g, r1, r2, q, po⟩ := h
  obtain ⟨a, od, oV, rfl, h1, _, n, h2, h3⟩ := g.key r2 r1 q
  obtain rfl : v = Value.ref a := rx
  refine d_in (by omega) I h1 ry fun s' I' => ⟨.bl oV.isSome, H, I', rfl, ?_⟩
  have e : oV.isSome = od.isSome := by
    cases od with
    | none => simp [h3 rfl]
    | some d => obtain ⟨z, rfl, _⟩ := h2 d rfl; rfl
  exact po.at g n (by simp [Rep, e])
theorem od_dnotin (hu : X.A.units + 200 < cLine) : OpD M X (compareOp .NotIn) (rDIn true) := by
  intro pins s σ H y x u v Q I ry rx h
  obtain ⟨F, O, P, dy, dx, R, g, r1, r2, q, po⟩ := h
  obtain ⟨a, od, oV, rfl, h1, _, n, h2, h3⟩ := g.key r2 r1 q
  obtain rfl : v = Value.ref a := rx
  refine d_notIn (by omega) I h1 ry fun s' I' => ⟨.bl (!oV.isSome), H, I', rfl, ?_⟩
  have e : oV.isSome = od.isSome := by
    cases od with
    | none => simp [h3 rfl]
    | some d => obtain ⟨z, rfl, _⟩ := h2 d rfl; rfl
  exact po.at g n (by simp [Rep, e])
/-- d[k] = v -/
def rDPut (x y d : D) (O : Ow) (N : Ow → Prop) : Prop := match x, keyOf y with
  | .ref a, some k => match O a with
    | some (.dic kvs) => kvs.length < sizeLine ∧ N (updO O a (.dic (putD kvs k d)))
    | _ => False
  | _, _ => False
def gDPut (fo fi fe : FE) : GS := fun R ρ O => fe ρ O fun d O1 => fo ρ O1 fun x O2 => fi ρ O2 fun y O3 => rDPut x y d O3 (R.nx ρ)
theorem ds_dput (hu : X.A.units + 200 < cLine) (ho : DE M X o fo) (hi : DE M X i fi) (he : DE M X value fe) (hs : swapsWith value (some (.Subscript o i pos')) pos.line X.env = pure false := by rfl) :
    DS M X (.Assign [.Subscript o i pos'] value pos) (gDPut fo fi fe) := psMono (ps_dput (by omega) ho hi he hs) fun D σ H h => by
  obtain ⟨F, O, P, ρ, R, g, en, q, po⟩ := h
  refine ⟨F, O, P, ρ, _, g, en, q, fun d O1 F1 H1 v q1 s1 g1 r1 => ?_⟩
  refine ⟨F1, O1, P, ρ, _, g1, en.mono s1, q1, fun x O2 F2 H2 w q2 s2 g2 r2 => ?_⟩
  refine ⟨F2, O2, P, ρ, _, g2, en.mono (s1.trans s2), q2, fun y O3 F3 H3 z q3 s3 g3 r3 => ?_⟩
  unfold rDPut at q3
  split at q3 <;> first | exact q3.elim | skip
  rename_i a k e
  split at q3 <;> first | exact q3.elim | skip
  rename_i kvs e2
  obtain ⟨_, _, vs, h1, h2⟩ := g3.ow a _ e2
  simp only [Rep] at r2
  subst r2
  have ez := keyOf_rep e r3
  subst ez
  have s4 := s1.trans (s2.trans s3)
  refine ⟨a, _, rfl, .k h1 (by rw [← h2.length]; exact q3.1), ?_⟩
  exact po.nx ρ _ F3 _ σ q3.2 s4 (g3.setO e2 ⟨_, upd_same, h2.put (r1.mono (s2.trans s3))⟩) (en.mono s4)
end
/-! ### the keys of a dict -/
section
variable {X : Cx}
def asStrK : List Key → Option (List Str)
  | [] => some []
  | .inr s :: r => (asStrK r).map (s :: ·)
  | .inl _ :: _ => none
theorem asStrK_of : ∀ {l : List Key} {ts : List Str}, asStrK l = some ts → l = ts.map Sum.inr
  | [], _, h => by cases h; rfl
  | .inr s :: r, ts, h => by
    simp only [asStrK] at h
    obtain ⟨u, e, rfl⟩ := Option.map_eq_some_iff.mp h
    rw [asStrK_of e, List.map_cons]
  | .inl _ :: _, _, h => by simp [asStrK] at h
theorem asStrK_map (ts : List Str) : asStrK (ts.map Sum.inr) = some ts := by
  induction ts with
  | nil => rfl
  | cons s r ih => simp [asStrK, ih]
/-- sorted(d), all keys texts -/
def rSortK : RAD := fun ds O Q => match ds with
  | [.ref a] => match dicAt O a with
    | some kvs => match asStrK (kvs.map (·.1)) with
      | some ts => ts.length < 64 ∧ ∀ ys : List Str, ys.Perm ts → sortedS ys = true → Q (.lst (ys.map .str)) O
      | none => False
    | none => False
  | _ => False
theorem cd_sortedK (hc : X.calm = true) : CallD M X (.builtin "sorted") rSortK := by
  refine callD_of fun F P H O xs ds R Q g r q po => ?_
  unfold rSortK at q
  split at q <;> first | exact q.elim | skip
  rename_i a
  split at q <;> first | exact q.elim | skip
  rename_i kvs e
  split at q <;> first | exact q.elim | skip
  rename_i ts e2
  obtain ⟨v, rfl, r1⟩ := r.one'
  simp only [Rep] at r1
  subst r1
  obtain ⟨vs, h1, h2⟩ := g.dic e
  exact ⟨_, call_sortedD hc, a, vs, ts, rfl, h1, by rw [h2.keys]; exact asStrK_of e2, q.1, fun ys p hp hs hn => po.lst g (q.2 ys hp hs) .of_strs hn⟩
end
/-! ### isinstance(x, (T1, T2, ..)) -/
section
variable {X : Cx} {a : Expr} {es : List Expr} {fa : FE} {fr : FA} {p pos tpos : Pos}
def asTys : List D → Option (List String)
  | [] => some []
  | .ty n :: r => (asTys r).map (n :: ·)
  | _ :: _ => none
theorem asTys_rep {K : PySem.W.Frag} {F : Hp} : ∀ {ds : List D} {ns : List String} {vs : List V}, asTys ds = some ns → RepAll K F ds vs → Paired ClsV vs (ns.map Value.type)
  | [], _, _, h, r => by
    cases h
    simp only [RepAll] at r
    subst r
    exact .nil
  | .ty n :: ds, ns, vs, h, r => by
    simp only [asTys] at h
    obtain ⟨u, e, rfl⟩ := Option.map_eq_some_iff.mp h
    simp only [RepAll, Rep] at r
    obtain ⟨v, r', rfl, rfl, h2⟩ := r
    exact .cons (.ty n) (asTys_rep e h2)
  | .non :: _, _, _, h, _ => by simp [asTys] at h
  | .bl _ :: _, _, _, h, _ => by simp [asTys] at h
  | .int _ :: _, _, _, h, _ => by simp [asTys] at h
  | .str _ :: _, _, _, h, _ => by simp [asTys] at h
  | .tup _ :: _, _, _, h, _ => by simp [asTys] at h
  | .lst _ :: _, _, _, h, _ => by simp [asTys] at h
  | .ref _ :: _, _, _, h, _ => by simp [asTys] at h
  | .scr _ :: _, _, _, h, _ => by simp [asTys] at h
  | .edic :: _, _, _, h, _ => by simp [asTys] at h
def rIsiTs (x : D) (ds : List D) (O : Ow) (Q : VD) : Prop := match asTys ds with
  | some ns => ns.length ≤ sizeLine ∧ (ns.all fun n => insCl.contains n) = true ∧ insTy.contains (tyNm O x) = true ∧ Q (.bl (ns.any (insOf (tyNm O x)))) O
  | none => False
theorem kitAny_of {K : PySem.W.Frag} {t : String} (ht : insTy.contains t = true) : ∀ {ns : List String}, (ns.all fun n => insCl.contains n) = true → PySem.W.kitAny K (.type t) (ns.map Value.type) = some (ns.any (insOf t))
  | [], _ => rfl
  | n :: ns, h => by
    rw [List.all_cons, Bool.and_eq_true] at h
    rw [List.map_cons, List.any_cons]
    refine kitAny_cons (kit_ty (ins_kit' (by simpa using ht) (by simpa using h.1))) (fun e => ?_) (fun e => ?_)
    · rw [e, Bool.false_or]; exact kitAny_of ht h.2
    · rw [e, Bool.true_or]
def fIsiT (fa : FE) (fr : FA) : FE := fun ρ O Q => fa ρ O fun x O1 => fr ρ O1 fun ds O2 => rIsiTs x ds O2 Q
theorem de_isiT {x1} (hg : Gl X "isinstance") (hm : X.mg "isinstance" = none) (ha : DE M X a fa) (hr : DA M X es fr)
    (he : starEach [a, .Tuple es x1 tpos] X.env = (false, eval a X.env) :: starEach [.Tuple es x1 tpos] X.env := by rfl)
    (he2 : starEach [.Tuple es x1 tpos] X.env = (false, eval (.Tuple es x1 tpos) X.env) :: starEach [] X.env := by rfl)
    (hpl : (backTo pos (starEach [.Tuple es x1 tpos] X.env)).any (·.1) = false := by rfl) : DE M X (.Call (.Name "isinstance" p) [a, .Tuple es x1 tpos] [] pos) (fIsiT fa fr) :=
  peMono (pe_callB call_isiT hg hm bb_isinstance (pa_cons ha (pa_cons (pe_tup hr) pa_nil he2) he) (by decide) (by decide) he hpl) fun σ H Q h => by
    obtain ⟨F, O, P, ρ, R, g, en, q, po⟩ := h
    refine ⟨F, O, P, ρ, _, g, en, q, fun x O1 F1 H1 v q1 s1 g1 r1 => ?_⟩
    refine ⟨F1, O1, P, ρ, _, g1, en.mono s1, q1, fun ds O2 F2 H2 vs q2 s2 g2 r2 => ?_⟩
    unfold rIsiTs at q2
    split at q2 <;> first | exact q2.elim | skip
    rename_i ns e
    have pr := asTys_rep e r2
    obtain ⟨q3, q4, q5, q6⟩ := q2
    have hl : vs.length = ns.length := by rw [pr.length, List.length_map]
    refine ⟨by rw [hl]; exact q3, fun tp hp => ?_⟩
    have g3 := g2.skip (o := .tup vs) hp
    exact ⟨v, tp, vs, _, _, _, rfl, upd_same, pr, tyX_of g3 (r1.mono s2) q5, kitAny_of q5 q4, (po.more (s1.trans s2)).at g3 q6 (by simp only [Rep])⟩
end
/-! ### a walk along an owned list that stays -/
section
variable {X : Cx} {tg l : Expr} {fl : FE} {pos : Pos}
def forR (a : Addr) (all : List D) (p : Pat) (gb : GS) (R : DEnds) : List D → DEnv → Ow → Prop
  | [], ρ, O => O a = some (.lst all) ∧ R.nx ρ O
  | d :: ds, ρ, O => O a = some (.lst all) ∧ patGet (patD p d ρ) fun ρ1 => gb { R with nx := forR a all p gb R ds, ct := forR a all p gb R ds, bk := R.nx } ρ1 O
def asLR (d : D) (O : Ow) (Q : Addr → List D → Ow → Prop) : Prop := match d with
  | .ref a => match O a with
    | some (.lst ds) => Q a ds O
    | _ => False
  | _ => False
def gForR (fl : FE) (p : Pat) (gb : GS) : GS := fun R ρ O => fl ρ O fun x O1 => asLR x O1 fun a ds O2 => forR a ds p gb R ds ρ O2
theorem ds_forR {body : List Stmt} {p : Pat} {gb : GS} (hp : PassesOwn (model X.prog X.w) X.A X.env X.xe) (hc : X.calm = true) (hl : DE M X l fl) (hg : DP X tg p) (hb : DSs M X body gb)
    (hs : ∀ x, foldedSetIterable l X.env x = pure x := by intro _; rfl) : DS M X (.For tg l body [] pos) (gForR fl p gb) := psMono (ps_for hp hc (pi_list hl) hg hb hs) fun D σ H h => by
  obtain ⟨F, O, P, ρ, R, g, en, q, po⟩ := h
  refine ⟨F, O, P, ρ, _, g, en, q, fun x O1 F1 H1 v q1 s1 g1 r1 => ?_⟩
  unfold asLR at q1
  split at q1 <;> first | exact q1.elim | skip
  rename_i a
  split at q1 <;> first | exact q1.elim | skip
  rename_i ds e
  simp only [Rep] at r1
  subst r1
  obtain ⟨_, _, vs, h1, h2⟩ := g1.ow a _ e
  refine ⟨a, rfl, ⟨vs, SqL.of h1⟩, ?_⟩
  refine ⟨fun i m σ H => ∃ F2 O2 ρ2, i + m = ds.length ∧ Same F1 F2 ∧ Gd M X.K F2 O2 P H ∧ EnvOk X.K F2 ρ2 σ ∧ forR a ds p gb R (ds.drop i) ρ2 O2,
    ⟨ds.length, F1, O1, ρ, by omega, Same.refl _, g1, en.mono s1, by rw [List.drop_zero]; exact q1⟩, fun i m σ2 H2 hW => ?_⟩
  obtain ⟨F2, O2, ρ2, hm, s2, g2, en2, q2⟩ := hW
  by_cases hi : i < ds.length
  · rw [List.drop_eq_getElem_cons hi] at q2
    unfold forR at q2
    obtain ⟨e2, q2⟩ := q2
    obtain ⟨_, _, ws, h3, h4⟩ := g2.ow a _ e2
    have sq : SqL X.K H2 a ws := SqL.of h3
    obtain ⟨w, e3, r3⟩ := h4.get (List.getElem?_eq_getElem hi)
    refine .inr ⟨⟨ws, w, sq, e3⟩, fun σ' H' => ∃ F3 O3 ρ3, Same F1 F3 ∧ Gd M X.K F3 O3 P H' ∧ EnvOk X.K F3 ρ3 σ' ∧ forR a ds p gb R (ds.drop (i + 1)) ρ3 O3, fun σ' H' hN => ?_, fun x H' hyy => ?_⟩
    · obtain ⟨F3, O3, ρ3, s3, g3, en3, q3⟩ := hN
      exact ⟨m - 1, by omega, F3, O3, ρ3, by omega, s3, g3, en3, q3⟩
    · obtain ⟨rfl, hx⟩ := hyy
      have hxx := hx ws sq
      rw [e3] at hxx
      cases hxx
      cases e1 : patD p ds[i] ρ2 with
      | none => rw [e1] at q2; exact q2.elim
      | some ρ3 =>
        rw [e1] at q2
        refine pat_ok g2 p ds[i] _ ρ2 ρ3 σ2 _ e1 r3 en2 fun σ4 en4 _ => ?_
        refine ⟨F2, O2, P, ρ3, _, g2, en4, q2, ⟨fun ρ5 O5 F5 H5 σ5 q5 s5 g5 en5 => ?_, ?_, ?_, fun ρ5 O5 F5 H5 σ5 q5 s5 g5 en5 => ?_⟩⟩
        · exact ⟨F5, O5, ρ5, s2.trans s5, g5, en5, q5⟩
        · exact po.rt.more (s1.trans s2)
        · exact po.nx.more (s1.trans s2)
        · exact ⟨F5, O5, ρ5, s2.trans s5, g5, en5, q5⟩
  · rw [List.drop_eq_nil_of_le (by omega)] at q2
    unfold forR at q2
    obtain ⟨e2, q2⟩ := q2
    obtain ⟨_, _, ws, h3, h4⟩ := g2.ow a _ e2
    exact .inl ⟨⟨ws, SqL.of h3, by rw [← h4.length]; omega⟩, po.nx ρ2 O2 F2 H2 σ2 q2 (s1.trans s2) g2 en2⟩
end
/-! ### a list times a number -/
section
variable {X : Cx} {K : PySem.W.Frag} {F : Hp}
theorem RepAll.reps {ds : List D} {vs : List V} (h : RepAll K F ds vs) : ∀ n : Nat, RepAll K F (List.replicate n ds).flatten (List.replicate n vs).flatten
  | 0 => .nil
  | n + 1 => by
    rw [List.replicate_succ, List.replicate_succ, List.flatten_cons, List.flatten_cons]
    exact h.append (RepAll.reps h n)
def rRepD : R2D := fun x y O Q => match x, y with
  | .lst ds, .int k => (-(2 ^ 63) ≤ k ∧ k < 2 ^ 63 ∧ ds.length * k.toNat ≤ sizeLine) ∧ Q (.lst (List.replicate k.toNat ds).flatten) O
  | _, _ => False
theorem od_rep : OpD M X (binaryOp .Mult) rRepD := by
  refine opD_of fun pins s σ F P H O x y dx dy v u R Q I rx ry gd r1 r2 q po => ?_
  unfold rRepD at q
  split at q
  · rename_i ds k
    simp only [Rep] at r1 r2
    obtain ⟨a, xs, rfl, h1, h2⟩ := r1
    subst r2
    obtain ⟨⟨q1, q2, q3⟩, q4⟩ := q
    exact ⟨_, op_rep, a, k, xs, rfl, rfl, gd.fz _ _ h1, q1, q2, by rw [← h2.length]; exact q3, fun p hp => po.lst gd q4 (h2.reps _) hp⟩
  · exact q.elim
end
/-! ### a call without arguments -/
section
variable {X : Cx} {k : Nat} {f : Addr} {fd : FuncData} {ps : List Str} {dsp : DSp} {x : Str} {st : Stmt} {p pos : Pos}
theorem de_callN0 (N : Fn X.K X.mg x st ps f fd) (G : FnOk X.prog X.w X.K X.mg X.base CX0 k f fd ps (liftSp X.K dsp)) (hr : Room k X.A) (hg : Gl X x) (hdb : (x == ("__debug__" : Str)) = false := by decide) :
    DE M X (.Call (.Name x p) [] [] pos) (fCall dsp fNil) := peMono (pe_call0 G hr hg N.m N.F.kp N.b .nil pass0 hdb) fun σ H Q h => by
  obtain ⟨F, O, P, ρ, R, g, en, q, po⟩ := h
  show liftSp X.K dsp ([] ++ []) H Q E0
  exact ⟨F, O, P, [], R, X0, g.mt, .nil, q, po.mt g (Same.refl _), fun _ _ _ _ _ _ z => z.elim⟩
end
/-! ### the readings at their arguments -/
theorem ap_fDicO {ρ : DEnv} {O : Ow} {Q : VD} : fDicO ρ O Q = (∀ p, O p = none → Q (.ref p) (updO O p (.dic []))) := rfl
theorem ap_fDGet (fo fi : FE) {ρ : DEnv} {O : Ow} {Q : VD} : fDGet fo fi ρ O Q = (fo ρ O fun x O1 => fi ρ O1 fun y O2 => rDGet x y O2 Q) := rfl
theorem ap_fDGet1 (fo fi : FE) {ρ : DEnv} {O : Ow} {Q : VD} : fDGet1 fo fi ρ O Q = (fo ρ O fun x O1 => isDc O1 x = true ∧ fi ρ O1 fun y O2 => rKey x y O2 fun o => Q (o.getD .non) O2) := rfl
theorem ap_fDGet2 (fo fi fx : FE) {ρ : DEnv} {O : Ow} {Q : VD} : fDGet2 fo fi fx ρ O Q = (fo ρ O fun x O1 => isDc O1 x = true ∧ fi ρ O1 fun y O2 => fx ρ O2 fun z O3 => rKey x y O3 fun o => Q (o.getD z) O3) := rfl
theorem ap_gDPut (fo fi fe : FE) {R : DEnds} {ρ : DEnv} {O : Ow} : gDPut fo fi fe R ρ O = (fe ρ O fun d O1 => fo ρ O1 fun x O2 => fi ρ O2 fun y O3 => rDPut x y d O3 (R.nx ρ)) := rfl
theorem ap_fIsiT (fa : FE) (fr : FA) {ρ : DEnv} {O : Ow} {Q : VD} : fIsiT fa fr ρ O Q = (fa ρ O fun x O1 => fr ρ O1 fun ds O2 => rIsiTs x ds O2 Q) := rfl
theorem ap_gForR (fl : FE) (p : Pat) (gb : GS) {R : DEnds} {ρ : DEnv} {O : Ow} : gForR fl p gb R ρ O = (fl ρ O fun x O1 => asLR x O1 fun a ds O2 => forR a ds p gb R ds ρ O2) := rfl
section
variable {O : Ow} {a : Addr} {kvs : List (Key × D)} {Q : VD} {N : Option D → Prop} {k : Key} {x y d : D} {t : Str} {i : Int}
theorem dicAt_d (h : O a = some (.dic kvs)) : dicAt O a = some kvs := by simp only [dicAt, h]
theorem isDc_r (h : O a = some (.dic kvs)) : isDc O (.ref a) = true := by simp only [isDc, dicAt_d h, Option.isSome_some]
theorem rKey_s (h : O a = some (.dic kvs)) : rKey (.ref a) (.str t) O N = N (valD kvs (.inr t)) := by simp only [rKey, keyOf, dicAt_d h]
theorem rKey_i (h : O a = some (.dic kvs)) : rKey (.ref a) (.int i) O N = N (valD kvs (.inl i)) := by simp only [rKey, keyOf, dicAt_d h]
theorem rDPut_s {N : Ow → Prop} (h : O a = some (.dic kvs)) : rDPut (.ref a) (.str t) d O N = (kvs.length < sizeLine ∧ N (updO O a (.dic (putD kvs (.inr t) d)))) := by simp only [rDPut, keyOf, h]
theorem rDPut_i {N : Ow → Prop} (h : O a = some (.dic kvs)) : rDPut (.ref a) (.int i) d O N = (kvs.length < sizeLine ∧ N (updO O a (.dic (putD kvs (.inl i) d)))) := by simp only [rDPut, keyOf, h]
theorem rSortK_r {ts : List Str} (h : O a = some (.dic kvs)) (e : kvs.map (·.1) = ts.map Sum.inr) : rSortK [.ref a] O Q = (ts.length < 64 ∧ ∀ ys : List Str, ys.Perm ts → sortedS ys = true → Q (.lst (ys.map .str)) O) := by
  simp only [rSortK, dicAt_d h, e, asStrK_map]
theorem rRep_l {ds : List D} : rRepD (.lst ds) (.int i) O Q = ((-(2 ^ 63) ≤ i ∧ i < 2 ^ 63 ∧ ds.length * i.toNat ≤ sizeLine) ∧ Q (.lst (List.replicate i.toNat ds).flatten) O) := rfl
theorem asLR_r {xs : List D} {Q : Addr → List D → Ow → Prop} (h : O a = some (.lst xs)) : asLR (.ref a) O Q = Q a xs O := by simp only [asLR, h]
theorem sl1 : ((["list", "tuple"] : List String).length ≤ sizeLine) = True := by simp [sizeLine]
theorem isT_lt (h : insTy.contains (tyNm O x) = true) : rIsiTs x [.ty "list", .ty "tuple"] O Q = Q (.bl (["list", "tuple"].any (insOf (tyNm O x)))) O := by
  have e : asTys [D.ty "list", D.ty "tuple"] = some ["list", "tuple"] := rfl
  have e2 : ((["list", "tuple"] : List String).all fun n => insCl.contains n) = true := by decide
  simp only [rIsiTs, e, sl1, h, e2, true_and]
theorem isT_i : rIsiTs (.int i) [.ty "list", .ty "tuple"] O Q = Q (.bl false) O := isT_lt rfl
theorem isT_s : rIsiTs (.str t) [.ty "list", .ty "tuple"] O Q = Q (.bl false) O := isT_lt rfl
theorem isT_b {b : Bool} : rIsiTs (.bl b) [.ty "list", .ty "tuple"] O Q = Q (.bl false) O := isT_lt rfl
theorem isT_n : rIsiTs .non [.ty "list", .ty "tuple"] O Q = Q (.bl false) O := isT_lt rfl
theorem isT_t {xs : List D} : rIsiTs (.tup xs) [.ty "list", .ty "tuple"] O Q = Q (.bl true) O := isT_lt rfl
theorem isT_l {xs : List D} : rIsiTs (.lst xs) [.ty "list", .ty "tuple"] O Q = Q (.bl true) O := isT_lt rfl
theorem isT_r {xs : List D} (h : O a = some (.lst xs)) : rIsiTs (.ref a) [.ty "list", .ty "tuple"] O Q = Q (.bl true) O := by
  have e : tyNm O (.ref a) = "list" := by simp only [tyNm, h]
  rw [isT_lt (by rw [e]; rfl), e]; rfl
end
/-! ### an owned list that a call tells, frozen at once -/
section
variable {X : Cx} {e : Expr} {fe : FE}
def rFrz (d : D) (O : Ow) (Q : VD) : Prop := match d with
  | .ref a => match O a with
    | some (.lst ds) => Q (.lst ds) (delO O a)
    | _ => False
  | _ => False
def fFrz (fe : FE) : FE := fun ρ O Q => fe ρ O fun d O1 => rFrz d O1 Q
theorem de_frz (he : DE M X e fe) : DE M X e (fFrz fe) := peMono he fun σ H Q h => by
  obtain ⟨F, O, P, ρ, R, g, en, q, po⟩ := h
  refine ⟨F, O, P, ρ, _, g, en, q, fun d O1 F1 H1 v q1 s1 g1 r1 => ?_⟩
  unfold rFrz at q1
  split at q1 <;> first | exact q1.elim | skip
  rename_i a
  split at q1 <;> first | exact q1.elim | skip
  rename_i ds e
  simp only [Rep] at r1
  subst r1
  obtain ⟨F2, s2, g2, r2⟩ := g1.freeze e
  exact po _ _ F2 H1 _ q1 (s1.trans s2) g2 r2
theorem ap_fFrz (fe : FE) {ρ : DEnv} {O : Ow} {Q : VD} : fFrz fe ρ O Q = (fe ρ O fun d O1 => rFrz d O1 Q) := rfl
theorem rFrz_u {p : Addr} {ds : List D} {O : Ow} {Q : VD} (h : O p = none) : rFrz (.ref p) (updO O p (.lst ds)) Q = Q (.lst ds) O := by
  simp only [rFrz, updO_same, delO_updO h]
end
end Kf
/-! Dl16: max(xs), max(xs, default=d) of ints. -/
namespace Kf
open PySem PySem.Spec L2
open PyProof.Rows hiding St
section
variable {prog : Program} {w : World} {A : Around} {Rz : Result → Shared → Prop} {it : Addr} {fp wr : List Addr} {n : Nat} {Pv : Nat → Value → Prop} {Sw : Nat → Heap → Prop}
theorem mx_nm : (toString "max" ++ toString ".loop" : String) = "max.loop" := by decide
/-- the rest of max's walk, whatever keywords stand by -/
theorem mx_more (Wk : Walks prog w A.in1 it fp wr n Pv Sw) (bt : Nat → Nat → Bool) (cmp : CmpOf prog w A.in1 .Gt Pv bt) (B : Addr) (hB : B ∉ fp) (kw : List (Str × Value)) :
    ∀ (left j : Nat) (s : Shared) (u : Value) (ep : Nat), n - (j + 1) = left → j + 1 ≤ n → Sw (j + 1) s.heap → Pv (argBest bt j) u →
      s.heap.get? B = some { cls := .type "list", dict := none, data := .seq #[u, u] ep, slots := #[] } →
      (∀ v h' tk, Pv (argBest bt (n - 1)) v → (∀ b o, b ∉ wr → b ≠ B → s.heap.get? b = some o → h'.get? b = some o) → Rz (.ok (.ret v)) { s with heap := h', toks := tk }) →
      codeAny (model prog w) A (.builtin "max.loop" ⟨[.ref it, .none, .ref B], kw⟩) Rz s := by
  have hBw : B ∉ wr := fun h => hB (Wk.sub _ h)
  intro left
  induction left with
  | zero =>
    intro j s u ep e1 hj st pu hb fin
    have en : j + 1 = n := by omega
    refine codeAny_builtin PySem.F.entry_max_loop ?_
    rw [Around.under_plainId PySem.F.plain_max_loop _]
    refine wpAny_bind (wpAny_seqItems hb rfl ?_)
    refine wpAny_bind (wpAny_tryCatch (Wk.done s _ _ (en ▸ st) fun h' tk kp => ?_))
    have hb' := kp B _ hBw hb
    refine wpAny_bind ?_
    refine wpAny_updateSeq hb' rfl (wpAny_bind (wpAny_letGo (wpAny_pure ?_)))
    exact fin u _ tk (by rw [← en]; exact pu) fun b o h1 h2 e => (Heap.get?_update_other _ _ (Ne.symm h2)).trans (kp b o h1 e)
  | succ left ih =>
    intro j s u ep e1 hj st pu hb fin
    have lt : j + 1 < n := by omega
    refine codeAny_builtin PySem.F.entry_max_loop ?_
    rw [Around.under_plainId PySem.F.plain_max_loop _]
    refine wpAny_bind (wpAny_seqItems hb rfl ?_)
    refine wpAny_bind (wpAny_tryCatch (Wk.item (j + 1) s _ _ lt st fun v h' tk pv st' kp => ?_))
    have hb' := kp B _ hBw hb
    show wpAny _ A.in1 (tryCatch (holding [v, v] (richCompare .Gt v u >>= _)) _ >>= _) _ _ _
    refine wpAny_bind (wpAny_tryCatch (wpAny_holding (wpAny_bind (cmp (j + 1) (argBest bt j) v u _ _ _ pv pu ?_))))
    refine wpAny_bind (wpAny_holding (wpAny_truthy_bool ?_)); refine wpAny_bind (wpAny_letGo (wpAny_pure ?_))
    by_cases c : bt (j + 1) (argBest bt j) = true
    · simp only [c, if_true]
      refine wpAny_bind ?_
      refine wpAny_updateSeq hb' rfl (wpAny_bind (wpAny_letGo ?_)); rw [mx_nm]
      refine wpAny_pure ⟨plainId_quiet PySem.F.plain_max_loop _, ih (j + 1) _ v _ (by omega) lt (Wk.frame _ _ _ st' fun b bf o e => (Heap.get?_update_other _ _ (fun h : B = b => hB (by rw [h]; exact bf))).trans e) (by simp only [argBest, c, if_true]; exact pv) (Heap.get?_update_self _ hb' rfl) fun v2 h2 tk2 p2 k2 => ?_⟩
      exact fin v2 h2 tk2 p2 fun b o h1 h3 e => k2 b o h1 h3 ((Heap.get?_update_other _ _ (Ne.symm h3)).trans (kp b o h1 e))
    · simp only [c, if_false, Bool.false_eq_true]
      refine wpAny_bind (wpAny_letGo ?_); rw [mx_nm]
      refine wpAny_pure ⟨plainId_quiet PySem.F.plain_max_loop _, ih (j + 1) _ u ep (by omega) lt st' (by simp only [argBest, c, if_false, Bool.false_eq_true]; exact pu) hb' fun v2 h2 tk2 p2 k2 => ?_⟩
      exact fin v2 h2 tk2 p2 fun b o h1 h3 e => k2 b o h1 h3 (kp b o h1 e)
theorem mx_first (Wk : Walks prog w A.in1 it fp wr n Pv Sw) (bt : Nat → Nat → Bool) (cmp : CmpOf prog w A.in1 .Gt Pv bt) (B : Addr) (hB : B ∉ fp) (kw : List (Str × Value)) (hn : 0 < n) {s : Shared} {ep : Nat} (st : Sw 0 s.heap)
    (hb : s.heap.get? B = some { cls := .type "list", dict := none, data := .seq #[] ep, slots := #[] })
    (fin : ∀ v h' tk, Pv (argBest bt (n - 1)) v → (∀ b o, b ∉ wr → b ≠ B → s.heap.get? b = some o → h'.get? b = some o) → Rz (.ok (.ret v)) { s with heap := h', toks := tk }) :
    codeAny (model prog w) A (.builtin "max.loop" ⟨[.ref it, .none, .ref B], kw⟩) Rz s := by
  have hBw : B ∉ wr := fun h => hB (Wk.sub _ h)
  refine codeAny_builtin PySem.F.entry_max_loop ?_
  rw [Around.under_plainId PySem.F.plain_max_loop _]
  refine wpAny_bind (wpAny_seqItems hb rfl ?_)
  refine wpAny_bind (wpAny_tryCatch (Wk.item 0 s _ _ hn st fun v h' tk pv st' kp => ?_))
  have hb' := kp B _ hBw hb
  show wpAny _ A.in1 (updateSeq B (fun _ => #[v, v]) >>= _) _ _ _
  refine wpAny_bind ?_
  refine wpAny_updateSeq hb' rfl ?_
  rw [mx_nm]
  refine wpAny_pure ⟨plainId_quiet PySem.F.plain_max_loop _, mx_more Wk bt cmp B hB kw _ 0 _ v _ rfl hn (Wk.frame _ _ _ st' fun b bf o e => (Heap.get?_update_other _ _ (fun h : B = b => hB (by rw [h]; exact bf))).trans e) pv (Heap.get?_update_self _ hb' rfl) fun v2 h2 tk2 p2 k2 => ?_⟩
  exact fin v2 h2 tk2 p2 fun b o h1 h3 e => k2 b o h1 h3 ((Heap.get?_update_other _ _ (Ne.symm h3)).trans (kp b o h1 e))
/-- nothing to look at: the default -/
theorem mx_none (Wk : Walks prog w A.in1 it fp wr 0 Pv Sw) (B : Addr) (hB : B ∉ fp) (d : Value) {s : Shared} {ep : Nat} (st : Sw 0 s.heap)
    (hb : s.heap.get? B = some { cls := .type "list", dict := none, data := .seq #[] ep, slots := #[] })
    (fin : ∀ h' tk, (∀ b o, b ∉ wr → s.heap.get? b = some o → h'.get? b = some o) → Rz (.ok (.ret d)) { s with heap := h', toks := tk }) :
    codeAny (model prog w) A (.builtin "max.loop" ⟨[.ref it, .none, .ref B], [(Str.ofString "default", d)]⟩) Rz s := by
  refine codeAny_builtin PySem.F.entry_max_loop ?_
  rw [Around.under_plainId PySem.F.plain_max_loop _]
  refine wpAny_bind (wpAny_seqItems hb rfl ?_)
  refine wpAny_bind (wpAny_tryCatch (Wk.done s _ _ st fun h' tk kp => ?_))
  refine wpAny_bind (wpAny_rule (wpAny_pure ?_))
  exact fin h' tk kp
end
/-- the greatest, or 0 of none -/
def lmx : List Int → Int
  | [] => 0
  | [a] => a
  | a :: b :: r => if lmx (b :: r) > a then lmx (b :: r) else a
theorem lmx_le : ∀ {ns : List Int} {a : Int}, a ∈ ns → a ≤ lmx ns
  | [b], a, h => by rw [List.mem_singleton.mp h]; exact Int.le_refl _
  | b :: c :: r, a, h => by
    unfold lmx
    rcases List.mem_cons.mp h with rfl | h
    · split <;> omega
    · have := lmx_le h
      split <;> omega
theorem lmx_in : ∀ {ns : List Int}, ns ≠ [] → lmx ns ∈ ns
  | [b], _ => by simp [lmx]
  | b :: c :: r, _ => by
    unfold lmx
    split
    · exact List.mem_cons_of_mem _ (lmx_in (by simp))
    · exact List.mem_cons_self
theorem lmx_eq {ns : List Int} {M : Int} (h : M ∈ ns) (hl : ∀ a, a ∈ ns → a ≤ M) : M = lmx ns := by
  have h1 := lmx_le h
  have h2 := hl _ (lmx_in (ns := ns) (fun e => by rw [e] at h; cases h))
  omega
section
variable {prog : Program} {w : World} {A : Around} {E : Value → Shared → Prop} {s : Shared}
theorem args_maxd (a v : Value) : argsOk "max" ⟨[a], [(Str.ofString "default", v)]⟩ := by unfold argsOk; kernel_rfl
/-- max(l, default=d) of ints -/
theorem max_dflt {l : Addr} {vs : List Value} {ns : List Int} {d : Value} {Q : Value → Shared → Prop} (hh : A.handled = none) (hl : s.heap.IsList l vs.toArray) (hi : IntsAre vs ns)
    (fin : ∀ v h' tk, (∀ b o, s.heap.get? b = some o → h'.get? b = some o) → (ns = [] → v = d) → (ns ≠ [] → ∃ t, v = .int (lmx ns) t) → Q v { s with heap := h', toks := tk }) :
    wpAny (model prog w) A (call (.builtin "max") [.ref l] [(Str.ofString "default", d)]) Q E s := by
  obtain ⟨xs, e⟩ := hi.allInts.items
  have hns : ns = xs.toList.map (·.1) := by rw [← hi.numsOf, ← nums_intItems, ← e]
  have hsz : ns.length = xs.size := by rw [hns, List.length_map, Array.length_toList]
  rw [e] at hl
  refine kmk_tree PySem.F.kind_max PySem.F.plain_max PySem.F.entry_max (args_maxd _ _) ?_
  refine wpAny_bind (wpAny_of_eq (show Builtin.Builtins.bindParams "max" ["key", "default"] 0 ⟨[], [(Str.ofString "default", d)]⟩ = pure [none, some d] from rfl) ?_)
  refine wpAny_bind (wpAny_pure ?_)
  refine wpAny_bind (iter_intList hl fun s₂ e2 st hfp hlI => ?_)
  subst e2
  refine wpAny_bind (wpAny_newObj_type ?_)
  have hSf : ∀ b ∈ [s.heap.objs.size, l], b < (s.heap.push { cls := .type "list_iterator", data := .fields #[.ref l, .int 0 0] }).objs.size := hfp
  have Wk := Walks.list (prog := prog) (w := w) (A := A.in1) hh _ l hlI (intItems xs)
  rw [mx_nm]
  refine wpAny_pure ⟨plainId_quiet PySem.F.plain_max_loop _, ?_⟩
  have hB : (s.heap.push { cls := .type "list_iterator", data := .fields #[.ref l, .int 0 0] }).objs.size ∉ [s.heap.objs.size, l] := fun hm => Nat.lt_irrefl _ (hSf _ hm)
  have old : ∀ b o, s.heap.get? b = some o → b ∉ [s.heap.objs.size] ∧ b ≠ (s.heap.push { cls := .type "list_iterator", data := .fields #[.ref l, .int 0 0] }).objs.size ∧ ((s.heap.push { cls := .type "list_iterator", data := .fields #[.ref l, .int 0 0] }).push (seqObj "list" #[] 0)).get? b = some o := fun b o eb => by
    have hlt := Heap.lt_size eb
    refine ⟨fun hm => absurd (List.mem_singleton.mp hm) (Nat.ne_of_lt hlt), ?_, Heap.get?_push_of_some _ (Heap.get?_push_of_some _ eb)⟩
    rw [Heap.size_push]; exact Nat.ne_of_lt (Nat.lt_succ_of_lt hlt)
  have hsi : (intItems xs).size = ns.length := by rw [hsz]; simp [intItems]
  by_cases h0 : ns = []
  · have hz : (intItems xs).size = 0 := by rw [hsi, h0]; rfl
    rw [hz] at Wk
    refine mx_none Wk _ hB d (Wk.frame _ _ _ st fun b _ o e => Heap.get?_push_of_some _ e) (Heap.get?_push_size _ rfl) fun h' tk kp => ?_
    exact fin d h' tk (fun b o eb => kp b o (old b o eb).1 (old b o eb).2.2) (fun _ => rfl) (fun h => absurd h0 h)
  · have hpos : 0 < xs.size := by rw [← hsz]; exact List.length_pos_iff.mpr h0
    refine mx_first Wk _ (CmpOf.ints_gt (numAt xs) (fun _ _ => intItems_at)) _ hB _ (by rw [hsi, hsz]; exact hpos) (Wk.frame _ _ _ st fun b _ o e => Heap.get?_push_of_some _ e) (Heap.get?_push_size _ rfl) fun v h' tk pv kp => ?_
    refine fin v h' tk (fun b o eb => kp b o (old b o eb).1 (old b o eb).2.1 (old b o eb).2.2) (fun h => absurd h h0) fun _ => ?_
    obtain ⟨t, rfl⟩ := intItems_at pv
    rw [hsi, hsz]
    obtain ⟨h1, h2⟩ := argBest_gt (numAt xs) (xs.size - 1)
    refine ⟨t, ?_⟩
    congr 1
    refine lmx_eq ?_ fun a ha => ?_
    · rw [hns, numAt_eq]; exact getD_mem (by rw [List.length_map, Array.length_toList]; omega)
    · rw [hns] at ha
      obtain ⟨j, hj, rfl⟩ := mem_getD ha
      rw [List.length_map, Array.length_toList] at hj
      rw [← numAt_eq]; exact h2 j (by omega)
end
section
variable {X : Cx} {M : MX} {e : Expr} {es : List Expr} {fa : FE} {pos p kpos pos' : Pos}
def rMaxDf (K : PySem.W.Frag) : List V → List V → Hp → VK → Prop := fun vs zs H Q => ∃ (a : Addr) (ns : List Int) (i : Int), vs = [V.ref a] ∧ zs = [V.int i] ∧ SqL K H a (ns.map V.int) ∧ Q (.int (if ns = [] then i else lmx ns)) H
theorem cr_maxDf (hc : X.calm = true) : CallRK X (.builtin "max") [Str.ofString "default"] (rMaxDf X.K) := by
  intro pins s σ H vs zs us ws Q I r rz h
  obtain ⟨a, ns, i, rfl, rfl, hs, q⟩ := h
  obtain rfl := Vals.ref1 r
  obtain ⟨w1, rfl, ⟨t1, rfl⟩⟩ := vals1 rz
  obtain ⟨its, rv, hl, _⟩ := I.list hs
  refine max_dflt (I.ok.hd hc) hl.isList rv.ints fun v h' tk hk h1 h2 => ?_
  refine ⟨.int _, H, I.kept hk, ?_, q⟩
  by_cases h0 : ns = []
  · rw [if_pos h0, h1 h0]; exact ⟨_, rfl⟩
  · rw [if_neg h0]
    obtain ⟨t, rfl⟩ := h2 h0
    exact ⟨_, rfl⟩
/-- max(xs, default=i) -/
def rMaxD (i : Int) (x : D) (O : Ow) (Q : VD) : Prop := match deref O x with
  | .lst ds => match asInts ds with
    | some ns => Q (.int (if ns = [] then i else lmx ns)) O
    | none => False
  | _ => False
def fMaxD (i : Int) (fa : FE) : FE := fun ρ O Q => fa ρ O fun x O1 => rMaxD i x O1 Q
theorem de_maxD {i : Int} {j : Nat} (hc : X.calm = true) (hg : Gl X "max") (hm : X.mg "max" = none) (hv : bootBuiltins "max" = some (.builtin "max")) (ha : DE M X e fa)
    (hs : starEach [e] X.env = (false, eval e X.env) :: starEach [] X.env := by rfl)
    (he : backTo pos (starEach [e] X.env) = (false, eval e X.env) :: backTo pos (starEach [] X.env) := by rfl) (hpl : (backTo pos (starEach [e] X.env)).any (·.1) = false := by rfl) :
    DE M X (.Call (.Name "max" p) [e] [⟨some "default", .Constant (.int i) j pos', kpos⟩] pos) (fMaxD i fa) := by
  refine peMono (pe_callBK (cr_maxDf hc) hg hm hv (pa_cons ha pa_nil hs) (pk_cons pe_int pk_nil) (by decide) (by decide) he hpl) fun σ H Q h => ?_
  obtain ⟨F, O, P, ρ, R, g, en, q, po⟩ := h
  refine ⟨F, O, P, ρ, _, g, en, q, fun x O1 F1 H1 v q1 s1 g1 r1 => ?_⟩
  have h1 := g1.deref r1
  unfold rMaxD at q1
  revert q1 h1
  generalize Kf.deref O1 x = ex
  intro q1 h1
  cases ex <;> first | exact q1.elim | skip
  rename_i ds
  obtain ⟨c, xs, rfl, h1, h2⟩ := h1
  dsimp only at q1
  cases e0 : asInts ds with
  | none => rw [e0] at q1; exact q1.elim
  | some ns =>
    rw [e0] at q1
    rw [of_asInts e0] at h2
    have e3 := h2.ints
    subst e3
    exact ⟨c, ns, i, rfl, rfl, SqL.of h1, (po.more s1).at g1 q1 (by simp only [Rep])⟩
/-- max(xs) -/
def rMaxL : RAD := fun ds O Q => match ds with
  | [x] => match deref O x with
    | .lst ds => match asInts ds with
      | some ns => ns ≠ [] ∧ Q (.int (lmx ns)) O
      | none => False
    | _ => False
  | _ => False
theorem cd_maxL (hc : X.calm = true) : CallD M X (.builtin "max") rMaxL := by
  refine callD_of fun F P H O xs ds R Q g r1 q po => ?_
  match ds, q with
  | [x], q =>
    obtain ⟨v, rfl, r1'⟩ := r1.one'
    have h1 := g.deref r1'
    unfold rMaxL at q
    dsimp only at q
    revert q h1
    generalize Kf.deref O x = ex
    intro q h1
    cases ex <;> first | exact q.elim | skip
    rename_i ds
    obtain ⟨c, xs, rfl, h1, h2⟩ := h1
    dsimp only at q
    cases e : asInts ds with
    | none => rw [e] at q; exact q.elim
    | some ns =>
      rw [e] at q
      rw [of_asInts e] at h2
      have e3 := h2.ints
      subst e3
      exact ⟨_, cr_max hc, c, ns, rfl, SqL.of h1, List.length_pos_iff.mpr q.1, fun m k1 k2 => by
        obtain rfl := lmx_eq k1 k2
        exact po.at g q.2 (by simp only [Rep])⟩
theorem ap_fMaxD (i : Int) (fa : FE) {ρ : DEnv} {O : Ow} {Q : VD} : fMaxD i fa ρ O Q = fa ρ O fun x O1 => rMaxD i x O1 Q := rfl
theorem rMaxD_l {i : Int} {ns : List Int} {O : Ow} {Q : VD} : rMaxD i (.lst (ns.map .int)) O Q = Q (.int (if ns = [] then i else lmx ns)) O := by
  simp only [rMaxD, deref, asInts_map]
theorem rMaxL_l {ns : List Int} {O : Ow} {Q : VD} : rMaxL [.lst (ns.map .int)] O Q = (ns ≠ [] ∧ Q (.int (lmx ns)) O) := by
  simp only [rMaxL, deref, asInts_map]
end
end Kf
/-! Dl17: defs with one default, None; walks along a list, owned or not. -/
namespace Kf
open PySem PySem.Spec L2
open PyProof.Rows hiding St
/-- a def of the text with one default, None -/
structure FnD (K : PySem.W.Frag) (mg : Str → Option Value) (x : Str) (st : Stmt) (ps : List Str) (f : Addr) (fd : FuncData) : Prop where
  F : FunD K x x (defArgs st) (defBody st) (defScope st) [V.non] [] f fd
  m : mg x = some (.ref f)
  b : Binds K fd ps []
  b1 : ∃ ds, Vals [V.non] ds ∧ Binds K fd ps ds
section
variable {X : Cx} {M : MX} {RX : XW} {W : WX} {e : Expr} {es : List Expr} {fr : FA} {k : Nat} {f : Addr} {fd : FuncData} {ps : List Str} {dsp : DSp} {x : Str} {st : Stmt} {p pos : Pos}
theorem de_callXd (N : FnD X.K X.mg x st ps f fd) (G : FnOk X.prog X.w X.K X.mg X.base (L2.CX X.prog X.w) k f fd ps (liftSp X.K dsp)) (hr : Room k X.A) (tk : Takes X W) (hg : Gl X x) (ha : DA (mxw X.K RX W) X (e :: es) fr)
    (hdb : (x == ("__debug__" : Str)) = false := by decide) (he : starEach (e :: es) X.env = (false, eval e X.env) :: starEach es X.env := by rfl) (hpl : (backTo pos (starEach es X.env)).any (·.1) = false := by rfl) :
    DE (mxw X.K RX W) X (.Call (.Name x p) (e :: es) [] pos) (fCallX dsp RX fr) := peMono (pe_callS G hr hg N.m N.F.kp N.b (fun σ => passAt tk σ) ha hdb he hpl) fun σ H Q h => by
  obtain ⟨F, O, P, ρ, R, g, en, q, po⟩ := h
  refine ⟨F, O, P, ρ, _, g, en, q, fun ds O1 F1 H1 vs q1 s1 g1 r1 => ?_⟩
  refine ⟨F1, O1, P, ds, R, _, g1.mt, r1, q1, po.mt g1 s1, fun cls fs O' F' H' dd q2 s2 g2 xd => ?_⟩
  exact (g2.re ((mxw X.K RX W).mono g1.rl s2 (Same.refl _))).wish q2 xd (en.mono (s1.trans s2))
theorem de_callX0d (N : FnD X.K X.mg x st ps f fd) (G : FnOk X.prog X.w X.K X.mg X.base (L2.CX X.prog X.w) k f fd ps (liftSp X.K dsp)) (hr : Room k X.A) (hg : Gl X x) (ha : DA M X (e :: es) fr)
    (hdb : (x == ("__debug__" : Str)) = false := by decide) (he : starEach (e :: es) X.env = (false, eval e X.env) :: starEach es X.env := by rfl) (hpl : (backTo pos (starEach es X.env)).any (·.1) = false := by rfl) :
    DE M X (.Call (.Name x p) (e :: es) [] pos) (fCallX dsp RX0 fr) := peMono (pe_callS (E := WE fun _ _ _ _ => False) G hr hg N.m N.F.kp N.b (fun σ => passAt takes0 σ) ha hdb he hpl) fun σ H Q h => by
  obtain ⟨F, O, P, ρ, R, g, en, q, po⟩ := h
  refine ⟨F, O, P, ρ, _, g, en, q, fun ds O1 F1 H1 vs q1 s1 g1 r1 => ?_⟩
  exact ⟨F1, O1, P, ds, R, _, g1.mt, r1, q1, po.mt g1 s1, fun cls fs O' F' H' dd q2 s2 g2 xd => q2⟩
/-- a call without the last argument -/
def fCallXD (dsp : DSp) (RX : XW) (fr : FA) : FE := fun ρ O Q => fr ρ O fun ds O1 => dsp (ds ++ [.non]) O1 Q fun cls fs O' => RX cls fs ρ O'
theorem rep_non {K : PySem.W.Frag} {F : Hp} : RepAll K F [.non] [V.non] := .one (by simp only [Rep])
theorem de_callXD (N : FnD X.K X.mg x st ps f fd) (G : FnOk X.prog X.w X.K X.mg X.base (L2.CX X.prog X.w) k f fd ps (liftSp X.K dsp)) (hr : Room k X.A) (tk : Takes X W) (hg : Gl X x) (ha : DA (mxw X.K RX W) X (e :: es) fr)
    (hdb : (x == ("__debug__" : Str)) = false := by decide) (he : starEach (e :: es) X.env = (false, eval e X.env) :: starEach es X.env := by rfl) (hpl : (backTo pos (starEach es X.env)).any (·.1) = false := by rfl) :
    DE (mxw X.K RX W) X (.Call (.Name x p) (e :: es) [] pos) (fCallXD dsp RX fr) := by
  obtain ⟨dv, hv, hb⟩ := N.b1
  refine peMono (pe_callSD G hr hg N.m N.F.kp hb hv (fun σ => passAt tk σ) ha hdb he hpl) fun σ H Q h => ?_
  obtain ⟨F, O, P, ρ, R, g, en, q, po⟩ := h
  refine ⟨F, O, P, ρ, _, g, en, q, fun ds O1 F1 H1 vs q1 s1 g1 r1 => ?_⟩
  refine ⟨F1, O1, P, ds ++ [.non], R, _, g1.mt, r1.append rep_non, q1, po.mt g1 s1, fun cls fs O' F' H' dd q2 s2 g2 xd => ?_⟩
  exact (g2.re ((mxw X.K RX W).mono g1.rl s2 (Same.refl _))).wish q2 xd (en.mono (s1.trans s2))
theorem de_callX0D (N : FnD X.K X.mg x st ps f fd) (G : FnOk X.prog X.w X.K X.mg X.base (L2.CX X.prog X.w) k f fd ps (liftSp X.K dsp)) (hr : Room k X.A) (hg : Gl X x) (ha : DA M X (e :: es) fr)
    (hdb : (x == ("__debug__" : Str)) = false := by decide) (he : starEach (e :: es) X.env = (false, eval e X.env) :: starEach es X.env := by rfl) (hpl : (backTo pos (starEach es X.env)).any (·.1) = false := by rfl) :
    DE M X (.Call (.Name x p) (e :: es) [] pos) (fCallXD dsp RX0 fr) := by
  obtain ⟨dv, hv, hb⟩ := N.b1
  refine peMono (pe_callSD (E := WE fun _ _ _ _ => False) G hr hg N.m N.F.kp hb hv (fun σ => passAt takes0 σ) ha hdb he hpl) fun σ H Q h => ?_
  obtain ⟨F, O, P, ρ, R, g, en, q, po⟩ := h
  refine ⟨F, O, P, ρ, _, g, en, q, fun ds O1 F1 H1 vs q1 s1 g1 r1 => ?_⟩
  exact ⟨F1, O1, P, ds ++ [.non], R, _, g1.mt, r1.append rep_non, q1, po.mt g1 s1, fun cls fs O' F' H' dd q2 s2 g2 xd => q2⟩
theorem ap_fCallXD (dsp : DSp) (RX : XW) (fr : FA) {ρ : DEnv} {O : Ow} {Q : VD} : fCallXD dsp RX fr ρ O Q = fr ρ O fun ds O1 => dsp (ds ++ [.non]) O1 Q fun cls fs O' => RX cls fs ρ O' := rfl
end
section
variable {P : Program} {w : World} {K : PySem.W.Frag} {mg : Str → Option Value} {base : Heap}
theorem fn_dXD {x qual : Str} {st : Stmt} {f : Addr} {fd : FuncData} {N ps : List Str} {k : Nat} {dsp : DSp} {g : XW → GS} (F : FunD K x qual (defArgs st) (defBody st) (defScope st) [V.non] [] f fd) (S : FnScope N ps (defScope st)) (len : ∀ ds O R RE, dsp ds O R RE → ds.length = ps.length)
    (hder : ∀ (RX : XW) (W : WX) (cdv : Value) (A : Around) (outer : List Env) (s : Shared) (H : Hp) (E : XK), Takes (cxOf (L2.CX P w) P w K mg base N qual (defScope st) f cdv A outer s H E) W →
      PassesOwn (model (cxOf (L2.CX P w) P w K mg base N qual (defScope st) f cdv A outer s H E).prog (cxOf (L2.CX P w) P w K mg base N qual (defScope st) f cdv A outer s H E).w) (cxOf (L2.CX P w) P w K mg base N qual (defScope st) f cdv A outer s H E).A (cxOf (L2.CX P w) P w K mg base N qual (defScope st) f cdv A outer s H E).env (cxOf (L2.CX P w) P w K mg base N qual (defScope st) f cdv A outer s H E).xe →
      Room k (A.deeper (envOfC qual (defScope st) s.heap.objs.size f cdv)) →
      DSs (mxw K RX W) (cxOf (L2.CX P w) P w K mg base N qual (defScope st) f cdv A outer s H E) (defBody st) (g RX))
    (hread : ∀ ds O R RE, dsp ds O R RE → g (XG RE) { nx := fun _ O' => VG R .non O', rt := VG R } (startD N ds) O) : FnOk P w K mg base (L2.CX P w) (k + 1) f fd ps (liftSp K dsp) := by
  refine F.ok S (fun vs H Q E h => ?_) fun cdv A outer s H vs Q E hr h => ?_
  · obtain ⟨F, O, P, ds, R, RE, g, r, q, _⟩ := h
    rw [← r.length]; exact len ds O R RE q
  · obtain ⟨F, O, P', ds, R, RE, gd, r, q, po, px⟩ := h
    have tk : Takes (cxOf (L2.CX P w) P w K mg base N qual (defScope st) f cdv A outer s H E) (fun cls d _ H => E cls d H) := takes_of rfl rfl rfl rfl
    refine ⟨_, hder (XG RE) _ cdv A outer s H E tk (passes_of rfl) hr, F, O, P', startD N ds, { nx := fun _ O' => VG R .non O', rt := VG R }, gd.re ⟨P', Same.refl _, fun cls fs ρ O' F' H' dd σ q1 s1 g1 xd _ => ?_⟩, ?_, hread ds O R RE q, ⟨fun ρ O' F' H' σ q1 s1 g1 _ => ?_, fun d O' F' H' v q1 s1 g1 r1 => ?_, fun _ _ _ _ _ z => z.elim, fun _ _ _ _ _ z => z.elim⟩⟩
    · obtain ⟨O2, s2, q2⟩ := q1
      exact px cls fs O2 F' H' dd q2 s1 (g1.sub s2) xd
    · unfold startD L2.start
      rw [r.length]
      exact envOk_start _ r
    · obtain ⟨O2, s2, q2⟩ := q1
      exact po .non O2 F' H' .non q2 s1 (g1.mt.sub s2) (by simp only [Rep])
    · obtain ⟨O2, s2, q2⟩ := q1
      exact po d O2 F' H' v q2 s1 (g1.mt.sub s2) r1
end
/-! ### for over a list, owned or not, that stays -/
section
variable {X : Cx} {M : MX} {l tg : Expr} {fl : FE} {pos : Pos}
def forE (x : D) (all : List D) (p : Pat) (gb : GS) (R : DEnds) : List D → DEnv → Ow → Prop
  | [], ρ, O => deref O x = .lst all ∧ R.nx ρ O
  | d :: ds, ρ, O => deref O x = .lst all ∧ patGet (patD p d ρ) fun ρ1 => gb { R with nx := forE x all p gb R ds, ct := forE x all p gb R ds, bk := R.nx } ρ1 O
def asLE (x : D) (O : Ow) (Q : List D → Prop) : Prop := match deref O x with
  | .lst ds => Q ds
  | _ => False
def gForE (fl : FE) (p : Pat) (gb : GS) : GS := fun R ρ O => fl ρ O fun x O1 => asLE x O1 fun ds => forE x ds p gb R ds ρ O1
theorem ap_gForE (fl : FE) (p : Pat) (gb : GS) {R : DEnds} {ρ : DEnv} {O : Ow} : gForE fl p gb R ρ O = fl ρ O fun x O1 => asLE x O1 fun ds => forE x ds p gb R ds ρ O1 := rfl
theorem asLE_l {ds : List D} {O : Ow} {Q : List D → Prop} : asLE (.lst ds) O Q = Q ds := rfl
theorem asLE_r {a : Addr} {ds : List D} {O : Ow} {Q : List D → Prop} (h : O a = some (.lst ds)) : asLE (.ref a) O Q = Q ds := by simp only [asLE, deref, h]
theorem ds_forE {body : List Stmt} {p : Pat} {gb : GS} (hp : PassesOwn (model X.prog X.w) X.A X.env X.xe) (hc : X.calm = true) (hl : DE M X l fl) (hg : DP X tg p) (hb : DSs M X body gb)
    (hs : ∀ x, foldedSetIterable l X.env x = pure x := by intro _; rfl) : DS M X (.For tg l body [] pos) (gForE fl p gb) := psMono (ps_for hp hc (pi_list hl) hg hb hs) fun D σ H h => by
  obtain ⟨F, O, P, ρ, R, g, en, q, po⟩ := h
  refine ⟨F, O, P, ρ, _, g, en, q, fun x O1 F1 H1 v q1 s1 g1 r1 => ?_⟩
  have at' : ∀ {F2 : Hp} {O2 : Ow} {P2 H2 : Hp} {ds : List Kf.D}, Same F1 F2 → Gd M X.K F2 O2 P2 H2 → deref O2 x = .lst ds → ∃ c ws, v = V.ref c ∧ SqL X.K H2 c ws ∧ RepAll X.K F2 ds ws := by
    intro F2 O2 P2 H2 ds s2 g2 e2
    have h1 := g2.deref (r1.mono s2)
    rw [e2] at h1
    obtain ⟨c, xs, e3, h2, h3⟩ := h1
    exact ⟨c, xs, e3, SqL.of h2, h3⟩
  unfold asLE at q1
  split at q1 <;> first | exact q1.elim | skip
  rename_i ds e
  obtain ⟨c, vs, rfl, h1, h2⟩ := at' (Same.refl _) g1 e
  refine ⟨c, rfl, ⟨vs, h1⟩, ?_⟩
  refine ⟨fun i m σ H => ∃ F2 O2 ρ2, i + m = ds.length ∧ Same F1 F2 ∧ Gd M X.K F2 O2 P H ∧ EnvOk X.K F2 ρ2 σ ∧ forE x ds p gb R (ds.drop i) ρ2 O2,
    ⟨ds.length, F1, O1, ρ, by omega, Same.refl _, g1, en.mono s1, by rw [List.drop_zero]; exact q1⟩, fun i m σ2 H2 hW => ?_⟩
  obtain ⟨F2, O2, ρ2, hm, s2, g2, en2, q2⟩ := hW
  by_cases hi : i < ds.length
  · rw [List.drop_eq_getElem_cons hi] at q2
    unfold forE at q2
    obtain ⟨e2, q2⟩ := q2
    obtain ⟨c2, ws, e4, sq, h4⟩ := at' s2 g2 e2
    cases e4
    obtain ⟨w, e3, r3⟩ := h4.get (List.getElem?_eq_getElem hi)
    refine .inr ⟨⟨ws, w, sq, e3⟩, fun σ' H' => ∃ F3 O3 ρ3, Same F1 F3 ∧ Gd M X.K F3 O3 P H' ∧ EnvOk X.K F3 ρ3 σ' ∧ forE x ds p gb R (ds.drop (i + 1)) ρ3 O3, fun σ' H' hN => ?_, fun y H' hyy => ?_⟩
    · obtain ⟨F3, O3, ρ3, s3, g3, en3, q3⟩ := hN
      exact ⟨m - 1, by omega, F3, O3, ρ3, by omega, s3, g3, en3, q3⟩
    · obtain ⟨rfl, hx⟩ := hyy
      have hxx := hx ws sq
      rw [e3] at hxx
      cases hxx
      cases e1 : patD p ds[i] ρ2 with
      | none => rw [e1] at q2; exact q2.elim
      | some ρ3 =>
        rw [e1] at q2
        refine pat_ok g2 p ds[i] _ ρ2 ρ3 σ2 _ e1 r3 en2 fun σ4 en4 _ => ?_
        refine ⟨F2, O2, P, ρ3, _, g2, en4, q2, ⟨fun ρ5 O5 F5 H5 σ5 q5 s5 g5 en5 => ?_, ?_, ?_, fun ρ5 O5 F5 H5 σ5 q5 s5 g5 en5 => ?_⟩⟩
        · exact ⟨F5, O5, ρ5, s2.trans s5, g5, en5, q5⟩
        · exact po.rt.more (s1.trans s2)
        · exact po.nx.more (s1.trans s2)
        · exact ⟨F5, O5, ρ5, s2.trans s5, g5, en5, q5⟩
  · rw [List.drop_eq_nil_of_le (by omega)] at q2
    unfold forE at q2
    obtain ⟨c2, ws, e4, sq, h4⟩ := at' s2 g2 q2.1
    cases e4
    refine .inl ⟨⟨ws, sq, by rw [← h4.length]; omega⟩, ?_⟩
    exact po.nx ρ2 O2 F2 H2 σ2 q2.2 (s1.trans s2) g2 en2
end
end Kf
/-! Dl18: walks along the keys of an owned dict. -/
namespace Kf
open PySem PySem.Spec L2
open PyProof.Rows hiding St
variable {M : MX}
/-! ### [.. for k in d] -/
def lcK (a : Addr) (c : Cell) (p : Pat) (ft : FT) (fe : FE) (ρ : DEnv) : List D → List D → Ow → (List D → Ow → Prop) → Prop
  | [], acc, O, Q => O a = some c ∧ Q acc O
  | d :: ds, acc, O, Q => O a = some c ∧ patGet (patD p d ρ) fun ρ1 => ft ρ1 O fun b O1 => if b = true then fe ρ1 O1 fun e O2 => acc.length < sizeLine ∧ lcK a c p ft fe ρ ds (acc ++ [e]) O2 Q else lcK a c p ft fe ρ ds acc O1 Q
def asDc (o : Option (Option D)) (O : Ow) (N : Addr → List (Key × D) → Prop) : Prop := match o with
  | some (some (.ref a)) => match O a with
    | some (.dic kvs) => N a kvs
    | _ => False
  | _ => False
def keysD (kvs : List (Key × D)) : List D := kvs.map fun kv => keyD kv.1
def fLcK (i : Nat) (p : Pat) (ft : FT) (fe : FE) (vs : List Nat) : FE := fun ρ O Q => asDc ρ[i]? O fun a kvs =>
  ∀ o, lcK a (.dicL kvs o) p ft fe (wipeD ρ vs) (keysD kvs) [] (updO O a (.dicL kvs o)) fun acc O2 => Q (.lst acc) (updO O2 a (.dic kvs))
theorem asDc_of {o : Option (Option D)} {O : Ow} {N : Addr → List (Key × D) → Prop} (q : asDc o O N) : ∃ a kvs, o = some (some (.ref a)) ∧ O a = some (.dic kvs) ∧ N a kvs := by
  unfold asDc at q
  split at q <;> first | exact q.elim | skip
  rename_i a
  split at q <;> first | exact q.elim | skip
  rename_i kvs e
  exact ⟨a, kvs, rfl, e, q⟩
theorem keys_rep {K : PySem.W.Frag} {F : Hp} {kvs : List (Key × D)} {vs : List (Key × V)} (h : KvOk K F kvs vs) {i : Nat} {k : Key} {v : V} (e : vs[i]? = some (k, v)) : (keysD kvs)[i]? = some (keyD k) := by
  have := h.keys
  have e2 : (vs.map (·.1))[i]? = some k := by rw [List.getElem?_map, e]; rfl
  rw [this, List.getElem?_map] at e2
  unfold keysD
  rw [List.getElem?_map]
  cases hk : kvs[i]? with
  | none => rw [hk] at e2; cases e2
  | some kv => rw [hk] at e2; cases e2; rfl
section
variable {X : Cx} {elt tg iter : Expr} {ifs : List Expr} {scope : Scope} {own : List (Str × Nat)} {pos : Pos} {p : Pat} {ft : FT} {fe : FE}
theorem fLcK_lift {vs : List Nat} {K : PySem.W.Frag} {i0 : Nat} (hv : ∀ i ∈ patI p, i ∈ vs) : ∀ σ H Q, liftE M K (fLcK i0 p ft fe vs) σ H Q → tLockE (tLc (iKeys (liftE M K (fVar i0))) (patT K p) (liftT M K ft) (liftE M K fe) vs) σ H Q := fun σ H Q h => by
  obtain ⟨F, O, P, ρ, R, g, en, q, po⟩ := h
  obtain ⟨a, kvs, e0, e, q⟩ := asDc_of q
  obtain ⟨hF, hP, ws, hH, hkv⟩ := g.ow a _ e
  refine ⟨a, .dK ws, hH, trivial, fun od => ?_⟩
  have q := q (.frz od (.dK ws))
  generalize hc : Cell.dicL kvs (.frz od (.dK ws)) = c at q
  have g0 : Gd M K F (updO O a c) P (upd H a (.frz od (.dK ws))) := g.setO e (by rw [← hc]; exact ⟨upd_same, od, ws, rfl, hkv⟩)
  refine ⟨F, updO O a c, P, ρ, fun d O' => d = .ref a ∧ O' = updO O a c, g0, en, by unfold fVar; rw [e0]; exact ⟨rfl, rfl⟩, fun x O1 F1 H1 v q1 s1 g1 r1 => ?_⟩
  obtain ⟨rfl, rfl⟩ := q1
  simp only [Rep] at r1
  subst r1
  have cellH : ∀ {F2 O2 P2 H2}, Gd M K F2 O2 P2 H2 → O2 a = some c → H2 a = some (.frz od (.dK ws)) := fun {F2 O2 P2 H2} g2 e2 => by
    have := (g2.ow a c e2).2.2
    rw [← hc] at this
    exact this.1
  refine ⟨a, od, rfl, .inl ⟨ws, cellH g1 updO_same, fun D hD => ?_⟩⟩
  have hPD := g1.freeP hD
  have hlen : ws.length = (keysD kvs).length := by unfold keysD; rw [List.length_map]; exact (Paired.length hkv).symm
  refine ⟨fun i m H => ∃ F2 O2 acc vacc, i + m = (keysD kvs).length ∧ Same F1 F2 ∧ Gd M K F2 O2 (upd P D (.lst vacc)) H ∧ RepAll K F2 acc vacc ∧ lcK a c p ft fe (wipeD ρ vs) ((keysD kvs).drop i) acc O2 fun acc O2 => R (.lst acc) (updO O2 a (.dic kvs)),
    ⟨(keysD kvs).length, F1, updO O a c, [], [], by omega, Same.refl _, g1.aside hD, .nil, by rw [List.drop_zero]; exact q⟩, fun i m H2 hW => ?_⟩
  obtain ⟨F2, O2, acc, vacc, hm, s2, g2, ra, q2⟩ := hW
  by_cases hi : i < (keysD kvs).length
  · rw [List.drop_eq_getElem_cons hi] at q2
    unfold lcK at q2
    obtain ⟨e2, q2⟩ := q2
    refine .inr ⟨⟨cellH g2 e2, by omega⟩, fun H' => ∃ F3 O3 acc vacc, Same F1 F3 ∧ Gd M K F3 O3 (upd P D (.lst vacc)) H' ∧ RepAll K F3 acc vacc ∧ lcK a c p ft fe (wipeD ρ vs) ((keysD kvs).drop (i + 1)) acc O3 fun acc O2 => R (.lst acc) (updO O2 a (.dic kvs)), fun H' hN => ?_, fun x H' hyy => ?_⟩
    · obtain ⟨F3, O3, acc3, vacc3, s3, g3, r3, q3⟩ := hN
      exact ⟨m - 1, by omega, F3, O3, acc3, vacc3, by omega, s3, g3, r3, q3⟩
    · obtain ⟨rfl, k, v, e3, rfl⟩ := hyy
      have e4 := keys_rep hkv e3
      rw [List.getElem?_eq_getElem hi] at e4
      cases e1 : patD p (keysD kvs)[i] (wipeD ρ vs) with
      | none => rw [e1] at q2; exact q2.elim
      | some ρ3 =>
        rw [e1] at q2
        refine pat_ok g2 p (keysD kvs)[i] _ (wipeD ρ vs) ρ3 (wipe σ vs) _ e1 (by rw [Option.some.inj e4]; exact keyD_rep k) ((en.mono (s1.trans s2)).wipes vs) fun σ4 en4 off => ?_
        refine ⟨wipe_off off hv, F2, O2, upd P D (.lst vacc), ρ3, _, g2, en4, q2, fun b O5 F5 H5 q5 s5 g5 => ?_⟩
        cases b with
        | true =>
          rw [if_pos rfl] at q5 ⊢
          refine ⟨F5, O5, upd P D (.lst vacc), ρ3, _, g5, en4.mono s5, q5, fun y O6 F6 H6 w q6 s6 g6 r6 => ?_⟩
          refine ⟨vacc, (g6.as D _ upd_same).2, by rw [← ra.length]; exact q6.1, F6, O6, acc ++ [y], vacc ++ [w], s2.trans (s5.trans s6), g6.asideSet (M.mono g1.rl (s2.trans (s5.trans s6)) (same_upd hPD)), (ra.mono (s5.trans s6)).append (.one r6), q6.2⟩
        | false =>
          rw [if_neg Bool.false_ne_true] at q5 ⊢
          exact ⟨F5, O5, acc, vacc, s2.trans s5, g5, ra.mono s5, q5⟩
  · rw [List.drop_eq_nil_of_le (by omega)] at q2
    unfold lcK at q2
    obtain ⟨e2, q2⟩ := q2
    refine .inl ⟨⟨cellH g2 e2, by omega⟩, cellH g2 e2, ?_⟩
    have g3 : Gd M K F2 (updO O2 a (.dic kvs)) (upd P D (.lst vacc)) (upd H2 a (.dK ws)) := g2.setO e2 ⟨ws, upd_same, hkv.mono (s1.trans s2)⟩
    obtain ⟨s4, g4⟩ := g3.asideFz hPD (M.mono g1.rl s2 (Same.refl _))
    refine po (.lst acc) _ _ _ _ q2 ((s1.trans s2).trans s4) g4 ?_
    simp only [Rep]
    exact ⟨D, vacc, rfl, upd_same, ra.mono s4⟩
theorem de_lcK {i0 : Nat} {vs : List Nat} (hc : X.calm = true) (hN : X.N.Nodup) (hi : DE M X iter (fVar i0)) (ok : BlkOk X.N X.env.scope scope own)
    (hg : ∀ (s : Shared) (H : Hp) (C : Addr) (cl : List (Str × Addr)) (fp : List Addr), DP (X.blk s H scope (compEnvC scope cl C X.env) fp) tg p) (ht : ∀ (s : Shared) (H : Hp) (C : Addr) (cl : List (Str × Addr)) (fp : List Addr), PTs (X.blk s H scope (compEnvC scope cl C X.env) fp) ifs (liftT M X.K ft))
    (he : ∀ (s : Shared) (H : Hp) (C : Addr) (cl : List (Str × Addr)) (fp : List Addr), DE M (X.blk s H scope (compEnvC scope cl C X.env) fp) elt fe) (hvs : own.map (·.2) = vs := by rfl) (hv : ((patI p).all fun i => vs.contains i) = true := by decide) (hs : ∀ x, foldedSetIterable iter X.env x = pure x := by intro _; rfl) :
    DE M X (.ListComp elt [⟨tg, iter, ifs, 0⟩] scope pos) (fLcK i0 p ft fe vs) := by
  subst hvs
  exact peMono (pe_lock (pe_lc (te := liftE M X.K fe) (g := patT X.K p) hc hN (pi_keys hi) ok hg ht he hs)) (fLcK_lift (pat_in hv))
end
theorem ap_fLcK (i : Nat) (p : Pat) (ft : FT) (fe : FE) (vs : List Nat) {ρ : DEnv} {O : Ow} {Q : VD} : fLcK i p ft fe vs ρ O Q = asDc ρ[i]? O fun a kvs =>
  ∀ o, lcK a (.dicL kvs o) p ft fe (wipeD ρ vs) (keysD kvs) [] (updO O a (.dicL kvs o)) fun acc O2 => Q (.lst acc) (updO O2 a (.dic kvs)) := rfl
theorem asDc_r {a : Addr} {kvs : List (Key × D)} {O : Ow} {N : Addr → List (Key × D) → Prop} (h : O a = some (.dic kvs)) : asDc (some (some (.ref a))) O N = N a kvs := by simp only [asDc, h]
/-- [.. for k in d], nothing owned changed -/
theorem lcK_map {α : Type} {a : Addr} {c : Cell} {p : Pat} {fe : FE} {ρ : DEnv} {O : Ow} (hO : O a = some c) (f g : α → D) : ∀ (xs : List α) (acc : List D) (Q : List D → Ow → Prop), acc.length + xs.length ≤ sizeLine →
    (∀ x ∈ xs, ∀ Q' : VD, Q' (g x) O → patGet (patD p (f x) ρ) fun ρ1 => fe ρ1 O Q') → Q (acc ++ xs.map g) O → lcK a c p fYes fe ρ (xs.map f) acc O Q
  | [], acc, Q, _, _, q => ⟨hO, by simpa using q⟩
  | x :: xs, acc, Q, hl, hs, q => by
    rw [List.length_cons] at hl
    have z := hs x List.mem_cons_self (fun e O2 => acc.length < sizeLine ∧ lcK a c p fYes fe ρ (xs.map f) (acc ++ [e]) O2 Q) ⟨by omega, lcK_map hO f g xs _ Q (by rw [List.length_append, List.length_singleton]; omega) (fun d' hd => hs d' (List.mem_cons_of_mem _ hd)) (by simpa using q)⟩
    rw [List.map_cons]
    unfold lcK
    refine ⟨hO, ?_⟩
    simpa [fYes] using z
theorem lcK_filter {α : Type} {a : Addr} {c : Cell} {p : Pat} {ft : FT} {fe : FE} {ρ : DEnv} {O : Ow} (hO : O a = some c) (b : α → Bool) (f g : α → D) : ∀ (xs : List α) (acc : List D) (Q : List D → Ow → Prop), acc.length + xs.length ≤ sizeLine →
    (∀ x ∈ xs, ∀ (Q1 : VD) (Q2 : Ow → Prop), (b x = true → Q1 (g x) O) → (b x = false → Q2 O) → patGet (patD p (f x) ρ) fun ρ1 => ft ρ1 O fun k O1 => if k = true then fe ρ1 O1 Q1 else Q2 O1) → Q (acc ++ (xs.filter b).map g) O → lcK a c p ft fe ρ (xs.map f) acc O Q
  | [], acc, Q, _, _, q => ⟨hO, by simpa using q⟩
  | x :: xs, acc, Q, hl, hs, q => by
    rw [List.length_cons] at hl
    have z := hs x List.mem_cons_self (fun e O2 => acc.length < sizeLine ∧ lcK a c p ft fe ρ (xs.map f) (acc ++ [e]) O2 Q) (fun O2 => lcK a c p ft fe ρ (xs.map f) acc O2 Q)
      (fun hb => ⟨by omega, lcK_filter hO b f g xs _ Q (by rw [List.length_append, List.length_singleton]; omega) (fun d' hd => hs d' (List.mem_cons_of_mem _ hd)) (by simpa [List.filter_cons, hb] using q)⟩)
      (fun hb => lcK_filter hO b f g xs _ Q (by omega) (fun d' hd => hs d' (List.mem_cons_of_mem _ hd)) (by simpa [List.filter_cons, hb] using q))
    rw [List.map_cons]
    unfold lcK
    exact ⟨hO, z⟩
/-! ### for k in d -/
def endsK (a : Addr) (c : Cell) (kvs : List (Key × D)) (R : DEnds) (N : DEnv → Ow → Prop) : DEnds :=
  { nx := N, ct := N, bk := fun ρ O => O a = some c ∧ R.nx ρ (updO O a (.dic kvs)), rt := fun d O => O a = some c ∧ R.rt d (updO O a (.dic kvs)) }
def forK (a : Addr) (c : Cell) (kvs : List (Key × D)) (p : Pat) (gb : GS) (R : DEnds) : List D → DEnv → Ow → Prop
  | [], ρ, O => O a = some c ∧ R.nx ρ (updO O a (.dic kvs))
  | d :: ds, ρ, O => O a = some c ∧ patGet (patD p d ρ) fun ρ1 => gb (endsK a c kvs R (forK a c kvs p gb R ds)) ρ1 O
def gForK (i : Nat) (p : Pat) (gb : GS) : GS := fun R ρ O => asDc ρ[i]? O fun a kvs => ∀ o, forK a (.dicL kvs o) kvs p gb R (keysD kvs) ρ (updO O a (.dicL kvs o))
theorem ap_gForK (i : Nat) (p : Pat) (gb : GS) {R : DEnds} {ρ : DEnv} {O : Ow} : gForK i p gb R ρ O = asDc ρ[i]? O fun a kvs => ∀ o, forK a (.dicL kvs o) kvs p gb R (keysD kvs) ρ (updO O a (.dicL kvs o)) := rfl
section
variable {X : Cx} {tg iter : Expr} {pos : Pos}
theorem ds_forK {i0 : Nat} {body : List Stmt} {p : Pat} {gb : GS} (hp : PassesOwn (model X.prog X.w) X.A X.env X.xe) (hc : X.calm = true) (hl : DE M X iter (fVar i0)) (hg : DP X tg p) (hb : DSs M X body gb)
    (hs : ∀ x, foldedSetIterable iter X.env x = pure x := by intro _; rfl) : DS M X (.For tg iter body [] pos) (gForK i0 p gb) := psMono (ps_lock (ps_for hp hc (pi_keys hl) hg hb hs)) fun D σ H h => by
  obtain ⟨F, O, P, ρ, R, g, en, q, po⟩ := h
  obtain ⟨a, kvs, e0, e, q⟩ := asDc_of q
  obtain ⟨hF, hP, ws, hH, hkv⟩ := g.ow a _ e
  refine ⟨a, .dK ws, hH, trivial, fun od => ?_⟩
  have q := q (.frz od (.dK ws))
  generalize hcc : Cell.dicL kvs (.frz od (.dK ws)) = c at q
  have g0 : Gd M X.K F (updO O a c) P (upd H a (.frz od (.dK ws))) := g.setO e (by rw [← hcc]; exact ⟨upd_same, od, ws, rfl, hkv⟩)
  refine ⟨F, updO O a c, P, ρ, fun d O' => d = .ref a ∧ O' = updO O a c, g0, en, by unfold fVar; rw [e0]; exact ⟨rfl, rfl⟩, fun x O1 F1 H1 v q1 s1 g1 r1 => ?_⟩
  obtain ⟨rfl, rfl⟩ := q1
  simp only [Rep] at r1
  subst r1
  have cellH : ∀ {F2 O2 P2 H2}, Gd M X.K F2 O2 P2 H2 → O2 a = some c → H2 a = some (.frz od (.dK ws)) := fun {F2 O2 P2 H2} g2 e2 => by
    have := (g2.ow a c e2).2.2
    rw [← hcc] at this
    exact this.1
  have back : ∀ {F2 O2 P2 H2}, Same F F2 → Gd M X.K F2 O2 P2 H2 → O2 a = some c → Gd M X.K F2 (updO O2 a (.dic kvs)) P2 (upd H2 a (.dK ws)) := fun {F2 O2 P2 H2} s g2 e2 => g2.setO e2 ⟨ws, upd_same, hkv.mono s⟩
  refine ⟨a, od, rfl, .inl ⟨ws, cellH g1 updO_same, ?_⟩⟩
  have hlen : ws.length = (keysD kvs).length := by unfold keysD; rw [List.length_map]; exact (Paired.length hkv).symm
  refine ⟨fun i m σ H => ∃ F2 O2 ρ2, i + m = (keysD kvs).length ∧ Same F1 F2 ∧ Gd M X.K F2 O2 P H ∧ EnvOk X.K F2 ρ2 σ ∧ forK a c kvs p gb R ((keysD kvs).drop i) ρ2 O2,
    ⟨(keysD kvs).length, F1, updO O a c, ρ, by omega, Same.refl _, g1, en.mono s1, by rw [List.drop_zero]; exact q⟩, fun i m σ2 H2 hW => ?_⟩
  obtain ⟨F2, O2, ρ2, hm, s2, g2, en2, q2⟩ := hW
  by_cases hi : i < (keysD kvs).length
  · rw [List.drop_eq_getElem_cons hi] at q2
    unfold forK at q2
    obtain ⟨e2, q2⟩ := q2
    refine .inr ⟨⟨cellH g2 e2, by omega⟩, fun σ' H' => ∃ F3 O3 ρ3, Same F1 F3 ∧ Gd M X.K F3 O3 P H' ∧ EnvOk X.K F3 ρ3 σ' ∧ forK a c kvs p gb R ((keysD kvs).drop (i + 1)) ρ3 O3, fun σ' H' hN => ?_, fun x H' hyy => ?_⟩
    · obtain ⟨F3, O3, ρ3, s3, g3, en3, q3⟩ := hN
      exact ⟨m - 1, by omega, F3, O3, ρ3, by omega, s3, g3, en3, q3⟩
    · obtain ⟨rfl, k, v, e3, rfl⟩ := hyy
      have e4 := keys_rep hkv e3
      rw [List.getElem?_eq_getElem hi] at e4
      cases e1 : patD p (keysD kvs)[i] ρ2 with
      | none => rw [e1] at q2; exact q2.elim
      | some ρ3 =>
        rw [e1] at q2
        refine pat_ok g2 p (keysD kvs)[i] _ ρ2 ρ3 σ2 _ e1 (by rw [Option.some.inj e4]; exact keyD_rep k) en2 fun σ4 en4 _ => ?_
        refine ⟨F2, O2, P, ρ3, _, g2, en4, q2, ⟨fun ρ5 O5 F5 H5 σ5 q5 s5 g5 en5 => ?_, fun d5 O5 F5 H5 v5 q5 s5 g5 r5 => ?_, fun ρ5 O5 F5 H5 σ5 q5 s5 g5 en5 => ?_, fun ρ5 O5 F5 H5 σ5 q5 s5 g5 en5 => ?_⟩⟩
        · exact ⟨F5, O5, ρ5, s2.trans s5, g5, en5, q5⟩
        · exact ⟨cellH g5 q5.1, po.rt d5 _ F5 _ v5 q5.2 (s1.trans (s2.trans s5)) (back (s1.trans (s2.trans s5)) g5 q5.1) r5⟩
        · exact ⟨cellH g5 q5.1, po.nx ρ5 _ F5 _ σ5 q5.2 (s1.trans (s2.trans s5)) (back (s1.trans (s2.trans s5)) g5 q5.1) en5⟩
        · exact ⟨F5, O5, ρ5, s2.trans s5, g5, en5, q5⟩
  · rw [List.drop_eq_nil_of_le (by omega)] at q2
    unfold forK at q2
    obtain ⟨e2, q2⟩ := q2
    exact .inl ⟨⟨cellH g2 e2, by omega⟩, cellH g2 e2, po.nx ρ2 _ F2 _ σ2 q2 (s1.trans s2) (back (s1.trans s2) g2 e2) en2⟩
end
end Kf
/-! Dl19: dict(pairs). -/
namespace Kf
open PySem PySem.Spec L2
open PyProof.Rows hiding St
variable {M : MX}
def asPair : D → Option (Key × D)
  | .tup [x, y] => (keyOf x).map fun k => (k, y)
  | _ => none
def asPairs : List D → Option (List (Key × D))
  | [] => some []
  | d :: ds => match asPair d, asPairs ds with
    | some kv, some r => some (kv :: r)
    | _, _ => none
def mergeD (kvs : List (Key × D)) (ls : List (Key × D)) : List (Key × D) := ls.foldl (fun r kv => putD r kv.1 kv.2) kvs
theorem pairs_rep {K : PySem.W.Frag} {F : Hp} : ∀ {ds : List D} {kvs : List (Key × D)} {vs : List V}, asPairs ds = some kvs → RepAll K F ds vs → ∃ (ps : List Addr) (ws : List (Key × V)), vs = ps.map V.ref ∧ Paired (fun p kv => SqT K F p [kV kv.1, kv.2]) ps ws ∧ KvOk K F kvs ws
  | [], kvs, vs, h, r => by
    simp only [asPairs, Option.some.injEq] at h
    simp only [RepAll] at r
    subst h r
    exact ⟨[], [], rfl, .nil, .nil⟩
  | d :: ds, kvs, vs, h, r => by
    simp only [RepAll] at r
    obtain ⟨v, r', rfl, r1, r2⟩ := r
    unfold asPairs at h
    split at h
    · rename_i kv rr e1 e2
      cases h
      obtain ⟨ps, ws, rfl, h1, h2⟩ := pairs_rep e2 r2
      unfold asPair at e1
      split at e1
      · rename_i x y
        cases hk : keyOf x with
        | none => rw [hk] at e1; cases e1
        | some k =>
          rw [hk] at e1
          cases e1
          simp only [Rep, RepAll] at r1
          obtain ⟨a, xs, rfl, hs, v1, _, rfl, rx, v2, _, rfl, ry, rfl⟩ := r1
          rw [keyOf_rep hk rx] at hs
          exact ⟨a :: ps, (k, v2) :: ws, rfl, .cons hs h1, .cons ⟨rfl, ry⟩ h2⟩
      · cases e1
    · cases h
theorem KvOk.merge {K : PySem.W.Frag} {F : Hp} {ls : List (Key × D)} {ws : List (Key × V)} (h : KvOk K F ls ws) : ∀ {kvs : List (Key × D)} {vs : List (Key × V)}, KvOk K F kvs vs → KvOk K F (mergeD kvs ls) (mergeK vs ws) := by
  induction h with
  | nil => intro kvs vs q; simpa [mergeD, mergeK] using q
  | @cons p1 q1 ps qs a _ ih =>
    intro kvs vs q
    have := ih (q.put (k := p1.1) a.2)
    obtain ⟨e, _⟩ := a
    simp only [mergeD, mergeK, List.foldl_cons] at this ⊢
    rw [e] at this ⊢
    exact this
section
variable {X : Cx}
def rDictP : RAD := fun ds O Q => match ds with
  | [x] => match deref O x with
    | .lst xs => match asPairs xs with
      | some kvs => ∀ p, O p = none → Q (.ref p) (updO O p (.dic (mergeD [] kvs)))
      | none => False
    | _ => False
  | _ => False
theorem cd_dictP (hc : X.calm = true) : CallD M X (.type "dict") rDictP := by
  refine callD_of fun F P H O xs ds R Q g r q po => ?_
  unfold rDictP at q
  split at q <;> first | exact q.elim | skip
  rename_i x
  obtain ⟨v, rfl, r1⟩ := r.one'
  have rd := g.deref r1
  split at q <;> first | exact q.elim | skip
  rename_i zs e
  rw [e] at rd
  split at q <;> first | exact q.elim | skip
  rename_i kvs e2
  obtain ⟨a, ws, rfl, hH, hr⟩ := (show ∃ a ws, v = .ref a ∧ H a = some (.lst ws) ∧ RepAll X.K F zs ws from rd)
  obtain ⟨ps, us, rfl, h1, h2⟩ := pairs_rep e2 hr
  refine ⟨_, call_dictP hc, a, ps, us, rfl, SqL.of hH, Paired.mapP h1 fun _ _ z => Same.seqT g.fz z, fun p hp => ?_⟩
  refine po (.ref p) _ F _ _ (q p (g.freeO hp)) (Same.refl _) (g.newO hp ⟨_, upd_same, h2.merge .nil⟩) (by simp only [Rep])
end
theorem rDictP_l {xs : List D} {kvs : List (Key × D)} {O : Ow} {Q : VD} (h : asPairs xs = some kvs) : rDictP [.lst xs] O Q = ∀ p, O p = none → Q (.ref p) (updO O p (.dic (mergeD [] kvs))) := by
  simp only [rDictP, deref, h]
/-! ### xs or ys, of lists -/
section
variable {X : Cx} {a b : Expr} {fa fb : FE} {rest : List Expr} {pos : Pos}
def rOrL (x : D) (O : Ow) (N : List D → Prop) : Prop := match deref O x with
  | .lst ds => N ds
  | _ => False
def fOrL (fa fb : FE) : FE := fun ρ O Q => fa ρ O fun x O1 => rOrL x O1 fun ds => if ds.isEmpty = true then fb ρ O1 Q else Q x O1
theorem de_orL (ha : DE M X a fa) (hb : DE M X (.BoolOp .Or (b :: rest) pos) fb) : DE M X (.BoolOp .Or (a :: b :: rest) pos) (fOrL fa fb) := by
  refine peMono (pe_orT ha hb) fun σ H Q h => ?_
  obtain ⟨F, O, P, ρ, R, g, en, q, po⟩ := h
  refine ⟨F, O, P, ρ, _, g, en, q, fun x O1 F1 H1 v q1 s1 g1 r1 => ?_⟩
  unfold rOrL at q1
  have rd := g1.deref r1
  split at q1 <;> first | exact q1.elim | skip
  rename_i ds e
  rw [e] at rd
  obtain ⟨c, ws, rfl, hH, hr⟩ := (show ∃ c ws, v = .ref c ∧ H1 c = some (.lst ws) ∧ RepAll X.K F1 ds ws from rd)
  have hl := hr.length
  refine ⟨!ws.isEmpty, ?_, ?_⟩
  · exact .inl ⟨ws, SqL.of hH, rfl⟩
  · have e2 : ds.isEmpty = ws.isEmpty := by cases ds <;> cases ws <;> simp at hl ⊢
    rw [e2] at q1
    cases hw : ws.isEmpty with
    | true =>
      rw [hw, if_pos rfl] at q1
      rw [if_neg (by simp)]
      exact ⟨F1, O1, P, ρ, R, g1, en.mono s1, q1, po.more s1⟩
    | false =>
      rw [hw, if_neg (by simp)] at q1
      rw [if_pos (by simp)]
      exact po x O1 F1 H1 _ q1 s1 g1 r1
end
theorem ap_fOrL (fa fb : FE) {ρ : DEnv} {O : Ow} {Q : VD} : fOrL fa fb ρ O Q = fa ρ O fun x O1 => rOrL x O1 fun ds => if ds.isEmpty = true then fb ρ O1 Q else Q x O1 := rfl
theorem rOrL_l {ds : List D} {O : Ow} {N : List D → Prop} : rOrL (.lst ds) O N = N ds := rfl
end Kf
/-! Dl20: tables of the module, unpacking of lists, ranges with a step. -/
namespace Kf
open PySem PySem.Spec L2
open PyProof.Rows hiding St
variable {M : MX}
/-! ### a table of texts by texts, of the module -/
def CDic (K : PySem.W.Frag) (w : World) (mg : Str → Option Value) (x : Str) (tab : List (Str × Str)) : Prop :=
  ∃ d es n, mg x = some (.ref d) ∧ KDict K w d es n ∧ Paired (fun (e : DictEntry) (q : Str × Str) => (∃ t, e.key = .str q.1 t) ∧ ∃ t, e.val = .str q.2 t) es.toList tab
def tabF (tab : List (Str × Str)) (z : Str) : Option Str := (tab.find? fun q => decide (q.1 = z)).map (·.2)
theorem find_tab {es : List DictEntry} {tab : List (Str × Str)} (h : Paired (fun (e : DictEntry) (q : Str × Str) => (∃ t, e.key = .str q.1 t) ∧ ∃ t, e.val = .str q.2 t) es tab) (z : Str) :
    (tabF tab z = none ∧ (es.find? fun e => Value.isStrOf z e.key).map (·.val) = none) ∨ ∃ y t, tabF tab z = some y ∧ (es.find? fun e => Value.isStrOf z e.key).map (·.val) = some (.str y t) := by
  induction h with
  | nil => exact .inl ⟨rfl, rfl⟩
  | @cons e q es qs a _ ih =>
    obtain ⟨⟨t, ek⟩, t2, ev⟩ := a
    have hs : Value.isStrOf z e.key = decide (q.1 = z) := by
      rw [ek]
      show (q.1 == z) = _
      exact str_beq ..
    unfold tabF at ih ⊢
    rw [List.find?_cons, List.find?_cons, hs]
    by_cases c : q.1 = z
    · rw [decide_eq_true c]
      exact .inr ⟨q.2, t2, rfl, by simp [ev]⟩
    · rw [decide_eq_false c]
      exact ih
section
variable {X : Cx} {x : Str} {tab : List (Str × Str)} {e i a : Expr} {fe fi fa : FE} {pos pos' apos cpos p2 : Pos}
theorem CDic.map {d : Addr} {es : Array DictEntry} {n : Nat} (D : KDict X.K X.w d es n) (hp : Paired (fun (e : DictEntry) (q : Str × Str) => (∃ t, e.key = .str q.1 t) ∧ ∃ t, e.val = .str q.2 t) es.toList tab) (z : Str) :
    (tabF tab z = none ∧ findBy Value.isStrOf es z = none) ∨ ∃ y t, tabF tab z = some y ∧ findBy Value.isStrOf es z = some (.str y t) := by
  have h := find_tab hp z
  obtain ⟨l⟩ := es
  unfold findBy
  rw [List.find?_toArray]
  exact h
def tabD (tab : List (Str × Str)) (z : Str) : D := match tabF tab z with
  | some y => .str y
  | none => .non
def asStr (d : D) (N : Str → Prop) : Prop := match d with
  | .str z => N z
  | _ => False
/-- T.get(w) -/
def fKGet (tab : List (Str × Str)) (fe : FE) : FE := fun ρ O Q => fe ρ O fun d O1 => asStr d fun z => Q (tabD tab z) O1
theorem de_kget (c : CDic X.K X.w X.mg x tab) (hg : Gl X x) (he : DE M X e fe) (m : M1 X (.Name x pos) "get" apos e cpos := by exact ⟨by rfl, by rfl, by rfl, by rfl⟩) (hd : (x == ("__debug__" : Str)) = false := by decide) :
    DE M X (.Call (.Attribute (.Name x pos) "get" apos) [e] [] cpos) (fKGet tab fe) := by
  obtain ⟨d, es, n, hm, D, hp⟩ := c
  refine ⟨fun pins s σ H Q I h => ?_⟩
  refine wpAny_Call_method m.base m.few m.line PySem.F.plainAttrs_dict PySem.F.slot_dict_get PySem.F.type_dict_get (thn ((pe_glob (pos := pos) hg hm (v := .ref d) rfl hd).run pins s σ H (fun v H' => v = .ref d ∧ H' = H) I ⟨rfl, rfl⟩) fun u s1 ⟨x1, H1, I1, rx, ex, eH⟩ => ?_)
  subst ex eH
  obtain rfl : u = Value.ref d := rx
  have mo := PySem.W.mapOf_K (prog := X.prog) (w := X.w) I1.kIn D.at_ D.lit
  refine ⟨mo.typeIs, mo.noDict, ?_⟩
  rw [m.trees]
  refine Calls.callWith_builtin rfl (Calls.evalArgs_plain (Calls.spliced_cons (thn (he.run pins s1 σ H1 (fun v H' => ∃ z, v = .str z ∧ Q (match tabF tab z with | some y => .str y | none => .non) H') I1 ?_) fun iv s2 ⟨y, H2, I2, ry, z, ey, q2⟩ => Calls.spliced_nil ?_)))
  · obtain ⟨F, O, P, ρ, R, g, en, q, po⟩ := h
    refine ⟨F, O, P, ρ, _, g, en, q, fun d1 O1 F1 H1 v q1 s1 g1 r1 => ?_⟩
    unfold asStr at q1
    split at q1 <;> first | exact q1.elim | skip
    rename_i z
    simp only [Rep] at r1
    refine ⟨z, r1, ?_⟩
    unfold tabD at q1
    cases hz : tabF tab z with
    | none => rw [hz] at q1; exact po _ O1 F1 H1 _ q1 s1 g1 (by simp only [Rep])
    | some y => rw [hz] at q1; exact po _ O1 F1 H1 _ q1 s1 g1 (by simp only [Rep])
  · subst ey
    obtain ⟨t, rfl⟩ := ry
    have mo2 := PySem.W.mapOf_K (prog := X.prog) (w := X.w) I2.kIn D.at_ D.lit
    refine call_meetsIn PySem.F.slot_dict_get mo2.typeIs PySem.F.entry_dict_get (PySem.F.args_dict_get_2 _ _) (meets_dict_get (strKind X.prog X.w) d (PySem.strKind_is X.prog X.w z t) D.low) ⟨_, mo2, ?_⟩
    rcases CDic.map D hp z with ⟨e1, e2⟩ | ⟨y, t2, e1, e2⟩
    · rw [e1] at q2
      rw [e2]
      exact ⟨.non, H2, I2.tok _, rfl, q2⟩
    · rw [e1] at q2
      rw [e2]
      exact ⟨.str y, H2, I2.tok _, ⟨t2, rfl⟩, q2⟩
theorem ap_fKGet (tab : List (Str × Str)) (fe : FE) {ρ : DEnv} {O : Ow} {Q : VD} : fKGet tab fe ρ O Q = fe ρ O fun d O1 => asStr d fun z => Q (tabD tab z) O1 := rfl
theorem asStr_s {z : Str} {N : Str → Prop} : asStr (.str z) N = N z := rfl
/-- w in T -/
def fKIn (tab : List (Str × Str)) (fa : FE) : FE := fun ρ O Q => fa ρ O fun d O1 => asStr d fun z => Q (.bl (tabF tab z).isSome) O1
theorem fKIn_lift {d : Addr} {es : Array DictEntry} {n : Nat} (hp : Paired (fun (e : DictEntry) (q : Str × Str) => (∃ t, e.key = .str q.1 t) ∧ ∃ t, e.val = .str q.2 t) es.toList tab) (D : KDict X.K X.w d es n) : ∀ σ H Q, liftE M X.K (fKIn tab fa) σ H Q →
    tOp (fun x y H Q => ∃ (z : Str), x = .str z ∧ y = .ref d ∧ Q (.bl (tabF tab z).isSome) H) (liftE M X.K fa) (fun σ H Q => Q (.ref d) H) σ H Q := fun σ H Q h => by
  obtain ⟨F, O, P, ρ, R, g, en, q, po⟩ := h
  refine ⟨F, O, P, ρ, _, g, en, q, fun d1 O1 F1 H1 v q1 s1 g1 r1 => ?_⟩
  unfold asStr at q1
  split at q1 <;> first | exact q1.elim | skip
  rename_i z
  simp only [Rep] at r1
  exact ⟨z, r1, rfl, po _ O1 F1 H1 _ q1 s1 g1 (by simp only [Rep])⟩
theorem op_kin {d : Addr} {es : Array DictEntry} {n : Nat} (hp : Paired (fun (e : DictEntry) (q : Str × Str) => (∃ t, e.key = .str q.1 t) ∧ ∃ t, e.val = .str q.2 t) es.toList tab) (D : KDict X.K X.w d es n) :
    OpR X (compareOp .In) (fun x y H Q => ∃ (z : Str), x = .str z ∧ y = .ref d ∧ Q (.bl (tabF tab z).isSome) H) := by
  intro pins s σ H x y v u Q I rx ry h
  obtain ⟨z, rfl, rfl, q⟩ := h
  obtain ⟨t, rfl⟩ := rx
  cases ry
  refine wpAny_in_of (PySem.strKind_is X.prog X.w z t) D.low (PySem.W.mapOf_K (prog := X.prog) I.kIn D.at_ D.lit) ?_
  rcases CDic.map D hp z with ⟨e1, e2⟩ | ⟨y, t2, e1, e2⟩
  · rw [e2]
    rw [e1] at q
    exact ⟨.bl false, H, I.tok _, rfl, q⟩
  · rw [e2]
    rw [e1] at q
    exact ⟨.bl true, H, I.tok _, rfl, q⟩
theorem de_kin (c : CDic X.K X.w X.mg x tab) (hg : Gl X x) (ha : DE M X a fa) (hm : behindInMarks .In (.Name x p2) = false := by rfl) (hd : (x == ("__debug__" : Str)) = false := by decide) :
    DE M X (.Compare a [.In] [.Name x p2] pos) (fKIn tab fa) := by
  obtain ⟨d, es, n, hmg, D, hp⟩ := c
  exact peMono (pe_cmpR (op_kin hp D) ha (pe_glob hg hmg (v := .ref d) rfl hd) hm) (fKIn_lift hp D)
theorem dt_kin (c : CDic X.K X.w X.mg x tab) (hg : Gl X x) (ha : DE M X a fa) (hm : behindInMarks .In (.Name x p2) = false := by rfl) (hd : (x == ("__debug__" : Str)) = false := by decide) :
    DT M X (.Compare a [.In] [.Name x p2] pos) (fTest (fKIn tab fa)) := by
  obtain ⟨d, es, n, hmg, D, hp⟩ := c
  exact ptMono (pt_cmpR (op_kin hp D) ha (pe_glob hg hmg (v := .ref d) rfl hd) hm) (tTest_lift (fKIn_lift hp D))
theorem ap_fKIn (tab : List (Str × Str)) (fa : FE) {ρ : DEnv} {O : Ow} {Q : VD} : fKIn tab fa ρ O Q = fa ρ O fun d O1 => asStr d fun z => Q (.bl (tabF tab z).isSome) O1 := rfl
/-- T[w] -/
def asSome (o : Option Str) (N : Str → Prop) : Prop := match o with
  | some y => N y
  | none => False
def fKIx (tab : List (Str × Str)) (fi : FE) : FE := fun ρ O Q => fi ρ O fun d O1 => asStr d fun z => asSome (tabF tab z) fun y => Q (.str y) O1
theorem de_kix (c : CDic X.K X.w X.mg x tab) (hg : Gl X x) (hi : DE M X i fi) (hs : NoSl i := by intro _ _; rfl) (hd : (x == ("__debug__" : Str)) = false := by decide) :
    DE M X (.Subscript (.Name x p2) i pos) (fKIx tab fi) := by
  obtain ⟨d, es, n, hmg, D, hp⟩ := c
  refine ⟨fun pins s σ H Q I h => ?_⟩
  refine subD_of PySem.F.slot_dict_getitem.lookup hs (thn ((pe_glob (pos := p2) hg hmg (v := .ref d) rfl hd).run pins s σ H (fun v H' => v = .ref d ∧ H' = H) I ⟨rfl, rfl⟩) fun u s1 ⟨x1, H1, I1, rx, ex, eH⟩ => ?_)
  subst ex eH
  obtain rfl : u = Value.ref d := rx
  refine thn (hi.run pins s1 σ H1 (fun v H' => ∃ z y, v = .str z ∧ tabF tab z = some y ∧ Q (.str y) H') I1 ?_) fun iv s2 ⟨y, H2, I2, ry, z, yy, ey, e1, q2⟩ => ?_
  · obtain ⟨F, O, P, ρ, R, g, en, q, po⟩ := h
    refine ⟨F, O, P, ρ, _, g, en, q, fun d1 O1 F1 H1 v q1 s1 g1 r1 => ?_⟩
    unfold asStr at q1
    split at q1 <;> first | exact q1.elim | skip
    rename_i z
    simp only [Rep] at r1
    cases hz : tabF tab z with
    | none => rw [hz] at q1; exact q1.elim
    | some y => rw [hz] at q1; exact ⟨z, y, r1, hz, po _ O1 F1 H1 _ q1 s1 g1 (by simp only [Rep])⟩
  · subst ey
    obtain ⟨t, rfl⟩ := ry
    have mo2 := PySem.W.mapOf_K (prog := X.prog) (w := X.w) I2.kIn D.at_ D.lit
    refine ⟨mo2.typeIs, ?_⟩
    rcases CDic.map D hp z with ⟨e3, e2⟩ | ⟨y, t2, e3, e2⟩
    · rw [e1] at e3; cases e3
    · rw [e1] at e3
      cases e3
      exact wpAny_getItem_of (PySem.strKind_is X.prog X.w z t) mo2 e2 ⟨.str yy, H2, I2.tok _, ⟨t2, rfl⟩, q2⟩
theorem ap_fKIx (tab : List (Str × Str)) (fi : FE) {ρ : DEnv} {O : Ow} {Q : VD} : fKIx tab fi ρ O Q = fi ρ O fun d O1 => asStr d fun z => asSome (tabF tab z) fun y => Q (.str y) O1 := rfl
end
/-! ### (a, b, ..) = a list -/
section
variable {X : Cx} {e : Expr} {es : List Expr} {fe : FE} {pos p2 : Pos}
def rUnl (d : D) (O : Ow) (N : List D → Prop) : Prop := match deref O d with
  | .lst ds => N ds
  | _ => False
def gAsgL (fe : FE) (ps : List Pat) : GS := fun R ρ O => fe ρ O fun d O1 => rUnl d O1 fun ds => patGet (patDs ps ds ρ) fun ρ' => R.nx ρ' O1
theorem ds_asgL {k : Nat} {ps : List Pat} (hc : X.calm = true) (he : DE M X e fe) (hg : DPs X es ps) (hs : swapsWithSole [.Tuple es k p2] e pos.line X.env = pure false := by rfl) (hw : swappedStores [.Tuple es k p2] e X.env = pure none := by rfl) (h1 : (assignEach [.Tuple es k p2] X.env).map (·.2) = [assign (.Tuple es k p2) X.env] := by rfl)
    (hn : (assignEach es X.env).length = ps.length := by rfl) (hst : (assignEach es X.env).findIdx? (·.1) = none := by rfl) : DS M X (.Assign [.Tuple es k p2] e pos) (gAsgL fe ps) :=
  psMono (ps_asg he (pg_unl hc hg hn hst) hs hw h1) fun D σ H h => by
    obtain ⟨F, O, P, ρ, R, g, en, q, po⟩ := h
    refine ⟨F, O, P, ρ, _, g, en, q, fun d O1 F1 H1 v q1 s1 g1 r1 => ?_⟩
    unfold rUnl at q1
    have rd := g1.deref r1
    split at q1 <;> first | exact q1.elim | skip
    rename_i ds e0
    rw [e0] at rd
    obtain ⟨c, ws, rfl, hH, hr⟩ := (show ∃ c ws, v = .ref c ∧ H1 c = some (.lst ws) ∧ RepAll X.K F1 ds ws from rd)
    cases e1 : patDs ps ds ρ with
    | none => rw [e1] at q1; exact q1.elim
    | some ρ' =>
      rw [e1] at q1
      exact ⟨c, ws, rfl, SqL.of hH, by rw [← hr.length, patDs_length e1], pats_ok g1 ps ds ws ρ ρ' σ _ e1 hr (en.mono s1) fun σ' en' _ => po.nx ρ' O1 F1 H1 σ' q1 s1 g1 en'⟩
theorem ap_gAsgL (fe : FE) (ps : List Pat) {R : DEnds} {ρ : DEnv} {O : Ow} : gAsgL fe ps R ρ O = fe ρ O fun d O1 => rUnl d O1 fun ds => patGet (patDs ps ds ρ) fun ρ' => R.nx ρ' O1 := rfl
theorem rUnl_l {ds : List D} {O : Ow} {N : List D → Prop} : rUnl (.lst ds) O N = N ds := rfl
end
/-! ### range(i, j, c) -/
section
variable {X : Cx} {tg a b c : Expr} {fr : FA} {p pos : Pos}
def rangeC (lo c : Int) (n : Nat) : List D := (List.range n).map fun i => .int (lo + (i : Nat) * c)
theorem itOk_rangeC {K : PySem.W.Frag} {F : Hp} (lo c : Int) (n : Nat) : ItOk M K F (Itc lo c n) (rangeC lo c n) := fun F2 O2 P2 H2 s2 g2 i => by
  refine ⟨fun d e => ?_, fun hi => ?_⟩
  · unfold rangeC at e
    rw [List.getElem?_map] at e
    obtain ⟨j, e1, rfl⟩ := Option.map_eq_some_iff.mp e
    obtain ⟨h1, h2⟩ := List.getElem?_eq_some_iff.mp e1
    rw [List.getElem_range] at h2
    subst h2
    rw [List.length_range] at h1
    refine ⟨h1, fun x H3 hy => ?_⟩
    obtain ⟨rfl, rfl⟩ := hy
    exact ⟨F2, Same.refl _, g2, by simp only [Rep]⟩
  · unfold rangeC at hi
    rw [List.length_map, List.length_range] at hi
    exact hi
def asR3 (ds : List D) (O : Ow) (Q : List D → Ow → Prop) : Prop := match ds with
  | [.int i, .int j, .int c] => ∃ n, RgC i j c n ∧ Q (rangeC i c n) O
  | _ => False
def fiRng3 (fr : FA) : FI := fun ρ O Q => fr ρ O fun ds O1 => asR3 ds O1 Q
theorem di_range3 (hg : Gl X "range") (hm : X.mg "range" = none) (ha : DA M X [a, b, c] fr)
    (hs : starEach [a, b, c] X.env = (false, eval a X.env) :: starEach [b, c] X.env := by rfl) (hpl : (backTo pos (starEach [b, c] X.env)).any (·.1) = false := by rfl) :
    DI M X tg (.Call (.Name "range" p) [a, b, c] [] pos) (fiRng3 fr) := piMono (pi_range3 hg hm ha hs hpl) fun σ H Q h => by
  obtain ⟨F, O, P, ρ, R, g, en, q, po⟩ := h
  refine ⟨F, O, P, ρ, _, g, en, q, fun ds O1 F1 H1 vs q1 s1 g1 r1 => ?_⟩
  unfold asR3 at q1
  split at q1
  · rename_i i j k
    obtain ⟨n, h1, h2⟩ := q1
    simp only [RepAll, Rep] at r1
    obtain ⟨_, _, rfl, rfl, _, _, rfl, rfl, _, _, rfl, rfl, rfl⟩ := r1
    exact ⟨i, j, k, n, rfl, h1, po _ O1 F1 H1 _ h2 s1 g1 (itOk_rangeC _ _ _)⟩
  · exact q1.elim
theorem ap_fiRng3 (fr : FA) {ρ : DEnv} {O : Ow} {Q : List D → Ow → Prop} : fiRng3 fr ρ O Q = fr ρ O fun ds O1 => asR3 ds O1 Q := rfl
theorem asR3_i {i j c : Int} {O : Ow} {Q : List D → Ow → Prop} : asR3 [.int i, .int j, .int c] O Q = ∃ n, RgC i j c n ∧ Q (rangeC i c n) O := rfl
end
/-! ### a text split, the list changes -/
section
variable {X : Cx}
def rSplitO : RMD := fun x ds O Q => match x, ds with
  | .str a, [.str b] => (b.length == 0) = false ∧ a.length + 2 ≤ sizeLine ∧ ∀ p, O p = none → Q (.ref p) (updO O p (.lst ((Txt.split a b).map .str)))
  | _, _ => False
theorem md_splitO : MtD M X "str.split" rSplitO := by
  refine mtD_of fun F P H O x xs dx ds R Q g r1 r2 q po => ?_
  unfold rSplitO at q
  split at q <;> first | exact q.elim | skip
  rename_i a b
  obtain ⟨v, rfl, r2'⟩ := r2.one'
  simp only [Rep] at r1 r2'
  subst r1 r2'
  exact ⟨_, mt_split, a, b, rfl, rfl, q.1, q.2.1, fun p hp => po.lstO g q.2.2 .of_strs hp⟩
theorem rSplitO_s {a b : Str} {O : Ow} {Q : VD} : rSplitO (.str a) [.str b] O Q = ((b.length == 0) = false ∧ a.length + 2 ≤ sizeLine ∧ ∀ p, O p = none → Q (.ref p) (updO O p (.lst ((Txt.split a b).map .str)))) := rfl
end
end Kf
/-! Dl21: enumerate(tuple). -/
namespace PySem
open Sem (wp)
open AutoSeq1 (wpAny_loadPart')
theorem meets_enumT (l : Addr) (items : Array Value) (n : Nat) (dct : Option Addr) (sl : Array (Option Value)) :
    Meets (Builtin.«enumerate.__new__» ⟨[.type "enumerate", .ref l], []⟩) (fun _ R s => s.heap.get? l = some { cls := .type "tuple", dict := dct, data := .seq items n, slots := sl } ∧
      R (.ok (.ret (.ref (s.heap.push { cls := .type "tuple_iterator", data := .fields #[.ref l, .int 0 0] }).objs.size)))
        { s with heap := (s.heap.push { cls := .type "tuple_iterator", data := .fields #[.ref l, .int 0 0] }).push { cls := .type "enumerate", data := .fields #[.none, .bool false, .ref s.heap.objs.size, rawInt 0, .none, .none] } }) :=
  .of_wp fun prog w A R s h => by
    obtain ⟨hp, g, d, tk, os⟩ := s; obtain ⟨hl, h⟩ := h
    have hsub := sub_enumerate
    have hL : Heap.IsTuple (Shared.heap ⟨hp, g, d, tk, os⟩) l items := ⟨_, hl, rfl, n, rfl⟩
    wp_walk using wpAny_loadPart' hl
    refine wpAny_stack_any fun st => wpAny_pure ?_
    split
    · rename_i c _ _ _ _ _
      cases (c == Value.type "enumerate")
      · wp_walk using wpAny_loadPart' hl, wpAny_pyIter_tuple hL
        exact ⟨_, rfl, h⟩
      · wp_walk using wpAny_loadPart' hl, wpAny_pyIter_tuple hL
        exact ⟨_, rfl, h⟩
    · wp_walk using wpAny_loadPart' hl, wpAny_pyIter_tuple hL
      exact ⟨_, rfl, h⟩
theorem call_enumT {prog : Program} {w : World} {A : Around} {E : Value → Shared → Prop} {s : Shared} {l : Addr} {items : Array Value} {Q : Value → Shared → Prop} (hL : s.heap.IsTuple l items)
    (h : ∀ h', IsEnum h' (s.heap.objs.size + 1) s.heap.objs.size 0 .none → h'.IsTupleIter s.heap.objs.size l 0 → h'.objs.size = s.heap.objs.size + 2 →
      (∀ b o, s.heap.get? b = some o → h'.get? b = some o) → Q (.ref (s.heap.objs.size + 1)) { s with heap := h' }) :
    wpAny (model prog w) A (call (.type "enumerate") [.ref l]) Q E s := by
  obtain ⟨⟨c, dct, dt, sl⟩, hl, hc, n, hd⟩ := hL
  replace hc : c = .type "tuple" := hc
  replace hd : dt = .seq items n := hd
  subst hc hd
  refine callType_new F.called_enumerate (by decide) (F.typeCall_enumerate_1 _) (F.newCall_enumerate_1 _) (fun obj => F.args_object_init_2 obj _) F.entry_enumerate_new
    (meets_enumT l items n dct sl) ⟨hl, ?_⟩
  have hz : (s.heap.push { cls := .type "tuple_iterator", data := .fields #[.ref l, .int 0 0] }).objs.size = s.heap.objs.size + 1 := Heap.size_push ..
  show _ ∧ _
  rw [hz]
  have he : IsEnum ((s.heap.push { cls := .type "tuple_iterator", data := .fields #[.ref l, .int 0 0] }).push
      { cls := .type "enumerate", data := .fields #[.none, .bool false, .ref s.heap.objs.size, rawInt 0, .none, .none] }) (s.heap.objs.size + 1) s.heap.objs.size 0 .none := by
    have := Heap.get?_push_size (s.heap.push { cls := .type "tuple_iterator", data := .fields #[.ref l, .int 0 0] })
      (o := { cls := .type "enumerate", data := .fields #[.none, .bool false, .ref s.heap.objs.size, rawInt 0, .none, .none] }) rfl
    rw [hz] at this; exact this
  refine ⟨⟨_, he, rfl⟩, h _ he ⟨_, Heap.get?_push_of_some _ (Heap.get?_push_size _ rfl), rfl, rfl⟩ (by rw [Heap.size_push, hz]) fun b o x => Heap.get?_push_of_some _ (Heap.get?_push_of_some _ x)⟩
theorem enumT_end {prog : Program} {w : World} {A : Around} {E : Value → Shared → Prop} {s : Shared} {e it a : Addr} {i : Nat} {c : Int} {items : Array Value} {old : Value} {Q : Option Value → Shared → Prop} (hh : A.handled = none) (he : IsEnum s.heap e it c old)
    (hit : s.heap.IsTupleIter it a i) (hT : s.heap.IsTuple a items) (hx : items[i]? = none) (hQ : ∀ h', Heap.ExtBut it s.heap h' → Q none { s with heap := h' }) : wpAny (model prog w) A (pyNext (.ref e)) Q E s := by
  have hE : s.TypeIs (.ref e) "enumerate" := ⟨_, he, rfl⟩
  unfold pyNext
  refine wpAny_bind (wpAny_attempt (wpAny_callSpecial?_slot (name := Str.ofString "__next__") hE F.slot_enumerate_next
    (wpAny_call_entry F.slot_enumerate_next hE F.entry_enumerate_next ?_ (F.args_enumerate_next_1 _))))
  show wpAny _ _ (field (.ref e) 2 >>= _) _ _ _
  refine wpAny_bind (wpAny_field he rfl (x := .ref it) rfl ?_)
  refine wpAny_bind (wpAny_nextOf_tuple_end (A := A.in1) hh hit hT hx fun h' x he' hx' => ?_)
  obtain ⟨o, ho, hc⟩ := hx'
  refine wpAny_bind (wpAny_isInstance (T := "StopIteration") (b := true) ⟨o, ho, hc⟩ isSubtype_stop ?_)
  exact wpAny_pure (hQ _ he')
end PySem
namespace Kf
open PySem PySem.Spec L2
open PyProof.Rows hiding St
/-- a tuple that stays, each item in a new pair -/
def IteT (K : PySem.W.Frag) (a : Addr) : It :=
  ⟨fun i H => ∃ (xs : List V) (x : V), SqT K H a xs ∧ xs[i]? = some x, fun i H v H' => ∃ T x, v = .ref T ∧ H T = none ∧ H' = upd H T (.tup [.int (i : Nat), x]) ∧ ∀ xs, SqT K H a xs → xs[i]? = some x, fun i H => ∃ xs : List V, SqT K H a xs ∧ xs.length ≤ i⟩
theorem turn_enumT {P : Program} {w : World} {K : PySem.W.Frag} {elts : List Expr} {kk : Nat} {tpos : Pos} (a e it : Addr) :
    Turn P w K (.Tuple elts kk tpos) (IteT K a) [e, it] e (fun i h => (∃ old, IsEnum h e it ((i : Nat) : Int) old) ∧ h.IsTupleIter it a i ∧ e ≠ it) where
  mem := by simp
  obj := fun i h st b hb => by
    obtain ⟨⟨old, he⟩, ⟨o, ho, hc, hd⟩, _⟩ := st
    have e' : b = e ∨ b = it := by simpa using hb
    rcases e' with z | z
    · rw [z]; exact ⟨_, he, fun v q => nomatch q⟩
    · rw [z]; exact ⟨o, ho, fun v q => by rw [hd] at q; cases q⟩
  keep := fun i h h' st k => let ⟨⟨old, he⟩, hi, hne⟩ := st; ⟨⟨old, k e (by simp) _ he⟩, hi.at fun o q => k it (by simp) o q, hne⟩
  item := by
    intro X hP hw hK hc i pins s σ H E I hf st hg
    subst hP hw hK
    obtain ⟨⟨old, he⟩, hit, hne⟩ := st
    obtain ⟨xs, x, hq, hx⟩ := hg
    obtain ⟨its, rv, p, hz⟩ := I.tuple hq
    obtain ⟨u, hu, ru⟩ := rv.get hx
    have hel : e < s.heap.objs.size := Heap.lt_size he
    have hil : it < s.heap.objs.size := by obtain ⟨_, q, _⟩ := hit; exact Heap.lt_size q
    have hT : s.heap.IsTuple a its.toArray := p
    have hai : a ≠ it := fun z => by
      obtain ⟨o1, e1, c1, _⟩ := hT
      obtain ⟨o2, e2, c2, _⟩ := hit
      rw [z, e2] at e1
      cases e1
      rw [c1] at c2
      exact absurd c2 (by decide)
    have hae : e ≠ a := fun z => by
      obtain ⟨o1, e1, c1, _⟩ := hT
      have he' : s.heap.get? e = _ := he
      rw [z, e1] at he'
      cases he'
      exact absurd (show Value.type "enumerate" = Value.type "tuple" from c1) (by decide)
    have hi : i < its.toArray.size := by
      have := (List.getElem?_eq_some_iff.mp hu).1
      simpa using this
    refine wpAny_pyNext_enum_itemD (Draws.tuple (A := X.A.in1) (I.ok.hd hc) it a hai its.toArray) he ⟨hit, hT⟩ hi hne (by simp [hne, hae]) fun x' h' tk hP ho hit' hT' hsz hk => ?_
    have ex : x' = u := by
      rw [show its.toArray[i]? = its[i]? by simp, hu] at hP
      exact (Option.some.inj hP).symm
    subst ex
    refine ⟨_, rfl, wpAny_letOwnedTupleGo_enum (s := { s with heap := h', toks := tk + 1 }) ho fun h'' he' sb => ?_⟩
    have hT2 : h''.get? s.heap.objs.size = some { cls := .type "tuple", data := .seq #[.int i tk, x'] } := (sb.2 _ (Nat.ne_of_gt hel)).trans hT'
    have new : ObjOk X.prog X.w (upd H s.heap.objs.size (.tup [.int (i : Nat), x])) h'' s.heap.objs.size (.tup [.int (i : Nat), x]) :=
      ⟨by show 2 ≤ sizeLine; decide, [.int i tk, x'], .cons ⟨_, rfl⟩ (.cons ru .nil), ⟨_, hT2, rfl, _, rfl⟩⟩
    have I1 : Inv X pins σ (upd H s.heap.objs.size (.tup [.int (i : Nat), x])) { s with heap := h'', toks := tk + 1 } :=
      I.turnedNew (ch := [e, it]) (fun b ob hb q => (sb.2 b (fun z => hb (by simp [z]))).trans (hk b ob (fun z => hb (by simp [z])) (fun z => hb (by simp [z])) q)) hf (Nat.le_refl _) new
    refine ⟨.ref s.heap.objs.size, _, I1, rfl, ⟨_, x, rfl, I.hok.fresh (Nat.le_refl _), rfl, fun ys hy => by rw [I.tuple_inj hy hq]; exact hx⟩, ⟨⟨x', ?_⟩, hit'.1.at fun o q => (sb.2 it (Ne.symm hne)).trans q, hne⟩, fun b hb => ?_⟩
    · have e1 : ((i + 1 : Nat) : Int) = (i : Int) + 1 := by omega
      rw [e1]; exact he'
    · have hb' : b < s.heap.objs.size := by
        have e' : b = e ∨ b = it := by simpa using hb
        rcases e' with z | z
        · rw [z]; exact hel
        · rw [z]; exact hil
      rw [upd_ne (Nat.ne_of_lt hb')]
      exact (hf b hb).1
  done := by
    intro X hP hw hK hc i pins s σ H E I hf st hg
    subst hP hw hK
    obtain ⟨⟨old, he⟩, hit, hne⟩ := st
    obtain ⟨xs, hq, hx⟩ := hg
    obtain ⟨its, rv, p, hz⟩ := I.tuple hq
    obtain ⟨f0, f1, f2, f3, f4, f5⟩ := hf it (by simp)
    have hl := rv.length
    have hT : s.heap.IsTuple a its.toArray := p
    exact enumT_end (I.ok.hd hc) he hit hT (by simp; omega) fun h' eb => ⟨rfl, I.turned (t' := s.toks) (fun b o hb q => eb b o hb q) f0 f1 f3 f4 f5⟩
  self := fun A i s Q E st h => let ⟨⟨_, he⟩, _⟩ := st; wpAny_pyIter_enum he h
def iEnumT (K : PySem.W.Frag) (ta : TA) : TI := fun σ H R => ta σ H fun vs H1 => ∃ a xs, vs = [.ref a] ∧ SqT K H1 a xs ∧ R (IteT K a) H1
theorem pi_enumT {X : Cx} {e : Expr} {ta : TA} {p pos tpos : Pos} {elts : List Expr} {kk : Nat} (hg : Gl X "enumerate") (hm : X.mg "enumerate" = none) (ha : PA X [e] ta) (hs : starEach [e] X.env = [(false, eval e X.env)] := by rfl) :
    PI X (.Tuple elts kk tpos) (.Call (.Name "enumerate" p) [e] [] pos) (iEnumT X.K ta) := by
  refine ⟨fun pins s σ H R I h => ?_⟩
  refine Call_ (ld_blt I hg hm boot_enumerate (PyProof.Rows.callWith_type1 (thn (ha.run pos pins s σ H _ I h) fun us s1 ⟨vs, H1, I1, r1, q1⟩ => ?_) hs rfl))
  obtain ⟨a, xs, ex, hq, q⟩ := q1
  subst ex
  cases r1 with
  | cons r rr =>
    cases rr
    cases r
    obtain ⟨its, rv, p', hz⟩ := I1.tuple hq
    refine call_enumT (show s1.heap.IsTuple a its.toArray from p') fun h' he hit hsz hk => wpAny_pyIter_enum he ?_
    have I2 : Inv X pins σ H1 { s1 with heap := h' } := I1.kept (t' := s1.toks) hk
    refine ⟨s1.heap.objs.size + 1, [s1.heap.objs.size + 1, s1.heap.objs.size], _, _, H1, rfl, I2, turn_enumT a (s1.heap.objs.size + 1) s1.heap.objs.size, ⟨⟨.none, he⟩, hit, Nat.succ_ne_self _⟩, fun b hb => ?_, q⟩
    have e' : b = s1.heap.objs.size + 1 ∨ b = s1.heap.objs.size := by simpa using hb
    have hle : s1.heap.objs.size ≤ b := by
      rcases e' with z | z
      · rw [z]; exact Nat.le_add_right _ _
      · rw [z]; exact Nat.le_refl _
    exact I1.fpOk hle (I1.hok.fresh hle)
def asT1 (ds : List D) (O : Ow) (Q : List D → Ow → Prop) : Prop := match ds with
  | [.tup ds] => Q ds O
  | _ => False
def fiEnumT (fr : FA) : FI := fun ρ O Q => fr ρ O fun ds O1 => asT1 ds O1 fun ds O2 => Q (enumD ds) O2
section
variable {M : MX} {X : Cx} {fr : FA} {pos : Pos}
theorem di_enumT {e : Expr} {p tpos : Pos} {elts : List Expr} {kk : Nat} (hg : Gl X "enumerate") (hm : X.mg "enumerate" = none) (ha : DA M X [e] fr) (hs : starEach [e] X.env = [(false, eval e X.env)] := by rfl) :
    DI M X (.Tuple elts kk tpos) (.Call (.Name "enumerate" p) [e] [] pos) (fiEnumT fr) := piMono (pi_enumT hg hm ha hs) fun σ H Q h => by
  obtain ⟨F, O, P, ρ, R, g, en, q, po⟩ := h
  refine ⟨F, O, P, ρ, _, g, en, q, fun ds O1 F1 H1 vs q1 s1 g1 r1 => ?_⟩
  unfold asT1 at q1
  split at q1
  · rename_i ds
    obtain ⟨v, rfl, r1'⟩ := r1.one'
    simp only [Rep] at r1'
    obtain ⟨a, xs, rfl, h1, h2⟩ := r1'
    refine ⟨a, xs, rfl, Same.seqT g1.fz h1, po _ O1 F1 H1 _ q1 s1 g1 fun F2 O2 P2 H2 s2 g2 i => ⟨fun d e => ?_, fun hi => ?_⟩⟩
    · rw [enumD_get] at e
      obtain ⟨d0, e0, rfl⟩ := Option.map_eq_some_iff.mp e
      have sq : SqT X.K H2 a xs := Same.seqT g2.fz (Same.seqT s2 h1)
      obtain ⟨w, e1, r1⟩ := h2.get e0
      refine ⟨⟨xs, w, sq, e1⟩, fun x H3 hy => ?_⟩
      obtain ⟨T, y, rfl, hT, rfl, hx⟩ := hy
      have hxx := hx xs sq
      rw [e1] at hxx
      cases hxx
      have hF := g2.freeF hT
      refine ⟨upd F2 T (.tup [.int (i : Nat), w]), same_upd hF, g2.new hT, ?_⟩
      simp only [Rep]
      refine ⟨T, _, rfl, .inl (.inl upd_same), .cons (by simp only [Rep]) (.one ((r1.mono s2).mono (same_upd hF)))⟩
    · rw [enumD_length] at hi
      exact ⟨xs, Same.seqT g2.fz (Same.seqT s2 h1), by rw [← h2.length]; exact hi⟩
  · exact q1.elim
end
theorem ap_fiEnumT (fr : FA) {ρ : DEnv} {O : Ow} {Q : (List D → Ow → Prop)} : fiEnumT fr ρ O Q = (fr ρ O fun ds O1 => asT1 ds O1 fun ds O2 => Q (enumD ds) O2) := rfl
theorem asT1_t {ds : List D} {O : Ow} {Q : List D → Ow → Prop} : asT1 [.tup ds] O Q = Q ds O := rfl
end Kf
/-! Dl22: a finer room: one frame for each call. -/
namespace Kf
open PySem PySem.Spec L2
open PyProof.Rows hiding St
structure RoomT (k : Nat) (A : Around) : Prop where
  hd : A.handled = none
  dp : A.depth + k + 5 < recursionLimit
  un : A.units + 5 * k + 200 < cLine
theorem RoomT.deeper {k : Nat} {A : Around} (r : RoomT (k + 1) A) (env : Env) : RoomT k (A.deeper env) :=
  ⟨r.hd, by have := r.dp; show A.depth + 1 + k + 5 < _; omega, by have := r.un; show A.units + 3 + 5 * k + 200 < _; omega⟩
theorem RoomT.depth {k : Nat} {A : Around} (r : RoomT k A) : A.depth < recursionLimit := by have := r.dp; omega
theorem RoomT.u200 {k : Nat} {A : Around} (r : RoomT k A) : A.units + 200 < cLine := by have := r.un; omega
theorem RoomT.to {j k : Nat} {A : Around} (r : RoomT k A) (h : 4 * j ≤ k) : Room j A := ⟨r.hd, by have := r.dp; omega, by have := r.un; omega⟩
theorem RoomT.of {j k : Nat} {A : Around} (r : Room j A) (h : k ≤ 3 * j) : RoomT k A := ⟨r.hd, by have := r.dp; omega, by have := r.un; omega⟩
theorem RoomT.mono {j k : Nat} {A : Around} (r : RoomT k A) (h : j ≤ k) : RoomT j A := ⟨r.hd, by have := r.dp; omega, by have := r.un; omega⟩
/-- a def's promise by the finer room -/
structure FnT (P : Program) (w : World) (K : PySem.W.Frag) (mg : Str → Option Value) (base : Heap) (CX : CXT) (k : Nat) (f : Addr) (fd : FuncData) (ps : List Str) (sp : Sp) : Prop where
  len : ∀ vs H Q E, sp vs H Q E → vs.length = ps.length
  run : ∀ (A : Around) (outer : List Env) (s : Shared) (H : Hp) (args : Args) (us : List Value) (vs : List V) (Q : VK) (E : XK), RoomT k A → Env0 P w K mg base A outer s H → BindsTo s fd args (ps.zip us) → Vals vs us → sp vs H Q E →
    codeAny (model P w) A (.call (.ref f) args) (CR CX outer P w H s Q E) s
section
variable {P : Program} {w : World} {K : PySem.W.Frag} {mg : Str → Option Value} {base : Heap} {CX : CXT} {f : Addr} {fd : FuncData} {ps : List Str} {sp : Sp}
theorem FnT.of {j k : Nat} (F : FnOk P w K mg base CX j f fd ps sp) (h : 4 * j ≤ k) : FnT P w K mg base CX k f fd ps sp :=
  ⟨F.len, fun A outer s H args us vs Q E hr => F.run A outer s H args us vs Q E (hr.to h)⟩
theorem FnT.ok {j k : Nat} (F : FnT P w K mg base CX k f fd ps sp) (h : k ≤ 3 * j) : FnOk P w K mg base CX j f fd ps sp :=
  ⟨F.len, fun A outer s H args us vs Q E hr => F.run A outer s H args us vs Q E (.of hr h)⟩
theorem FnT.mono {j k : Nat} (F : FnT P w K mg base CX j f fd ps sp) (h : j ≤ k) : FnT P w K mg base CX k f fd ps sp :=
  ⟨F.len, fun A outer s H args us vs Q E hr => F.run A outer s H args us vs Q E (hr.mono h)⟩
end
section
variable {X : Cx} {e : Expr} {es : List Expr} {t : TA} {CX : CXT} {k : Nat} {f : Addr} {fd : FuncData} {ps : List Str} {sp : Sp} {E : XK} {x : Str} {p pos : Pos}
theorem runT {pins : List (Addr × Obj)} {σ : L2.St} {H : Hp} {s : Shared} {Q : VK} {us : List Value} {vs : List V} (F : FnT X.prog X.w X.K X.mg X.base CX k f fd ps sp) (hr : RoomT k X.A) (hb : Binds X.K fd ps []) (hx : Passes CX X E)
    (I : Inv X pins σ H s) (r : Vals vs us) (h : sp vs H Q E) : wpAny (model X.prog X.w) X.A (call (.ref f) us) (EP X pins σ Q) X.xe s := by
  have hl : us.length = ps.length := by rw [← r.length]; exact F.len _ _ _ _ h
  have hbs := hb s us I.kIn (by rw [List.append_nil]; exact hl)
  rw [List.append_nil] at hbs
  refine wpAny_call (codeAny_mono (F.run X.A X.stack s H ⟨us, []⟩ us vs Q E hr I.env0 hbs r h) fun r s' hq => ?_)
  cases r with
  | error e => exact hx pins σ H s e s' I hq
  | ok fl =>
    cases fl with
    | ret u => exact I.after hq
    | next => exact False.elim hq
    | brk => exact False.elim hq
    | cont => exact False.elim hq
theorem pe_callT (F : FnT X.prog X.w X.K X.mg X.base CX k f fd ps sp) (hr : RoomT k X.A) (hg : Gl X x) (hm : X.mg x = some (.ref f)) (hk : PySem.W.keepIn X.K (.ref f) = true) (hb : Binds X.K fd ps []) (hx : Passes CX X E)
    (ha : PA X (e :: es) t) (hdb : (x == ("__debug__" : Str)) = false := by decide) (he : starEach (e :: es) X.env = (false, eval e X.env) :: starEach es X.env := by rfl) (hpl : (backTo pos (starEach es X.env)).any (·.1) = false := by rfl) :
    PE X (.Call (.Name x p) (e :: es) [] pos) (fun σ H Q => t σ H fun vs H1 => sp vs H1 Q E) := by
  refine ⟨fun pins s σ H Q I h => ?_⟩
  refine wpAny_Call_Name_kw (ld_glob I hg hm ?_ hdb)
  refine PySem.W.callWith_K (h₀ := X.base) I.ok.mod.kin hk (thn (ha.run pos pins s σ H _ I h) fun us s1 ⟨vs, H1, I1, r, q⟩ => ⟨I1.kIn, ?_⟩) he hpl
  exact runT F hr hb hx I1 r q
end
section
variable {M : MX} {X : Cx} {e : Expr} {es : List Expr} {fr : FA} {k : Nat} {f : Addr} {fd : FuncData} {ps : List Str} {dsp : DSp} {x : Str} {st : Stmt} {p pos : Pos}
theorem de_callNT (N : Fn X.K X.mg x st ps f fd) (G : FnT X.prog X.w X.K X.mg X.base CX0 k f fd ps (liftSp X.K dsp)) (hr : RoomT k X.A) (hg : Gl X x)
    (ha : DA M X (e :: es) fr) (hdb : (x == ("__debug__" : Str)) = false := by decide) (he : starEach (e :: es) X.env = (false, eval e X.env) :: starEach es X.env := by rfl) (hpl : (backTo pos (starEach es X.env)).any (·.1) = false := by rfl) :
    DE M X (.Call (.Name x p) (e :: es) [] pos) (fCall dsp fr) := peMono (pe_callT G hr hg N.m N.F.kp N.b pass0 ha hdb he hpl) fun σ H Q h => by
  obtain ⟨F, O, P, ρ, R, g, en, q, po⟩ := h
  refine ⟨F, O, P, ρ, _, g, en, q, fun ds O1 F1 H1 vs q1 s1 g1 r1 => ?_⟩
  exact ⟨F1, O1, P, ds, R, X0, g1.mt, r1, q1, po.mt g1 s1, fun _ _ _ _ _ _ z => z.elim⟩
end
section
variable {P : Program} {w : World} {K : PySem.W.Frag} {mg : Str → Option Value} {base : Heap}
/-- a def's body by the finer room -/
theorem fnT_of {CX : CXT} {k : Nat} {f : Addr} {name qual : Str} {params : Arguments} {body : List Stmt} {scope : Scope} {dV kV doc pm cdv ct oc : Value} {an od : Option Addr}
    {osl : Array (Option Value)} {N ps : List Str} {sp : Sp} (lk : K.lookup f = some ⟨oc, od, .func (PySem.W.fnOf name qual params body scope dV kV doc pm an cdv ct), osl⟩) (hcd : PySem.W.codeIn K cdv qual = true) (S : FnScope N ps scope)
    (len : ∀ vs H Q E, sp vs H Q E → vs.length = ps.length)
    (hbody : ∀ (A : Around) (outer : List Env) (s : Shared) (H : Hp) (vs : List V) (Q : VK) (E : XK), RoomT k (A.deeper (envOfC qual scope s.heap.objs.size f cdv)) → sp vs H Q E →
      ∃ t, PSs (cxOf CX P w K mg base N qual scope f cdv A outer s H E) body t ∧ t { nx := fun _ H' => Q .non H', rt := Q } (L2.start N vs) H) :
    FnT P w K mg base CX (k + 1) f (PySem.W.fnOf name qual params body scope dV kV doc pm an cdv ct) ps sp := by
  refine ⟨len, fun A outer s H args us vs Q E hr e0 hb r hsp => ?_⟩
  have hl := len _ _ _ _ hsp
  have KX : K.In s.heap := e0.mod.kin.keeps fun b o e => (e0.bs b o e).1
  have lim : s.heap.NoLimit := e0.mod.nolimit.keeps fun b o e => (e0.bs b o e).1
  have hkind : ∀ y ∈ ps.zip us, scope.names.lookup y.1 = some .local ∨ (scope.names.lookup y.1 = some .cell ∧ ((cellsFrom (s.heap.objs.size + 1) scope.names []).lookup y.1).isSome = true) := fun ⟨n, v⟩ hy =>
    (S.par n (List.of_mem_zip hy).1).imp id fun q => ⟨q, PySem.W.cellsFrom_some _ _ _ (.inl q)⟩
  refine codeAny_call_function hr.depth (KX _ _ lk) rfl S.co S.gen rfl (PySem.W.codeRec_of KX hcd) (hb _ _ _ _ ?_)
  refine wpAny_newFunctionEnv_cells S.kind hkind fun env he s1 x => ?_
  subst he
  refine ⟨lim.keeps x.toInCall.keep, codeAny_func ?_⟩
  obtain ⟨t, ht, hq⟩ := hbody A outer s H vs Q E (hr.deeper _) hsp
  have I : Inv (cxOf CX P w K mg base N qual scope f cdv A outer s H E) [] (L2.start N vs) H s1 := inv_start S hr.hd e0 hl r x
  refine wpAny_mono (ht.run [] s1 (L2.start N vs) H _ I hq) (fun fl s' hs => ?_) fun e s' hs => hs
  cases fl with
  | ret u =>
    obtain ⟨v, σ', H', J, rv, q⟩ := hs
    exact ⟨v, H', J.os, J.bare, J.base, J.hok, rv, q⟩
  | next =>
    obtain ⟨σ', H', J, q⟩ := hs
    exact ⟨V.non, H', J.os, J.bare, J.base, J.hok, rfl, q⟩
  | brk =>
    obtain ⟨_, _, _, q⟩ := hs
    exact False.elim q
  | cont =>
    obtain ⟨_, _, _, q⟩ := hs
    exact False.elim q
theorem fn_dT {x qual : Str} {st : Stmt} {f : Addr} {fd : FuncData} {N ps : List Str} {k : Nat} {dsp : DSp} {g : GS} (F : Fun K x qual st f fd) (S : FnScope N ps (defScope st)) (len : ∀ ds O R RE, dsp ds O R RE → ds.length = ps.length)
    (hder : ∀ (cdv : Value) (A : Around) (outer : List Env) (s : Shared) (H : Hp) (E : XK), RoomT k (A.deeper (envOfC qual (defScope st) s.heap.objs.size f cdv)) →
      DSs MT (cxOf CX0 P w K mg base N qual (defScope st) f cdv A outer s H E).nox (defBody st) g)
    (hread : ∀ ds O R RE, dsp ds O R RE → g { nx := fun _ O' => R .non O', rt := R } (startD N ds) O) : FnT P w K mg base CX0 (k + 1) f fd ps (liftSp K dsp) := by
  obtain ⟨oc, od, kV, doc, pm, an, cdv, ct, osl, rfl, lk, hcd⟩ := F.ex
  refine fnT_of lk hcd S (fun vs H Q E h => ?_) fun A outer s H vs Q E hr h => ?_
  · obtain ⟨F, O, P, ds, R, RE, g, r, q, _⟩ := h
    rw [← r.length]; exact len ds O R RE q
  · obtain ⟨F, O, P, ds, R, RE, gd, r, q, po, _⟩ := h
    refine ⟨_, (hder cdv A outer s H E hr).nox, F, O, P, startD N ds, { nx := fun _ O' => R .non O', rt := R }, gd, ?_, hread ds O R RE q, ⟨fun ρ O' F' H' σ q1 s1 g1 _ => ?_, po, fun _ _ _ _ _ z => z.elim, fun _ _ _ _ _ z => z.elim⟩⟩
    · unfold startD L2.start
      rw [r.length]
      exact envOk_start _ r
    · exact po .non O' F' H' .non q1 s1 g1 (by simp only [Rep])
theorem none_leftT {CX : CXT} {f : Addr} {fd : FuncData} {ps : List Str} {dsp : DSp} {k : Nat} (no : ∀ ds O R RE, ¬ dsp ds O R RE) : FnT P w K mg base CX k f fd ps (liftSp K dsp) := FnT.of (none_left (k := 0) no) (Nat.zero_le _)
end
end Kf
/-! Dl23: every second thing of a list, xs[::2], xs[1::2]. -/
namespace Kf
open PySem PySem.Spec L2
open PyProof.Rows hiding St
variable {M : MX}
def ev {α : Type} (l : List α) : List α := (List.range ((l.length + 1) / 2)).filterMap fun k => l[2 * k]?
theorem ev_nil {α : Type} : ev ([] : List α) = [] := by simp [ev]
theorem ev_one {α : Type} (x : α) : ev [x] = [x] := by simp [ev, List.range_succ]
theorem ev_two {α : Type} (x y : α) (r : List α) : ev (x :: y :: r) = x :: ev r := by
  unfold ev
  rw [show ((x :: y :: r).length + 1) / 2 = (r.length + 1) / 2 + 1 by simp only [List.length_cons]; omega, List.range_succ_eq_map, List.filterMap_cons]
  simp only [Nat.mul_zero, List.getElem?_cons_zero, List.filterMap_map]
  rfl
theorem ev_len {α : Type} : ∀ l : List α, (ev l).length = (l.length + 1) / 2
  | [] => by rw [ev_nil]; simp
  | [x] => by rw [ev_one]; simp
  | x :: y :: r => by rw [ev_two, List.length_cons, ev_len r]; simp only [List.length_cons]; omega
theorem ev_paired {α β : Type} {F : α → β → Prop} : ∀ {l : List α} {m : List β}, Paired F l m → Paired F (ev l) (ev m)
  | _, _, .nil => by rw [ev_nil, ev_nil]; exact .nil
  | _, _, .cons h .nil => by rw [ev_one, ev_one]; exact .cons h .nil
  | _, _, .cons h (.cons _ t) => by rw [ev_two, ev_two]; exact .cons h (ev_paired t)
theorem RepAll.ev {K : PySem.W.Frag} {F : Hp} : ∀ (ds : List D) (vs : List V), RepAll K F ds vs → RepAll K F (Kf.ev ds) (Kf.ev vs)
  | [], vs, h => by simp only [RepAll] at h; subst h; rw [ev_nil, ev_nil]; exact .nil
  | [d], vs, h => by
    simp only [RepAll] at h
    obtain ⟨v, r, rfl, h1, rfl⟩ := h
    rw [ev_one, ev_one]; exact .one h1
  | d :: e :: ds, vs, h => by
    simp only [RepAll] at h
    obtain ⟨v, r, rfl, h1, v2, r2, rfl, h2, h3⟩ := h
    rw [ev_two, ev_two]; exact .cons h1 (RepAll.ev ds r2 h3)
theorem pick2_range (items : Array Value) (s : Nat) (hs : s ≤ items.size) : ((sliceRange (s : Int) (items.size : Int) 2).filterMap (items[·]?)).toArray = (ev (items.toList.drop s)).toArray := by
  congr 1
  unfold sliceRange ev
  have e : (if (2 : Int) > 0 then (if (s : Int) < items.size then ((items.size : Int) - s + 2 - 1) / 2 else 0) else (if (s : Int) > items.size then ((s : Int) - items.size - 2 - 1) / (-2) else 0)).toNat = ((items.toList.drop s).length + 1) / 2 := by
    rw [if_pos (by decide)]
    simp only [List.length_drop, Array.length_toList]
    by_cases h : s < items.size
    · rw [if_pos (by omega)]; omega
    · rw [if_neg (by omega)]; omega
  dsimp only
  rw [e, List.filterMap_map]
  refine congrArg (fun f => List.filterMap f _) (funext fun k => ?_)
  show items[((s : Int) + 2 * (k : Int)).toNat]? = (items.toList.drop s)[2 * k]?
  rw [List.getElem?_drop, show ((s : Int) + 2 * (k : Int)).toNat = s + 2 * k by omega, Array.getElem?_toList]
theorem pick2_none (items : Array Value) : slicePick items none none (some 2) = (ev items.toList).toArray := by
  have h := pick2_range items 0 (Nat.zero_le _)
  rw [List.drop_zero] at h
  rw [← h]
  rfl
theorem pick2_one (items : Array Value) : slicePick items (some 1) none (some 2) = (ev (items.toList.drop 1)).toArray := by
  by_cases hz : items.size = 0
  · have e : items = #[] := Array.eq_empty_of_size_eq_zero hz
    subst e
    rfl
  · rw [← pick2_range items 1 (by omega)]
    unfold slicePick
    have e : (sliceBounds (some 1) none (some 2) items.size) = (1, (items.size : Int), 2) := by
      simp only [sliceBounds, Option.getD_some]
      rw [show (if (1 : Int) < 0 then (1 : Int) + items.size else 1) = 1 from rfl]
      simp only [show ((2 : Int) > 0) from by decide, if_true]
      congr 1
      omega
    rw [e]
    rfl
section
variable {X : Cx} {e st lo : Expr} {fa : FE} {te : TE} {tst tlo : TO} {fs fl : FO} {pos p2 : Pos}
theorem pe_slice2 (he : PE X e te) (hs : PO X (some st) tst) : PE X (.Subscript e (.Slice none none (some st) p2) pos) (fun σ H Q => te σ H fun x H1 => tst σ H1 fun o H2 => o = some 2 ∧ ∃ a xs, x = .ref a ∧ SqL X.K H2 a xs ∧ ∀ p, H2 p = none → Q (.ref p) (upd H2 p (.lst (ev xs)))) := by
  refine ⟨fun pins s σ H Q I h => ?_⟩
  refine Subscript_ (thn (he.run pins s σ H _ I h) fun v s1 ⟨x, H1, I1, r1, q1⟩ => ?_)
  refine wpAny_Slice ?_
  rw [evalPart_none]
  refine wpAny_pure (wpAny_pure ?_)
  refine thn (hs.run pins s1 σ H1 _ I1 q1) fun vk s3 ⟨o, H3, I3, pk, q3⟩ => ?_
  obtain ⟨rfl, a, xs, rfl, hx, q⟩ := q3
  cases r1
  have I4 : Inv X pins σ H3 { s3 with heap := s3.heap.push { cls := .type "slice", data := .fields #[.none, .none, vk] } } := I3.kept (t' := s3.toks) fun b ob q => Heap.get?_push_of_some _ q
  obtain ⟨its, r, ht, hz⟩ := I4.list hx
  have hlen := r.length
  refine tail_any (ops := [.ref a, .ref s3.heap.objs.size]) ht.isList.typeIs slot_list_getitem.lookup ?_ (by with_unfolding_all rfl)
  refine wpAny_getItem_list_slice ht.isList (Heap.IsSliceOf.new ..) .none .none pk (by decide) ?_ (by rw [List.size_toArray] <;> omega)
  rw [pick2_none]
  refine ⟨.ref _, _, I4.laid (t' := s3.toks) (o := .lst (ev xs)) (fun b ob q => Heap.get?_push_of_some _ q) (Nat.le_refl _) ?_, rfl, q _ (I4.hok.fresh (Nat.le_refl _))⟩
  refine ⟨by rw [ev_len]; omega, ev its, 0, ev_paired r, Heap.get?_push_size _ rfl⟩
theorem pe_slice2b (he : PE X e te) (hl : PO X (some lo) tlo) (hs : PO X (some st) tst) : PE X (.Subscript e (.Slice (some lo) none (some st) p2) pos) (fun σ H Q => te σ H fun x H1 => tlo σ H1 fun ol H2 => tst σ H2 fun o H3 => ol = some 1 ∧ o = some 2 ∧ ∃ a xs, x = .ref a ∧ SqL X.K H3 a xs ∧ ∀ p, H3 p = none → Q (.ref p) (upd H3 p (.lst (ev (xs.drop 1))))) := by
  refine ⟨fun pins s σ H Q I h => ?_⟩
  refine Subscript_ (thn (he.run pins s σ H _ I h) fun v s1 ⟨x, H1, I1, r1, q1⟩ => ?_)
  refine wpAny_Slice ?_
  refine thn (hl.run pins s1 σ H1 _ I1 q1) fun vl s2 ⟨ol, H2, I2, pl, q2⟩ => ?_
  rw [evalPart_none]
  refine wpAny_pure ?_
  refine thn (hs.run pins s2 σ H2 _ I2 q2) fun vk s3 ⟨o, H3, I3, pk, q3⟩ => ?_
  obtain ⟨rfl, rfl, a, xs, rfl, hx, q⟩ := q3
  cases r1
  have I4 : Inv X pins σ H3 { s3 with heap := s3.heap.push { cls := .type "slice", data := .fields #[vl, .none, vk] } } := I3.kept (t' := s3.toks) fun b ob q => Heap.get?_push_of_some _ q
  obtain ⟨its, r, ht, hz⟩ := I4.list hx
  have hlen := r.length
  refine tail_any (ops := [.ref a, .ref s3.heap.objs.size]) ht.isList.typeIs slot_list_getitem.lookup ?_ (by with_unfolding_all rfl)
  refine wpAny_getItem_list_slice ht.isList (Heap.IsSliceOf.new ..) pl .none pk (by decide) ?_ (by rw [List.size_toArray] <;> omega)
  rw [pick2_one]
  have hd : Vals (xs.drop 1) (its.drop 1) := by
    cases r with
    | nil => exact .nil
    | cons _ t => exact t
  refine ⟨.ref _, _, I4.laid (t' := s3.toks) (o := .lst (ev (xs.drop 1))) (fun b ob q => Heap.get?_push_of_some _ q) (Nat.le_refl _) ?_, rfl, q _ (I4.hok.fresh (Nat.le_refl _))⟩
  refine ⟨by rw [ev_len, List.length_drop]; omega, ev (its.drop 1), 0, ev_paired hd, Heap.get?_push_size _ rfl⟩
def rEvD (n : Nat) (x : D) (o : Option Int) (O : Ow) (Q : VD) : Prop := o = some 2 ∧ match deref O x with
  | .lst xs => Q (.lst (ev (xs.drop n))) O
  | _ => False
def fEv (fa : FE) (fs : FO) : FE := fun ρ O Q => fa ρ O fun x O1 => fs ρ O1 fun o O2 => rEvD 0 x o O2 Q
def fEv1 (fa : FE) (fl fs : FO) : FE := fun ρ O Q => fa ρ O fun x O1 => fl ρ O1 fun ol O2 => fs ρ O2 fun o O3 => ol = some 1 ∧ rEvD 1 x o O3 Q
theorem de_ev (he : DE M X e fa) (hs : DO M X (some st) fs) : DE M X (.Subscript e (.Slice none none (some st) p2) pos) (fEv fa fs) := peMono (pe_slice2 he hs) fun σ H Q h => by
  obtain ⟨F, O, P, ρ, R, g, en, q, po⟩ := h
  refine ⟨F, O, P, ρ, _, g, en, q, fun x O1 F1 H1 v q1 s1 g1 r1 => ?_⟩
  refine ⟨F1, O1, P, ρ, _, g1, en.mono s1, q1, fun o O2 F2 H2 q2 s2 g2 => ?_⟩
  obtain ⟨e, q2⟩ := q2
  refine ⟨e, ?_⟩
  have r2 := r1.mono s2
  have h := g2.deref r2
  revert h q2
  generalize Kf.deref O2 x = y
  intro q2 h
  cases y <;> first | exact q2.elim | skip
  rename_i ds
  obtain ⟨a, xs, rfl, h1, h2⟩ := h
  exact ⟨a, xs, rfl, SqL.of h1, fun p hp => (po.more (s1.trans s2)).lst g2 q2 (RepAll.ev _ _ h2) hp⟩
theorem de_ev1 (he : DE M X e fa) (hl : DO M X (some lo) fl) (hs : DO M X (some st) fs) : DE M X (.Subscript e (.Slice (some lo) none (some st) p2) pos) (fEv1 fa fl fs) := peMono (pe_slice2b he hl hs) fun σ H Q h => by
  obtain ⟨F, O, P, ρ, R, g, en, q, po⟩ := h
  refine ⟨F, O, P, ρ, _, g, en, q, fun x O1 F1 H1 v q1 s1 g1 r1 => ?_⟩
  refine ⟨F1, O1, P, ρ, _, g1, en.mono s1, q1, fun ol O2 F2 H2 q2 s2 g2 => ?_⟩
  refine ⟨F2, O2, P, ρ, _, g2, en.mono (s1.trans s2), q2, fun o O3 F3 H3 q3 s3 g3 => ?_⟩
  obtain ⟨e1, e2, q3⟩ := q3
  refine ⟨e1, e2, ?_⟩
  have r2 := r1.mono (s2.trans s3)
  have h := g3.deref r2
  revert h q3
  generalize Kf.deref O3 x = y
  intro q3 h
  cases y <;> first | exact q3.elim | skip
  rename_i ds
  obtain ⟨a, xs, rfl, h1, h2⟩ := h
  exact ⟨a, xs, rfl, SqL.of h1, fun p hp => (po.more (s1.trans (s2.trans s3))).lst g3 q3 (RepAll.ev _ _ (h2.drop 1)) hp⟩
theorem rEv_l {n : Nat} {xs : List D} {O : Ow} {Q : VD} : rEvD n (.lst xs) (some 2) O Q = Q (.lst (ev (xs.drop n))) O := by simp [rEvD, deref]
theorem ap_fEv {fa : FE} {fs : FO} {ρ : DEnv} {O : Ow} {Q : VD} : fEv fa fs ρ O Q = fa ρ O fun x O1 => fs ρ O1 fun o O2 => rEvD 0 x o O2 Q := rfl
theorem ap_fEv1 {fa : FE} {fl fs : FO} {ρ : DEnv} {O : Ow} {Q : VD} : fEv1 fa fl fs ρ O Q = fa ρ O fun x O1 => fl ρ O1 fun ol O2 => fs ρ O2 fun o O3 => ol = some 1 ∧ rEvD 1 x o O3 Q := rfl
end
end Kf
/-! Dl24: a caught exception kept as a value behind the suite. -/
namespace Kf
open PySem PySem.Spec L2
open PyProof.Rows hiding St
variable {M : MX}
section
variable {X : Cx} {pins : List (Addr × Obj)} {σ : L2.St} {H : Hp} {s : Shared}
/-- a thing of the heap that is not tracked yet, nor was at the start, is tracked from now on -/
theorem Inv.track {a : Addr} {o : HO} {ob : Obj} {vs : Array Value} (I : Inv X pins σ H s) (ha : s.heap.get? a = some ob) (hd : ob.data = .fields vs) (hn : H a = none) (h0 : X.s_0.heap.get? a = none)
    (hp : ∀ p ∈ X.pn ++ pins, p.1 ≠ a) (new : ObjOk X.prog X.w (upd H a o) s.heap a o) : Inv X pins σ (upd H a o) s := by
  have n0 : ∀ {b u}, X.s_0.heap.get? b = some u → b ≠ a := fun e z => by rw [z, h0] at e; cases e
  have nH : ∀ {b u}, H b = some u → b ≠ a := fun e z => by rw [z, hn] at e; cases e
  refine ⟨I.ok, I.os, I.bare, ?_, I.loc, I.cell, ?_, ?_, ?_, ?_, I.len⟩
  · obtain ⟨b1, b2, b3, b4, b5, b6, b7⟩ := I.base
    refine ⟨b1, b2, fun b u e n x => ?_, b4, fun b xs e => ?_, fun b u xs e => ?_, fun b ps e => ?_⟩
    · rw [upd_ne (n0 e)]; exact b3 b u e n x
    · have z := b5 b xs e; rw [upd_ne (nH z)]; exact z
    · have z := b6 b u xs e; rw [upd_ne (nH z)]; exact z
    · obtain ⟨m, z⟩ := b7 b ps e; exact ⟨m, by rw [upd_ne (nH z)]; exact z⟩
  · have ne : X.env.locals ≠ a := fun z => by
      obtain ⟨m, ⟨oL, es, ep, hL, hdL, _⟩, _⟩ := I.loc
      rw [z, ha] at hL; cases hL
      rw [hd] at hdL; cases hdL
    rw [upd_ne ne]; exact I.free
  · intro x c e
    have ne : c ≠ a := fun z => by
      obtain ⟨v, oc, hc, hdc⟩ := I.cell x c e
      rw [z, ha] at hc; cases hc
      rw [hd] at hdc; cases hdc
    rw [upd_ne ne]; exact I.freeC x c e
  · intro p hm
    obtain ⟨k1, k2, k3⟩ := I.pin p hm
    exact ⟨k1, by rw [upd_ne (hp p hm)]; exact k2, k3⟩
  · intro b u e
    by_cases hb : b = a
    · subst hb; rw [upd_same] at e; cases e; exact new
    · rw [upd_ne hb] at e
      refine (I.hok b u e).stay (fun _ _ _ q => q) (fun c q => ?_) fun c xs q => ?_
      · rw [upd_ne (nH q)]; exact q
      · rw [upd_ne (nH q)]; exact q
/-- the exception's object at a -/
def xO (a : Addr) (cls : Value) (d : Option Addr) : HO := .ext fun h => ∃ oe vs, h.get? a = some oe ∧ Zc cls d oe ∧ oe.data = .fields vs
theorem xO_ok {P : Program} {w : World} {H : Hp} {h : Heap} {a : Addr} {cls : Value} {d : Option Addr} {oe : Obj} {vs : Array Value} (e : h.get? a = some oe) (z : Zc cls d oe) (k : oe.data = .fields vs) : ObjOk P w H h a (xO a cls d) :=
  ⟨⟨oe, vs, e, z, k⟩, ⟨oe, e⟩, fun _ _ ⟨o, v, q, r⟩ y => ⟨o, v, y o q, r⟩⟩
theorem xO_is {a : Addr} {cls : Value} {d : Option Addr} : IsX a cls d (xO a cls d) := ⟨_, rfl, fun _ z => z⟩
end
def wKeep (K : PySem.W.Frag) (c : Value) (i : Nat) (ts : Addr → Value → Option Addr → TS) (Wo : WX) (D : Ends) : WX := fun cls d σ H =>
  ∃ b, PySem.W.exmOne K cls c = some b ∧
    (b = true → ∀ a, H a = none → ts a cls d { nx := fun τ H2 => H2 a = none → D.nx (τ.set i none) (upd H2 a (xO a cls d)), rt := D.rt, bk := fun τ H2 => D.bk (τ.set i none) H2, ct := fun τ H2 => D.ct (τ.set i none) H2 } (σ.set i (some (.ref a))) H) ∧
    (b = false → Wo cls d σ H)
section
variable {X : Cx} {x n : Str} {c : Value} {i : Nat} {body suite : List Stmt} {b₀ : Stmt} {np pos pos' : Pos} {tb : WX → TS} {ts : Addr → Value → Option Addr → TS} {Wo : WX}
theorem ps_try_keep (hx : X.ex = []) (stk : X.stack = X.env :: X.outer) (frm : X.env.frame = some X.env.locals) (nd : X.N.Nodup) (at_ : X.N[i]? = some n) (kd : X.env.kindOf n = some .local) (nm : Names X x c) (tk : Takes X Wo)
    (hb : ∀ (W : WX) (pn : List (Addr × Obj)) (xe : Value → Shared → Prop), Takes (X.tr pn xe) W → PassesOwn (model X.prog X.w) X.A X.env xe → PSs (X.tr pn xe) body (tb W))
    (hsu : ∀ (a : Addr) (oe : Obj) (cls : Value) (d : Option Addr) (pn : List (Addr × Obj)), Zc cls d oe → (∃ vs, oe.data = .fields vs) → PSs (X.suite a ((a, oe) :: pn)) (b₀ :: suite) (ts a cls d)) :
    PS X (.Try body [.ExceptHandler (some (.Name x np)) (some n) (b₀ :: suite) pos'] [] [] pos) (fun D σ H => tb (wKeep X.K c i ts Wo D) D σ H) := by
  constructor
  intro pins s σ H D I h
  have xok := I.ok
  have frs_ : X.A.frames = some (X.env :: X.outer) := by rw [xok.frames, stk]
  apply wpAny_Try_except
  have B := hb (wKeep X.K c i ts Wo D) (X.pn ++ pins) (fun e s₁ => wpAny (model X.prog X.w) X.A (noteFrame e X.env) (fun _ s₂ => wpAny (model X.prog X.w) X.A (setFlight e none)
    (fun _ s₃ => wpAny (model X.prog X.w) X.A (handleBy e X.env [.ExceptHandler (some (.Name x np)) (some n) (b₀ :: suite) pos']) (SP X pins D) X.xe s₃) X.xe s₂) X.xe s₁) ?lnd PassesOwn.looking
  case lnd =>
    rintro u t ⟨a, G, tI, pins2, τ, H2, cls, d, rfl, J2, nG, up, sky, fr, os, ag, b, m1, yes, no⟩
    have J := J2.ofTry xok
    rw [stk] at sky
    show wpAny (model X.prog X.w) X.A (noteFrame (.ref a) X.env) _ _ _
    refine Sky.land Zc.steady frs_ frm sky fun g3 F3 U3 => ?_
    have J3 : Inv X pins τ H2 { t with heap := g3 } := J.landed nG F3.1 (up.trans U3) os ag
    obtain ⟨o3, v3, e3, z3, d3⟩ := F3.there
    have offS : a ∉ frs (X.env :: X.outer) := fun q => by
      obtain ⟨_, o', e', nf⟩ := F3.2.2.1.mem q
      rw [e3] at e'; cases e'
      exact nf _ d3
    have offL : a ≠ X.env.locals := fun z => offS (List.mem_filterMap.mpr ⟨X.env, List.mem_cons_self, by rw [frm, z]⟩)
    have offF : a ∉ X.fs := fun q => by
      obtain ⟨e, he, k⟩ := List.mem_filterMap.mp q
      exact offS (List.mem_filterMap.mpr ⟨e, List.mem_cons_of_mem _ he, k⟩)
    have newI : tI.heap.get? a = none := by
      cases e : tI.heap.get? a with
      | none => rfl
      | some o =>
        have k := nG a o e (by rw [stk]; exact offS)
        rw [F3.2.1] at k; cases k
    have new0 : X.s_0.heap.get? a = none := by
      cases e : X.s_0.heap.get? a with
      | none => rfl
      | some o =>
        obtain ⟨o', k⟩ := J.base.there a o e (by rw [hx]; exact fun z => nomatch z)
        rw [newI] at k; cases k
    have newP : ∀ p ∈ X.pn ++ pins, p.1 ≠ a := fun p hp z => by
      have k := (J.pin p hp).1
      rw [z, newI] at k; cases k
    have S3 := J3.suite e3 d3 fr offL offF
    refine wpAny_handleBy_cons (codeAny_handlers_test ?_) (by intro q; cases q)
    have look : PySem.W.Looks (model X.prog X.w) g3 (typeOf (.ref a)) cls := fun A Q E s k q => wpAny_typeOf_ref (k _ _ e3) (by rw [z3.1]; exact q)
    have asked := PySem.W.exm_one (M := model X.prog X.w) J3.kIn look m1
    have named : ∀ {Q E : Value → Shared → Prop}, Q c { t with heap := g3 } → wpAny (model X.prog X.w) (X.A.mark (some (.ref a))) (eval (.Name x np) X.env) Q E { t with heap := g3 } := by
      intro Q E q
      obtain ⟨hg, hd, k | ⟨k, kb, kn⟩⟩ := nm
      · exact ld_glob (X := X.suite a ((a, o3) :: (X.pn ++ pins))) S3 hg k q hd
      · exact ld_blt (X := X.suite a ((a, o3) :: (X.pn ++ pins))) S3 hg k kb q kn hd
    refine named (asked.here ?_)
    cases b with
    | false =>
      show wpAny _ X.A (handleBy (.ref a) X.env []) _ _ _
      apply wpAny_handleBy_nil
      obtain ⟨_, _, _, oe, vs, Tb, oT, ts', he, _, hd, h1, _⟩ := id F3
      unfold PySem.passOn
      refine wpAny_bind (wpAny_field he hd h1 ?_)
      rw [if_neg (show ¬ ((Value.ref Tb == Value.none) = true) from by simp)]
      have out : wpAny (model X.prog X.w) X.A (setFlight (.ref a) X.env.frame) (fun _ s4 => wpAny (model X.prog X.w) X.A (throw (.ref a) : Sem Flow) (SP X pins D) X.xe s4) X.xe { t with heap := g3 } := by
        rw [frm]
        exact HandSPX.setFlight_upZ F3 fun h4 hh4 up4 => wpAny_throw (tk _ _ ⟨a, G, tI, pins, τ, H2, cls, d, rfl, J, nG, (up.trans U3).trans up4, .inr (.inr (by rw [stk]; exact hh4)), fr, os, ag, no rfl⟩)
      first
        | exact wpAny_bind (wpAny_pure (wpAny_bind out))
        | exact wpAny_bind out
    | true =>
      apply codeAny_handlers_suite_as
      refine HandSPX.lands_againZ F3 fun g4 F4 U4 => ?_
      have J4 : Inv X pins τ H2 { t with heap := g4 } := J.landed nG F4.1 ((up.trans U3).trans U4) os ag
      obtain ⟨o4, v4, e4, z4, d4⟩ := F4.there
      have S4 := J4.suite e4 d4 fr offL offF
      refine store_ok (X := X.suite a ((a, o4) :: (X.pn ++ pins))) (v := .ref a) S4 nd at_ (.inl kd) rfl (fun t5 S5 => ?_) (.inr kd)
      refine wpAny_mono ((hsu a o4 cls d (X.pn ++ pins) z4 ⟨_, d4⟩).run [] t5 _ H2 _ S5 (yes rfl a fr)) (fun f t6 hsp => ?_) (fun _ _ z => False.elim z)
      cases f with
      | next =>
        obtain ⟨τ6, H6, S6, q6⟩ := hsp
        obtain ⟨p1, p2, _⟩ := S6.pin (a, o4) (List.mem_append.mpr (.inl List.mem_cons_self))
        have K6 := Inv.track (o := xO a cls d) (S6.unsuite xok) p1 d4 p2 new0 newP (xO_ok p1 z4 d4)
        exact gone_ok K6 nd at_ kd fun t7 K7 => ⟨_, _, K7, q6 p2⟩
      | brk =>
        obtain ⟨τ6, H6, S6, q6⟩ := hsp
        exact gone_ok (S6.unsuite xok) nd at_ kd fun t7 K7 => ⟨_, _, K7, q6⟩
      | cont =>
        obtain ⟨τ6, H6, S6, q6⟩ := hsp
        exact gone_ok (S6.unsuite xok) nd at_ kd fun t7 K7 => ⟨_, _, K7, q6⟩
      | ret u =>
        obtain ⟨v6, τ6, H6, S6, r6, q6⟩ := hsp
        exact gone_ok (S6.unsuite xok) nd at_ kd fun t7 K7 => ⟨_, _, _, K7, r6, q6⟩
  refine wpAny_mono (B.run [] s σ H D (I.toTry _) h) (fun f s1 hsp => ?_) (fun e s1 he => he)
  cases f with
  | next =>
    obtain ⟨τ, H2, J, q⟩ := hsp
    exact wpAny_execs_nil ⟨τ, H2, J.ofTry xok, q⟩
  | brk =>
    obtain ⟨τ, H2, J, q⟩ := hsp
    exact ⟨τ, H2, J.ofTry xok, q⟩
  | cont =>
    obtain ⟨τ, H2, J, q⟩ := hsp
    exact ⟨τ, H2, J.ofTry xok, q⟩
  | ret u =>
    obtain ⟨v, τ, H2, J, r, q⟩ := hsp
    exact ⟨v, τ, H2, J.ofTry xok, r, q⟩
end
/-! ### over data -/
/-- the ends with slot i empty; at the suite's end the exception is kept at a -/
def endsKeep (i : Nat) (a : Addr) (cls : Value) (fs : Option (List (Str × D))) (R : DEnds) : DEnds :=
  { nx := fun ρ O => O a = none → R.nx (ρ.set i none) (updO O a (.exc cls fs)), rt := R.rt, bk := fun ρ O => R.bk (ρ.set i none) O, ct := fun ρ O => R.ct (ρ.set i none) O }
def xKp (K : PySem.W.Frag) (c : Value) (i : Nat) (gs : Addr → Value → Option (List (Str × D)) → GS) (RXo : XW) (R : DEnds) : XW := fun cls fs ρ O => ∃ b, PySem.W.exmOne K cls c = some b ∧
  (b = true → ∀ a, O a = none → gs a cls fs (endsKeep i a cls fs R) (ρ.set i (some (.ref a))) O) ∧ (b = false → RXo cls fs ρ O)
/-- try: .. except C as n: .. where the suite keeps what n is -/
def gTryKp (K : PySem.W.Frag) (c : Value) (i : Nat) (gb : XW → GS) (gs : Addr → Value → Option (List (Str × D)) → GS) (RXo : XW) : GS := fun R ρ O => gb (xKp K c i gs RXo R) R ρ O
section
variable {X : Cx} {x n : Str} {c : Value} {i : Nat} {body suite : List Stmt} {b₀ : Stmt} {np pos pos' : Pos} {gb : XW → GS} {gs : Addr → Value → Option (List (Str × D)) → GS} {RXo : XW} {Wo : WX}
theorem ds_try_keep (hN : X.N.Nodup) (hi : X.N[i]? = some n) (hln : X.env.kindOf n = some .local) (hc : Names X x c) (tk : Takes X Wo) (ho : Outs M X.K RXo Wo)
    (hb : ∀ (RX : XW) (W : WX) (pn : List (Addr × Obj)) (xe : Value → Shared → Prop), Takes (X.tr pn xe) W → PassesOwn (model X.prog X.w) X.A X.env xe → DSs (mxw X.K RX W) (X.tr pn xe) body (gb RX))
    (hsu : ∀ (fs : Option (List (Str × D))) (a : Addr) (oe : Obj) (cls : Value) (d : Option Addr) (pn : List (Addr × Obj)), Zc cls d oe → (∃ vs, oe.data = .fields vs) → DSs (mxe X.K fs d) (X.suite a ((a, oe) :: pn)) (b₀ :: suite) (gs a cls fs))
    (hx : X.ex = [] := by rfl) (hs : X.stack = X.env :: X.outer := by rfl) (hf : X.env.frame = some X.env.locals := by rfl) :
    DS M X (.Try body [.ExceptHandler (some (.Name x np)) (some n) (b₀ :: suite) pos'] [] [] pos) (gTryKp X.K c i gb gs RXo) :=
  psMono (ps_try_keep (tb := fun W => liftSW X.K W gb) (ts := fun a cls d => liftSE X.K (gs a cls) d) hx hs hf hN hi hln hc tk (fun W pn xe tk' ps => pss_sw (X := X.tr pn xe) fun RX => hb RX W pn xe tk' ps)
    (fun a oe cls d pn hz hf' => pss_se (X := X.suite a ((a, oe) :: pn)) fun fs => hsu fs a oe cls d pn hz hf')) fun D σ H h => by
  obtain ⟨F, O, P, ρ, R, g, en, q, po⟩ := h
  refine ⟨_, F, O, P, ρ, R, g.re ⟨P, Same.refl _, fun cls fs ρ' O' F' H' dd σ' q1 s1 g1 xd en1 => ?_⟩, en, q, po.re g⟩
  obtain ⟨b, hb1, hb2, hb3⟩ := q1
  refine ⟨b, hb1, fun hbt a ha => ?_, fun hbf => ho F' O' P H' cls fs ρ' dd σ' (g1.re (M.mono g.rl s1 (Same.refl _))) (hb3 hbf) xd en1⟩
  have z := hb2 hbt a (g1.freeO ha)
  obtain ⟨F2, s2, g2⟩ := g1.holdX xd
  refine ⟨fs, F2, O', P, ρ'.set i (some (.ref a)), _, g2, (en1.mono s2).set (by simp only [Rep]) i, z, ⟨fun ρ3 O3 F3 H3 σ3 q3 s3 g3 en3 h3 => ?_, fun d3 O3 F3 H3 v3 q3 s3 g3 r3 => ?_, fun ρ3 O3 F3 H3 σ3 q3 s3 g3 en3 => ?_, fun ρ3 O3 F3 H3 σ3 q3 s3 g3 en3 => ?_⟩⟩
  · have gk := (g3.re (M' := M) (M.mono g.rl (s1.trans (s2.trans s3)) (Same.refl _))).newO (o := xO a cls dd) (c := .exc cls fs) h3 ⟨_, dd, upd_same, xO_is, g3.rl⟩
    exact po.nx _ _ F3 _ _ (q3 (g3.freeO h3)) (s1.trans (s2.trans s3)) gk (en3.wipe i)
  · exact po.rt _ O3 F3 H3 _ q3 (s1.trans (s2.trans s3)) (g3.re (M.mono g.rl (s1.trans (s2.trans s3)) (Same.refl _))) r3
  · exact po.bk _ O3 F3 H3 _ q3 (s1.trans (s2.trans s3)) (g3.re (M.mono g.rl (s1.trans (s2.trans s3)) (Same.refl _))) (en3.wipe i)
  · exact po.ct _ O3 F3 H3 _ q3 (s1.trans (s2.trans s3)) (g3.re (M.mono g.rl (s1.trans (s2.trans s3)) (Same.refl _))) (en3.wipe i)
end
/-! ### a held exception asked -/
/-- the object and its dict, on the heap -/
theorem heldAt {X : Cx} {pins : List (Addr × Obj)} {σ : L2.St} {F O P H} {s : Shared} {b C : Addr} {fs : Option (List (Str × D))} (I : L2.Inv X pins σ H s) (g : Gd M X.K F O P H) (h : O b = some (.exc (.ref C) fs)) :
    ∃ oe od, PySem.W.InstAt s.heap b oe C od ∧ ∀ l, fs = some l → ∃ (fv : List (Str × V)) (mA : Str → Option Value) (o : Obj), FsOk X.K F l fv ∧ od = some o ∧ (∀ f, RelO (fv.lookup f) (mA f)) ∧ ∀ n, PySem.W.lookIn n o = some (mA n) := by
  obtain ⟨_, _, o, d, hH, ⟨φ, rfl, hφ⟩, hx⟩ := g.ow b _ h
  have k : ObjOk X.prog X.w H s.heap b (.ext φ) := I.hok b _ hH
  obtain ⟨oe, vs, e1, z, e2⟩ := hφ _ k.1
  have no : PySem.W.notCls oe = true := by unfold PySem.W.notCls; rw [e2] <;> rfl
  cases fs with
  | none =>
    have hd : d = none := hx
    subst hd
    exact ⟨oe, none, ⟨e1, z.1, no, by rw [z.2]; trivial⟩, fun l e => nomatch e⟩
  | some l =>
    obtain ⟨dx, fv, rfl, h1, h2⟩ := hx
    have kd : ObjOk X.prog X.w H s.heap dx (.xd fv) := I.hok dx _ (g.fz _ _ h1)
    obtain ⟨mA, hns, hr⟩ := kd
    obtain ⟨od, ho, hl⟩ := lookIn_ns hns
    exact ⟨oe, some od, ⟨e1, z.1, no, by rw [z.2]; exact ho⟩, fun l' e => by cases e; exact ⟨fv, mA, od, h2, rfl, hr, hl⟩⟩
def rIsXD (K : PySem.W.Frag) : RAD := fun ds O Q => match ds with
  | [.ref b, .tup cs] => ∃ C fs us bb, O b = some (.exc (.ref C) fs) ∧ ExcC K C ∧ Paired clsD cs us ∧ PySem.W.kitAny K (.ref C) us = some bb ∧ Q (.bl bb) O
  | [.ref b, c] => ∃ C fs cv bb, O b = some (.exc (.ref C) fs) ∧ ExcC K C ∧ clsD c cv ∧ PySem.W.kitOne K (.ref C) cv = some bb ∧ Q (.bl bb) O
  | _ => False
theorem excC_cl {K : PySem.W.Frag} {C : Addr} (h : ExcC K C) : (PySem.W.clsIn K C).isSome = true := by
  obtain ⟨cd, hc, _⟩ := PySem.W.any_some h.hd
  rw [hc]; rfl
theorem cd_isX {X : Cx} : CallD M X (.builtin "isinstance") (rIsXD X.K) := by
  intro pins s σ H xs us Q I r h
  obtain ⟨F, O, P, ds, R, g, rr, q, po⟩ := h
  unfold rIsXD at q
  split at q
  · rename_i b cs
    obtain ⟨C, fs, us', bb, hb, hC, hp, e, q⟩ := q
    obtain ⟨v, w, rfl, r1, r2⟩ := rr.two'
    simp only [Rep] at r1 r2
    subst r1
    obtain ⟨tp, vs, rfl, ht, rs⟩ := r2
    obtain ⟨its, rv, hit, _⟩ := I.tuple (Same.seqT g.fz ht)
    have eu := clsDs hp rs rv
    subst eu
    obtain ⟨oe, od, J, _⟩ := heldAt I g hb
    cases r with
    | cons ra rb =>
      cases rb with
      | cons rb rc =>
        cases rc
        cases ra
        cases rb
        obtain ⟨dd, n, sl, hit⟩ : ∃ dd n sl, s.heap.get? tp = some ⟨.type "tuple", dd, .seq its.toArray n, sl⟩ := by
          obtain ⟨⟨oc, od, oda, osl⟩, h1, h2, n, h3⟩ := hit
          dsimp only at h2 h3
          subst h2 h3
          exact ⟨od, n, osl, h1⟩
        exact PySem.W.kia_tup (PySem.W.kitx_exc (excC_cl hC) hC.hg hC.hk hC.hs hC.ha hC.hn hC.ht hC.hm) I.kIn J hit e (fun z => nomatch z) fun tk => ⟨.bl bb, H, I.kept (t' := tk) fun _ _ z => z, rfl, po.at g q (by simp only [Rep])⟩
  · rename_i b c _
    obtain ⟨C, fs, cv, bb, hb, hC, hcv, e, q⟩ := q
    obtain ⟨v, w, rfl, r1, r2⟩ := rr.two'
    simp only [Rep] at r1
    subst r1
    obtain ⟨oe, od, J, _⟩ := heldAt I g hb
    cases r with
    | cons ra rb =>
      cases rb with
      | cons rb rc =>
        cases rc
        cases ra
        have eu := hcv.uniq r2 rb
        subst eu
        exact PySem.W.kia_one (PySem.W.kitx_exc (excC_cl hC) hC.hg hC.hk hC.hs hC.ha hC.hn hC.ht hC.hm) I.kIn J e (fun z => nomatch z) fun tk => ⟨.bl bb, H, I.kept (t' := tk) fun _ _ z => z, rfl, po.at g q (by simp only [Rep])⟩
  · exact q.elim
theorem FsOk.get {K : PySem.W.Frag} {F : Hp} {fs : List (Str × D)} {fv : List (Str × V)} {f : Str} {d : D} (h : FsOk K F fs fv) (e : fs.lookup f = some d) : ∃ v, fv.lookup f = some v ∧ Rep K F d v := by
  induction h with
  | nil => simp at e
  | @cons p q _ _ r _ ih =>
    obtain ⟨p1, p2⟩ := p
    obtain ⟨q1, q2⟩ := q
    obtain ⟨r1, r2⟩ := r
    dsimp only at r1 r2
    subst r1
    rw [List.lookup_cons] at e ⊢
    cases c : (f == p1) with
    | true => rw [c] at e; cases e; exact ⟨q2, rfl, r2⟩
    | false => rw [c] at e; exact ih e
/-- e.f of a held exception -/
def fXf (K : PySem.W.Frag) (f : Str) (fe : FE) : FE := fun ρ O Q => fe ρ O fun x O1 => ∃ b C fs d, x = .ref b ∧ O1 b = some (.exc (.ref C) (some fs)) ∧ fs.lookup f = some d ∧ ExcC K C ∧ PySem.W.findIn K (.ref C) f = some none ∧ Q d O1
theorem de_xf {X : Cx} {e : Expr} {fe : FE} {n : Str} {pos : Pos} (he : DE M X e fe) (hb : attributeBase e n X.env (eval e X.env) = eval e X.env := by rfl) : DE M X (.Attribute e n pos) (fXf X.K n fe) := by
  refine ⟨fun pins s σ H Q I h => ?_⟩
  obtain ⟨F, O, P, ρ, R, g, en, q, po⟩ := h
  have step := he.run pins s σ H (fun v' H' => ∃ F1 O1 x, Rep X.K F1 x v' ∧ Same F F1 ∧ Gd M X.K F1 O1 P H' ∧ ∃ b C fs d, x = .ref b ∧ O1 b = some (.exc (.ref C) (some fs)) ∧ fs.lookup n = some d ∧ ExcC X.K C ∧ PySem.W.findIn X.K (.ref C) n = some none ∧ R d O1) I
    ⟨F, O, P, ρ, _, g, en, q, fun x O1 F1 H1 v q1 s1 g1 r1 => ⟨F1, O1, x, r1, s1, g1, q1⟩⟩
  refine attr_of hb (thn step fun u s1 hh => ?_)
  · obtain ⟨v, H1, I1, ru, F1, O1, x, r1, s1', g1, b, C, fs, d, rfl, hO, hl, hC, hn, q2⟩ := hh
    simp only [Rep] at r1
    subst r1
    obtain rfl : u = Value.ref b := ru
    obtain ⟨oe, od, J, hf⟩ := heldAt I1 g1 hO
    obtain ⟨fv, mA, o, k1, rfl, k3, k4⟩ := hf fs rfl
    obtain ⟨w, ew, rw'⟩ := k1.get hl
    obtain ⟨u, hu, ru⟩ := RelO.some_of (v := w) (o := mA n) (by rw [← ew]; exact k3 n)
    exact HandSPX.exc_get I1.kIn J hC.hg hC.hk hC.hs (PySem.W.findObj_own hC.hd hn rfl (by rw [k4, hu])) (handed_of ru) ⟨w, H1, I1.tok _, ru, po d O1 F1 H1 w q2 s1' g1 rw'⟩
theorem ap_gTryKp (K : PySem.W.Frag) (c : Value) (i : Nat) (gb : XW → GS) (gs : Addr → Value → Option (List (Str × D)) → GS) (RXo : XW) {R : DEnds} {ρ : DEnv} {O : Ow} : gTryKp K c i gb gs RXo R ρ O = gb (xKp K c i gs RXo R) R ρ O := rfl
theorem ap_fXf (K : PySem.W.Frag) (f : Str) (fe : FE) {ρ : DEnv} {O : Ow} {Q : VD} : fXf K f fe ρ O Q = fe ρ O fun x O1 => ∃ b C fs d, x = .ref b ∧ O1 b = some (.exc (.ref C) (some fs)) ∧ fs.lookup f = some d ∧ ExcC K C ∧ PySem.W.findIn K (.ref C) f = some none ∧ Q d O1 := rfl
theorem isNon_r {a : Addr} : isNon (.ref a) = false := rfl
end Kf
/-! Dl25: dicts compared, cleared; max of a tuple of ints; instances of own classes: fields, methods, making. -/
namespace Kf
open PySem PySem.Spec L2
open PyProof.Rows hiding St
variable {M : MX}
/-! ### dicts of data compared -/
/-- the one holds what the other holds, all of it flat enough data -/
def sameDic (ks ls : List (Key × D)) : Prop := ks.length = ls.length ∧ ∀ p ∈ ks, isPy p.2 = true ∧ dp p.2 ≤ 60 ∧ valD ls p.1 = some p.2
section
variable {X : Cx} {pins : List (Addr × Obj)} {σ : L2.St} {F P H : Hp} {O : Ow} {s : Shared}
theorem shaped_of {d : D} (h : isPy d = true) (hd : dp d ≤ 60) : SeqAt.shaped (toPy d) = true := by
  unfold SeqAt.shaped
  rw [Bool.and_eq_true]
  exact ⟨isPy_lay d h, decide_eq_true (by have : (toPy d).depth ≤ 60 := hd; omega)⟩
theorem hits_data {ls : List (Key × D)} {ws : List (Key × V)} {vb : List (Key × Value)} {A : Around} (I : L2.Inv X pins σ H s) (g : Gd M X.K F O P H) (hu : A.in1.units + 64 < cLine) (kl : KvOk X.K F ls ws) (rb : KV ws vb) :
    ∀ {ks : List (Key × D)} {vs : List (Key × V)} {va : List (Key × Value)}, KvOk X.K F ks vs → KV vs va → (∀ p ∈ ks, isPy p.2 = true ∧ dp p.2 ≤ 60 ∧ valD ls p.1 = some p.2) → PySem.W.KeqHits A.in1 s vb va true := by
  intro ks vs va hk
  induction hk generalizing va with
  | nil => intro ra _; cases ra; exact .nil
  | @cons p q ps qs z t ih =>
    intro ra hp
    cases ra with
    | @cons _ r _ rs hr tr =>
      obtain ⟨k, v⟩ := r
      obtain ⟨hr1, hr2⟩ := hr
      obtain ⟨h1, h2, h3⟩ := hp p List.mem_cons_self
      obtain ⟨e1, e2⟩ := kl.val (k := p.1)
      obtain ⟨w, ew, rw'⟩ := e1 _ h3
      have rr : RelO (some w) (valueAt vb p.1) := by rw [← ew]; exact rb.val p.1
      obtain ⟨y, hy, ry⟩ := rr.some_of
      have hk : p.1 = k := z.1.trans hr1
      rw [hk] at hy
      obtain ⟨as, w1⟩ := Dp.reads I _ q.2 v (Rep.dp g.fz _ _ h1 z.2) hr2
      obtain ⟨bs, w2⟩ := Dp.reads I _ w y (Rep.dp g.fz _ _ h1 rw') ry
      have ea := PySem.W.keq_at (A := A) w1 w2 (shaped_of h1 h2) (shaped_of h1 h2) hu
      rw [SeqAt.eqv_refl _ (isPy_lay _ h1)] at ea
      show PySem.W.KeqHits A.in1 s vb ((k, v) :: rs) (true && true)
      exact .hit hy ea (ih tr fun p' hm => hp p' (List.mem_cons_of_mem _ hm))
end
def rDEq (neg : Bool) : R2D := fun x y O Q => ∃ a b ks ls, x = .ref a ∧ y = .ref b ∧ O a = some (.dic ks) ∧ O b = some (.dic ls) ∧ sameDic ks ls ∧ Q (.bl (!neg)) O
section
variable {X : Cx}
theorem od_deq (hu : X.A.units + 200 < cLine) : OpD M X (compareOp .Eq) (rDEq false) := by
  intro pins s σ H x y v u Q I rx ry q
  obtain ⟨F, O, P, dx, dy, R, g, r1, r2, ⟨a, b, ks, ls, rfl, rfl, ha, hb, ⟨hl, hp⟩, q⟩, po⟩ := q
  simp only [Rep] at r1 r2
  subst r1 r2
  obtain rfl : v = Value.ref a := rx
  obtain rfl : u = Value.ref b := ry
  obtain ⟨_, _, vs, e1, k1⟩ := g.ow a _ ha
  obtain ⟨_, _, ws, e2, k2⟩ := g.ow b _ hb
  obtain ⟨_, ya, va, ra, da⟩ := (show ObjOk X.prog X.w H s.heap a (.dK vs) from I.hok a _ e1)
  obtain ⟨_, yb, vb, rb, db⟩ := (show ObjOk X.prog X.w H s.heap b (.dK ws) from I.hok b _ e2)
  have hl' : va.length = vb.length := by rw [← ra.length, ← rb.length, ← k1.length, ← k2.length]; exact hl
  refine PySem.W.keq_eq (knd := mixKind X.prog X.w) (r := true) ya yb da db (by omega) (fun _ => hits_data I g (by show X.A.units + 1 + 64 < cLine; omega) k2 rb k1 ra hp) ⟨.bl _, H, I, rfl, ?_⟩
  rw [show (va.length == vb.length && true) = true by rw [hl']; simp]
  exact po.at g q (by simp only [Rep, Bool.not_false])
theorem od_dne (hu : X.A.units + 200 < cLine) : OpD M X (compareOp .NotEq) (rDEq true) := by
  intro pins s σ H x y v u Q I rx ry q
  obtain ⟨F, O, P, dx, dy, R, g, r1, r2, ⟨a, b, ks, ls, rfl, rfl, ha, hb, ⟨hl, hp⟩, q⟩, po⟩ := q
  simp only [Rep] at r1 r2
  subst r1 r2
  obtain rfl : v = Value.ref a := rx
  obtain rfl : u = Value.ref b := ry
  obtain ⟨_, _, vs, e1, k1⟩ := g.ow a _ ha
  obtain ⟨_, _, ws, e2, k2⟩ := g.ow b _ hb
  obtain ⟨_, ya, va, ra, da⟩ := (show ObjOk X.prog X.w H s.heap a (.dK vs) from I.hok a _ e1)
  obtain ⟨_, yb, vb, rb, db⟩ := (show ObjOk X.prog X.w H s.heap b (.dK ws) from I.hok b _ e2)
  have hl' : va.length = vb.length := by rw [← ra.length, ← rb.length, ← k1.length, ← k2.length]; exact hl
  refine PySem.W.keq_ne (knd := mixKind X.prog X.w) (r := true) ya yb da db (by omega) (fun _ => hits_data I g (by show X.A.units + 1 + 64 < cLine; omega) k2 rb k1 ra hp) ⟨.bl _, H, I, rfl, ?_⟩
  rw [show (va.length == vb.length && true) = true by rw [hl']; simp]
  exact po.at g q (by simp only [Rep])
end
section
variable {X : Cx} {o : Expr} {fo : FE} {apos cpos pos : Pos}
/-- d.clear() -/
def rDClr (x : D) (O : Ow) (Q : VD) : Prop := match x with
  | .ref a => match O a with
    | some (.dic _) => Q .non (updO O a (.dic []))
    | _ => False
  | _ => False
def fDClr (fo : FE) : FE := fun ρ O Q => fo ρ O fun x O1 => rDClr x O1 Q
theorem de_dclr (ho : DE M X o fo) (hbase : attributeBase o "clear" X.env (eval o X.env) = eval o X.env := by rfl) (hline : (apos.endLine == cpos.line) = true := by rfl) : DE M X (.Call (.Attribute o "clear" apos) [] [] cpos) (fDClr fo) :=
  peMono (pe_dclear ho hbase hline) fun σ H Q h => by
  obtain ⟨F, O, P, ρ, R, g, en, q, po⟩ := h
  refine ⟨F, O, P, ρ, _, g, en, q, fun x O1 F1 H1 v q1 s1 g1 r1 => ?_⟩
  unfold rDClr at q1
  split at q1 <;> first | exact q1.elim | skip
  rename_i a
  split at q1 <;> first | exact q1.elim | skip
  rename_i kvs e
  obtain ⟨_, _, vs, h1, h2⟩ := g1.ow a _ e
  simp only [Rep] at r1
  subst r1
  refine ⟨.inr (.inr (.inl ⟨rfl, .inl ⟨vs, h1⟩⟩)), a, vs, rfl, rfl, h1, ?_⟩
  exact po .non _ F1 _ _ q1 s1 (g1.setO e ⟨[], upd_same, .nil⟩) (by simp only [Rep])
end
section
variable {X : Cx}
theorem maxD_lmx (n : Int) : ∀ ns : List Int, PySem.W.maxD (.int n) (ns.map .int) = .int (lmx (n :: ns)) := fun ns => by
  rw [PySem.W.maxD_ints]
  congr 1
  refine (lmx_eq ?_ fun a ha => ?_)
  · induction ns generalizing n with
    | nil => simp
    | cons b r ih =>
      rw [List.foldl_cons]
      rcases List.mem_cons.mp (ih (max n b)) with h | h
      · rw [h]
        by_cases c : n ≤ b
        · rw [Int.max_eq_right c]; simp
        · rw [Int.max_eq_left (by omega)]; simp
      · simp [h]
  · have mono : ∀ (ns : List Int) (n : Int), n ≤ ns.foldl max n := fun ns => by
      induction ns with
      | nil => intro n; exact Int.le_refl _
      | cons b r ih => intro n; rw [List.foldl_cons]; exact Int.le_trans (Int.le_max_left _ _) (ih _)
    induction ns generalizing n with
    | nil => simp at ha; subst ha; exact Int.le_refl _
    | cons b r ih =>
      rw [List.foldl_cons]
      rcases List.mem_cons.mp ha with rfl | h
      · exact Int.le_trans (Int.le_max_left _ _) (mono _ _)
      · rcases List.mem_cons.mp h with rfl | h
        · exact Int.le_trans (Int.le_max_right _ _) (mono _ _)
        · exact ih _ (List.mem_cons_of_mem _ h)
/-- max(t), t a tuple of ints -/
def rMaxT : RAD := fun ds O Q => match ds with
  | [.tup es] => match asInts es with
    | some ns => ns ≠ [] ∧ Q (.int (lmx ns)) O
    | none => False
  | _ => False
theorem isPys_mi (ns : List Int) : isPys (ns.map D.int) = true := by
  induction ns with
  | nil => rfl
  | cons n r ih => simp only [List.map_cons, isPys, isPy, ih, Bool.and_self]
theorem toPys_mi (ns : List Int) : toPys (ns.map D.int) = ns.map PyData.int := by
  induction ns with
  | nil => rfl
  | cons n r ih => simp only [List.map_cons, toPys, toPy, ih]
theorem cd_maxT (hc : X.calm = true) (hu : X.A.units + 200 < cLine) : CallD M X (.builtin "max") rMaxT := by
  intro pins s σ H xs us Q I r h
  obtain ⟨F, O, P, ds, R, g, rr, q, po⟩ := h
  unfold rMaxT at q
  split at q <;> first | exact q.elim | skip
  rename_i es
  cases e0 : asInts es with
  | none => rw [e0] at q; exact q.elim
  | some ns =>
  rw [e0] at q
  obtain ⟨q1, q2⟩ := q
  rw [of_asInts e0] at rr
  obtain ⟨v, rfl, r1⟩ := rr.one'
  simp only [Rep] at r1
  obtain ⟨a, ws, rfl, ht, rs⟩ := r1
  obtain rfl := Vals.ref1 r
  obtain ⟨its, rv, hit, _⟩ := I.tuple (Same.seqT g.fz ht)
  cases ns with
  | nil => exact absurd rfl q1
  | cons n ns =>
  obtain ⟨as, hr⟩ := Dp.readsAll I _ ws its (RepAll.dp g.fz _ ws (isPys_mi (n :: ns)) rs) rv
  rw [toPys_mi] at hr
  refine PySem.W.max_tuple_data (x := .int n) (xs := ns.map .int) (I.ok.hd hc) hit (by simpa using hr) ⟨fun x hx y hy => ?_, fun x hx => ?_⟩ ?_ fun i v h' tk bs hi rd hk => ?_
  · rw [← List.map_cons] at hx hy
    obtain ⟨_, _, rfl⟩ := List.mem_map.mp hx
    obtain ⟨_, _, rfl⟩ := List.mem_map.mp hy
    rfl
  · rw [← List.map_cons] at hx
    obtain ⟨_, _, rfl⟩ := List.mem_map.mp hx
    exact fun z => nomatch z
  · have : PyData.depthAll (PyData.int n :: ns.map PyData.int) = 0 := by
      have : ∀ l : List Int, PyData.depthAll (l.map PyData.int) = 0 := fun l => by
        induction l with
        | nil => simp [PyData.depthAll]
        | cons b r ih => simp [PyData.depthAll, PyData.depth, ih]
      exact this (n :: ns)
    rw [this]; omega
  · rw [maxD_lmx] at rd
    cases rd
    exact ⟨.int _, H, I.kept hk, ⟨_, rfl⟩, po.at g q2 (by simp only [Rep])⟩
end
/-! ### instances of own classes -/
def putFD (f : Str) (v : D) : List (Str × D) → List (Str × D)
  | [] => [(f, v)]
  | (g, x) :: r => if g = f then (g, v) :: r else (g, x) :: putFD f v r
theorem FsOk.put {K : PySem.W.Frag} {F : Hp} {f : Str} {d : D} {v : V} (r : Rep K F d v) {fs : List (Str × D)} {fv : List (Str × V)} (h : FsOk K F fs fv) : FsOk K F (putFD f d fs) (putF f v fv) := by
  induction h with
  | nil => exact .cons ⟨rfl, r⟩ .nil
  | @cons p q ps qs z t ih =>
    obtain ⟨p1, p2⟩ := p
    obtain ⟨q1, q2⟩ := q
    obtain ⟨z1, z2⟩ := z
    dsimp only at z1 z2
    subst z1
    unfold putFD putF
    split
    · exact .cons ⟨rfl, r⟩ t
    · exact .cons ⟨rfl, z2⟩ ih
theorem FsOk.none {K : PySem.W.Frag} {F : Hp} {f : Str} {fs : List (Str × D)} {fv : List (Str × V)} (h : FsOk K F fs fv) (e : fs.lookup f = none) : fv.lookup f = none := by
  induction h with
  | nil => rfl
  | @cons p q _ _ r _ ih =>
    obtain ⟨p1, p2⟩ := p
    obtain ⟨q1, q2⟩ := q
    obtain ⟨r1, r2⟩ := r
    dsimp only at r1 r2
    subst r1
    rw [List.lookup_cons] at e ⊢
    cases c : (f == p1) with
    | true => rw [c] at e; cases e
    | false => rw [c] at e; exact ih e
theorem FsOk.length {K : PySem.W.Frag} {F : Hp} {fs : List (Str × D)} {fv : List (Str × V)} (h : FsOk K F fs fv) : fs.length = fv.length := Paired.length h
section
variable {X : Cx} {o e value : Expr} {es : List Expr} {f m x : Str} {pos pos' apos p : Pos} {fo fe : FE} {fr : FA} {k : Nat} {C g0 : Addr} {fd : FuncData} {ps : List Str} {dsp : DSp}
/-- o.f -/
def rFld (f : Str) (x : D) (O : Ow) (Q : VD) : Prop := match x with
  | .ref a => match O a with
    | some (.ins _ fs) => match fs.lookup f with
      | some d => Q d O
      | none => False
    | _ => False
  | _ => False
/-- an instance of the class at C -/
def isIns (C : Addr) (x : D) (O : Ow) : Prop := ∃ a fs, x = .ref a ∧ O a = some (.ins C fs)
def fFld (C : Addr) (f : Str) (fo : FE) : FE := fun ρ O Q => fo ρ O fun x O1 => isIns C x O1 ∧ rFld f x O1 Q
theorem de_fld (c : Cls X.K C) (n : NoAttr X.K C f) (ho : DE M X o fo) (hb : attributeBase o f X.env (eval o X.env) = eval o X.env := by rfl) : DE M X (.Attribute o f pos) (fFld C f fo) := peMono (pe_fld ho hb) fun σ H Q h => by
  obtain ⟨F, O, P, ρ, R, g, en, q, po⟩ := h
  refine ⟨F, O, P, ρ, _, g, en, q, fun x O1 F1 H1 v q1 s1 g1 r1 => ?_⟩
  obtain ⟨⟨a, fs, rfl, hO⟩, q1⟩ := q1
  simp only [Rep] at r1
  subst r1
  unfold rFld at q1
  simp only [hO] at q1
  obtain ⟨_, _, dx, fv, h1, h2⟩ := g1.ow a _ hO
  cases e : fs.lookup f with
  | none => rw [e] at q1; exact q1.elim
  | some d =>
    rw [e] at q1
    obtain ⟨w, ew, rw'⟩ := h2.get e
    exact ⟨a, C, dx, fv, w, rfl, h1, c, n, ew, (po.more s1).at g1 q1 rw'⟩
/-- o.f = value -/
def rFldS (f : Str) (x d : D) (O : Ow) (N : Ow → Prop) : Prop := match x with
  | .ref a => match O a with
    | some (.ins C fs) => fs.length < 1000 ∧ N (updO O a (.ins C (putFD f d fs)))
    | _ => False
  | _ => False
def gFld (C : Addr) (f : Str) (fo fe : FE) : GS := fun R ρ O => fe ρ O fun d O1 => fo ρ O1 fun x O2 => isIns C x O2 ∧ rFldS f x d O2 (R.nx ρ)
theorem ds_fld (c : Cls X.K C) (n : NoAttr X.K C f) (ho : DE M X o fo) (he : DE M X value fe) (hs : swapsWith value (some (.Attribute o f pos')) pos.line X.env = pure false := by rfl) : DS M X (.Assign [.Attribute o f pos'] value pos) (gFld C f fo fe) := psMono (ps_fld ho he hs) fun D σ H h => by
  obtain ⟨F, O, P, ρ, R, g, en, q, po⟩ := h
  refine ⟨F, O, P, ρ, _, g, en, q, fun d O1 F1 H1 v q1 s1 g1 r1 => ?_⟩
  refine ⟨F1, O1, P, ρ, _, g1, en.mono s1, q1, fun x O2 F2 H2 w q2 s2 g2 r2 => ?_⟩
  obtain ⟨⟨a, fs, rfl, hO⟩, q2⟩ := q2
  simp only [Rep] at r2
  subst r2
  unfold rFldS at q2
  simp only [hO] at q2
  obtain ⟨_, _, dx, fv, h1, h2⟩ := g2.ow a _ hO
  refine ⟨a, C, dx, fv, rfl, h1, c, n, by rw [← h2.length]; exact q2.1, ?_⟩
  exact po.nx ρ _ F2 _ σ q2.2 (s1.trans s2) (g2.setO hO ⟨dx, _, upd_same, h2.put (r1.mono s2)⟩) (en.mono (s1.trans s2))
/-- a method as it stands -/
structure Mt (K : PySem.W.Frag) (C : Addr) (m qual : Str) (st : Stmt) (ps : List Str) (f : Addr) (fd : FuncData) : Prop where
  F : Fun K m qual st f fd
  m : Meth K C m f
  b : Binds K fd ps []
def insNo (C : Addr) (m : Str) (x : D) (O : Ow) : Prop := ∃ a fs, x = .ref a ∧ O a = some (.ins C fs) ∧ fs.lookup m = none
def fMeth (C : Addr) (m : Str) (dsp : DSp) (fo : FE) (fr : FA) : FE := fun ρ O Q => fo ρ O fun x O1 => insNo C m x O1 ∧ fr ρ O1 fun ds O2 => dsp (x :: ds) O2 Q X0
theorem de_meth {qual : Str} {st : Stmt} {pl : Sem Bool} (c : Cls X.K C) (N : Mt X.K C m qual st ps g0 fd) (G : FnOk X.prog X.w X.K X.mg X.base CX0 k g0 fd ps (liftSp X.K dsp)) (hr : Room k X.A) (ho : DE M X o fo) (ha : DA M X (e :: es) fr)
    (hst : starEach (e :: es) X.env = (false, eval e X.env) :: starEach es X.env := by rfl) (hpl : (backTo pos (starEach es X.env)).any (·.1) = false := by rfl)
    (ht : eval (.Call (.Attribute o m apos) (e :: es) [] pos) X.env = (do
      let ov ← eval o X.env
      standAt apos.atName
      let (f, first) ← holding [ov] (getMethod ov m pl)
      callWith pos f first (backTo pos (starEach (e :: es) X.env)) (backToKw pos (keywordEach [] X.env))) := by rfl) :
    DE M X (.Call (.Attribute o m apos) (e :: es) [] pos) (fMeth C m dsp fo fr) := peMono (pe_meth ho c N.m G hr N.b .nil pass0 ha hst hpl ht) fun σ H Q h => by
  obtain ⟨F, O, P, ρ, R, g, en, q, po⟩ := h
  refine ⟨F, O, P, ρ, _, g, en, q, fun x O1 F1 H1 v q1 s1 g1 r1 => ?_⟩
  obtain ⟨⟨a, fs, rfl, hO, hl⟩, q1⟩ := q1
  have rx := r1
  simp only [Rep] at r1
  subst r1
  obtain ⟨_, _, dx, fv, h1, h2⟩ := g1.ow a _ hO
  refine ⟨a, dx, fv, rfl, h1, h2.none hl, F1, O1, P, ρ, _, g1, en.mono s1, q1, fun ds O2 F2 H2 vs q2 s2 g2 r2 => ?_⟩
  show liftSp X.K dsp (V.ref a :: (vs ++ [])) H2 Q E0
  rw [List.append_nil]
  exact ⟨F2, O2, P, _, R, X0, g2.mt, .cons (rx.mono s2) r2, q2, po.mt g2 (s1.trans s2), fun _ _ _ _ _ _ z => z.elim⟩
theorem de_meth0 {qual : Str} {st : Stmt} {pl : Sem Bool} (c : Cls X.K C) (N : Mt X.K C m qual st ps g0 fd) (G : FnOk X.prog X.w X.K X.mg X.base CX0 k g0 fd ps (liftSp X.K dsp)) (hr : Room k X.A) (ho : DE M X o fo)
    (ht : eval (.Call (.Attribute o m apos) [] [] pos) X.env = (do
      let ov ← eval o X.env
      standAt apos.atName
      let (f, first) ← holding [ov] (getMethod ov m pl)
      callWith pos f first (backTo pos (starEach [] X.env)) (backToKw pos (keywordEach [] X.env))) := by rfl) :
    DE M X (.Call (.Attribute o m apos) [] [] pos) (fMeth C m dsp fo fNil) := peMono (pe_meth0 ho c N.m G hr N.b .nil pass0 ht) fun σ H Q h => by
  obtain ⟨F, O, P, ρ, R, g, en, q, po⟩ := h
  refine ⟨F, O, P, ρ, _, g, en, q, fun x O1 F1 H1 v q1 s1 g1 r1 => ?_⟩
  obtain ⟨⟨a, fs, rfl, hO, hl⟩, q1⟩ := q1
  have rx := r1
  simp only [Rep] at r1
  subst r1
  obtain ⟨_, _, dx, fv, h1, h2⟩ := g1.ow a _ hO
  exact ⟨a, dx, fv, rfl, h1, h2.none hl, F1, O1, P, _, R, X0, g1.mt, .cons rx .nil, q1, po.mt g1 s1, fun _ _ _ _ _ _ z => z.elim⟩
/-- C(..) -/
def fMake (C : Addr) (dsp : DSp) (fr : FA) : FE := fun ρ O Q => fr ρ O fun ds O1 => ∀ p, O1 p = none → dsp (.ref p :: ds) (updO O1 p (.ins C [])) (fun v O2 => v = .non ∧ Q (.ref p) O2) X0
theorem mk_lift {F F1 P H1 : Hp} {O1 : Ow} {ds : List D} {vs : List V} {R : VD} {Q : VK} (s1 : Same F F1) (g1 : Gd M X.K F1 O1 P H1) (r1 : RepAll X.K F1 ds vs) (po : PostE M X.K F P R Q)
    (q1 : ∀ p, O1 p = none → dsp (.ref p :: ds) (updO O1 p (.ins C [])) (fun v O2 => v = .non ∧ R (.ref p) O2) X0) :
    ∀ x dx, H1 x = none → H1 dx = none → dx ≠ x → liftSp X.K dsp (.ref x :: (vs ++ [])) (upd (upd H1 dx (.own x)) x (.ins C dx [])) (fun v H2 => v = .non ∧ Q (.ref x) H2) E0 := by
  intro x dx hx hd ne
  have gd := g1.skip (o := .own x) hd
  have hx' : upd H1 dx (.own x) x = none := by rw [upd_ne (fun z => ne z.symm)]; exact hx
  have gx := gd.newO (o := .ins C dx []) (c := .ins C []) hx' ⟨dx, [], upd_same, .nil⟩
  rw [List.append_nil]
  refine ⟨F1, _, P, _, _, X0, gx.mt, .cons (by simp only [Rep]) r1, q1 x (g1.freeO hx), ?_, fun _ _ _ _ _ _ z => z.elim⟩
  intro d O' F' H' v q s g r
  obtain ⟨rfl, q⟩ := q
  simp only [Rep] at r
  subst r
  exact ⟨rfl, po _ O' F' H' _ q (s1.trans s) (g.re (M.mono gx.rl s (Same.refl _))) (by simp only [Rep])⟩
/-- a class that is made by its __init__ -/
structure MkN (K : PySem.W.Frag) (mg : Str → Option Value) (x : Str) (C : Addr) (f : Addr) : Prop where
  made : Mk K C f
  g : mg x = some (.ref C)
theorem de_make {qual : Str} {st : Stmt} (N : MkN X.K X.mg x C g0) (I : Mt X.K C "__init__" qual st ps g0 fd) (G : FnOk X.prog X.w X.K X.mg X.base CX0 k g0 fd ps (liftSp X.K dsp)) (hr : Room (k + 1) X.A) (hg : Gl X x) (ha : DA M X (e :: es) fr)
    (hdb : (x == ("__debug__" : Str)) = false := by decide) (he : starEach (e :: es) X.env = (false, eval e X.env) :: starEach es X.env := by rfl) (hpl : (backTo pos (starEach es X.env)).any (·.1) = false := by rfl) :
    DE M X (.Call (.Name x p) (e :: es) [] pos) (fMake C dsp fr) := peMono (pe_make N.made G hr hg N.g I.b .nil pass0 ha hdb he hpl) fun σ H Q h => by
  obtain ⟨F, O, P, ρ, R, g, en, q, po⟩ := h
  exact ⟨F, O, P, ρ, _, g, en, q, fun ds O1 F1 H1 vs q1 s1 g1 r1 => mk_lift s1 g1 r1 po q1⟩
theorem de_make0 {qual : Str} {st : Stmt} (N : MkN X.K X.mg x C g0) (I : Mt X.K C "__init__" qual st ps g0 fd) (G : FnOk X.prog X.w X.K X.mg X.base CX0 k g0 fd ps (liftSp X.K dsp)) (hr : Room (k + 1) X.A) (hg : Gl X x)
    (hdb : (x == ("__debug__" : Str)) = false := by decide) : DE M X (.Call (.Name x p) [] [] pos) (fMake C dsp fNil) := peMono (pe_make0 N.made G hr hg N.g I.b .nil pass0 hdb) fun σ H Q h => by
  obtain ⟨F, O, P, ρ, R, g, en, q, po⟩ := h
  exact mk_lift (Same.refl _) g .nil po q
end
theorem ap_fFld (C : Addr) (f : Str) (fo : FE) {ρ : DEnv} {O : Ow} {Q : VD} : fFld C f fo ρ O Q = fo ρ O fun x O1 => isIns C x O1 ∧ rFld f x O1 Q := rfl
theorem ap_gFld (C : Addr) (f : Str) (fo fe : FE) {R : DEnds} {ρ : DEnv} {O : Ow} : gFld C f fo fe R ρ O = fe ρ O fun d O1 => fo ρ O1 fun x O2 => isIns C x O2 ∧ rFldS f x d O2 (R.nx ρ) := rfl
theorem ap_fMeth (C : Addr) (m : Str) (dsp : DSp) (fo : FE) (fr : FA) {ρ : DEnv} {O : Ow} {Q : VD} : fMeth C m dsp fo fr ρ O Q = fo ρ O fun x O1 => insNo C m x O1 ∧ fr ρ O1 fun ds O2 => dsp (x :: ds) O2 Q X0 := rfl
theorem ap_fMake (C : Addr) (dsp : DSp) (fr : FA) {ρ : DEnv} {O : Ow} {Q : VD} : fMake C dsp fr ρ O Q = fr ρ O fun ds O1 => ∀ p, O1 p = none → dsp (.ref p :: ds) (updO O1 p (.ins C [])) (fun v O2 => v = .non ∧ Q (.ref p) O2) X0 := rfl
theorem ap_fDClr (fo : FE) {ρ : DEnv} {O : Ow} {Q : VD} : fDClr fo ρ O Q = fo ρ O fun x O1 => rDClr x O1 Q := rfl
section
variable {O : Ow} {a C : Addr} {fs : List (Str × D)} {f m : Str} {d : D} {Q : VD} {N : Ow → Prop}
theorem isIns_of (h : O a = some (.ins C fs)) : isIns C (.ref a) O := ⟨a, fs, rfl, h⟩
theorem insNo_of (h : O a = some (.ins C fs)) (e : fs.lookup m = none) : insNo C m (.ref a) O := ⟨a, fs, rfl, h, e⟩
theorem rFld_of (h : O a = some (.ins C fs)) (e : fs.lookup f = some d) : rFld f (.ref a) O Q = Q d O := by simp only [rFld, h, e]
theorem rFldS_of (h : O a = some (.ins C fs)) : rFldS f (.ref a) d O N = (fs.length < 1000 ∧ N (updO O a (.ins C (putFD f d fs)))) := by simp only [rFldS, h]
theorem rMaxT_i {ns : List Int} (h : ns ≠ []) : rMaxT [.tup (ns.map D.int)] O Q = Q (.int (lmx ns)) O := by simp only [rMaxT, asInts_map, ne_eq, h, not_false_eq_true, true_and]
theorem rDClr_r {kvs : List (Key × D)} (h : O a = some (.dic kvs)) : rDClr (.ref a) O Q = Q .non (updO O a (.dic [])) := by simp only [rDClr, h]
end
end Kf
/-! Dl26: defs as values (called, compared), a caught exception that the suite holds as a thing. -/
namespace Kf
open PySem PySem.Spec L2
open PyProof.Rows hiding St
variable {M : MX}
/-! ### functions compared -/
theorem sl_fn_eq : Slot "function" "__eq__" "object.__eq__" :=
  .of (owner := "object") (n := "__eq__") (by rw [typeLookup_type, builtinLookup_eq_fast]; kernel_rfl) (by decide +kernel) (by decide +kernel) (by decide +kernel)
    (by first | exact .inl (by decide +kernel) | exact .inr (by decide +kernel)) (by rw [isSubtype_type]; kernel_rfl)
theorem sl_fn_ne : Slot "function" "__ne__" "object.__ne__" :=
  .of (owner := "object") (n := "__ne__") (by rw [typeLookup_type, builtinLookup_eq_fast]; kernel_rfl) (by decide +kernel) (by decide +kernel) (by decide +kernel)
    (by first | exact .inl (by decide +kernel) | exact .inr (by decide +kernel)) (by rw [isSubtype_type]; kernel_rfl)
section
variable {prog : Program} {w : World} {A : Around} {E : Value → Shared → Prop} {s : Shared} {x y : Addr}
theorem fn_noTuple {ox : Obj} (hx : s.TypeIs (.ref x) "function") (h : s.heap.get? x = some ox) : ox.cls ≠ .type "tuple" := by
  obtain ⟨o, ho, hc⟩ := hx
  rw [h] at ho; cases ho
  rw [hc]; simp
theorem fnSp_same (hx : s.TypeIs (.ref x) "function") {Q : Option Value → Shared → Prop} (hq : Q (some (.bool true)) s) :
    wpAny (model prog w) A (callSpecialIfBound? (.ref x) "__eq__" [.ref x]) Q E s :=
  wpAny_callSpecialIfBound?_slot hx sl_fn_eq (wpAny_call (codeAny_call_builtin sl_fn_eq.plain F.cmpEntry_eq (sl_fn_eq.check _ _ _ _ _ _ _ _ hx (F.cmpArgs_eq _ _) (objEq_entry_same hq))))
theorem fnSp_other (hx : s.TypeIs (.ref x) "function") (hy : s.TypeIs (.ref y) "function") (hxy : x ≠ y) {Q : Option Value → Shared → Prop} (hq : Q (some .notImplemented) s) :
    wpAny (model prog w) A (callSpecialIfBound? (.ref x) "__eq__" [.ref y]) Q E s := by
  obtain ⟨ox, h1, c1⟩ := id hx
  obtain ⟨oy, h2, c2⟩ := id hy
  exact wpAny_callSpecialIfBound?_slot hx sl_fn_eq (wpAny_call (codeAny_call_builtin sl_fn_eq.plain F.cmpEntry_eq (sl_fn_eq.check _ _ _ _ _ _ _ _ hx (F.cmpArgs_eq _ _)
    (objEq_entry_other hxy h1 h2 (fn_noTuple hx h1) hq))))
theorem fnTe_same (hx : s.TypeIs (.ref x) "function") {Q : Option Value → Shared → Prop} (hq : Q (some (.bool true)) s) : wpAny (model prog w) A (tryCompare (.ref x) "__eq__" (.ref x)) Q E s := by
  simp only [tryCompare]
  exact wpAny_bind (fnSp_same hx (wpAny_pure hq))
theorem fnTe_other (hx : s.TypeIs (.ref x) "function") (hy : s.TypeIs (.ref y) "function") (hxy : x ≠ y) {Q : Option Value → Shared → Prop} (hq : Q none s) : wpAny (model prog w) A (tryCompare (.ref x) "__eq__" (.ref y)) Q E s := by
  simp only [tryCompare]
  exact wpAny_bind (fnSp_other hx hy hxy (wpAny_pure hq))
theorem fnNe_same (hx : s.TypeIs (.ref x) "function") (hu : A.units < cLine) {Q : Fin → Shared → Prop} (hq : Q (.done (.ret (.bool false))) s) :
    wpAny (model prog w) A (Builtin.«object.__ne__» ⟨[.ref x, .ref x], []⟩) Q E s := by
  unfold Builtin.«object.__ne__»
  repeat (first | with_reducible refine wpAny_cRoomFor hu ?_ | with_reducible refine fnSp_same hx ?_ | wp_step)
  exact hq
theorem fnNe_other (hx : s.TypeIs (.ref x) "function") (hy : s.TypeIs (.ref y) "function") (hxy : x ≠ y) (hu : A.units < cLine) {Q : Fin → Shared → Prop} (hq : Q (.done (.ret .notImplemented)) s) :
    wpAny (model prog w) A (Builtin.«object.__ne__» ⟨[.ref x, .ref y], []⟩) Q E s := by
  unfold Builtin.«object.__ne__»
  repeat (first | with_reducible refine wpAny_cRoomFor hu ?_ | with_reducible refine fnSp_other hx hy hxy ?_ | wp_step)
  exact hq
theorem fnTn_same (hx : s.TypeIs (.ref x) "function") (hu : A.units + 1 < cLine) {Q : Option Value → Shared → Prop} (hq : Q (some (.bool false)) s) : wpAny (model prog w) A (tryCompare (.ref x) "__ne__" (.ref x)) Q E s := by
  simp only [tryCompare]
  refine wpAny_bind (wpAny_callSpecialIfBound?_slot hx sl_fn_ne (wpAny_call (codeAny_call_builtin sl_fn_ne.plain F.cmpEntry_ne
    (sl_fn_ne.check _ _ _ _ _ _ _ _ hx (F.cmpArgs_ne _ _) (fnNe_same (A := A.in1) hx hu ?_)))))
  exact wpAny_pure hq
theorem fnTn_other (hx : s.TypeIs (.ref x) "function") (hy : s.TypeIs (.ref y) "function") (hxy : x ≠ y) (hu : A.units + 1 < cLine) {Q : Option Value → Shared → Prop} (hq : Q none s) : wpAny (model prog w) A (tryCompare (.ref x) "__ne__" (.ref y)) Q E s := by
  simp only [tryCompare]
  refine wpAny_bind (wpAny_callSpecialIfBound?_slot hx sl_fn_ne (wpAny_call (codeAny_call_builtin sl_fn_ne.plain F.cmpEntry_ne
    (sl_fn_ne.check _ _ _ _ _ _ _ _ hx (F.cmpArgs_ne _ _) (fnNe_other (A := A.in1) hx hy hxy hu ?_)))))
  exact wpAny_pure hq
theorem fn_eq (hx : s.TypeIs (.ref x) "function") (hy : s.TypeIs (.ref y) "function") (hu : A.units < cLine) {Q : Value → Shared → Prop} (hq : Q (.bool (decide (x = y))) s) : wpAny (model prog w) A (compareOp .Eq (.ref x) (.ref y)) Q E s := by
  show wpAny _ A (richCompare .Eq _ _) Q E s
  obtain ⟨ox, h1, c1⟩ := id hx
  obtain ⟨oy, h2, c2⟩ := id hy
  by_cases e : x = y
  · subst e
    simp only [richCompare, cmpInfo_Eq, oneThing_ref]
    repeat (first | with_reducible refine wpAny_cRoomFor hu ?_ | with_reducible refine wpAny_typeOf hx ?_ | with_reducible refine fnTe_same hx ?_ | wp_step)
    simpa using hq
  · rw [decide_eq_false e] at hq
    simp only [richCompare, cmpInfo_Eq, oneThing_ref]
    repeat (first | with_reducible refine wpAny_cRoomFor hu ?_ | with_reducible refine wpAny_typeOf hx ?_ | with_reducible refine wpAny_typeOf hy ?_ | with_reducible refine fnTe_other hx hy e ?_ | with_reducible refine fnTe_other hy hx (Ne.symm e) ?_ | with_reducible refine wpAny_isSame_ref_other e h1 h2 (fn_noTuple hx h1) ?_ | wp_step)
    exact hq
theorem fn_ne (hx : s.TypeIs (.ref x) "function") (hy : s.TypeIs (.ref y) "function") (hu : A.units + 1 < cLine) {Q : Value → Shared → Prop} (hq : Q (.bool (!decide (x = y))) s) : wpAny (model prog w) A (compareOp .NotEq (.ref x) (.ref y)) Q E s := by
  show wpAny _ A (richCompare .NotEq _ _) Q E s
  obtain ⟨ox, h1, c1⟩ := id hx
  obtain ⟨oy, h2, c2⟩ := id hy
  have hu0 : A.units < cLine := Nat.lt_of_succ_lt hu
  by_cases e : x = y
  · subst e
    simp only [richCompare, cmpInfo_NotEq, oneThing_ref]
    repeat (first | with_reducible refine wpAny_cRoomFor hu0 ?_ | with_reducible refine wpAny_typeOf hx ?_ | with_reducible refine fnTn_same hx hu ?_ | wp_step)
    simpa using hq
  · rw [decide_eq_false e] at hq
    simp only [richCompare, cmpInfo_NotEq, oneThing_ref]
    repeat (first | with_reducible refine wpAny_cRoomFor hu0 ?_ | with_reducible refine wpAny_typeOf hx ?_ | with_reducible refine wpAny_typeOf hy ?_ | with_reducible refine fnTn_other hx hy e hu ?_ | with_reducible refine fnTn_other hy hx (Ne.symm e) hu ?_ | with_reducible refine wpAny_isSame_ref_other e h1 h2 (fn_noTuple hx h1) ?_ | wp_step)
    exact hq
end
theorem isFn_type {K : PySem.W.Frag} {s : Shared} {f : Addr} (X : K.In s.heap) (h : PySem.W.isFn K (.ref f) = true) : s.TypeIs (.ref f) "function" := by
  unfold PySem.W.isFn PySem.W.typeIn at h
  cases e : K.lookup f with
  | none => simp [e] at h
  | some o =>
    refine ⟨o, X _ _ e, ?_⟩
    simpa [e] using h
/-- two defs compared -/
def rFnEq (K : PySem.W.Frag) (neg : Bool) : R2D := fun x y O Q => ∃ f g, x = .ref f ∧ y = .ref g ∧ PySem.W.isFn K (.ref f) = true ∧ PySem.W.isFn K (.ref g) = true ∧ Q (.bl (neg ^^ decide (f = g))) O
section
variable {X : Cx}
theorem od_feq (hu : X.A.units + 200 < cLine) : OpD M X (compareOp .Eq) (rFnEq X.K false) := by
  intro pins s σ H x y v u Q I rx ry q
  obtain ⟨F, O, P, dx, dy, R, g, r1, r2, ⟨a, b, rfl, rfl, ha, hb, q⟩, po⟩ := q
  simp only [Rep] at r1 r2
  subst r1 r2
  obtain rfl : v = Value.ref a := rx
  obtain rfl : u = Value.ref b := ry
  exact fn_eq (isFn_type I.kIn ha) (isFn_type I.kIn hb) (by omega) ⟨.bl _, H, I, rfl, po.at g q (by simp only [Rep, Bool.false_xor])⟩
theorem od_fne (hu : X.A.units + 200 < cLine) : OpD M X (compareOp .NotEq) (rFnEq X.K true) := by
  intro pins s σ H x y v u Q I rx ry q
  obtain ⟨F, O, P, dx, dy, R, g, r1, r2, ⟨a, b, rfl, rfl, ha, hb, q⟩, po⟩ := q
  simp only [Rep] at r1 r2
  subst r1 r2
  obtain rfl : v = Value.ref a := rx
  obtain rfl : u = Value.ref b := ry
  exact fn_ne (isFn_type I.kIn ha) (isFn_type I.kIn hb) (by omega) ⟨.bl _, H, I, rfl, po.at g q (by simp only [Rep, Bool.true_xor])⟩
/-- a def of the text as a value -/
theorem de_fnv {x : Str} {st : Stmt} {ps : List Str} {f : Addr} {fd : FuncData} {pos : Pos} (N : Fn X.K X.mg x st ps f fd) (hg : Gl X x) (hd : (x == ("__debug__" : Str)) = false := by decide) : DE M X (.Name x pos) (fC (.ref f)) :=
  de_glob hg N.m (v := .ref f) rfl (fun _ => by simp only [Rep]) hd
end
/-! ### a call of what an expression tells -/
def sOne (a : Addr) (sp : DSp) : Addr → DSp → Prop := fun f s => f = a ∧ s = sp
def sOr (S T : Addr → DSp → Prop) : Addr → DSp → Prop := fun f s => S f s ∨ T f s
def HeldD (P : Program) (w : World) (K : PySem.W.Frag) (mg : Str → Option Value) (base : Heap) (CX : CXT) (k : Nat) (S : Addr → DSp → Prop) : Prop :=
  ∀ f sp, S f sp → ∃ fd ps, FnOk P w K mg base CX k f fd ps (liftSp K sp) ∧ PySem.W.keepIn K (.ref f) = true ∧ Binds K fd ps []
section
variable {P : Program} {w : World} {K : PySem.W.Frag} {mg : Str → Option Value} {base : Heap} {CX : CXT} {k : Nat}
theorem held_one {x : Str} {st : Stmt} {ps : List Str} {f : Addr} {fd : FuncData} {sp : DSp} (N : Fn K mg x st ps f fd) (G : FnOk P w K mg base CX k f fd ps (liftSp K sp)) : HeldD P w K mg base CX k (sOne f sp) := by
  rintro _ _ ⟨rfl, rfl⟩
  exact ⟨fd, ps, G, N.F.kp, N.b⟩
theorem held_or {S T : Addr → DSp → Prop} (A : HeldD P w K mg base CX k S) (B : HeldD P w K mg base CX k T) : HeldD P w K mg base CX k (sOr S T) := fun f sp h => h.elim (A f sp) (B f sp)
end
def fCallE (S : Addr → DSp → Prop) (fe : FE) (fr : FA) : FE := fun ρ O Q => fe ρ O fun d O1 => ∃ f sp, d = .ref f ∧ S f sp ∧ fr ρ O1 fun ds O2 => sp ds O2 Q X0
def fCallEX (S : Addr → DSp → Prop) (RX : XW) (fe : FE) (fr : FA) : FE := fun ρ O Q => fe ρ O fun d O1 => ∃ f sp, d = .ref f ∧ S f sp ∧ fr ρ O1 fun ds O2 => sp ds O2 Q fun cls fs O' => RX cls fs ρ O'
section
variable {X : Cx} {e f₀ : Expr} {es : List Expr} {fe : FE} {fr : FA} {k : Nat} {S : Addr → DSp → Prop} {pos : Pos} {RX : XW} {W : WX}
theorem de_callE (hs : HeldD X.prog X.w X.K X.mg X.base CX0 k S) (hr : Room k X.A) (hf : DE M X f₀ fe) (ha : DA M X (e :: es) fr)
    (hc : eval (.Call f₀ (e :: es) [] pos) X.env = (do callWith pos (← eval f₀ X.env) [] (backTo pos (starEach (e :: es) X.env)) (backToKw pos (keywordEach [] X.env))) := by rfl)
    (he : starEach (e :: es) X.env = (false, eval e X.env) :: starEach es X.env := by rfl) (hpl : (backTo pos (starEach es X.env)).any (·.1) = false := by rfl) : DE M X (.Call f₀ (e :: es) [] pos) (fCallE S fe fr) := by
  refine ⟨fun pins s σ H Q I h => ?_⟩
  obtain ⟨F, O, P, ρ, R, g, en, q, po⟩ := h
  rw [hc]
  refine wpAny_bind (thn (hf.run pins s σ H (fun v' H' => ∃ F1 O1 x, Rep X.K F1 x v' ∧ Same F F1 ∧ Gd M X.K F1 O1 P H' ∧ ∃ f sp, x = .ref f ∧ S f sp ∧ fr ρ O1 fun ds O2 => sp ds O2 R X0) I
    ⟨F, O, P, ρ, _, g, en, q, fun x O1 F1 H1 v q1 s1 g1 r1 => ⟨F1, O1, x, r1, s1, g1, q1⟩⟩) fun u s1 ⟨v, H1, I1, ru, F1, O1, x, r1, s1', g1, f, sp, ex, hS, q1⟩ => ?_)
  subst ex
  simp only [Rep] at r1
  subst r1
  obtain rfl : u = Value.ref f := ru
  obtain ⟨fd, ps, G, hk, hb⟩ := hs f sp hS
  refine PySem.W.callWith_K (h₀ := X.base) I1.ok.mod.kin hk (thn (ha.run pos pins s1 σ H1 (fun vs H2 => liftSp X.K sp (vs ++ []) H2 Q E0) I1 ⟨F1, O1, P, ρ, _, g1, en.mono s1', q1, fun ds O2 F2 H2 vs q2 s2 g2 r2 => ?_⟩) fun us s2 ⟨vs, H2, I2, r, q2⟩ => ⟨I2.kIn, ?_⟩) he hpl
  · show liftSp X.K sp (vs ++ []) H2 Q E0
    rw [List.append_nil]
    exact ⟨F2, O2, P, ds, R, X0, g2.mt, r2, q2, po.mt g2 (s1'.trans s2), fun _ _ _ _ _ _ z => z.elim⟩
  · exact run_fn G hr hb .nil pass0 I2 r q2
theorem de_callEX (hs : HeldD X.prog X.w X.K X.mg X.base (L2.CX X.prog X.w) k S) (hr : Room k X.A) (tk : Takes X W) (hf : DE (mxw X.K RX W) X f₀ fe) (ha : DA (mxw X.K RX W) X (e :: es) fr)
    (hc : eval (.Call f₀ (e :: es) [] pos) X.env = (do callWith pos (← eval f₀ X.env) [] (backTo pos (starEach (e :: es) X.env)) (backToKw pos (keywordEach [] X.env))) := by rfl)
    (he : starEach (e :: es) X.env = (false, eval e X.env) :: starEach es X.env := by rfl) (hpl : (backTo pos (starEach es X.env)).any (·.1) = false := by rfl) : DE (mxw X.K RX W) X (.Call f₀ (e :: es) [] pos) (fCallEX S RX fe fr) := by
  refine ⟨fun pins s σ H Q I h => ?_⟩
  obtain ⟨F, O, P, ρ, R, g, en, q, po⟩ := h
  rw [hc]
  refine wpAny_bind (thn (hf.run pins s σ H (fun v' H' => ∃ F1 O1 x, Rep X.K F1 x v' ∧ Same F F1 ∧ Gd (mxw X.K RX W) X.K F1 O1 P H' ∧ ∃ f sp, x = .ref f ∧ S f sp ∧ fr ρ O1 fun ds O2 => sp ds O2 R fun cls fs O' => RX cls fs ρ O') I
    ⟨F, O, P, ρ, _, g, en, q, fun x O1 F1 H1 v q1 s1 g1 r1 => ⟨F1, O1, x, r1, s1, g1, q1⟩⟩) fun u s1 ⟨v, H1, I1, ru, F1, O1, x, r1, s1', g1, f, sp, ex, hS, q1⟩ => ?_)
  subst ex
  simp only [Rep] at r1
  subst r1
  obtain rfl : u = Value.ref f := ru
  obtain ⟨fd, ps, G, hk, hb⟩ := hs f sp hS
  refine PySem.W.callWith_K (h₀ := X.base) I1.ok.mod.kin hk (thn (ha.run pos pins s1 σ H1 (fun vs H2 => liftSp X.K sp vs H2 Q (WE W σ)) I1 ⟨F1, O1, P, ρ, _, g1, en.mono s1', q1, fun ds O2 F2 H2 vs q2 s2 g2 r2 => ?_⟩) fun us s2 ⟨vs, H2, I2, r, q2⟩ => ⟨I2.kIn, ?_⟩) he hpl
  · refine ⟨F2, O2, P, ds, R, _, g2.mt, r2, q2, po.mt g2 (s1'.trans s2), fun cls fs O' F' H' dd q3 s3 g3 xd => ?_⟩
    exact (g3.re ((mxw X.K RX W).mono g2.rl s3 (Same.refl _))).wish q3 xd (en.mono (s1'.trans (s2.trans s3)))
  · exact run_fnS G hr hb (passAt tk σ) I2 r q2
end
def wHas (K : PySem.W.Frag) (c : Value) (i : Nat) (ts : TS) (Wo : WX) (D : Ends) : WX := fun cls d σ H =>
  ∃ b, PySem.W.exmOne K cls c = some b ∧
    (b = true → ∀ a, H a = none → ts { nx := fun τ H2 => D.nx (τ.set i none) H2, rt := D.rt, bk := fun τ H2 => D.bk (τ.set i none) H2, ct := fun τ H2 => D.ct (τ.set i none) H2 } (σ.set i (some (.ref a))) (upd H a (xO a cls d))) ∧
    (b = false → Wo cls d σ H)
section
variable {X : Cx} {x n : Str} {c : Value} {i : Nat} {body suite : List Stmt} {b₀ : Stmt} {np pos pos' : Pos} {tb : WX → TS} {ts : TS} {Wo : WX}
theorem ps_try_has (hx : X.ex = []) (stk : X.stack = X.env :: X.outer) (frm : X.env.frame = some X.env.locals) (nd : X.N.Nodup) (at_ : X.N[i]? = some n) (kd : X.env.kindOf n = some .local) (nm : Names X x c) (tk : Takes X Wo)
    (hb : ∀ (W : WX) (pn : List (Addr × Obj)) (xe : Value → Shared → Prop), Takes (X.tr pn xe) W → PassesOwn (model X.prog X.w) X.A X.env xe → PSs (X.tr pn xe) body (tb W))
    (hsu : ∀ (a : Addr) (pn : List (Addr × Obj)), PSs (X.suite a pn) (b₀ :: suite) ts) :
    PS X (.Try body [.ExceptHandler (some (.Name x np)) (some n) (b₀ :: suite) pos'] [] [] pos) (fun D σ H => tb (wHas X.K c i ts Wo D) D σ H) := by
  constructor
  intro pins s σ H D I h
  have xok := I.ok
  have frs_ : X.A.frames = some (X.env :: X.outer) := by rw [xok.frames, stk]
  apply wpAny_Try_except
  have B := hb (wHas X.K c i ts Wo D) (X.pn ++ pins) (fun e s₁ => wpAny (model X.prog X.w) X.A (noteFrame e X.env) (fun _ s₂ => wpAny (model X.prog X.w) X.A (setFlight e none)
    (fun _ s₃ => wpAny (model X.prog X.w) X.A (handleBy e X.env [.ExceptHandler (some (.Name x np)) (some n) (b₀ :: suite) pos']) (SP X pins D) X.xe s₃) X.xe s₂) X.xe s₁) ?lnd PassesOwn.looking
  case lnd =>
    rintro u t ⟨a, G, tI, pins2, τ, H2, cls, d, rfl, J2, nG, up, sky, fr, os, ag, b, m1, yes, no⟩
    have J := J2.ofTry xok
    rw [stk] at sky
    show wpAny (model X.prog X.w) X.A (noteFrame (.ref a) X.env) _ _ _
    refine Sky.land Zc.steady frs_ frm sky fun g3 F3 U3 => ?_
    have J3 : Inv X pins τ H2 { t with heap := g3 } := J.landed nG F3.1 (up.trans U3) os ag
    obtain ⟨o3, v3, e3, z3, d3⟩ := F3.there
    have offS : a ∉ frs (X.env :: X.outer) := fun q => by
      obtain ⟨_, o', e', nf⟩ := F3.2.2.1.mem q
      rw [e3] at e'; cases e'
      exact nf _ d3
    have offL : a ≠ X.env.locals := fun z => offS (List.mem_filterMap.mpr ⟨X.env, List.mem_cons_self, by rw [frm, z]⟩)
    have offF : a ∉ X.fs := fun q => by
      obtain ⟨e, he, k⟩ := List.mem_filterMap.mp q
      exact offS (List.mem_filterMap.mpr ⟨e, List.mem_cons_of_mem _ he, k⟩)
    have newI : tI.heap.get? a = none := by
      cases e : tI.heap.get? a with
      | none => rfl
      | some o =>
        have k := nG a o e (by rw [stk]; exact offS)
        rw [F3.2.1] at k; cases k
    have new0 : X.s_0.heap.get? a = none := by
      cases e : X.s_0.heap.get? a with
      | none => rfl
      | some o =>
        obtain ⟨o', k⟩ := J.base.there a o e (by rw [hx]; exact fun z => nomatch z)
        rw [newI] at k; cases k
    have newP : ∀ p ∈ X.pn ++ pins, p.1 ≠ a := fun p hp z => by
      have k := (J.pin p hp).1
      rw [z, newI] at k; cases k
    have S3 := J3.suite e3 d3 fr offL offF
    refine wpAny_handleBy_cons (codeAny_handlers_test ?_) (by intro q; cases q)
    have look : PySem.W.Looks (model X.prog X.w) g3 (typeOf (.ref a)) cls := fun A Q E s k q => wpAny_typeOf_ref (k _ _ e3) (by rw [z3.1]; exact q)
    have asked := PySem.W.exm_one (M := model X.prog X.w) J3.kIn look m1
    have named : ∀ {Q E : Value → Shared → Prop}, Q c { t with heap := g3 } → wpAny (model X.prog X.w) (X.A.mark (some (.ref a))) (eval (.Name x np) X.env) Q E { t with heap := g3 } := by
      intro Q E q
      obtain ⟨hg, hd, k | ⟨k, kb, kn⟩⟩ := nm
      · exact ld_glob (X := X.suite a ((a, o3) :: (X.pn ++ pins))) S3 hg k q hd
      · exact ld_blt (X := X.suite a ((a, o3) :: (X.pn ++ pins))) S3 hg k kb q kn hd
    refine named (asked.here ?_)
    cases b with
    | false =>
      show wpAny _ X.A (handleBy (.ref a) X.env []) _ _ _
      apply wpAny_handleBy_nil
      obtain ⟨_, _, _, oe, vs, Tb, oT, ts', he, _, hd, h1, _⟩ := id F3
      unfold PySem.passOn
      refine wpAny_bind (wpAny_field he hd h1 ?_)
      rw [if_neg (show ¬ ((Value.ref Tb == Value.none) = true) from by simp)]
      have out : wpAny (model X.prog X.w) X.A (setFlight (.ref a) X.env.frame) (fun _ s4 => wpAny (model X.prog X.w) X.A (throw (.ref a) : Sem Flow) (SP X pins D) X.xe s4) X.xe { t with heap := g3 } := by
        rw [frm]
        exact HandSPX.setFlight_upZ F3 fun h4 hh4 up4 => wpAny_throw (tk _ _ ⟨a, G, tI, pins, τ, H2, cls, d, rfl, J, nG, (up.trans U3).trans up4, .inr (.inr (by rw [stk]; exact hh4)), fr, os, ag, no rfl⟩)
      first
        | exact wpAny_bind (wpAny_pure (wpAny_bind out))
        | exact wpAny_bind out
    | true =>
      apply codeAny_handlers_suite_as
      refine HandSPX.lands_againZ F3 fun g4 F4 U4 => ?_
      have J4 : Inv X pins τ H2 { t with heap := g4 } := J.landed nG F4.1 ((up.trans U3).trans U4) os ag
      obtain ⟨o4, v4, e4, z4, d4⟩ := F4.there
      have S4 : Inv (X.suite a (X.pn ++ pins)) [] τ H2 { t with heap := g4 } := ⟨J4.ok.suite _ _, J4.os, J4.bare, J4.base, J4.loc, J4.cell, J4.free, J4.freeC, fun p hp => J4.pin p (by rw [List.append_nil] at hp; exact hp), J4.hok, J4.len⟩
      have T4 := Inv.track (o := xO a cls d) S4 e4 d4 fr new0 (fun p hp => newP p (by rw [List.append_nil] at hp; exact hp)) (xO_ok e4 z4 d4)
      have un : ∀ {τ6 H6 s6}, Inv (X.suite a (X.pn ++ pins)) [] τ6 H6 s6 → Inv X pins τ6 H6 s6 := fun I => ⟨xok, I.os, I.bare, I.base, I.loc, I.cell, I.free, I.freeC, fun p hp => I.pin p (List.mem_append_left _ hp), I.hok, I.len⟩
      refine store_ok (X := X.suite a (X.pn ++ pins)) (v := .ref a) T4 nd at_ (.inl kd) rfl (fun t5 S5 => ?_) (.inr kd)
      refine wpAny_mono ((hsu a (X.pn ++ pins)).run [] t5 _ _ _ S5 (yes rfl a fr)) (fun f t6 hsp => ?_) (fun _ _ z => False.elim z)
      cases f with
      | next =>
        obtain ⟨τ6, H6, S6, q6⟩ := hsp
        exact gone_ok (un S6) nd at_ kd fun t7 K7 => ⟨_, _, K7, q6⟩
      | brk =>
        obtain ⟨τ6, H6, S6, q6⟩ := hsp
        exact gone_ok (un S6) nd at_ kd fun t7 K7 => ⟨_, _, K7, q6⟩
      | cont =>
        obtain ⟨τ6, H6, S6, q6⟩ := hsp
        exact gone_ok (un S6) nd at_ kd fun t7 K7 => ⟨_, _, K7, q6⟩
      | ret u =>
        obtain ⟨v6, τ6, H6, S6, r6, q6⟩ := hsp
        exact gone_ok (un S6) nd at_ kd fun t7 K7 => ⟨_, _, _, K7, r6, q6⟩
  refine wpAny_mono (B.run [] s σ H D (I.toTry _) h) (fun f s1 hsp => ?_) (fun e s1 he => he)
  cases f with
  | next =>
    obtain ⟨τ, H2, J, q⟩ := hsp
    exact wpAny_execs_nil ⟨τ, H2, J.ofTry xok, q⟩
  | brk =>
    obtain ⟨τ, H2, J, q⟩ := hsp
    exact ⟨τ, H2, J.ofTry xok, q⟩
  | cont =>
    obtain ⟨τ, H2, J, q⟩ := hsp
    exact ⟨τ, H2, J.ofTry xok, q⟩
  | ret u =>
    obtain ⟨v, τ, H2, J, r, q⟩ := hsp
    exact ⟨v, τ, H2, J.ofTry xok, r, q⟩
end
/-! ### a caught exception held in the suite -/
def endsHas (i : Nat) (R : DEnds) : DEnds := { nx := fun ρ O => R.nx (ρ.set i none) O, rt := R.rt, bk := fun ρ O => R.bk (ρ.set i none) O, ct := fun ρ O => R.ct (ρ.set i none) O }
def xHs (K : PySem.W.Frag) (c : Value) (i : Nat) (gs : GS) (RXo : XW) (R : DEnds) : XW := fun cls fs ρ O => ∃ b, PySem.W.exmOne K cls c = some b ∧
  (b = true → ∀ a, O a = none → gs (endsHas i R) (ρ.set i (some (.ref a))) (updO O a (.exc cls fs))) ∧ (b = false → RXo cls fs ρ O)
/-- try: .. except C as n: .. where n is a thing like any other -/
def gTryHs (K : PySem.W.Frag) (c : Value) (i : Nat) (gb : XW → GS) (gs : GS) (RXo : XW) : GS := fun R ρ O => gb (xHs K c i gs RXo R) R ρ O
section
variable {X : Cx} {x n : Str} {c : Value} {i : Nat} {body suite : List Stmt} {b₀ : Stmt} {np pos pos' : Pos} {gb : XW → GS} {gs : GS} {RXo : XW} {Wo : WX}
theorem ds_try_has (hN : X.N.Nodup) (hi : X.N[i]? = some n) (hln : X.env.kindOf n = some .local) (hc : Names X x c) (tk : Takes X Wo) (ho : Outs M X.K RXo Wo)
    (hb : ∀ (RX : XW) (W : WX) (pn : List (Addr × Obj)) (xe : Value → Shared → Prop), Takes (X.tr pn xe) W → PassesOwn (model X.prog X.w) X.A X.env xe → DSs (mxw X.K RX W) (X.tr pn xe) body (gb RX))
    (hsu : ∀ (a : Addr) (pn : List (Addr × Obj)), DSs M (X.suite a pn) (b₀ :: suite) gs)
    (hx : X.ex = [] := by rfl) (hs : X.stack = X.env :: X.outer := by rfl) (hf : X.env.frame = some X.env.locals := by rfl) :
    DS M X (.Try body [.ExceptHandler (some (.Name x np)) (some n) (b₀ :: suite) pos'] [] [] pos) (gTryHs X.K c i gb gs RXo) :=
  psMono (ps_try_has (tb := fun W => liftSW X.K W gb) (ts := liftS M X.K gs) hx hs hf hN hi hln hc tk (fun W pn xe tk' ps => pss_sw (X := X.tr pn xe) fun RX => hb RX W pn xe tk' ps)
    (fun a pn => hsu a pn)) fun D σ H h => by
  obtain ⟨F, O, P, ρ, R, g, en, q, po⟩ := h
  refine ⟨_, F, O, P, ρ, R, g.re ⟨P, Same.refl _, fun cls fs ρ' O' F' H' dd σ' q1 s1 g1 xd en1 => ?_⟩, en, q, po.re g⟩
  obtain ⟨b, hb1, hb2, hb3⟩ := q1
  have gM := g1.re (M' := M) (M.mono g.rl s1 (Same.refl _))
  refine ⟨b, hb1, fun hbt a ha => ?_, fun hbf => ho F' O' P H' cls fs ρ' dd σ' gM (hb3 hbf) xd en1⟩
  have z := hb2 hbt a (g1.freeO ha)
  refine ⟨F', updO O' a (.exc cls fs), P, ρ'.set i (some (.ref a)), _, gM.newO (o := xO a cls dd) (c := .exc cls fs) ha ⟨_, dd, upd_same, xO_is, xd⟩, en1.set (by simp only [Rep]) i, z, ⟨fun ρ3 O3 F3 H3 σ3 q3 s3 g3 en3 => ?_, fun d3 O3 F3 H3 v3 q3 s3 g3 r3 => ?_, fun ρ3 O3 F3 H3 σ3 q3 s3 g3 en3 => ?_, fun ρ3 O3 F3 H3 σ3 q3 s3 g3 en3 => ?_⟩⟩
  · exact po.nx _ _ F3 _ _ q3 (s1.trans s3) g3 (en3.wipe i)
  · exact po.rt _ O3 F3 H3 _ q3 (s1.trans s3) g3 r3
  · exact po.bk _ O3 F3 H3 _ q3 (s1.trans s3) g3 (en3.wipe i)
  · exact po.ct _ O3 F3 H3 _ q3 (s1.trans s3) g3 (en3.wipe i)
end
theorem ap_gTryHs (K : PySem.W.Frag) (c : Value) (i : Nat) (gb : XW → GS) (gs : GS) (RXo : XW) {R : DEnds} {ρ : DEnv} {O : Ow} : gTryHs K c i gb gs RXo R ρ O = gb (xHs K c i gs RXo R) R ρ O := rfl
theorem ap_fCallE (S : Addr → DSp → Prop) (fe : FE) (fr : FA) {ρ : DEnv} {O : Ow} {Q : VD} : fCallE S fe fr ρ O Q = fe ρ O fun d O1 => ∃ f sp, d = .ref f ∧ S f sp ∧ fr ρ O1 fun ds O2 => sp ds O2 Q X0 := rfl
theorem ap_fCallEX (S : Addr → DSp → Prop) (RX : XW) (fe : FE) (fr : FA) {ρ : DEnv} {O : Ow} {Q : VD} : fCallEX S RX fe fr ρ O Q = fe ρ O fun d O1 => ∃ f sp, d = .ref f ∧ S f sp ∧ fr ρ O1 fun ds O2 => sp ds O2 Q fun cls fs O' => RX cls fs ρ O' := rfl
theorem rFnEq_r {K : PySem.W.Frag} {neg : Bool} {f g : Addr} {O : Ow} {Q : VD} (hf : PySem.W.isFn K (.ref f) = true) (hg : PySem.W.isFn K (.ref g) = true) (h : Q (.bl (neg ^^ decide (f = g))) O) : rFnEq K neg (.ref f) (.ref g) O Q := ⟨f, g, rfl, rfl, hf, hg, h⟩
/-! ### a def that is called while an exception is handled -/
structure RoomC (k : Nat) (A : Around) : Prop where
  dp : A.depth + 3 * k + 5 < recursionLimit
  un : A.units + 16 * k + 200 < cLine
theorem RoomC.deeper {k : Nat} {A : Around} (r : RoomC (k + 1) A) (env : Env) : RoomC k (A.deeper env) :=
  ⟨by have := r.dp; show A.depth + 1 + 3 * k + 5 < _; omega, by have := r.un; show A.units + 3 + 16 * k + 200 < _; omega⟩
theorem roomC_mark {k : Nat} {A : Around} (r : Room k A) (h : Option Value) : RoomC k (A.mark h) := ⟨r.dp, r.un⟩
structure FnC (P : Program) (w : World) (K : PySem.W.Frag) (mg : Str → Option Value) (base : Heap) (CX : CXT) (k : Nat) (f : Addr) (fd : FuncData) (ps : List Str) (sp : Sp) : Prop where
  len : ∀ vs H Q E, sp vs H Q E → vs.length = ps.length
  run : ∀ (A : Around) (outer : List Env) (s : Shared) (H : Hp) (args : Args) (us : List Value) (vs : List V) (Q : VK) (E : XK), RoomC k A → Env0 P w K mg base A outer s H → BindsTo s fd args (ps.zip us) → Vals vs us → sp vs H Q E →
    codeAny (model P w) A (.call (.ref f) args) (CR CX outer P w H s Q E) s
def cxC (CX : CXT) (P : Program) (w : World) (K : PySem.W.Frag) (mg : Str → Option Value) (base : Heap) (N : List Str) (qual : Str) (scope : Scope) (f : Addr) (cd : Value) (A : Around) (outer : List Env) (s : Shared) (H : Hp) (E : XK) : Cx :=
  { cxOf CX P w K mg base N qual scope f cd A outer s H E with calm := false }
theorem inv_startC {CX : CXT} {P : Program} {w : World} {K : PySem.W.Frag} {mg : Str → Option Value} {base : Heap} {N ps : List Str} {qual : Str} {scope : Scope} {f : Addr} {cd : Value} {A : Around} {outer : List Env} {s s1 : Shared} {H : Hp} {E : XK} {us : List Value} {vs : List V}
    (S : FnScope N ps scope) (e0 : Env0 P w K mg base A outer s H) (hl : vs.length = ps.length) (r : Vals vs us)
    (x : InCallC s s.heap.objs.size (bindL (envOfC qual scope s.heap.objs.size f cd).kindOf (ps.zip us) fun _ => none) (cellsFrom (s.heap.objs.size + 1) scope.names []) (bindC (envOfC qual scope s.heap.objs.size f cd).kindOf (ps.zip us) fun _ => none) s1) :
    Inv (cxC CX P w K mg base N qual scope f cd A outer s H E) [] (L2.start N vs) H s1 := by
  have hpl : ps.length ≤ N.length := by have := congrArg List.length S.pre; rw [List.length_take] at this; omega
  obtain ⟨h1, tk, rfl, hk⟩ := x.done
  have noA : ∀ b : Addr, b ∉ (cxC CX P w K mg base N qual scope f cd A outer s H E).ex := fun b z => absurd (show b ∈ ([] : List Addr) from z) (by simp)
  refine ⟨⟨e0.mod, S.kind, rfl, rfl, Nat.le_refl _, fun y z c h1 h2 => ?_, fun y hy => ?_, fun y c _ h => ?_, (fun z => Bool.noConfusion (show false = true from z)), Around.frames_deeper e0.frames, .inr ⟨rfl, rfl⟩, fun b z => absurd z (noA b), e0.bs, e0.bsz, fun b _ _ => noA b, fun b z => absurd z (noA b), e0.funs, e0.frf⟩,
    rfl, e0.bare, Un.kept hk, ⟨_, x.toInCall.ns, fun i y v h1 h2 h3 => ?_⟩, fun y c h => ⟨_, x.cell y c h⟩, e0.hok.fresh (Nat.le_refl _), fun y c h => ?_, fun q hq => ?_, e0.hok.kept hk, ?_⟩
  · exact name_of_addr x.apart (PySem.mem_of_lookup h1) (PySem.mem_of_lookup h2)
  · have hy : scope.names.lookup y = some .cell ∨ scope.names.lookup y = some .free := hy
    rcases hy with hy | hy
    · exact cell_has hy
    · exact absurd rfl (S.nofree _ (PySem.mem_of_lookup hy))
  · exact Nat.le_of_lt (x.above y c (PySem.mem_of_lookup h))
  · have hi : i < vs.length := by
      unfold L2.start at h2
      by_cases hi : i < vs.length
      · exact hi
      · rw [List.getElem?_append_right (by simpa using hi)] at h2
        rw [List.getElem?_replicate] at h2
        split at h2 <;> cases h2
    have ha : vs[i]? = some v := by
      unfold L2.start at h2
      rw [List.getElem?_append_left (by simpa using hi), List.getElem?_map] at h2
      cases e : vs[i]? with
      | none => rw [e] at h2; cases h2
      | some a => rw [e] at h2; cases h2; rfl
    obtain ⟨u, hu, rv⟩ := r.get ha
    have hp : ps[i]? = some y := by
      rw [← S.pre, List.getElem?_take_of_lt (by omega)]; exact h1
    have ndP : ps.Nodup := by rw [← S.pre]; exact S.nd.sublist (List.take_sublist _ _)
    refine ⟨u, rv, ?_⟩
    rcases S.par y (List.mem_of_getElem? hp) with k | k
    · exact .inl ⟨k, bindL_get ndP hp hu k⟩
    · obtain ⟨c, e⟩ := cell_has (n := s.heap.objs.size + 1) k
      refine .inr ⟨.inl k, c, e, ?_⟩
      have q := x.cell y c e
      rw [bindC_get ndP hp hu (by show scope.names.lookup y ≠ _; rw [k]; decide)] at q
      exact q
  · exact e0.hok.fresh (Nat.le_of_lt (x.above y c (PySem.mem_of_lookup h)))
  · exact absurd (show q ∈ ([] : List (Addr × Obj)) from hq) (by simp)
  · unfold L2.start
    show _ = N.length
    rw [List.length_append, List.length_map, List.length_replicate]
    omega
section
variable {P : Program} {w : World} {K : PySem.W.Frag} {mg : Str → Option Value} {base : Heap}
theorem fun_okC {x qual : Str} {st : Stmt} {f : Addr} {fd : FuncData} {N ps : List Str} {k : Nat} {sp : Sp} (F : Fun K x qual st f fd) (S : FnScope N ps (defScope st)) (len : ∀ vs H Q E, sp vs H Q E → vs.length = ps.length)
    (hbody : ∀ (cdv : Value) (A : Around) (outer : List Env) (s : Shared) (H : Hp) (vs : List V) (Q : VK) (E : XK), RoomC k (A.deeper (envOfC qual (defScope st) s.heap.objs.size f cdv)) → sp vs H Q E →
      ∃ t, PSs (cxC CX0 P w K mg base N qual (defScope st) f cdv A outer s H E).nox (defBody st) t ∧ t { nx := fun _ H' => Q .non H', rt := Q } (L2.start N vs) H) : FnC P w K mg base CX0 (k + 1) f fd ps sp := by
  obtain ⟨oc, od, kV, doc, pm, an, cdv, ct, osl, rfl, lk, hcd⟩ := F.ex
  refine ⟨len, fun A outer s H args us vs Q E hr e0 hb r hsp => ?_⟩
  have hl := len _ _ _ _ hsp
  have KX : K.In s.heap := e0.mod.kin.keeps fun b o e => (e0.bs b o e).1
  have lim : s.heap.NoLimit := e0.mod.nolimit.keeps fun b o e => (e0.bs b o e).1
  have hkind : ∀ y ∈ ps.zip us, (defScope st).names.lookup y.1 = some .local ∨ ((defScope st).names.lookup y.1 = some .cell ∧ ((cellsFrom (s.heap.objs.size + 1) (defScope st).names []).lookup y.1).isSome = true) := fun ⟨n, v⟩ hy => by
    rcases S.par n (List.of_mem_zip hy).1 with q | q
    · exact .inl q
    · exact .inr ⟨q, PySem.W.cellsFrom_some _ _ _ (.inl q)⟩
  refine codeAny_call_function (by have := hr.dp; omega) (KX _ _ lk) rfl S.co S.gen rfl (PySem.W.codeRec_of KX hcd) (hb _ _ _ _ ?_)
  refine wpAny_newFunctionEnv_cells S.kind hkind fun env he s1 x => ?_
  subst he
  refine ⟨lim.keeps x.toInCall.keep, codeAny_func ?_⟩
  obtain ⟨t, ht, hq⟩ := hbody cdv A outer s H vs Q E (hr.deeper _) hsp
  have I : Inv (cxC CX0 P w K mg base N qual (defScope st) f cdv A outer s H E) [] (L2.start N vs) H s1 := inv_startC S e0 hl r x
  refine wpAny_mono (ht.nox.run [] s1 (L2.start N vs) H _ I hq) (fun fl s' hs => ?_) fun e s' hs => hs
  have fin : ∀ {σ' : St} {H' : Hp} {v : V} {u : Value}, Inv (cxC CX0 P w K mg base N qual (defScope st) f cdv A outer s H E) [] σ' H' s' → RelV v u → Q v H' → CE outer P w H s Q u s' :=
    fun {σ' H' v u} J rv q => ⟨v, H', J.os, J.bare, J.base, J.hok, rv, q⟩
  cases fl with
  | ret u =>
    obtain ⟨v, σ', H', J, rv, q⟩ := hs
    exact fin J rv q
  | next =>
    obtain ⟨σ', H', J, q⟩ := hs
    exact fin (v := V.non) (u := Value.none) J rfl q
  | brk =>
    obtain ⟨_, _, _, q⟩ := hs
    exact False.elim q
  | cont =>
    obtain ⟨_, _, _, q⟩ := hs
    exact False.elim q
theorem fn_dC {x qual : Str} {st : Stmt} {f : Addr} {fd : FuncData} {N ps : List Str} {k : Nat} {dsp : DSp} {g : GS} (F : Fun K x qual st f fd) (S : FnScope N ps (defScope st)) (len : ∀ ds O R RE, dsp ds O R RE → ds.length = ps.length)
    (hder : ∀ (cdv : Value) (A : Around) (outer : List Env) (s : Shared) (H : Hp) (E : XK), RoomC k (A.deeper (envOfC qual (defScope st) s.heap.objs.size f cdv)) →
      DSs MT (cxC CX0 P w K mg base N qual (defScope st) f cdv A outer s H E).nox (defBody st) g)
    (hread : ∀ ds O R RE, dsp ds O R RE → g { nx := fun _ O' => R .non O', rt := R } (startD N ds) O) : FnC P w K mg base CX0 (k + 1) f fd ps (liftSp K dsp) := by
  refine fun_okC F S (fun vs H Q E h => ?_) fun cdv A outer s H vs Q E hr h => ?_
  · obtain ⟨F, O, P, ds, R, RE, g, r, q, _⟩ := h
    rw [← r.length]; exact len ds O R RE q
  · obtain ⟨F, O, P, ds, R, RE, gd, r, q, po, _⟩ := h
    refine ⟨_, hder cdv A outer s H E hr, F, O, P, startD N ds, { nx := fun _ O' => R .non O', rt := R }, gd, ?_, hread ds O R RE q, ⟨fun ρ O' F' H' σ q1 s1 g1 _ => ?_, po, fun _ _ _ _ _ z => z.elim, fun _ _ _ _ _ z => z.elim⟩⟩
    · unfold startD L2.start
      rw [r.length]
      exact envOk_start _ r
    · exact po .non O' F' H' .non q1 s1 g1 (by simp only [Rep])
end
section
variable {X : Cx} {e : Expr} {es : List Expr} {fr : FA} {k : Nat} {f : Addr} {fd : FuncData} {ps : List Str} {dsp : DSp} {x : Str} {st : Stmt} {p pos : Pos}
theorem de_callC (N : Fn X.K X.mg x st ps f fd) (G : FnC X.prog X.w X.K X.mg X.base CX0 k f fd ps (liftSp X.K dsp)) (hr : RoomC k X.A) (hg : Gl X x)
    (ha : DA M X (e :: es) fr) (hdb : (x == ("__debug__" : Str)) = false := by decide) (he : starEach (e :: es) X.env = (false, eval e X.env) :: starEach es X.env := by rfl) (hpl : (backTo pos (starEach es X.env)).any (·.1) = false := by rfl) :
    DE M X (.Call (.Name x p) (e :: es) [] pos) (fCall dsp fr) := by
  refine ⟨fun pins s σ H Q I h => ?_⟩
  obtain ⟨F, O, P, ρ, R, g, en, q, po⟩ := h
  refine wpAny_Call_Name_kw (ld_glob I hg N.m ?_ hdb)
  refine PySem.W.callWith_K (h₀ := X.base) I.ok.mod.kin N.F.kp (thn (ha.run pos pins s σ H (fun vs H1 => liftSp X.K dsp vs H1 Q E0) I ⟨F, O, P, ρ, _, g, en, q, fun ds O1 F1 H1 vs q1 s1 g1 r1 => ⟨F1, O1, P, ds, R, X0, g1.mt, r1, q1, po.mt g1 s1, fun _ _ _ _ _ _ z => z.elim⟩⟩) fun us s1 ⟨vs, H1, I1, r, q2⟩ => ⟨I1.kIn, ?_⟩) he hpl
  have hl : us.length = ps.length := by rw [← r.length]; exact G.len _ _ _ _ q2
  have b := N.b s1 us I1.kIn (by rw [List.append_nil]; exact hl)
  rw [List.append_nil] at b
  refine wpAny_call (codeAny_mono (G.run X.A X.stack s1 H1 ⟨us, []⟩ us vs Q E0 hr I1.env0 b r q2) fun r s' hq => ?_)
  cases r with
  | error e => exact pass0 pins σ H1 s1 e s' I1 hq
  | ok fl =>
    cases fl with
    | ret u => exact I1.after hq
    | next => exact False.elim hq
    | brk => exact False.elim hq
    | cont => exact False.elim hq
end
end Kf
set_option maxHeartbeats 1000000
/-! Dl27: exceptions made as values, with and without an own __init__ that keeps one field; the latter raised. -/
namespace Kf
open PySem PySem.Spec L2
open PyProof.Rows hiding St
variable {M : MX}
/-! ### without an own __init__ -/
theorem exO_is {a : Addr} {cls : Value} : IsX a cls none (ExO cls a) := ⟨_, rfl, fun h ⟨oe, vs, h1, h2, h3, _⟩ => ⟨oe, vs, h1, h2, h3⟩⟩
def fMkE (C : Addr) (fe : FE) : FE := fun ρ O Q => fe ρ O fun _ O1 => ∀ a, O1 a = none → Q (.ref a) (updO O1 a (.exc (.ref C) none))
section
variable {X : Cx} {e : Expr} {fe : FE} {x : Str} {C : Addr} {p pos : Pos}
theorem de_mkE (N : ExN X.K X.mg x C) (hg : Gl X x) (he : DE M X e fe) (hs : starEach [e] X.env = (false, eval e X.env) :: starEach [] X.env := by rfl) (hdb : (x == ("__debug__" : Str)) = false := by decide) :
    DE M X (.Call (.Name x p) [e] [] pos) (fMkE C fe) := peMono (pe_exc1 PySem.F.excBase_ValueError N.ex N.g N.kp hg he hs hdb) fun σ H Q h => by
  obtain ⟨F, O, P, ρ, R, g, en, q, po⟩ := h
  exact ⟨F, O, P, ρ, _, g, en, q, fun x O1 F1 H1 v q1 s1 g1 r1 a ha => po _ _ F1 _ _ (q1 a (g1.freeO ha)) s1 (g1.newO ha ⟨_, none, upd_same, exO_is, rfl⟩) (by simp only [Rep])⟩
end
/-! ### with an own __init__ -/
/-- the base class of all own exceptions: its __init__ is ValueError's -/
structure BaseX (K : PySem.W.Frag) (mg : Str → Option Value) (x : Str) (B : Addr) : Prop where
  g : mg x = some (.ref B)
  sp : PySem.W.specialIn K (.ref B) "__getattribute__" = some (some (.builtin "type.__getattribute__"))
  ty : PySem.W.typeIn K (.ref B) = some (.type "type")
  rd : PySem.W.readsIn K B (.type "type") = true
  fc : PySem.W.findCls K (.ref B) (.type "type") "__init__" = some (.val (.builtin "ValueError.__init__"))
section
variable {X : Cx} {e : Expr} {es : List Expr} {ta : TA} {x : Str} {B : Addr} {p1 p2 pos : Pos}
theorem pe_binit {pl : Sem Bool} (b : BaseX X.K X.mg x B) (hg : Gl X x) (ha : PA X (e :: es) ta) (hdb : (x == ("__debug__" : Str)) = false := by decide)
    (hc : eval (.Call (.Attribute (.Name x p1) "__init__" p2) (e :: es) [] pos) X.env = (do
      let ov ← eval (.Name x p1) X.env
      standAt p2.atName
      let (f, first) ← holding [ov] (getMethod ov "__init__" pl)
      callWith pos f first (backTo pos (starEach (e :: es) X.env)) (backToKw pos (keywordEach [] X.env))) := by rfl)
    (he : starEach (e :: es) X.env = (false, eval e X.env) :: starEach es X.env := by rfl) (hpl : (backTo pos (starEach es X.env)).any (·.1) = false := by rfl) :
    PE X (.Call (.Attribute (.Name x p1) "__init__" p2) (e :: es) [] pos) (tVeI X.K ta) := by
  refine ⟨fun pins s σ H Q I h => ?_⟩
  refine PySem.W.methodCall_KW (ld_glob I hg b.g ?_ hdb) hc
  obtain ⟨m, fr⟩ := I.fr
  refine PySem.W.method_of_cls fr I.ok.mod.kin b.sp (PySem.W.cls_val fr I.ok.mod.kin b.ty b.rd b.fc (by decide +kernel) ?_)
  show wpAny _ _ (callWith pos (Value.builtin "ValueError.__init__") [] (backTo pos (starEach (e :: es) X.env)) []) _ _ _
  refine PyProof.Rows.callWith_method1 (thn (ha.run pos pins _ σ H _ (I.tok _) h) fun us s1 ⟨vs, H1, I1, r1, a, C, ws, ev, hl, T, ea, q⟩ => ?_) he hpl
  subst ev
  cases r1 with
  | @cons _ u0 _ ur ra rw' =>
    obtain rfl : u0 = Value.ref a := ra
    have hlen : ur.length ≤ sizeLine := by
      rw [← Paired.length rw', sizeLine_eq]
      omega
    exact oinit_ok T I1 ea hlen fun s' J => ⟨.non, H1, J, rfl, q⟩
end
/-- what such an __init__ does: the field f is kept -/
def spI (C : Addr) (f : Str) : Sp := fun vs H Q _ => ∃ a y, vs = [.ref a, y] ∧ H a = some (exo a C none) ∧ ∀ dx, H dx = none → dx ≠ a → Q .non (upd (upd H dx (exd dx [(f, y)])) a (exo a C (some dx)))
/-- an own class of exceptions whose __init__ keeps what it is given as the field f -/
structure ExI (K : PySem.W.Frag) (mg : Str → Option Value) (x f : Str) (C fI : Addr) (fd : FuncData) (qual : Str) (st : Stmt) (ps : List Str) : Prop where
  T : OexC K C
  g : mg x = some (.ref C)
  iC : PySem.W.findIn K (.ref C) "__init__" = some (some (.ref fI))
  tI : PySem.W.typeIn K (.ref fI) = some (.type "function")
  no : PySem.W.findIn K (.ref C) f = some none
  F : Fun K "__init__" qual st fI fd
  b : Binds K fd ps []
section
variable {X : Cx} {CX : CXT} {e : Expr} {es : List Expr} {ta : TA} {x f : Str} {C fI : Addr} {fd : FuncData} {qual : Str} {st : Stmt} {ps : List Str} {k : Nat} {p pos : Pos}
theorem pe_mkI (N : ExI X.K X.mg x f C fI fd qual st ps) (F1 : FnOk X.prog X.w X.K X.mg X.base CX0 k fI fd ps (spI C f)) (hr : Room (k + 1) X.A) (hg : Gl X x) (ha : PA X (e :: es) ta)
    (hdb : (x == ("__debug__" : Str)) = false := by decide) (he : starEach (e :: es) X.env = (false, eval e X.env) :: starEach es X.env := by rfl) (hpl : (backTo pos (starEach es X.env)).any (·.1) = false := by rfl) :
    PE X (.Call (.Name x p) (e :: es) [] pos) (fun σ H Q => ta σ H fun vs H1 => ∃ y, vs = [y] ∧ ∀ dx, H1 dx = none → ∀ a, upd H1 dx (.xd [(f, y)]) a = none → Q (.ref a) (upd (upd H1 dx (.xd [(f, y)])) a (xO a (.ref C) (some dx)))) := by
  refine ⟨fun pins s σ H Q I h => ?_⟩
  have T := N.T
  obtain ⟨nm, q, N', bs, bm, sn, sub, ab, col, dd, k0, k1, k2, k3, k5, hC, hbm⟩ := T.cls
  refine wpAny_Call_Name_kw (ld_glob I hg N.g ?_ hdb)
  refine PySem.W.callWith_K (h₀ := X.base) I.ok.mod.kin T.kC (thn (ha.run pos pins s σ H _ I h) fun us s1 ⟨vs, H1, I1, r1, y, ey, q1⟩ => ⟨I1.kIn, ?_⟩) he hpl
  subst ey
  show wpAny _ _ (call (.ref C) us) _ _ _
  obtain ⟨hp, g, dr, tk, os⟩ := s1
  have hsz : hp.objs.size ≤ hp.objs.size + 1 := Nat.le_succ _
  have hn : H1 (hp.objs.size + 1) = none := I1.hok.fresh hsz
  have kk : ∀ b o, hp.get? b = some o → ((hp.push (PySem.W.kdv_tup us)).push (PySem.HandSPX.excO C hp.objs.size)).get? b = some o := fun b o e => Heap.get?_push_of_some _ (Heap.get?_push_of_some _ e)
  have hget : ((hp.push (PySem.W.kdv_tup us)).push (PySem.HandSPX.excO C hp.objs.size)).get? (hp.objs.size + 1) = some (PySem.HandSPX.excO C hp.objs.size) := by heap_get
  have I2 : Inv X pins σ (upd H1 (hp.objs.size + 1) (exo (hp.objs.size + 1) C none)) ⟨(hp.push (PySem.W.kdv_tup us)).push (PySem.HandSPX.excO C hp.objs.size), g, dr, tk, os⟩ :=
    I1.laid (t' := tk) (a := hp.objs.size + 1) (o := exo (hp.objs.size + 1) C none) (h' := (hp.push (PySem.W.kdv_tup us)).push (PySem.HandSPX.excO C hp.objs.size)) kk hsz (exo_ok hget)
  have r2 : Vals (V.ref (hp.objs.size + 1) :: ([y] ++ [])) (Value.ref (hp.objs.size + 1) :: (us ++ [])) := .cons rfl (r1.append .nil)
  have hq : spI C f (V.ref (hp.objs.size + 1) :: ([y] ++ [])) (upd H1 (hp.objs.size + 1) (exo (hp.objs.size + 1) C none))
      (fun v H2 => v = .non ∧ ∃ d, d ≠ hp.objs.size + 1 ∧ H1 d = none ∧ H2 = upd (upd (upd H1 (hp.objs.size + 1) (exo (hp.objs.size + 1) C none)) d (exd d [(f, y)])) (hp.objs.size + 1) (exo (hp.objs.size + 1) C (some d))) (fun _ _ _ => False) :=
    ⟨_, _, rfl, upd_same, fun dx h1 h2 => ⟨rfl, dx, h2, by rw [upd_ne h2] at h1; exact h1, rfl⟩⟩
  have hl : (Value.ref (hp.objs.size + 1) :: us ++ []).length = ps.length := by
    have e := r2.length
    rw [F1.len _ _ _ _ hq] at e
    exact e.symm
  have hus : us.length ≤ sizeLine := by
    rw [← Paired.length r1, sizeLine_eq]
    simp
  have hbb : ∀ {s0 : Shared}, X.K.In s0.heap → (Value.ref (hp.objs.size + 1) :: us ++ []).length = ps.length → BindsTo s0 fd ⟨Value.ref (hp.objs.size + 1) :: us, []⟩ (ps.zip (Value.ref (hp.objs.size + 1) :: (us ++ []))) := fun k l => N.b _ (Value.ref (hp.objs.size + 1) :: us) k l
  refine wpAny_call (PySem.HandSPX.call_own F.excBase_ValueError (fun Y => PySem.HandSPX.refsVE_contains Y bm hbm) (I1.kIn _ _ hC) (PySem.W.looks_findIn I1.kIn N.iC) (fun self => PySem.W.bind_fn I1.kIn self N.tI) hus
    (codeAny_mono (F1.run _ X.stack _ _ ⟨Value.ref (hp.objs.size + 1) :: us, []⟩ (Value.ref (hp.objs.size + 1) :: (us ++ [])) _ _ (fun _ _ _ => False) (hr.make C us []) (I2.env0.make C us []) (hbb I2.kIn hl) r2 hq) fun r s' hq' => ?_))
  cases r with
  | error er => exact pass0 pins _ _ _ er s' I2 hq'
  | ok fl =>
    cases fl with
    | ret u =>
      obtain ⟨v, H2, os2, bare2, un2, hok2, rv, ev, d, hda, hd1, eH⟩ := hq'
      subst ev
      obtain ⟨h2, g2, d2, t2, os'⟩ := s'
      refine ⟨rv, ?_⟩
      have ea : H2 (hp.objs.size + 1) = some (exo (hp.objs.size + 1) C (some d)) := by rw [eH, upd_same]
      have ed : H2 d = some (exd d [(f, y)]) := by rw [eH, upd_ne hda, upd_same]
      obtain ⟨t0, G, J, kG, ge, hoe, na⟩ := mk_end0 (d2 := d2) (t2 := t2) I1 hsz kk un2 hok2 os2 bare2 ea ed hd1
      have eJ : upd (del H2 (hp.objs.size + 1)) d (.xd [(f, y)]) = upd H1 d (.xd [(f, y)]) := by
        funext b
        by_cases hb : b = d
        · rw [hb, upd_same, upd_same]
        · rw [upd_ne hb, upd_ne hb]
          by_cases hc : b = hp.objs.size + 1
          · rw [hc, del_same, hn]
          · rw [del_ne hc, eH, upd_ne hc, upd_ne hb, upd_ne hc]
      rw [eJ] at J na
      exact ⟨.ref (hp.objs.size + 1), _, Inv.laidN (t' := t2) (h' := h2) (o := xO (hp.objs.size + 1) (.ref C) (some d)) J kG ge na (xO_ok hoe ⟨rfl, rfl⟩ rfl), rfl, q1 d hd1 _ na⟩
    | next => exact False.elim hq'
    | brk => exact False.elim hq'
    | cont => exact False.elim hq'
end
section
variable {X : Cx} {e : Expr} {es : List Expr} {fr : FA} {x f : Str} {C fI : Addr} {fd : FuncData} {qual : Str} {st : Stmt} {ps : List Str} {k : Nat} {p pos pos' : Pos} {RX : XW} {W : WX}
def fMkI (C : Addr) (f : Str) (fr : FA) : FE := fun ρ O Q => fr ρ O fun ds O1 => ∃ d, ds = [d] ∧ ∀ a, O1 a = none → Q (.ref a) (updO O1 a (.exc (.ref C) (some [(f, d)])))
theorem rep_one {K : PySem.W.Frag} {F : Hp} {d : D} {vs : List V} (h : RepAll K F [d] vs) : ∃ v, vs = [v] ∧ Rep K F d v := by
  have hl := h.length
  match vs, hl, h with
  | [v], _, h => exact ⟨v, rfl, by obtain ⟨w, h1, h2⟩ := h.get (i := 0) rfl; cases h1; exact h2⟩
theorem de_mkI (N : ExI X.K X.mg x f C fI fd qual st ps) (F1 : FnOk X.prog X.w X.K X.mg X.base CX0 k fI fd ps (spI C f)) (hr : Room (k + 1) X.A) (hg : Gl X x) (ha : DA M X (e :: es) fr)
    (hdb : (x == ("__debug__" : Str)) = false := by decide) (he : starEach (e :: es) X.env = (false, eval e X.env) :: starEach es X.env := by rfl) (hpl : (backTo pos (starEach es X.env)).any (·.1) = false := by rfl) :
    DE M X (.Call (.Name x p) (e :: es) [] pos) (fMkI C f fr) := peMono (pe_mkI N F1 hr hg ha hdb he hpl) fun σ H Q h => by
  obtain ⟨F, O, P, ρ, R, g, en, q, po⟩ := h
  refine ⟨F, O, P, ρ, _, g, en, q, fun ds O1 F1 H1 vs q1 s1 g1 r1 => ?_⟩
  obtain ⟨d, rfl, q2⟩ := q1
  obtain ⟨v, rfl, rv⟩ := rep_one r1
  refine ⟨v, rfl, fun dx hx a ha => ?_⟩
  have g2 := g1.new (o := .xd [(f, v)]) hx
  have s2 : Same F1 (upd F1 dx (.xd [(f, v)])) := same_upd (g1.freeF hx)
  exact po _ _ _ _ _ (q2 a (g2.freeO ha)) (s1.trans s2) (g2.newO ha ⟨_, some dx, upd_same, xO_is, dx, [(f, v)], rfl, upd_same, .cons ⟨rfl, rv.mono s2⟩ .nil⟩) (by simp only [Rep])
def gRaiseI (RX : XW) (C : Addr) (f : Str) (fr : FA) : GS := fun _ ρ O => fr ρ O fun ds O1 => ∃ d, ds = [d] ∧ RX (.ref C) (some [(f, d)]) ρ O1
theorem ds_raiseI (N : ExI X.K X.mg x f C fI fd qual st ps) (F1 : FnOk X.prog X.w X.K X.mg X.base CX0 k fI fd ps (spI C f)) (hr : Room (k + 1) X.A) (hc : X.calm = true) (tk : Takes X W) (hg : Gl X x) (ha : DA (mxw X.K RX W) X (e :: es) fr)
    (hdb : (x == ("__debug__" : Str)) = false := by decide) (he : starEach (e :: es) X.env = (false, eval e X.env) :: starEach es X.env := by rfl) (hpl : (backTo pos (starEach es X.env)).any (·.1) = false := by rfl) :
    DS (mxw X.K RX W) X (.Raise (some (.Call (.Name x p) (e :: es) [] pos)) none pos') (gRaiseI RX C f fr) :=
  psMono (ps_raise hc tk (pmk_oex N.T N.iC N.tI F1 hr N.b .nil pass0 hg N.g ha hdb he hpl)) fun D σ H h => by
    obtain ⟨F, O, P, ρ, R, g, en, q, po⟩ := h
    refine ⟨F, O, P, ρ, _, g, en, q, fun ds O1 F1 H1 vs q1 s1 g1 r1 => ?_⟩
    obtain ⟨d, rfl, q2⟩ := q1
    obtain ⟨v, rfl, rv⟩ := rep_one r1
    refine ⟨by simp, fun a han => ⟨a, v, rfl, upd_same, fun dx h1 h2 => ⟨rfl, dx, [(f, v)], upd_same, by rw [upd_ne h2, upd_same], by rw [upd_ne h2] at h1; exact h1, ?_⟩⟩⟩
    have hx : H1 dx = none := by rw [upd_ne h2] at h1; exact h1
    have eH : upd (del (upd (upd (upd H1 a (exo a C none)) dx (exd dx [(f, v)])) a (exo a C (some dx))) a) dx (.xd [(f, v)]) = upd H1 dx (.xd [(f, v)]) := by
      funext b
      by_cases hb : b = dx
      · rw [hb, upd_same, upd_same]
      · rw [upd_ne hb, upd_ne hb]
        by_cases hc : b = a
        · rw [hc, del_same, han]
        · rw [del_ne hc, upd_ne hc, upd_ne hb, upd_ne hc]
    rw [eH]
    have g2 := g1.new (o := .xd [(f, v)]) hx
    have s2 : Same F1 (upd F1 dx (.xd [(f, v)])) := same_upd (g1.freeF hx)
    exact g2.wish q2 ⟨dx, [(f, v)], rfl, upd_same, .cons ⟨rfl, rv.mono s2⟩ .nil⟩ (en.mono (s1.trans s2))
end
section
variable {P : Program} {w : World} {K : PySem.W.Frag} {mg : Str → Option Value} {base : Heap}
theorem fn_initI {C fI : Addr} {fd : FuncData} {f m qual : Str} {st : Stmt} {N ps : List Str} {k : Nat} (F : Fun K "__init__" qual st fI fd) (S : FnScope N ps (defScope st)) (hN : N.length = 2) (hp : ps.length = 2) (T : OexC K C) (no : PySem.W.findIn K (.ref C) f = some none)
    (hder : ∀ (cdv : Value) (A : Around) (outer : List Env) (s : Shared) (H : Hp) (E : XK),
      PSs (cxOf CX0 P w K mg base N qual (defScope st) fI cdv A outer s H E).nox (defBody st) (tSeq (tDrop (tVeI K (tCons (tVar 0) (tCons (tC (.str m)) tNil)))) (tOst K f (tVar 0) (tVar 1)))) :
    FnOk P w K mg base CX0 (k + 1) fI fd ps (spI C f) := by
  refine F.ok S (fun vs H Q E h => ?_) fun cdv A outer s H vs Q E hr h => ⟨_, hder cdv A outer s H E, ?_⟩
  · obtain ⟨a, y, rfl, _⟩ := h
    rw [hp]; rfl
  · obtain ⟨a, y, rfl, ha, q⟩ := h
    have e0 : L2.start N [V.ref a, y] = [some (.ref a), some y] := by
      unfold L2.start
      rw [hN]
      rfl
    rw [e0]
    refine ⟨.ref a, rfl, ⟨a, C, [.str m], rfl, by simp, T, ha, ?_⟩⟩
    exact ⟨y, rfl, .ref a, rfl, a, C, rfl, T, no, .inl ⟨ha, fun dx h1 h2 => q dx h1 h2⟩⟩
end
theorem ap_fMkE (C : Addr) (fe : FE) {ρ : DEnv} {O : Ow} {Q : VD} : fMkE C fe ρ O Q = fe ρ O fun _ O1 => ∀ a, O1 a = none → Q (.ref a) (updO O1 a (.exc (.ref C) none)) := rfl
theorem ap_fMkI (C : Addr) (f : Str) (fr : FA) {ρ : DEnv} {O : Ow} {Q : VD} : fMkI C f fr ρ O Q = fr ρ O fun ds O1 => ∃ d, ds = [d] ∧ ∀ a, O1 a = none → Q (.ref a) (updO O1 a (.exc (.ref C) (some [(f, d)]))) := rfl
theorem ap_gRaiseI (RX : XW) (C : Addr) (f : Str) (fr : FA) {R : DEnds} {ρ : DEnv} {O : Ow} : gRaiseI RX C f fr R ρ O = fr ρ O fun ds O1 => ∃ d, ds = [d] ∧ RX (.ref C) (some [(f, d)]) ρ O1 := rfl
end Kf
/-! Dl28: sorted() of a list of things that compare. -/
namespace Kf
open PySem PySem.Spec L2
open PyProof.Rows hiding St
open PySem.W (EachIs)
variable {M : MX}
def dleD : D → D → Bool := PySem.W.dataLe false toPy
def dsort (ds : List D) : List D := ds.mergeSort dleD
def allLike (ds : List D) : Prop := ∀ a ∈ ds, ∀ b ∈ ds, PySem.W.alike (toPy a) (toPy b) = true
def rSortX : RAD := fun ds O Q => match ds with
  | [x] => match deref O x with
    | .lst xs => isPys xs = true ∧ allLike xs ∧ PySem.W.Sortable (xs.map toPy) ∧ xs.length ≤ sizeLine ∧ dp (.lst xs) ≤ 190 ∧ Q (.lst (dsort xs)) O
    | _ => False
  | _ => False
theorem each_rep {K : PySem.W.Frag} {F : Hp} : ∀ {ds : List D} {vs : List V} {us : List Value}, RepAll K F ds vs → Vals vs us → EachIs (fun u d => ∃ w, RelV w u ∧ Rep K F d w) us ds
  | [], vs, us, h, r => by
    have hl := h.length
    match vs, hl with
    | [], _ => cases r; exact .nil
  | d :: ds, vs, us, h, r => by
    have hl := h.length
    match vs, hl, h with
    | v :: vs, _, h =>
      simp only [RepAll] at h
      obtain ⟨_, _, e, h1, h2⟩ := h
      cases e
      cases r with
      | cons ra rb => exact .cons ⟨_, ra, h1⟩ (each_rep h2 rb)
theorem rep_each {K : PySem.W.Frag} {F : Hp} : ∀ {ds : List D} {us : List Value}, EachIs (fun u d => ∃ w, RelV w u ∧ Rep K F d w) us ds → ∃ vs, RepAll K F ds vs ∧ Vals vs us
  | [], _, .nil => ⟨[], .nil, .nil⟩
  | d :: ds, _, .cons ⟨w, h1, h2⟩ t => by
    obtain ⟨vs, h3, h4⟩ := rep_each t
    exact ⟨w :: vs, .cons h2 h3, .cons h1 h4⟩
theorem dp_mem : ∀ {ds : List D} {d : D}, d ∈ ds → dp d ≤ PyData.depthAll (toPys ds)
  | x :: xs, d, h => by
    rw [dpC]
    rcases List.mem_cons.mp h with rfl | h
    · omega
    · have := dp_mem h; omega
section
variable {X : Cx}
theorem cd_sortX (hu : X.A.units + 200 < cLine) : CallD M X (.builtin "sorted") rSortX := by
  intro pins s σ H xs us Q I r h
  obtain ⟨F, O, P, ds, R, g, rr, q, po⟩ := h
  unfold rSortX at q
  split at q <;> first | exact q.elim | skip
  rename_i x
  obtain ⟨v, rfl, r1⟩ := rr.one'
  have h1 := g.deref r1
  revert q h1
  generalize Kf.deref O x = y
  intro q h1
  cases y <;> first | exact q.elim | skip
  rename_i es
  obtain ⟨q1, q2, q3, q4, q5, q⟩ := q
  obtain ⟨a, vs, rfl, h2, h3⟩ := h1
  obtain rfl := Vals.ref1 r
  obtain ⟨its, rv, hl, _⟩ := I.list (SqL.of h2)
  obtain ⟨as, hr⟩ := Dp.readsAll I _ vs its (RepAll.dp g.fz _ vs q1 h3) rv
  rw [toPys_map] at hr
  refine PySem.W.sorted_data (bs := es) (enc := toPy) hl.isList (each_rep h3 rv) (PySem.W.readsAll_each toPy hr) ?_ q3 q4 ?_ fun out ho eo => ?_
  · intro d hd d' hd'
    obtain ⟨b, hb, rfl⟩ := List.mem_map.mp hd
    obtain ⟨b', hb', rfl⟩ := List.mem_map.mp hd'
    exact q2 b hb b' hb'
  · intro b hb
    have := dp_mem hb
    rw [dpL] at q5
    show X.A.units + 2 + dp b < cLine
    omega
  · obtain ⟨ws, h5, h6⟩ := rep_each eo
    obtain ⟨ep, he'⟩ := PyProof.Rows.sortedAll_at s.heap its (List.toArray out)
    have hlen : ws.length ≤ sizeLine := by rw [h6.length, ho]; exact q4
    have hn : H (s.heap.objs.size + 1) = none := I.hok.fresh (Nat.le_succ _)
    exact ⟨.ref _, upd H (s.heap.objs.size + 1) (.lst ws), I.laid (t' := s.toks) (fun _ _ => PyProof.Rows.sortedAll_old) (Nat.le_succ _) ⟨hlen, out, ep, h6, he'⟩, rfl,
      po.lst g q h5 hn⟩
theorem rSortX_l {ds : List D} {O : Ow} {Q : VD} (h1 : isPys ds = true) (h2 : allLike ds) (h3 : PySem.W.Sortable (ds.map toPy)) (h4 : ds.length ≤ sizeLine) (h5 : dp (.lst ds) ≤ 190) (q : Q (.lst (dsort ds)) O) : rSortX [.lst ds] O Q := by
  simp only [rSortX, deref_lst]
  exact ⟨h1, h2, h3, h4, h5, q⟩
theorem rSortX_r {ds : List D} {O : Ow} {Q : VD} {p : Addr} (h : O p = some (.lst ds)) (h1 : isPys ds = true) (h2 : allLike ds) (h3 : PySem.W.Sortable (ds.map toPy)) (h4 : ds.length ≤ sizeLine) (h5 : dp (.lst ds) ≤ 190) (q : Q (.lst (dsort ds)) O) : rSortX [.ref p] O Q := by
  simp only [rSortX, deref, h]
  exact ⟨h1, h2, h3, h4, h5, q⟩
end
/-! ### the order -/
def ky (d : D) : List (Int ⊕ List Nat) := PySem.W.keyToks (toPy d)
theorem dle_iff {a b : D} : dleD a b = true ↔ PyProof.Rows.lexLt PyProof.Rows.itemOrd (ky b) (ky a) = false := by
  show (!PySem.W.dataLt (toPy b) (toPy a)) = true ↔ _
  rw [Bool.not_eq_true']
  exact Iff.rfl
theorem dsort_perm (ds : List D) : (dsort ds).Perm ds := List.mergeSort_perm ds dleD
theorem dsort_congr {xs ys : List D} (inj : ∀ a ∈ xs, ∀ b ∈ xs, ky a = ky b → a = b) (p : xs.Perm ys) : dsort xs = dsort ys := by
  have tr : ∀ a b c, dleD a b = true → dleD b c = true → dleD a c = true := fun a b c h1 h2 => by
    rw [dle_iff] at *
    cases e : PyProof.Rows.lexLt PyProof.Rows.itemOrd (ky c) (ky a) with
    | false => rfl
    | true =>
      rcases PyProof.Rows.lex_negTrans _ (ky b) _ e with h | h
      · rw [h2] at h; cases h
      · rw [h1] at h; cases h
  have tt : ∀ a b, (dleD a b || dleD b a) = true := fun a b => by
    rw [Bool.or_eq_true, dle_iff, dle_iff]
    cases e : PyProof.Rows.lexLt PyProof.Rows.itemOrd (ky b) (ky a) with
    | false => exact .inl rfl
    | true =>
      right
      cases e2 : PyProof.Rows.lexLt PyProof.Rows.itemOrd (ky a) (ky b) with
      | false => rfl
      | true =>
        have := PyProof.Rows.lex_trans _ _ _ e e2
        rw [PyProof.Rows.lex_irrefl] at this
        cases this
  refine List.Perm.eq_of_pairwise (le := fun x y => dleD x y = true) ?_ (List.pairwise_mergeSort tr tt xs) (List.pairwise_mergeSort tr tt ys) ((dsort_perm xs).trans (p.trans (dsort_perm ys).symm))
  intro a b ha hb h1 h2
  rw [dle_iff] at h1 h2
  exact inj a ((dsort_perm xs).mem_iff.mp ha) b (p.mem_iff.mpr ((dsort_perm ys).mem_iff.mp hb)) (PyProof.Rows.lex_total _ _ h2 h1)
end Kf
/-! Dl29: text.replace, where a token is out. -/
namespace Kf
open PySem PySem.Spec L2
open PyProof.Rows hiding St
variable {M : MX}
abbrev DET (M : MX) (X : Cx) (e : Expr) (f : FE) : Prop := PET X e (liftE M X.K f)
abbrev DAT (M : MX) (X : Cx) (es : List Expr) (f : FA) : Prop := PAT X es (liftA M X.K f)
abbrev DST (M : MX) (X : Cx) (st : Stmt) (g : GS) : Prop := PST X st (liftS M X.K g)
abbrev DSsT (M : MX) (X : Cx) (st : List Stmt) (g : GS) : Prop := PSsT X st (liftS M X.K g)
theorem petMono {X : Cx} {e : Expr} {t t' : TE} (h : PET X e t) (imp : ∀ σ H Q, t' σ H Q → t σ H Q) : PET X e t' := fun pins s σ H Q h0 I q => h pins s σ H Q h0 I (imp σ H Q q)
theorem patMono {X : Cx} {es : List Expr} {t t' : TA} (h : PAT X es t) (imp : ∀ σ H Q, t' σ H Q → t σ H Q) : PAT X es t' := fun pos pins s σ H Q h0 I q => h pos pins s σ H Q h0 I (imp σ H Q q)
theorem pstMono {X : Cx} {st : Stmt} {t t' : TS} (h : PST X st t) (imp : ∀ D σ H, t' D σ H → t D σ H) : PST X st t' := fun pins s σ H D h0 I q => h pins s σ H D h0 I (imp D σ H q)
theorem psstMono {X : Cx} {st : List Stmt} {t t' : TS} (h : PSsT X st t) (imp : ∀ D σ H, t' D σ H → t D σ H) : PSsT X st t' := fun pins s σ H D h0 I q => h pins s σ H D h0 I (imp D σ H q)
section
variable {X : Cx} {e a b : Expr} {es : List Expr} {fe fa fb : FE} {fr : FA} {st : Stmt} {rest : List Stmt} {g u : GS} {pos : Pos} {ft : FT}
theorem det_of (h : DE M X e fe) : DET M X e fe := CwR.PET.of h
theorem dst_of (h : DS M X st g) : DST M X st g := PST.of h
theorem dsst_of (h : DSs M X rest g) : DSsT M X rest g := PSsT.of h
theorem dat_nil : DAT M X [] fNil := fun pos pins s σ H Q _ I q => (da_nil (M := M) (X := X)).run pos pins s σ H Q I q
theorem dat_cons (ha : DET M X e fa) (hr : DAT M X es fr) (hs : starEach (e :: es) X.env = (false, eval e X.env) :: starEach es X.env := by rfl) : DAT M X (e :: es) (fCons fa fr) := by
  refine patMono (pat_cons ha hr hs) fun σ H Q h => ?_
  obtain ⟨F, O, P, ρ, R, g, en, q, po⟩ := h
  refine ⟨F, O, P, ρ, _, g, en, q, fun x O1 F1 H1 v q1 s1 g1 r1 => ?_⟩
  exact ⟨F1, O1, P, ρ, _, g1, en.mono s1, q1, fun xs O2 F2 H2 vs q2 s2 g2 r2 => po _ O2 F2 H2 _ q2 (s1.trans s2) g2 (.cons (r1.mono s2) r2)⟩
theorem det_lst (h : DAT M X es fr) : DET M X (.List es pos) (fLst fr) := by
  refine petMono (pet_lst h) fun σ H Q h => ?_
  obtain ⟨F, O, P, ρ, R, g, en, q, po⟩ := h
  refine ⟨F, O, P, ρ, _, g, en, q, fun xs O1 F1 H1 vs q1 s1 g1 r1 => ?_⟩
  refine ⟨by rw [← r1.length]; exact q1.1, fun p hp => ?_⟩
  have hF := g1.freeF hp
  refine po (.lst xs) O1 (upd F1 p (.lst vs)) _ _ q1.2 (s1.trans (same_upd hF)) (g1.new hp) ?_
  simp only [Rep]
  exact ⟨p, vs, rfl, upd_same, r1.mono (same_upd hF)⟩
theorem pet_ix {r : R2} {ta tb : TE} (hr : IxR X r) (ha : PET X a ta) (hb : PE X b tb) (hs : PlainIx b) : PET X (.Subscript a b pos) (tOp r ta tb) := by
  intro pins s σ H Q h0 I h
  exact Subscript_ (thn (ha pins s σ H _ h0 I h) fun v s1 ⟨x, H1, I1, r1, q1⟩ => thn (hb.run pins s1 σ H1 _ I1 q1) fun u s2 ⟨y, H2, I2, r2, q2⟩ => hr a b pins s2 σ H2 x y v u Q I2 r1 r2 q2 (hs _ _))
theorem det_ix (ha : DET M X a fa) (hb : DE M X b fb) (hs : PlainIx b := by intro _ _; rfl) : DET M X (.Subscript a b pos) (fOp rIxD fa fb) := petMono (pet_ix id_ix ha hb hs) fOp_lift
theorem dst_ret (he : DET M X e fe) : DST M X (.Return (some e) pos) (gRet fe) := pstMono (CwR.pst_ret he) fun D σ H h => by
  obtain ⟨F, O, P, ρ, R, g, en, q, po⟩ := h
  exact ⟨F, O, P, ρ, R.rt, g, en, q, po.rt⟩
theorem dsst_cons (h1 : DST M X st g) (h2 : DSsT M X rest u) : DSsT M X (st :: rest) (gSeq g u) := psstMono (psst_cons h1 h2) fun D σ H h => by
  obtain ⟨F, O, P, ρ, R, g, en, q, po⟩ := h
  exact ⟨F, O, P, ρ, { R with nx := u R }, g, en, q, fun ρ' O' F' H' σ' q' s g' en' => ⟨F', O', P, ρ', R, g', en', q', po.more s⟩, po.rt, po.bk, po.ct⟩
theorem dsst_one (h1 : DST M X st g) : DSsT M X [st] g := CwR.psst_one h1
theorem dst_if {c : Expr} {sa sb : List Stmt} (hc : DT M X c ft) (ha : DSsT M X sa g) (hb : DSsT M X sb u) : DST M X (.If c sa sb pos) (gIf ft g u) := pstMono (CwR.pst_if hc ha hb) fun D σ H h => by
  obtain ⟨F, O, P, ρ, R, g, en, q, po⟩ := h
  refine ⟨F, O, P, ρ, _, g, en, q, fun k O1 F1 H1 q1 s1 g1 => ?_⟩
  cases k with
  | true => rw [if_pos rfl] at q1 ⊢; exact ⟨F1, O1, P, ρ, R, g1, en.mono s1, q1, po.more s1⟩
  | false => rw [if_neg Bool.false_ne_true] at q1 ⊢; exact ⟨F1, O1, P, ρ, R, g1, en.mono s1, q1, po.more s1⟩
/-- a list of texts is stored under a name: behind it a token is out -/
theorem pss_lst {i j : Nat} {x c : Str} {cp pl pos' pos : Pos} {ta : TA} {tu : TS} (hN : X.N.Nodup) (hi : X.N[i]? = some x) (hx : Loc X.env.scope x) (ha : PA X es ta) (h2 : PSsT X rest tu)
    (hst : starEach (.Constant (.str c) j cp :: es) X.env = (false, eval (.Constant (.str c) j cp) X.env) :: starEach es X.env := by rfl)
    (hs : swapsWith (.List (.Constant (.str c) j cp :: es) pl) (some (.Name x pos')) pos.line X.env = pure false := by rfl) (hf : X.fn x = true ∨ X.env.scope.names.lookup x = some .local := by first | exact .inl rfl | exact .inr rfl | assumption) :
    PSs X (.Assign [.Name x pos'] (.List (.Constant (.str c) j cp :: es) pl) pos :: rest) (tSeq (tAsg (tLst (tCons (tC (.str c)) ta)) (gName i)) tu) := by
  refine ⟨fun pins s σ H D I h => ?_⟩
  refine wpAny_execs_cons (wpAny_Assign_Name (wpAny_List_spliced ?_) hs)
  rw [hst]
  show wpAny _ _ (spliced ((false, eval (.Constant (.str c) j cp) X.env) :: backTo pl (starEach es X.env))) _ _ s
  refine Calls.spliced_cons (Calls.Constant_str ?_)
  refine wpAny_mono (PySem.wpAny_toks (ha.run pl pins { s with toks := s.toks + 1 } σ H _ (I.tok _) h)) (fun us s1 q => ?_) fun _ _ z => z.2
  obtain ⟨hk, xs, H1, I1, r, z, q⟩ := q
  have hk1 : s.toks + 1 ≤ s1.toks := hk
  have hf0 : H1 s1.heap.objs.size = none := I1.hok.fresh (Nat.le_refl _)
  have rr : Vals (V.str c :: xs) (Value.str c s.toks :: us) := .cons ⟨_, rfl⟩ r
  refine ⟨by rw [← rr.length]; exact z, ?_⟩
  have I2 : Inv X pins σ (upd H1 s1.heap.objs.size (.lst (V.str c :: xs))) { s1 with heap := s1.heap.push { cls := .type "list", data := .seq (Value.str c s.toks :: us).toArray } } :=
    I1.laid (t' := s1.toks) (fun b u e => Heap.get?_push_of_some _ e) (Nat.le_refl _) ⟨z, _, 0, rr, Heap.get?_push_size _ rfl⟩
  refine wpAny_mono (PySem.wpAny_toks (store_ok (v := V.ref s1.heap.objs.size) (u := Value.ref s1.heap.objs.size) (Q := fun _ s2 => Inv X pins (σ.set i (some (V.ref s1.heap.objs.size))) (upd H1 s1.heap.objs.size (.lst (V.str c :: xs))) s2) I2 hN hi hx rfl (fun _ I3 => I3) hf)) (fun _ s2 q2 => ?_) fun _ _ z => z.2
  have hk2 : s1.toks ≤ s2.toks := q2.1
  exact h2 pins s2 _ _ D (by omega) q2.2 (q _ hf0)
theorem dss_tok {i j : Nat} {x c : Str} {cp pl pos' pos : Pos} (hN : X.N.Nodup) (hi : X.N[i]? = some x) (hx : Loc X.env.scope x) (ha : DA M X es fr) (h2 : DSsT M X rest u)
    (hst : starEach (.Constant (.str c) j cp :: es) X.env = (false, eval (.Constant (.str c) j cp) X.env) :: starEach es X.env := by rfl)
    (hs : swapsWith (.List (.Constant (.str c) j cp :: es) pl) (some (.Name x pos')) pos.line X.env = pure false := by rfl) (hf : X.fn x = true ∨ X.env.scope.names.lookup x = some .local := by first | exact .inl rfl | exact .inr rfl | assumption) :
    DSs M X (.Assign [.Name x pos'] (.List (.Constant (.str c) j cp :: es) pl) pos :: rest) (gSeq (gSet (fLst (fCons (fC (.str c)) fr)) i) u) := by
  refine pssMono (pss_lst hN hi hx ha h2 hst hs hf) fun D σ H h => ?_
  obtain ⟨F, O, P, ρ, R, g, en, q, po⟩ := h
  refine ⟨F, O, P, ρ, _, g, en, q, fun xs O1 F1 H1 vs q1 s1 g1 r1 => ?_⟩
  refine ⟨by rw [List.length_cons, ← r1.length]; exact q1.1, fun p hp => ?_⟩
  have hF := g1.freeF hp
  have g2 := g1.new (o := .lst (V.str c :: vs)) hp
  refine ⟨upd F1 p (.lst (V.str c :: vs)), O1, P, _, R, g2, (en.mono (s1.trans (same_upd hF))).set ?_ i, q1.2, po.more (s1.trans (same_upd hF))⟩
  simp only [Rep]
  exact ⟨p, _, rfl, upd_same, .cons (by simp only [Rep]) (r1.mono (same_upd hF))⟩
end
/-! ### replace -/
open PySem.Builtin.Str in
def rep1 (x y z : Str) : Str := if ((occurrences x y 0 x.length 1).isEmpty || (y.length == 0 && z.length == 0)) = true then x else glued z (partsBetween x (occurrences x y 0 x.length 1) y.length)
open PySem.Builtin PySem.Builtin.Str in
theorem gives_rep1 (x y z : Str) (t u v k : Tok)
    (hf : (u == 0 || v == 0) = false ∧ (u == v) = false ∧ (y == z) = false ∧ tooLong (x.length + (occurrences x y 0 x.length 1).length * z.length) = false) :
    Gives («str.replace» ⟨[.str x t, .str y u, .str z v, .int 1 k], []⟩) (if ((occurrences x y 0 x.length 1).isEmpty || (y.length == 0 && z.length == 0)) = true then .val (.str x t) else .str (glued z (partsBetween x (occurrences x y 0 x.length 1) y.length))) := by
  show Gives (do
          let i ← asSsize "str.replace" (.int 1 k)
          let limit ← (pure (if i < 0 then x.length + 1 else i.toNat) : Sem Nat)
          let cuts := occurrences x y 0 x.length limit
          if (cuts.isEmpty || (y.length == 0 && z.length == 0)) = true then (do rule "str.replace.nothing"; ret (.str x t)) else
          (do let same ← isSame (.str y u) (.str z v)
              if same = true then (do rule "str.replace.old-is-new"; ret (.str x t)) else
              if tooLong (x.length + cuts.length * z.length) = true then unsupported "str.replace:memory" else
              retStr (glued z (partsBetween x cuts y.length)))) _
  rw [asSsize_int "str.replace" 1 k (by decide)]
  show Gives (if ((occurrences x y 0 x.length 1).isEmpty || (y.length == 0 && z.length == 0)) = true then (do rule "str.replace.nothing"; ret (.str x t)) else
          (do let same ← isSame (.str y u) (.str z v)
              if same = true then (do rule "str.replace.old-is-new"; ret (.str x t)) else
              if tooLong (x.length + (occurrences x y 0 x.length 1).length * z.length) = true then unsupported "str.replace:memory" else
              retStr (glued z (partsBetween x (occurrences x y 0 x.length 1) y.length)))) _
  obtain ⟨h0, huv, hyz, hl⟩ := hf
  cases hc : ((occurrences x y 0 x.length 1).isEmpty || (y.length == 0 && z.length == 0))
  · rw [isSame_str_other y z u v h0 huv hyz, hl]
    exact .of_eq rfl
  · exact .rule (.of_eq rfl)
theorem rep1_len (x y z : Str) : (rep1 x y z).length ≤ x.length + z.length := by
  unfold rep1
  split
  · omega
  · have h1 := StrLaws.occ_length_le x y 0 x.length 1
    have hy : (PySem.Builtin.Str.glued y (PySem.Builtin.Str.partsBetween x (PySem.Builtin.Str.occurrences x y 0 x.length 1) y.length)).length = x.length := by rw [StrLaws.glued_between_self]
    rw [size_glued, length_partsBetween, Nat.add_sub_cancel] at hy
    rw [size_glued, length_partsBetween, Nat.add_sub_cancel]
    have h2 := Nat.mul_le_mul_right z.length h1
    omega
theorem okIff (z : Str) : PyData.strOk z = true ↔ ∀ c ∈ z.cps.toList, c < 1114112 := by
  unfold PyData.strOk
  rw [Array.all_eq_true_iff_forall_mem]
  simp
theorem okApp {a b : Str} (ha : PyData.strOk a = true) (hb : PyData.strOk b = true) : PyData.strOk (a ++ b) = true := by
  rw [okIff] at ha hb ⊢
  intro c hc
  rw [Str.cps_append, Array.toList_append] at hc
  exact (List.mem_append.mp hc).elim (ha c) (hb c)
theorem okSub {a : Str} (ha : PyData.strOk a = true) (i j : Nat) : PyData.strOk (PySem.Builtin.Str.strSub a i j) = true := by
  rw [okIff] at ha ⊢
  intro c hc
  rw [StrLaws.strSub_toList] at hc
  exact ha c (List.mem_of_mem_drop (List.mem_of_mem_take hc))
theorem okJoin {z : Str} (hz : PyData.strOk z = true) : ∀ {xs : List Str}, (∀ x ∈ xs, PyData.strOk x = true) → PyData.strOk (Str.join z xs) = true
  | [], _ => by
    have e : Str.join z [] = (⟨#[]⟩ : Str) := rfl
    rw [e]
    decide +kernel
  | [t], h => h t List.mem_cons_self
  | t :: u :: r, h => by
    have ih := okJoin hz (xs := u :: r) fun x hx => h x (List.mem_cons_of_mem _ hx)
    have e : (Str.join z (t :: u :: r)) = t ++ z ++ Str.join z (u :: r) := rfl
    rw [e]
    exact okApp (okApp (h t List.mem_cons_self) hz) ih
theorem okParts {x : Str} (hx : PyData.strOk x = true) (w : Nat) : ∀ (cuts : List Nat) (a : Nat), ∀ p ∈ StrLaws.partsFrom x w a cuts, PyData.strOk p = true
  | [], a, p, hp => by
    rw [show StrLaws.partsFrom x w a [] = [PySem.Builtin.Str.strSub x a x.length] from rfl] at hp
    rw [List.mem_singleton.mp hp]
    exact okSub hx _ _
  | c :: r, a, p, hp => by
    rw [show StrLaws.partsFrom x w a (c :: r) = PySem.Builtin.Str.strSub x a c :: StrLaws.partsFrom x w (c + w) r from rfl] at hp
    rcases List.mem_cons.mp hp with e | e
    · rw [e]; exact okSub hx _ _
    · exact okParts hx w r _ p e
theorem rep1_ok {x y z : Str} (hx : PyData.strOk x = true) (hz : PyData.strOk z = true) : PyData.strOk (rep1 x y z) = true := by
  unfold rep1
  split
  · exact hx
  · rw [StrLaws.glued_eq_join, StrLaws.partsBetween_eq]
    exact okJoin hz (okParts hx _ _ _)
theorem repA_ok {x y z : Str} (hx : PyData.strOk x = true) (hz : PyData.strOk z = true) : PyData.strOk (Txt.replace x y z) = true := by
  unfold Txt.replace
  split
  · exact hx
  · rw [StrLaws.glued_eq_join, StrLaws.partsBetween_eq]
    exact okJoin hz (okParts hx _ _ _)
def tRep1 (to : TE) (y z : Str) : TE := fun σ H Q => to σ H fun v H1 => ∃ x, v = .str x ∧ x.length + z.length ≤ 16777216 ∧ Q (.str (rep1 x y z)) H1
section
variable {X : Cx} {o : Expr} {to : TE} {y z : Str} {i j k : Nat} {c0 c1 c2 apos pos : Pos} {fo : FE}
theorem pet_rep1 (ho : PE X o to) (hyz : (y == z) = false := by decide)
    (hst : starEach [.Constant (.str y) j c0, .Constant (.str z) k c1, .Constant (.int 1) i c2] X.env = [(false, eval (.Constant (.str y) j c0) X.env), (false, eval (.Constant (.str z) k c1) X.env), (false, eval (.Constant (.int 1) i c2) X.env)] := by rfl)
    (hbase : attributeBase o "replace" X.env (eval o X.env) = eval o X.env := by rfl) (hline : (apos.endLine == pos.line) = true := by rfl) :
    PET X (.Call (.Attribute o "replace" apos) [.Constant (.str y) j c0, .Constant (.str z) k c1, .Constant (.int 1) i c2] [] pos) (tRep1 to y z) := by
  intro pins s σ H Q h0 I h
  refine PySem.wpAny_Call_method_lateS hbase (by rw [hst]; rfl) hline (wpAny_mono (PySem.wpAny_toks (ho.run pins s σ H _ I h)) (fun v s1 q => ?_) fun _ _ z => z.2)
  rw [hst]
  obtain ⟨hk, v', H1, I1, r1, x, e1, hb, q⟩ := q
  subst e1
  obtain ⟨tx, e2⟩ := r1
  subst e2
  refine ⟨"str", _, PySem.F.plainAttrs_str, PySem.F.slot_str_replace, PySem.F.type_str_replace, typeIs_str _ _ _, (fun _ e => nomatch e), Calls.callWith_builtin rfl (Calls.evalArgs_plain ?_)⟩
  show wpAny _ _ (spliced [(false, eval (.Constant (.str y) j c0) X.env), (false, eval (.Constant (.str z) k c1) X.env), (false, eval (.Constant (.int 1) i c2) X.env)]) _ _ s1
  refine Calls.spliced_cons ?_
  refine Calls.Constant_str ?_
  refine Calls.spliced_cons ?_
  refine Calls.Constant_str ?_
  refine Calls.spliced_cons ?_
  refine wpAny_Constant_int ?_
  refine Calls.spliced_nil ?_
  have hl : PySem.Builtin.Str.tooLong (x.length + (PySem.Builtin.Str.occurrences x y 0 x.length 1).length * z.length) = false := by
    have h1 := StrLaws.occ_length_le x y 0 x.length 1
    have h2 := Nat.mul_le_mul_right z.length h1
    have e : (2 : Nat) ^ 24 = 16777216 := by decide
    unfold PySem.Builtin.Str.tooLong sizeLine
    exact decide_eq_false (by omega)
  refine call_gives F.slot_str_replace (typeIs_str _ _ _) F.entry_str_replace (F.args_str_replace_4 _ _ _ _)
    (gives_rep1 x y z tx _ _ _ ⟨?_, ?_, hyz, hl⟩) ?_
  · have hu : ¬ (s1.toks = 0) := by omega
    simp [hu]
  · simp
  cases hc : ((PySem.Builtin.Str.occurrences x y 0 x.length 1).isEmpty || (y.length == 0 && z.length == 0))
  · have e : rep1 x y z = PySem.Builtin.Str.glued z (PySem.Builtin.Str.partsBetween x (PySem.Builtin.Str.occurrences x y 0 x.length 1) y.length) := by unfold rep1; rw [hc]; rfl
    have hz : (rep1 x y z).length ≤ sizeLine := by
      have := rep1_len x y z
      have e : (2 : Nat) ^ 24 = 16777216 := by decide
      unfold sizeLine
      omega
    rw [e] at hz q
    exact ⟨hz, .str _, H1, I1.tok _, ⟨_, rfl⟩, q⟩
  · have e : rep1 x y z = x := by unfold rep1; rw [hc]; rfl
    rw [e] at q
    exact ⟨.str x, H1, I1.tok _, ⟨_, rfl⟩, q⟩
def fRep1 (fo : FE) (y z : Str) : FE := fun ρ O Q => fo ρ O fun d O1 => match d with | .str x => x.length + z.length ≤ 16777216 ∧ Q (.str (rep1 x y z)) O1 | _ => False
theorem det_rep1 (ho : DE M X o fo) (hyz : (y == z) = false := by decide)
    (hst : starEach [.Constant (.str y) j c0, .Constant (.str z) k c1, .Constant (.int 1) i c2] X.env = [(false, eval (.Constant (.str y) j c0) X.env), (false, eval (.Constant (.str z) k c1) X.env), (false, eval (.Constant (.int 1) i c2) X.env)] := by rfl)
    (hbase : attributeBase o "replace" X.env (eval o X.env) = eval o X.env := by rfl) (hline : (apos.endLine == pos.line) = true := by rfl) :
    DET M X (.Call (.Attribute o "replace" apos) [.Constant (.str y) j c0, .Constant (.str z) k c1, .Constant (.int 1) i c2] [] pos) (fRep1 fo y z) := petMono (pet_rep1 ho hyz hst hbase hline) fun σ H Q h => by
  obtain ⟨F, O, P, ρ, R, g, en, q, po⟩ := h
  refine ⟨F, O, P, ρ, _, g, en, q, fun d O1 F1 H1 v q1 s1 g1 r1 => ?_⟩
  cases d with
  | str x =>
    simp only [Rep] at r1
    subst r1
    exact ⟨x, rfl, q1.1, po _ O1 F1 H1 _ q1.2 s1 g1 (by simp only [Rep])⟩
  | _ => exact q1.elim
def fRepA (fo : FE) (y z : Str) : FE := fun ρ O Q => fo ρ O fun d O1 => match d with | .str x => x.length + (x.length + 1) * z.length ≤ 16777216 ∧ Q (.str (Txt.replace x y z)) O1 | _ => False
theorem det_repA (ho : DE M X o fo) (hyz : (y == z) = false := by decide)
    (hst : starEach [.Constant (.str y) j c0, .Constant (.str z) k c1] X.env = [(false, eval (.Constant (.str y) j c0) X.env), (false, eval (.Constant (.str z) k c1) X.env)] := by rfl)
    (hbase : attributeBase o "replace" X.env (eval o X.env) = eval o X.env := by rfl) (hline : (apos.endLine == pos.line) = true := by rfl) :
    DET M X (.Call (.Attribute o "replace" apos) [.Constant (.str y) j c0, .Constant (.str z) k c1] [] pos) (fRepA fo y z) := petMono (CwR.pet_replC ho hyz hst hbase hline) fun σ H Q h => by
  obtain ⟨F, O, P, ρ, R, g, en, q, po⟩ := h
  refine ⟨F, O, P, ρ, _, g, en, q, fun d O1 F1 H1 v q1 s1 g1 r1 => ?_⟩
  cases d with
  | str x =>
    simp only [Rep] at r1
    subst r1
    exact ⟨x, rfl, q1.1, po _ O1 F1 H1 _ q1.2 s1 g1 (by simp only [Rep])⟩
  | _ => exact q1.elim
end
end Kf
set_option maxHeartbeats 4000000
/-! Dl30: set(xs) of a list or a tuple of texts; sorted(set(xs)). -/
namespace Kf
namespace Stx
open PySem PySem.Spec PySem.Froz L2
open PyProof.Rows hiding St
def putT (l : List Str) (k : Str) : List Str := if k ∈ l then l else k :: l
/-- at a lies a set of just the texts l, which can be walked -/
structure Has (P : Program) (w : World) (h : Heap) (a : Addr) (D : SD) (l : List Str) : Prop where
  obj : h.get? a = some (sObj "set" D)
  ok : TxOk P w D l
  ris : Ris D.2.2.place.toList
  led : w.params.followText "set-order" = true ∨ D.2.2.led = true
  nd : l.Nodup
theorem put_nodup {l : List Str} {k : Str} (h : l.Nodup) : (putT l k).Nodup := by
  unfold putT; split
  · exact h
  · rename_i c; exact List.nodup_cons.mpr ⟨c, h⟩
theorem put_len {l : List Str} {k : Str} : (putT l k).length ≤ l.length + 1 := by
  unfold putT; split <;> simp
theorem mem_put {l : List Str} {k x : Str} : x ∈ putT l k ↔ x ∈ l ∨ x = k := by
  unfold putT; split
  · rename_i c; exact ⟨.inl, fun h => h.elim id fun e => e ▸ c⟩
  · rw [List.mem_cons]; exact Or.comm
theorem mem_puts : ∀ (r l : List Str) (x : Str), x ∈ r.foldl putT l ↔ x ∈ l ∨ x ∈ r
  | [], l, x => by simp
  | k :: r, l, x => by
    rw [List.foldl_cons, mem_puts r, mem_put, List.mem_cons, or_assoc]
theorem puts_nodup : ∀ (r : List Str) {l : List Str}, l.Nodup → (r.foldl putT l).Nodup
  | [], _, h => h
  | k :: r, l, h => by rw [List.foldl_cons]; exact puts_nodup r (put_nodup h)
theorem puts_len : ∀ (r l : List Str), (r.foldl putT l).length ≤ l.length + r.length
  | [], l => by simp
  | k :: r, l => by
    rw [List.foldl_cons, List.length_cons]
    have h1 := puts_len r (putT l k)
    have h2 : (putT l k).length ≤ l.length + 1 := put_len
    omega
theorem ris_tail {ep : Nat} {es : Array (Int × Value)} {t : SetTable} {b : Bool} (r : Ris t.place.toList) : Ris (tailTx ep es t b).2.2.place.toList := by
  unfold tailTx; split
  · exact relayAll_ris _ _ _
  · exact r
theorem led_tail {ep : Nat} {es : Array (Int × Value)} {t : SetTable} {b : Bool} : (tailTx ep es t b).2.2.led = t.led := by
  unfold tailTx; split
  · exact relayAll_led _ _ _
  · rfl
theorem ris_addTx {h : Int} {v : Value} {D : SD} (r : Ris D.2.2.place.toList) : Ris (addTx h v D).2.2.place.toList := by
  have r1 := layNew_ris D.2.2 D.1 h v r
  refine ris_tail ?_
  split <;> exact r1
theorem led_addTx {h : Int} {v : Value} {D : SD} : (addTx h v D).2.2.led = D.2.2.led := by
  have r1 := layNew_led D.2.2 D.1 h v
  refine led_tail.trans ?_
  split <;> exact r1
section
variable {P : Program} {w : World} {A : Around} {E : Value → Shared → Prop} {s : Shared} {a : Addr} {D : SD} {l : List Str} {k : Str} {u : Tok}
theorem Has.keep {h h' : Heap} (T : Has P w h a D l) (e : ∀ o, h.get? a = some o → h'.get? a = some o) : Has P w h' a D l := ⟨e _ T.obj, T.ok, T.ris, T.led, T.nd⟩
/-- a text that is in already -/
theorem Has.old {Q : Bool → Shared → Prop} (T : Has P w s.heap a D l) (hk : k ∈ l) (hb : l.length < scanBound) (q : Q false s) : wpAny (model P w) A (setAddHashed a (.str k u) (hashStr w k)) Q E s := by
  obtain ⟨es, ep, t⟩ := D
  have n1 : es.size < scanBound := by have := T.ok.sz; simp only at this; omega
  obtain ⟨e, he, hp⟩ := (T.ok.mem k).mp hk
  unfold setAddHashed setAddHashedIn
  apply wpAny_holding
  apply wpAny_bind
  refine wpAny_setState_of T.obj rfl T.ok.fit ?_
  simp only [byScan_of (x := Value.str k u) (knd := strKind P w) rfl n1 T.ok.el, ↓reduceIte]
  unfold setAddByScan
  apply wpAny_bind
  apply wpAny_bind
  apply wpAny_rule
  refine wpAny_bind (wpAny_setScan_of (k := k) (is_str k u) T.obj rfl T.ok.fit T.ok.el ?_)
  cases hr : List.findIdx? (fun e => (strKind P w).is k e.2) es.toList with
  | none =>
    have := List.findIdx?_eq_none_iff.mp hr e he
    rw [hp] at this; cases this
  | some j => exact wpAny_pure (wpAny_pure q)
theorem Has.add {Q : Bool → Shared → Prop} (T : Has P w s.heap a D l) (hb : l.length + 1 < scanBound)
    (q : ∀ b h' D', Heap.SameBut a s.heap h' → Has P w h' a D' (putT l k) → Q b { s with heap := h' }) : wpAny (model P w) A (setAddHashed a (.str k u) (hashStr w k)) Q E s := by
  by_cases c : k ∈ l
  · refine T.old c (by omega) ?_
    have := q false s.heap D (.refl a s.heap) (by rw [show putT l k = l from if_pos c]; exact T)
    exact this
  · refine add_x T.obj T.ok c hb (q true _ _ (.update s.heap a _) ⟨get_upd _ T.obj rfl, ?_, ris_addTx T.ris, T.led.imp id fun z => led_addTx.trans z, put_nodup T.nd⟩)
    rw [show putT l k = k :: l from if_neg c]
    exact add_ok u T.ok
theorem has_new {h : Heap} (ho : h.get? a = some { cls := .type "set", dict := none, data := .set #[] 0 (.fresh 0 0 (!w.params.followText "set-order")) }) : Has P w h a (#[], 0, .fresh 0 0 (!w.params.followText "set-order")) [] where
  obj := ho
  ok := TxOk.nil (by rfl)
  ris := List.Pairwise.nil
  led := by
    show _ ∨ (!w.params.followText "set-order") = true
    cases w.params.followText "set-order"
    · exact .inr rfl
    · exact .inl rfl
  nd := List.nodup_nil
/-- the loop of set.update -/
theorem Has.loop {I : Addr} {fp wr : List Addr} {G : Array GenState → Array GenState → Prop} {n : Nat} {Pv : Nat → Value → Prop} {St : Nat → Shared → Prop} {R : Result → Shared → Prop} {xs : List Str}
    (W : WalksS P w A.in1 I fp wr G n Pv St) (hf : a ∉ fp) (hn : n = xs.length) (hv : ∀ i v, Pv i v → ∃ x t, xs[i]? = some x ∧ v = .str x t) (hz : xs.length + 1 < scanBound) :
    ∀ (r : List Str) (i : Nat) (s : Shared) (D : SD) (l : List Str), xs.drop i = r → i ≤ n → St i s → Has P w s.heap a D l → l.length ≤ i →
      (∀ s' D', Moved (a :: wr) G s s' → Has P w s'.heap a D' (r.foldl putT l) → R (.ok (.ret .none)) s') → codeAny (model P w) A (.builtin "set.update.loop" ⟨[.ref a, .ref I], []⟩) R s
  | [], i, s, D, l, hd, hi, hst, T, hl, hR => by
    have e : i = n := by
      have := congrArg List.length hd
      rw [List.length_drop, List.length_nil] at this
      omega
    subst e
    apply codeAny_builtin F.entry_set_update_loop
    rw [Around.under_plainId F.plain_set_update_loop]
    apply wpAny_bind (m := pyNext (.ref I))
    refine W.done s _ _ hst fun s' m => wpAny_pure (hR s' D ⟨fun b o hb e => m.heap b o (fun z => hb (List.mem_cons_of_mem _ z)) e, m.gens, m.drawn, m.os, m.toks⟩ (T.keep fun o e => m.heap a o (fun z => hf (W.sub _ z)) e))
  | x :: r, i, s, D, l, hd, hi, hst, T, hl, hR => by
    have hx : xs[i]? = some x := by rw [← List.head?_drop, hd]; rfl
    have hin : i < n := by rw [hn]; exact (List.getElem?_eq_some_iff.mp hx).1
    have hd' : xs.drop (i + 1) = r := by rw [← List.drop_drop, hd]; rfl
    apply codeAny_builtin F.entry_set_update_loop
    rw [Around.under_plainId F.plain_set_update_loop]
    apply wpAny_bind (m := pyNext (.ref I))
    refine W.item i s _ _ hin hst fun v s' p hst' m => ?_
    obtain ⟨y, t, hy, rfl⟩ := hv i v p
    obtain rfl : x = y := Option.some.inj (hx.symm.trans hy)
    have T' := T.keep fun o e => m.heap a o (fun z => hf (W.sub _ z)) e
    apply wpAny_bind (m := holding [Value.str x t] (setAdd a (.str x t)))
    apply wpAny_holding
    unfold setAdd
    apply wpAny_holding
    apply wpAny_bind
    apply (strKind P w).pyHash (is_str x t)
    refine Has.add (s := { s' with toks := s'.toks + 1 }) T' (by omega) fun b h' D' sb T2 => wpAny_pure ⟨plainId_quiet F.plain_set_update_loop _, ?_⟩
    refine Has.loop W hf hn hv hz r (i + 1) _ D' (putT l x) hd' hin (W.frame _ s' _ _ hst' (Nat.le_succ _) fun b hb o e => ?_) T2 (Nat.le_trans put_len (by omega)) fun s2 D2 m2 T3 => ?_
    · rw [sb.2 b fun z => hf (z ▸ hb)]; exact e
    · refine hR s2 D2 ⟨fun b o hb e => m2.heap b o hb ?_, W.gtrans _ _ _ m.gens m2.gens, m2.drawn.trans m.drawn, m2.os.trans m.os, Nat.le_trans m.toks (Nat.le_trans (Nat.le_succ _) m2.toks)⟩ T3
      show h'.get? b = some o
      rw [sb.2 b fun z => hb (z ▸ List.mem_cons_self)]
      exact m.heap b o (fun z => hb (List.mem_cons_of_mem _ z)) e
end
end Stx
end Kf
set_option maxHeartbeats 4000000
/-! Dl31: the call set(xs); sorted(set(xs)). -/
namespace Kf
namespace Stx
open PySem PySem.Spec PySem.Froz L2
open PyProof.Rows hiding St
section
variable {P : Program} {w : World} {A : Around} {E : Value → Shared → Prop} {s : Shared}
/-- the new set, as it is laid -/
abbrev fresh (w : World) : Obj := { cls := .type "set", dict := none, data := .set #[] 0 (.fresh 0 0 (!w.params.followText "set-order")) }
/-- what the making leaves: the set, all else as it was -/
def Made (P : Program) (w : World) (s : Shared) (xs : List Str) (s2 : Shared) : Prop := ∃ h' tk D, s2 = { s with heap := h', toks := tk } ∧ Has P w h' s.heap.objs.size D (xs.foldl putT []) ∧ ∀ b o, s.heap.get? b = some o → h'.get? b = some o
def IPost (P : Program) (w : World) (A : Around) (E : Value → Shared → Prop) (s : Shared) (xs : List Str) : Fin → Shared → Prop := fun fin s' => match fin with
  | .done f => wants (fun r s2 => r = Value.none ∧ Made P w s xs s2) E (.ok f) s'
  | .again c' => c'.quiet = true ∧ codeAny (model P w) A.in1 c' (wants (fun r s2 => r = Value.none ∧ Made P w s xs s2) E) s'
theorem call_of {l : Addr} {xs : List Str} {Q : Value → Shared → Prop}
    (hi : wpAny (model P w) A.in1.in1 (Builtin.«set.__init__» ⟨[.ref s.heap.objs.size, .ref l], []⟩) (IPost P w A E s xs) (fun e s' => wants (fun r s2 => r = .none ∧ Made P w s xs s2) E (.error e) s') { s with heap := s.heap.push (fresh w) })
    (q : ∀ s2, Made P w s xs s2 → Q (.ref s.heap.objs.size) s2) : wpAny (model P w) A (call (.type "set") [.ref l]) Q E s := by
  obtain ⟨c, tl, hmro⟩ := F.called_set.mro
  have m1 := F.called_set.made
  have m2 := F.called_set.sub
  apply wpAny_call
  apply codeAny_of_tree
  refine wpAny_pure ⟨Code.quiet_builtin _ (by decide +kernel), codeAny_builtin F.entry_type_call ?_⟩
  rw [Around.under_plain (weight_type_call_type "set" [.ref l] []) rfl]
  have m3 := F.called_set.notType
  have m4 := F.called_set.canCreate
  have m5 := F.typeCall_set_1 (.ref l)
  repeat (any_goals (first | assumption | wp_step))
  have ho : (s.heap.push (fresh w)).get? s.heap.objs.size = some (fresh w) := Heap.get?_push_size _ rfl
  have hT : Shared.TypeIs { s with heap := s.heap.push (fresh w) } (.ref s.heap.objs.size) "set" := ⟨_, ho, rfl⟩
  have m6 := F.called_set.init.lookup
  have m7 := F.called_set.init.bind (.ref s.heap.objs.size)
  refine codeAny_mono (code_set_led1 (P := P) (E := E) (.ref l) (Q₁ := fun v s1 => v = .ref s.heap.objs.size ∧ s1 = { s with heap := s.heap.push (fresh w) }) ⟨rfl, rfl⟩) ?_
  rintro (e | (_ | _ | _ | v)) s1 hr <;> first | exact hr | exact hr.elim | skip
  obtain ⟨rfl, rfl⟩ := hr
  repeat (any_goals (first | assumption | wp_step))
  refine codeAny_mono (codeAny_call_builtin (R := wants (fun r s2 => r = .none ∧ Made P w s xs s2) E) F.called_set.init.plain F.entry_set_init (check_set_init_1 hT ?_)) ?_
  · exact hi
  · rintro (e | (_ | _ | _ | v)) s2 hr <;> first | exact hr | exact hr.elim | skip
    obtain ⟨rfl, hm⟩ := hr
    repeat (any_goals (first | assumption | wp_step))
    exact q _ hm
theorem new_size {h : Heap} {o : Obj} : (h.push o).objs.size = h.objs.size + 1 := Heap.size_push ..
theorem strs_at : ∀ {us : List Value} {xs : List Str}, StrsAre us xs → ∀ (i : Nat) (x : Str), xs[i]? = some x → ∃ t, us[i]? = some (.str x t)
  | _, _, .nil, i, x, h => by cases h
  | _, _, .cons y t r, 0, x, h => by cases h; exact ⟨t, rfl⟩
  | _, _, .cons y t r, i + 1, x, h => strs_at r i x h
/-- set.__init__ of a list -/
theorem init_lst {l : Addr} {items : Array Value} {xs : List Str} (hh : A.handled = none) (hl : s.heap.IsList l items) (hx : StrsAre items.toList xs) (hz : xs.length + 1 < scanBound) :
    wpAny (model P w) A.in1.in1 (Builtin.«set.__init__» ⟨[.ref s.heap.objs.size, .ref l], []⟩) (IPost P w A E s xs) (fun e s' => wants (fun r s2 => r = .none ∧ Made P w s xs s2) E (.error e) s') { s with heap := s.heap.push (fresh w) } := by
  obtain ⟨o, ho, hc, n, hd⟩ := hl
  have ho1 : (s.heap.push (fresh w)).get? l = some o := Heap.get?_push_of_some _ ho
  have hl1 : (s.heap.push (fresh w)).IsList l items := ⟨o, ho1, hc, n, hd⟩
  have hT : Shared.TypeIs { s with heap := s.heap.push (fresh w) } (.ref l) "list" := ⟨o, ho1, hc⟩
  have hs : (s.heap.push (fresh w)).get? s.heap.objs.size = some (fresh w) := Heap.get?_push_size _ rfl
  have z1 := F.sub_list_set
  have z2 := F.sub_list_frozenset
  have z3 : (Value.type "list" == Value.type "dict") = false := by decide
  unfold Builtin.«set.__init__» noKeywords Builtin.Frozenset.updateFrom
  generalize hPI : pyIter = PI
  wp_walk
  subst hPI
  refine wpAny_pyIter_list hl1 ?_
  apply wpAny_bind
  apply wpAny_runValue
  have b1 : l < s.heap.objs.size := Heap.lt_size ho
  have b2 : (s.heap.push (fresh w)).objs.size = s.heap.objs.size + 1 := new_size
  have b3 : l ≠ (s.heap.push (fresh w)).objs.size := by rw [b2]; exact Nat.ne_of_lt (Nat.lt_succ_of_lt b1)
  have b4 : s.heap.objs.size ∉ [(s.heap.push (fresh w)).objs.size, l] := by
    rw [b2]
    intro z
    rcases List.mem_cons.mp z with z | z
    · exact Nat.ne_of_lt (Nat.lt_succ_self _) z
    · exact Nat.ne_of_gt b1 (List.mem_singleton.mp z)
  have hsz : items.size = xs.length := by rw [← Array.length_toList, hx.length]
  refine Has.loop (Walks.list (by simp [hh]) _ l b3 items).toS b4 hsz (fun i v hv => ?_) hz xs 0 _ _ [] rfl (Nat.zero_le _) ⟨⟨_, Heap.get?_push_size _ rfl, rfl, rfl⟩, hl1.push _⟩
    (has_new (Heap.get?_push_of_some _ hs)) (Nat.zero_le _) fun s' D' m T => ?_
  · have hv' : items.toList[i]? = some v := by rw [Array.getElem?_toList]; exact hv
    obtain ⟨x, hx'⟩ : ∃ x, xs[i]? = some x := ⟨_, List.getElem?_eq_getElem (by
      have := (List.getElem?_eq_some_iff.mp hv').1
      rw [hx.length] at this; exact this)⟩
    obtain ⟨t, ht⟩ := strs_at hx i x hx'
    exact ⟨x, t, hx', Option.some.inj (hv'.symm.trans ht)⟩
  · obtain ⟨h', g', d', t', o'⟩ := s'
    have e1 : g' = s.gens := m.gens
    have e2 : d' = s.drawn := m.drawn
    have e3 : o' = s.os := m.os
    subst e1 e2 e3
    refine wpAny_pure (wpAny_pure ⟨rfl, h', t', D', rfl, T, fun b u e => ?_⟩)
    have b5 : b < s.heap.objs.size := Heap.lt_size e
    refine m.heap b u (fun z => ?_) (Heap.get?_push_of_some _ (Heap.get?_push_of_some _ e))
    rcases List.mem_cons.mp z with z | z
    · exact Nat.ne_of_lt b5 z
    · have z := List.mem_singleton.mp z
      rw [b2] at z
      exact Nat.ne_of_lt (Nat.lt_succ_of_lt b5) z
/-- set.__init__ of a tuple -/
theorem init_tup {l : Addr} {items : Array Value} {xs : List Str} (hh : A.handled = none) (hl : s.heap.IsTuple l items) (hx : StrsAre items.toList xs) (hz : xs.length + 1 < scanBound) :
    wpAny (model P w) A.in1.in1 (Builtin.«set.__init__» ⟨[.ref s.heap.objs.size, .ref l], []⟩) (IPost P w A E s xs) (fun e s' => wants (fun r s2 => r = .none ∧ Made P w s xs s2) E (.error e) s') { s with heap := s.heap.push (fresh w) } := by
  obtain ⟨o, ho, hc, n, hd⟩ := hl
  have ho1 : (s.heap.push (fresh w)).get? l = some o := Heap.get?_push_of_some _ ho
  have hl1 : (s.heap.push (fresh w)).IsTuple l items := ⟨o, ho1, hc, n, hd⟩
  have hT : Shared.TypeIs { s with heap := s.heap.push (fresh w) } (.ref l) "tuple" := ⟨o, ho1, hc⟩
  have hs : (s.heap.push (fresh w)).get? s.heap.objs.size = some (fresh w) := Heap.get?_push_size _ rfl
  have z1 := F.sub_tuple_set
  have z2 := F.sub_tuple_frozenset
  have z3 : (Value.type "tuple" == Value.type "dict") = false := by decide
  unfold Builtin.«set.__init__» noKeywords Builtin.Frozenset.updateFrom
  generalize hPI : pyIter = PI
  wp_walk
  subst hPI
  refine wpAny_pyIter_tuple hl1 ?_
  apply wpAny_bind
  apply wpAny_runValue
  have b1 : l < s.heap.objs.size := Heap.lt_size ho
  have b2 : (s.heap.push (fresh w)).objs.size = s.heap.objs.size + 1 := new_size
  have b3 : l ≠ (s.heap.push (fresh w)).objs.size := by rw [b2]; exact Nat.ne_of_lt (Nat.lt_succ_of_lt b1)
  have b4 : s.heap.objs.size ∉ [(s.heap.push (fresh w)).objs.size, l] := by
    rw [b2]
    intro z
    rcases List.mem_cons.mp z with z | z
    · exact Nat.ne_of_lt (Nat.lt_succ_self _) z
    · exact Nat.ne_of_gt b1 (List.mem_singleton.mp z)
  have hsz : items.size = xs.length := by rw [← Array.length_toList, hx.length]
  refine Has.loop (Walks.tuple (by simp [hh]) _ l b3 items).toS b4 hsz (fun i v hv => ?_) hz xs 0 _ _ [] rfl (Nat.zero_le _) ⟨⟨_, Heap.get?_push_size _ rfl, rfl, rfl⟩, hl1.push _⟩
    (has_new (Heap.get?_push_of_some _ hs)) (Nat.zero_le _) fun s' D' m T => ?_
  · have hv' : items.toList[i]? = some v := by rw [Array.getElem?_toList]; exact hv
    obtain ⟨x, hx'⟩ : ∃ x, xs[i]? = some x := ⟨_, List.getElem?_eq_getElem (by
      have := (List.getElem?_eq_some_iff.mp hv').1
      rw [hx.length] at this; exact this)⟩
    obtain ⟨t, ht⟩ := strs_at hx i x hx'
    exact ⟨x, t, hx', Option.some.inj (hv'.symm.trans ht)⟩
  · obtain ⟨h', g', d', t', o'⟩ := s'
    have e1 : g' = s.gens := m.gens
    have e2 : d' = s.drawn := m.drawn
    have e3 : o' = s.os := m.os
    subst e1 e2 e3
    refine wpAny_pure (wpAny_pure ⟨rfl, h', t', D', rfl, T, fun b u e => ?_⟩)
    have b5 : b < s.heap.objs.size := Heap.lt_size e
    refine m.heap b u (fun z => ?_) (Heap.get?_push_of_some _ (Heap.get?_push_of_some _ e))
    rcases List.mem_cons.mp z with z | z
    · exact Nat.ne_of_lt b5 z
    · have z := List.mem_singleton.mp z
      rw [b2] at z
      exact Nat.ne_of_lt (Nat.lt_succ_of_lt b5) z
end
end Stx
end Kf
set_option maxHeartbeats 4000000
/-! Dl32: sorted(set(xs)). -/
namespace Kf
namespace Stx
open PySem PySem.Spec PySem.Froz L2
open PyProof.Rows hiding St
def txOf (v : Value) : Str := match v with
  | .str x _ => x
  | _ => ⟨#[]⟩
theorem perm_of_sub : ∀ {l m : List Str}, l.Nodup → (∀ x ∈ l, x ∈ m) → m.length ≤ l.length → m.Perm l
  | [], m, _, _, h => by
    have : m = [] := List.eq_nil_of_length_eq_zero (Nat.le_zero.mp h)
    rw [this]
  | x :: l, m, hn, hs, h => by
    obtain ⟨h1, h2⟩ := List.nodup_cons.mp hn
    have hx := hs x List.mem_cons_self
    have p := List.perm_cons_erase hx
    refine p.trans (.cons x (perm_of_sub h2 (fun y hy => ?_) ?_))
    · have := p.mem_iff.mp (hs y (List.mem_cons_of_mem _ hy))
      rcases List.mem_cons.mp this with rfl | z
      · exact absurd hy h1
      · exact z
    · have := p.length_eq
      rw [List.length_cons] at this h
      omega
theorem strs_tx : ∀ (vs : List Value), (∀ v ∈ vs, ∃ x t, v = Value.str x t) → StrsAre vs (vs.map txOf)
  | [], _ => .nil
  | v :: vs, h => by
    obtain ⟨x, t, rfl⟩ := h v List.mem_cons_self
    exact .cons x t (strs_tx vs fun u hu => h u (List.mem_cons_of_mem _ hu))
section
variable {P : Program} {w : World} {A : Around} {E : Value → Shared → Prop} {s : Shared} {a : Addr} {D : SD} {l : List Str}
theorem el_str {es : List (Int × Value)} (h : ElemsOf (strKind P w) es) : ∀ v ∈ es.map (·.2), ∃ x t, v = Value.str x t := fun v hv => by
  obtain ⟨e, he, rfl⟩ := List.mem_map.mp hv
  obtain ⟨⟨k, hk, _⟩, _⟩ := h e he
  obtain ⟨t, ht⟩ := Value.isStrOf_shape hk
  exact ⟨k, t, ht⟩
theorem Has.keys (T : Has P w s.heap a D l) : ((D.1.toList.map (·.2)).map txOf).Perm l := by
  refine perm_of_sub T.nd (fun x hx => ?_) ?_
  · obtain ⟨e, he, hp⟩ := (T.ok.mem x).mp hx
    obtain ⟨t, ht⟩ := Value.isStrOf_shape hp
    exact List.mem_map.mpr ⟨e.2, List.mem_map.mpr ⟨e, he, rfl⟩, by rw [ht]; rfl⟩
  · rw [List.length_map, List.length_map, Array.length_toList, T.ok.sz]; exact Nat.le_refl _
/-- sorted(found) -/
theorem Has.sorted {Q : Value → Shared → Prop} (T : Has P w s.heap a D l) (hh : A.handled = none) (hz : l.length < scanBound) (hq : l.length ≤ sizeLine)
    (q : ∀ s' p (out : Array Value) (c : Nat) (ys : List Str), (∀ b o, s.heap.get? b = some o → s'.heap.get? b = some o) → s'.gens = s.gens → s'.os = s.os → s.heap.objs.size ≤ p →
      s'.heap.get? p = some (seqObj "list" out c) → StrsAre out.toList ys → ys.Perm l → sortedS ys = true → Q (.ref p) s') :
    wpAny (model P w) A (call (.builtin "sorted") [.ref a]) Q E s := by
  obtain ⟨es, ep, t⟩ := D
  have e1 : es.size = l.length := T.ok.sz
  apply Calls.call_function_entry kind_sorted plain_sorted entry_sorted (args_sorted1 _)
  unfold Builtin.«sorted»
  apply wpAny_bind (m := checkCount "sorted" 1 1 _)
  apply wpAny_pure
  apply wpAny_bind
  refine collect_set (A := A.in1) hh ⟨_, T.obj, rfl, rfl⟩ T.ok.fit (by rw [e1]; exact hz) T.ris T.led fun s1 vs k1 k2 k3 k4 pm => ?_
  have hS : StrsAre vs (vs.map txOf) := strs_tx vs fun v hv => el_str T.ok.el v (pm.mem_iff.mp hv)
  have hp : (vs.map txOf).Perm l := (pm.map txOf).trans T.keys
  have hl : vs.length ≤ sizeLine := by have := hp.length_eq; rw [List.length_map] at this; omega
  apply wpAny_bind
  refine wpAny_newList ?_ hl
  have ho : (s1.heap.push (seqObj "list" vs.toArray 0)).get? s1.heap.objs.size = some (seqObj "list" vs.toArray 0) := Heap.get?_push_size _ rfl
  apply wpAny_bind
  apply wpAny_holding
  refine wpAny_call_entry slot_list_sort ⟨_, ho, rfl⟩ entry_list_sort (list_sort_treeKAny strKind_oneLt ho hS.keysOf (fun v₁ v₂ rest e => keyKind_strs (by rw [← e]; exact hS)) hl fun st' p1 p2 => ⟨_, rfl, ?_⟩) (args_list_sort _)
  obtain ⟨ys, y1, y2, y3⟩ := sorted_out_str hS p1 p2
  obtain ⟨c, hc⟩ := sortedHeap_at (vs := vs) (out := (arrOf st').map (·.2)) ho
  refine wpAny_pure ⟨_, rfl, q _ s1.heap.objs.size _ c ys (fun b u e => ?_) k3 k4 k2 hc y1 (y2.trans hp) y3⟩
  have z1 := k1 b u e
  have z2 := Heap.lt_size z1
  show (sortedHeap (s1.heap.push (seqObj "list" vs.toArray 0)) s1.heap.objs.size vs ((arrOf st').map (·.2))).get? b = some u
  rw [sortedHeap_old (Nat.ne_of_lt z2) (by rw [new_size]; exact Nat.lt_succ_of_lt z2)]
  exact Heap.get?_push_of_some _ z1
end
/-- sorted(set(e)) -/
def tSortSet (K : PySem.W.Frag) (te : TE) : TE := fun σ H Q => te σ H fun x H1 => ∃ (l : Addr) (xs : List Str), x = .ref l ∧ (SqL K H1 l (xs.map V.str) ∨ SqT K H1 l (xs.map V.str)) ∧ xs.length ≤ 4000 ∧
  ∀ (ys : List Str) (p : Addr), sortedS ys = true → ys.Nodup → (∀ x, x ∈ ys ↔ x ∈ xs) → H1 p = none → Q (.ref p) (upd H1 p (.lst (ys.map V.str)))
section
variable {X : Cx} {a : Expr} {te : TE} {p p2 q pos : Pos}
theorem pe_sortSet (hc : X.calm = true) (hg : Gl X "sorted") (hm : X.mg "sorted" = none) (hg2 : Gl X "set") (hm2 : X.mg "set" = none) (ha : PE X a te)
    (na : starEach [a] X.env = (false, eval a X.env) :: starEach [] X.env := by rfl) : PE X (.Call (.Name "sorted" p) [.Call (.Name "set" p2) [a] [] q] [] pos) (tSortSet X.K te) := by
  refine ⟨fun pins s σ H Q I h => ?_⟩
  refine Call_ (ld_blt I hg hm PyProof.Rows.boot_sorted (callWith_builtin1 (args_cons ?_ rfl) rfl rfl))
  refine Call_ (ld_blt I hg2 hm2 PyProof.Rows.boot_set (callWith_type1 (args_cons (thn (ha.run pins s σ H _ I h) fun v s1 ⟨x, H1, I1, r1, q1⟩ => args_nil ?_) na) na rfl))
  obtain ⟨l, xs, rfl, hq, hz, q1⟩ := q1
  cases r1
  have hd := I1.ok.hd hc
  have hsb : (4002 : Nat) < scanBound := by unfold scanBound; decide
  have hsl : (4002 : Nat) ≤ sizeLine := by rw [sizeLine_eq]; decide
  have main : ∀ (E : Value → Shared → Prop) s2, Made X.prog X.w s1 xs s2 → wpAny (model X.prog X.w) X.A (call (.builtin "sorted") [.ref s1.heap.objs.size]) (fun v s' => ∃ (y : V) (H' : Hp), Inv X pins σ H' s' ∧ RelV y v ∧ Q y H') E s2 := by
    rintro E s2 ⟨h', tk, D, rfl, T, kp⟩
    have hl : (xs.foldl putT []).length ≤ xs.length := by have := puts_len xs []; simpa using this
    refine T.sorted hd (by omega) (by omega) fun s' p out c ys k1 k2 k3 k4 k5 k6 k7 k8 => ?_
    have hp : s1.heap.objs.size ≤ p := Nat.le_trans (Nat.le_of_lt (Heap.lt_size T.obj)) k4
    have hn : H1 p = none := I1.hok.fresh hp
    have hys : ys.length ≤ sizeLine := by rw [k7.length_eq]; omega
    have kk : ∀ b o, s1.heap.get? b = some o → s'.heap.get? b = some o := fun b o e => k1 b o (kp b o e)
    have J : Inv X pins σ (upd H1 p (.lst (ys.map V.str))) { s1 with heap := s'.heap, gens := s'.gens, drawn := s'.drawn, toks := s'.toks } :=
      I1.call (ch := []) (Un.laid kk hp hn) (I1.hok.laid kk hp ⟨by rw [List.length_map]; exact hys, out.toList, c, vals_of_strs k6, k5⟩) (by rw [k2]; exact I1.bare) (fun _ z => nomatch z)
    have e : s' = { s1 with heap := s'.heap, gens := s'.gens, drawn := s'.drawn, toks := s'.toks } := by
      cases s'; cases s1; cases k3; rfl
    rw [e]
    exact ⟨.ref p, _, J, rfl, q1 ys p k8 (k7.nodup_iff.mpr T.nd) (fun x => by rw [k7.mem_iff, mem_puts]; simp) hn⟩
  rcases hq with hq | hq
  · obtain ⟨its, r, pl, _⟩ := I1.list hq
    exact call_of (init_lst hd pl.isList (xs := xs) (by simpa using r.strs) (by omega)) fun s2 m => args_nil (main _ s2 m)
  · obtain ⟨its, r, pt, _⟩ := I1.tuple hq
    exact call_of (init_tup hd (show s1.heap.IsTuple l its.toArray from pt) (xs := xs) (by simpa using r.strs) (by omega)) fun s2 m => args_nil (main _ s2 m)
end
end Stx
end Kf
namespace Kf
open PySem PySem.Spec L2
open PyProof.Rows hiding St
/-! ### comprehensions over a list of things -/
section
variable {p : Pat} {ft : FT} {fe : FE} {ρ : DEnv} {O : Ow} {α β : Type}
theorem lcA_map (f g : α → D) : ∀ (xs : List α) (acc : List D) (Q : List D → Ow → Prop), acc.length + xs.length ≤ sizeLine →
    (∀ x ∈ xs, ∀ Q' : VD, Q' (g x) O → patGet (patD p (f x) ρ) fun ρ1 => fe ρ1 O Q') → Q (acc ++ xs.map g) O → lcD p fYes fe ρ (xs.map f) acc O Q
  | [], acc, Q, _, _, q => by simpa [lcD] using q
  | x :: xs, acc, Q, hl, hs, q => by
    rw [List.length_cons] at hl
    have z := hs x List.mem_cons_self (fun e O2 => acc.length < sizeLine ∧ lcD p fYes fe ρ (xs.map f) (acc ++ [e]) O2 Q) ⟨by omega, lcA_map f g xs _ Q (by rw [List.length_append, List.length_singleton]; omega) (fun d' hd => hs d' (List.mem_cons_of_mem _ hd)) (by simpa using q)⟩
    rw [List.map_cons]
    unfold lcD
    simpa [fYes] using z
theorem lcA_filter (b : α → Bool) (f g : α → D) : ∀ (xs : List α) (acc : List D) (Q : List D → Ow → Prop), acc.length + xs.length ≤ sizeLine →
    (∀ x ∈ xs, ∀ (Q1 : VD) (Q2 : Ow → Prop), (b x = true → Q1 (g x) O) → (b x = false → Q2 O) → patGet (patD p (f x) ρ) fun ρ1 => ft ρ1 O fun k O1 => if k = true then fe ρ1 O1 Q1 else Q2 O1) → Q (acc ++ (xs.filter b).map g) O → lcD p ft fe ρ (xs.map f) acc O Q
  | [], acc, Q, _, _, q => by simpa [lcD] using q
  | x :: xs, acc, Q, hl, hs, q => by
    rw [List.length_cons] at hl
    have z := hs x List.mem_cons_self (fun e O2 => acc.length < sizeLine ∧ lcD p ft fe ρ (xs.map f) (acc ++ [e]) O2 Q) (fun O2 => lcD p ft fe ρ (xs.map f) acc O2 Q)
      (fun hb => ⟨by omega, lcA_filter b f g xs _ Q (by rw [List.length_append, List.length_singleton]; omega) (fun d' hd => hs d' (List.mem_cons_of_mem _ hd)) (by simpa [List.filter_cons, hb] using q)⟩)
      (fun hb => lcA_filter b f g xs _ Q (by omega) (fun d' hd => hs d' (List.mem_cons_of_mem _ hd)) (by simpa [List.filter_cons, hb] using q))
    rw [List.map_cons]
    unfold lcD
    exact z
/-- .. that keeps some of them, those that it must at least -/
theorem lcA_sub (must : α → Prop) (f g : α → D) : ∀ (xs : List α) (acc : List D) (Q : List D → Ow → Prop), acc.length + xs.length ≤ sizeLine →
    (∀ x ∈ xs, ∀ (Q1 : VD) (Q2 : Ow → Prop), Q1 (g x) O → (¬ must x → Q2 O) → patGet (patD p (f x) ρ) fun ρ1 => ft ρ1 O fun k O1 => if k = true then fe ρ1 O1 Q1 else Q2 O1) →
    (∀ ys : List α, ys.Sublist xs → (∀ x ∈ xs, must x → x ∈ ys) → Q (acc ++ ys.map g) O) → lcD p ft fe ρ (xs.map f) acc O Q
  | [], acc, Q, _, _, q => by have := q [] (List.Sublist.refl _) (fun x h => nomatch h); simpa [lcD] using this
  | x :: xs, acc, Q, hl, hs, q => by
    rw [List.length_cons] at hl
    have z := hs x List.mem_cons_self (fun e O2 => acc.length < sizeLine ∧ lcD p ft fe ρ (xs.map f) (acc ++ [e]) O2 Q) (fun O2 => lcD p ft fe ρ (xs.map f) acc O2 Q)
      ⟨by omega, lcA_sub must f g xs _ Q (by rw [List.length_append, List.length_singleton]; omega) (fun d' hd => hs d' (List.mem_cons_of_mem _ hd)) fun ys h1 h2 => by
        have := q (x :: ys) (h1.cons₂ x) fun u hu hm => by
          rcases List.mem_cons.mp hu with rfl | hu
          · exact List.mem_cons_self
          · exact List.mem_cons_of_mem _ (h2 u hu hm)
        simpa using this⟩
      (fun hb => lcA_sub must f g xs _ Q (by omega) (fun d' hd => hs d' (List.mem_cons_of_mem _ hd)) fun ys h1 h2 => q ys (h1.cons x) fun u hu hm => by
          rcases List.mem_cons.mp hu with rfl | hu
          · exact absurd hm hb
          · exact h2 u hu hm)
    rw [List.map_cons]
    unfold lcD
    exact z
/-- .. each item one of many, the things of some kind -/
theorem lcA_all (G : β → Prop) (f : α → D) (g : β → D) : ∀ (xs : List α) (acc : List D) (Q : List D → Ow → Prop), acc.length + xs.length ≤ sizeLine →
    (∀ x ∈ xs, ∀ Q' : VD, (∀ y, G y → Q' (g y) O) → patGet (patD p (f x) ρ) fun ρ1 => fe ρ1 O Q') → (∀ ys : List β, ys.length = xs.length → (∀ y ∈ ys, G y) → Q (acc ++ ys.map g) O) → lcD p fYes fe ρ (xs.map f) acc O Q
  | [], acc, Q, _, _, q => by have := q [] rfl (fun x h => nomatch h); simpa [lcD] using this
  | x :: xs, acc, Q, hl, hs, q => by
    rw [List.length_cons] at hl
    have z := hs x List.mem_cons_self (fun e O2 => acc.length < sizeLine ∧ lcD p fYes fe ρ (xs.map f) (acc ++ [e]) O2 Q) fun y hy => ⟨by omega, lcA_all G f g xs _ Q (by rw [List.length_append, List.length_singleton]; omega) (fun d' hd => hs d' (List.mem_cons_of_mem _ hd)) fun ys h1 h2 => by
      have := q (y :: ys) (by rw [List.length_cons, List.length_cons, h1]) fun u hu => by
        rcases List.mem_cons.mp hu with rfl | hu
        · exact hy
        · exact h2 u hu
      simpa using this⟩
    rw [List.map_cons]
    unfold lcD
    simpa [fYes] using z
end
/-- range as a map -/
theorem rangeD_map (lo : Int) (n : Nat) : rangeD lo n = (List.range n).map fun i => D.int (lo + (i : Nat)) := rfl
/-- a walk over a map, by places -/
theorem forA_ix {p : Pat} {gb : GS} {R : DEnds} {α : Type} (f : α → D) (I : List α → List α → DEnv → Ow → Prop) : ∀ (xs pre : List α) (ρ : DEnv) (O : Ow), I pre xs ρ O → (∀ ρ O, I (pre ++ xs) [] ρ O → R.nx ρ O) →
    (∀ pre' x rest, pre ++ xs = pre' ++ x :: rest → ∀ ρ O, I pre' (x :: rest) ρ O → ∀ N : DEnv → Ow → Prop, (∀ ρ O, I (pre' ++ [x]) rest ρ O → N ρ O) → patGet (patD p (f x) ρ) fun ρ1 => gb { R with nx := N, ct := N, bk := R.nx } ρ1 O) → forD p gb R (xs.map f) ρ O
  | [], pre, ρ, O, h, hd, _ => hd ρ O (by rw [List.append_nil]; exact h)
  | x :: xs, pre, ρ, O, h, hd, hs => by
    have q := hs pre x xs rfl ρ O h (forD p gb R (xs.map f)) fun ρ' O' h' => by
      refine forA_ix f I xs (pre ++ [x]) ρ' O' h' (fun ρ O z => hd ρ O ?_) fun pre' y rest e => hs pre' y rest ?_
      · simpa using z
      · rw [← e]; simp
    rw [List.map_cons]
    unfold forD
    exact q
end Kf
namespace Kf
open PySem PySem.Spec L2
open PyProof.Rows hiding St
section
variable {P : Program} {w : World} {K : PySem.W.Frag} {mg : Str → Option Value} {base : Heap} {CX : CXT} {f : Addr} {fd : FuncData} {ps : List Str} {k k' : Nat}
theorem fnUp {sp : Sp} (h : FnOk P w K mg base CX k f fd ps sp) (hk : k ≤ k') : FnOk P w K mg base CX k' f fd ps sp :=
  ⟨h.1, fun A outer s H args us vs Q E a b c d e => h.2 A outer s H args us vs Q E (a.mono hk) b c d e⟩
theorem fnLess {dsp dsp' : DSp} (h : FnOk P w K mg base CX k f fd ps (liftSp K dsp)) (hs : ∀ ds O R RE, dsp' ds O R RE → dsp ds O R RE) : FnOk P w K mg base CX k f fd ps (liftSp K dsp') := by
  have hs' : ∀ vs H Q E, liftSp K dsp' vs H Q E → liftSp K dsp vs H Q E := fun vs H Q E ⟨F, O, P, ds, R, RE, g, r, q, z⟩ => ⟨F, O, P, ds, R, RE, g, r, hs _ _ _ _ q, z⟩
  exact ⟨fun vs H Q E q => h.1 vs H Q E (hs' _ _ _ _ q), fun A outer s H args us vs Q E a b c d e => h.2 A outer s H args us vs Q E a b c d (hs' _ _ _ _ e)⟩
end
end Kf
namespace Kf
open PySem PySem.Spec L2
open PyProof.Rows hiding St
theorem gSeq_step {g u : GS} {R : DEnds} {ρ : DEnv} {O : Ow} (h : g { R with nx := u R } ρ O) : gSeq g u R ρ O := h
theorem sub_at {O O' : Ow} {p : Addr} {c : Cell} (h : Sub (updO O p c) O') : O' p = some c := h p c updO_same
theorem sub_set {O O' : Ow} {p : Addr} {c c' : Cell} (h : Sub (updO O p c) O') : Sub (updO O p c') (updO O' p c') := fun a d e => by
  by_cases q : a = p
  · subst q; rw [updO_same] at e ⊢; exact e
  · rw [updO_ne q] at e ⊢; exact h a d (by rw [updO_ne q]; exact e)
theorem sub_del {O O' : Ow} {p : Addr} {c : Cell} (hp : O p = none) (h : Sub (updO O p c) O') : Sub O (delO O' p) := fun a d e => by
  have q : a ≠ p := fun q => by rw [q, hp] at e; cases e
  unfold delO
  rw [if_neg q]
  exact h a d (by rw [updO_ne q]; exact e)
theorem sub_under {O O' : Ow} {p : Addr} {c : Cell} (hp : O p = none) (h : Sub (updO O p c) O') : Sub O O' := (sub_upd hp).trans h
theorem sub_free {O O' : Ow} {p : Addr} (h : Sub O O') (hp : O' p = none) : O p = none := by
  cases e : O p with
  | none => rfl
  | some c => rw [h p c e] at hp; cases hp
theorem rIx_any {xs : List D} {i : Int} {O : Ow} {Q : VD} (h0 : 0 ≤ i) (h1 : i < xs.length) (h : ∀ v ∈ xs, Q v O) : rIxD (.lst xs) (.int i) O Q := by
  obtain ⟨v, e1, e2⟩ := atI_some h0 h1
  rw [rIx_l e1]
  exact h v e2
end Kf
namespace Kf
open PySem PySem.Spec L2
open PyProof.Rows hiding St
local macro_rules | `(tactic| walk_at "kf") => `(tactic| simp (config := { failIfUnchanged := false }) only [startD, gSeq, gIf, gRet, gNext, gSet, gAsg, gDrop, gRetF, gRetN, gFor, gSetIx, gBreak, fTest, fOp, fVar, envGet_s, patGet_s, fC, fCB, fCons, fNil, fCall, fAnd, fOr, fNot, fAndV, fOrV, fNotV, fIf, fTup, fLst, fLstO, fChain, fUn, fBM, fBM0, fPool, rPool_i, fSl, fPart, fNoPart, asI_i, rSl_l, fiRng1, fiRng2, fiList, fiTup, fiStr, fiEnum, fiZip, fiRev, asL_l, asT_t, asSg_s, asR1_i, asR2_i, asL1_l, asL2_l, fLc, fLcO, fYes, wipeD, lcD, isi_i_int, isi_i_bool, isi_i_str, isi_i_tuple, isi_i_list, isi_i_dict, isi_b_int, isi_b_bool, isi_b_str, isi_b_tuple, isi_b_list, isi_b_dict, isi_s_int, isi_s_bool, isi_s_str, isi_s_tuple, isi_s_list, isi_s_dict, isi_t_int, isi_t_bool, isi_t_str, isi_t_tuple, isi_t_list, isi_t_dict, isi_l_int, isi_l_bool, isi_l_str, isi_l_tuple, isi_l_list, isi_l_dict, isi_n_int, isi_n_bool, isi_n_str, isi_n_tuple, isi_n_list, isi_n_dict, isi_d_int, isi_d_bool, isi_d_str, isi_d_tuple, isi_d_list, isi_d_dict,
  deref_tup, deref_lst, deref_int, deref_str, deref_bl, deref_non, deref_scr, rLt_i, rLt_s, rLe_i, rLe_s, rInts_i, rInts0_i, rAdd_i, rAdd_s, rAdd_l, rAdd_t, rCatO_l, rNeg_i, rLen_t, rLen_l, rLen_c, rLen_s, rMax_i, rMin_i, rInt_i, rInt_b, rDivmod_i, gAug, rStr_i, rList_l, rList_t, rListO_l, rListO_t, rTup_l, rTup_t,
  rIx_t0, rIx_t1, rIx_t2, rIx_t3, rIx_l0, rIx_l1, rIx_l2, rIsN_x, isNon_t, isNon_n, isNon_i, isNon_s, isNon_l, rEq_i, rEq_b, rEq_i2, rEq_b2, rJoin_m, rSplit_s, tyOk_l, tyOk_s, patD_nm, patD_tp, patDs_nil, patDs_cons, Option.bind_some, notX, notX',
  List.map_cons, List.map_nil, List.length_cons, List.length_nil, List.cons_append, List.nil_append, List.append_nil, List.replicate, List.getElem?_cons_zero, List.getElem?_cons_succ, List.set_cons_zero, List.set_cons_succ, updO_same, updO_updO,
  Nat.reduceSub, Nat.reduceAdd, Nat.reduceLeDiff, Nat.zero_add, Int.cast_ofNat_Int, Int.natCast_zero, Int.natCast_one, Int.reduceLT, Int.reduceLE, Int.reduceEq, Int.reduceAdd, Int.reduceSub, Int.reduceNeg, decide_true, decide_false, if_true, if_false, Bool.false_eq_true, eq_self, reduceIte, Bool.true_eq_false, decide_eq_true_eq, Bool.not_true, Bool.not_false, Bool.not_eq_true', decide_eq_false_iff_not, exists_eq_left', exists_eq_left, D.bl.injEq, true_and, and_true])
/-! ### how many kinds: the list of counts, grown by one -/
def nxt (xs : List Int) : Int := 2 * ((List.range (xs.length - 1)).map fun i => xs.getD (i + 1) 0 * xs.getD (xs.length - (i + 1)) 0).sum
def cl (m : Int) : Nat → List Int
  | 0 => [0, m + 1]
  | k + 1 => cl m k ++ [nxt (cl m k)]
theorem cl_length (m : Int) : ∀ k, (cl m k).length = k + 2
  | 0 => rfl
  | k + 1 => by rw [cl, List.length_append, cl_length m k]; rfl
theorem cl_get (m : Int) {i : Nat} : ∀ (k j : Nat), i < k + 2 → (cl m (k + j)).getD i 0 = (cl m k).getD i 0
  | k, 0, _ => rfl
  | k, j + 1, h => by
    rw [← cl_get m k j h, ← Nat.add_assoc, cl, List.getD_eq_getElem?_getD, List.getD_eq_getElem?_getD, List.getElem?_append_left (by rw [cl_length]; omega)]
/-- marks are one to four -/
def Small (m : Int) : Prop := m = 1 ∨ m = 2 ∨ m = 3 ∨ m = 4
theorem cl_bound : ∀ m : Int, Small m → ∀ i, i < 11 → 0 ≤ (cl m 9).getD i 0 ∧ (cl m 9).getD i 0 < 2 ^ 60 := by
  intro m hm
  have h : ∀ m ∈ [(1 : Int), 2, 3, 4], ∀ i ∈ List.range 11, 0 ≤ (cl m 9).getD i 0 ∧ (cl m 9).getD i 0 < 2 ^ 60 := by decide +kernel
  intro i hi
  refine h m ?_ i (List.mem_range.mpr hi)
  rcases hm with rfl | rfl | rfl | rfl <;> simp
theorem cl_b {m : Int} (hm : Small m) {k i : Nat} (hk : k ≤ 9) (hi : i < k + 2) : 0 ≤ (cl m k).getD i 0 ∧ (cl m k).getD i 0 < 2 ^ 60 := by
  have e := cl_get m (i := i) k (9 - k) hi
  rw [show k + (9 - k) = 9 by omega] at e
  rw [← e]
  exact cl_bound m hm i (by omega)
theorem atI_ints {xs : List Int} {i : Nat} (h : i < xs.length) : atI (xs.map D.int) (i : Int) = some (.int (xs.getD i 0)) := by
  refine atI_nat ?_
  rw [List.getElem?_map, List.getD_eq_getElem?_getD, List.getElem?_eq_getElem h]; rfl
def spCountsTo : DSp := fun ds O R _ => ∃ (ms : List D) (n : Nat), ds = [.lst ms, .int n] ∧ Small ms.length ∧ 1 ≤ n ∧ n ≤ 10 ∧ R (.lst ((cl ms.length (n - 1)).map .int)) O
def spMany : DSp := fun ds O R _ => ∃ (ms : List D) (n : Nat), ds = [.lst ms, .int n] ∧ Small ms.length ∧ 1 ≤ n ∧ n ≤ 10 ∧ R (.int ((cl ms.length 9).getD n 0)) O
def spCounts : DSp := fun ds O R _ => ∃ m : Int, ds = [.int m] ∧ Small m ∧ R (.lst ((cl m 9).map .int)) O
theorem sum_snoc (f : Nat → Int) (n : Nat) : ((List.range (n + 1)).map f).sum = ((List.range n).map f).sum + f n := by
  rw [List.range_succ, List.map_append, List.sum_append]; simp
/-- a text of small letters, by their places -/
def txt (ps : List Int) : Str := ⟨(ps.map fun n => 97 + n.toNat).toArray⟩
def sgn (n : Int) : Str := ⟨#[97 + n.toNat]⟩
def Lets (ps : List Int) : Prop := ∀ n ∈ ps, 0 ≤ n ∧ n < 26
def IsMk (t : Str) : Prop := ∃ ps, t = txt ps ∧ 1 ≤ ps.length ∧ ps.length ≤ 6 ∧ Lets ps
/-- marks that are drawn: one to four unlike ones -/
def MarkL (ts : List Str) : Prop := 1 ≤ ts.length ∧ ts.length ≤ 4 ∧ ts.Nodup ∧ ∀ t ∈ ts, IsMk t
theorem IsMk.ok {t : Str} (h : IsMk t) : PyData.strOk t = true := by
  obtain ⟨ps, rfl, _, _, h⟩ := h
  unfold PyData.strOk txt
  simp only [List.all_toArray, List.all_eq_true, List.mem_map, decide_eq_true_eq]
  rintro c ⟨n, hn, rfl⟩
  have := h n hn
  omega
theorem str_ext {a b : Str} (h : a.cps.toList = b.cps.toList) : a = b := by
  cases a; cases b
  simp only [Str.mk.injEq]
  exact Array.toList_inj.mp h
theorem join0 : ∀ ts : List Str, (Str.join "" ts).cps.toList = (ts.map (·.cps.toList)).flatten
  | [] => by decide +kernel
  | [t] => by simp [Str.join]
  | t :: u :: r => by
    have ih := join0 (u :: r)
    have e : (Str.join "" (t :: u :: r)) = t ++ "" ++ Str.join "" (u :: r) := rfl
    rw [e, List.map_cons, List.flatten_cons, ← ih]
    show (Array.append (Array.append t.cps (Str.ofString "").cps) (Str.join "" (u :: r)).cps).toList = _
    have e0 : (Str.ofString "").cps = #[] := by decide +kernel
    simp [e0]
theorem join_sgn (ps : List Int) : Str.join "" (ps.map sgn) = txt ps := by
  refine str_ext ?_
  rw [join0]
  induction ps with
  | nil => rfl
  | cons p r ih =>
    simp only [List.map_cons, List.flatten_cons] at ih ⊢
    rw [ih]; rfl
theorem txt_inj {ps qs : List Int} (hp : Lets ps) (hq : Lets qs) (h : txt ps = txt qs) : ps = qs := by
  have e : ps.map (fun n => 97 + n.toNat) = qs.map (fun n => 97 + n.toNat) := by
    have := congrArg (fun t : Str => t.cps.toList) h
    simpa [txt] using this
  clear h
  induction ps generalizing qs with
  | nil => cases qs with
    | nil => rfl
    | cons => simp at e
  | cons a r ih => cases qs with
    | nil => simp at e
    | cons b t =>
      simp only [List.map_cons, List.cons.injEq] at e
      have h1 := hp a List.mem_cons_self
      have h2 := hq b List.mem_cons_self
      rw [ih (fun n hn => hp n (List.mem_cons_of_mem _ hn)) (fun n hn => hq n (List.mem_cons_of_mem _ hn)) e.2, show a = b by omega]
abbrev abc : Str := "abcdefghijklmnopqrstuvwxyz"
theorem abc_l : abc.cps.toList = (List.range 26).map fun n => 97 + n := by decide +kernel
theorem abc_len : abc.length = 26 := by decide +kernel
theorem abc_at {n : Int} (h0 : 0 ≤ n) (h1 : n < 26) : atI abc.cps.toList n = some (97 + n.toNat) := by
  have e : n = ((n.toNat : Nat) : Int) := by omega
  have q : atI abc.cps.toList ((n.toNat : Nat) : Int) = some (97 + n.toNat) := by
    refine atI_nat ?_
    rw [abc_l, List.getElem?_map, List.getElem?_range (by omega)]; rfl
  rw [← e] at q
  exact q
def spMarks : DSp := fun ds O R _ => ∃ p : Addr, ds = [.ref p] ∧ O p = some .pool ∧ ∀ ts, MarkL ts → R (.lst (ts.map .str)) O
def spUnlike : DSp := fun ds O R _ => ∃ (p : Addr) (ts : List Str), ds = [.ref p, .lst (ts.map .str)] ∧ O p = some .pool ∧ MarkL ts ∧ ∀ us, us.Perm ts → MarkL us → R (.lst (us.map .str)) O
theorem isPys_strs {us : List Str} (h : ∀ t ∈ us, PyData.strOk t = true) : isPys (us.map D.str) = true := by
  rw [isPys_all, List.all_eq_true]
  intro d hd
  obtain ⟨t, ht, rfl⟩ := List.mem_map.mp hd
  simp only [isPy]; exact h t ht
theorem dp_strs (us : List Str) : dp (.lst (us.map D.str)) ≤ 1 := by
  rw [dpL]
  have : PyData.depthAll (toPys (us.map D.str)) ≤ 0 := dps_le fun d hd => by
    obtain ⟨t, _, rfl⟩ := List.mem_map.mp hd
    rw [dpS]; omega
  omega
theorem deqs_refl_strs : ∀ us : List Str, deqs (us.map D.str) (us.map D.str) = true
  | [] => deqs_nn
  | t :: us => by rw [List.map_cons, deqs_cc, deq_s, deqs_refl_strs us]; simp
theorem rEq_strs {us : List Str} (h : ∀ t ∈ us, PyData.strOk t = true) {neg : Bool} {O : Ow} {Q : VD} : rEqD neg (.lst (us.map .str)) (.lst (us.map .str)) O Q = Q (.bl (neg ^^ true)) O := by
  rw [rEq_d (by rw [deref_lst]; simpa only [isPy] using isPys_strs h) (by rw [deref_lst]; simpa only [isPy] using isPys_strs h) (by rw [deref_lst]; exact Nat.le_trans (dp_strs us) (by decide)), deref_lst, deq_l, deqs_refl_strs]
/-! ### the catalogue: all kinds of so many leaves, in order -/
def prs (xs ys : List Kd) : List Kd := (xs.flatMap fun a => ys.map (Kd.to a)) ++ (xs.flatMap fun a => ys.map (Kd.both a))
def nxK (ls : List (List Kd)) : List Kd := (List.range (ls.length - 1)).flatMap fun i => prs (ls.getD (i + 1) []) (ls.getD (ls.length - (i + 1)) [])
def al (ms : List Str) : Nat → List (List Kd)
  | 0 => [[], ms.map .mk ++ [.one]]
  | k + 1 => al ms k ++ [nxK (al ms k)]
theorem al_length (ms : List Str) : ∀ k, (al ms k).length = k + 2
  | 0 => rfl
  | k + 1 => by rw [al, List.length_append, al_length ms k]; rfl
theorem al_get (ms : List Str) {i : Nat} : ∀ (k j : Nat), i < k + 2 → (al ms (k + j)).getD i [] = (al ms k).getD i []
  | k, 0, _ => rfl
  | k, j + 1, h => by
    rw [← al_get ms k j h, ← Nat.add_assoc, al, List.getD_eq_getElem?_getD, List.getD_eq_getElem?_getD, List.getElem?_append_left (by rw [al_length]; omega)]
def A (ms : List Str) (n : Nat) : List Kd := (al ms 9).getD n []
theorem A_one (ms : List Str) : A ms 1 = ms.map .mk ++ [.one] := al_get ms (i := 1) 0 9 (by decide)
theorem A_at (ms : List Str) {n k : Nat} (h : n < k + 2) (hk : k ≤ 9) : (al ms k).getD n [] = A ms n := by
  have := al_get ms (i := n) k (9 - k) h
  rw [show k + (9 - k) = 9 by omega] at this
  exact this.symm
theorem A_eq (ms : List Str) {n : Nat} (h2 : 2 ≤ n) (h : n ≤ 10) : A ms n = (List.range (n - 1)).flatMap fun i => prs (A ms (i + 1)) (A ms (n - (i + 1))) := by
  obtain ⟨k, rfl⟩ : ∃ k, n = k + 2 := ⟨n - 2, by omega⟩
  have e : A ms (k + 2) = nxK (al ms k) := by
    rw [← A_at ms (n := k + 2) (k := k + 1) (by omega) (by omega), al, List.getD_eq_getElem?_getD, List.getElem?_append_right (by rw [al_length]; omega), al_length]
    simp
  rw [e, nxK, al_length]
  have q : ∀ i ∈ List.range (k + 2 - 1), (fun i => prs ((al ms k).getD (i + 1) []) ((al ms k).getD (k + 2 - (i + 1)) [])) i = prs (A ms (i + 1)) (A ms (k + 2 - (i + 1))) := by
    intro i hi
    have := List.mem_range.mp hi
    dsimp only
    rw [A_at ms (by omega) (by omega), A_at ms (by omega) (by omega)]
  rw [List.flatMap_def, List.flatMap_def, List.map_congr_left q]
def cnt (m : Int) (n : Nat) : Int := (cl m 9).getD n 0
theorem cnt_at (m : Int) {n k : Nat} (h : n < k + 2) (hk : k ≤ 9) : (cl m k).getD n 0 = cnt m n := by
  have := cl_get m (i := n) k (9 - k) h
  rw [show k + (9 - k) = 9 by omega] at this
  exact this.symm
theorem cnt_eq (m : Int) {n : Nat} (h2 : 2 ≤ n) (h : n ≤ 10) : cnt m n = 2 * ((List.range (n - 1)).map fun i => cnt m (i + 1) * cnt m (n - (i + 1))).sum := by
  obtain ⟨k, rfl⟩ : ∃ k, n = k + 2 := ⟨n - 2, by omega⟩
  have e : cnt m (k + 2) = nxt (cl m k) := by
    rw [← cnt_at m (n := k + 2) (k := k + 1) (by omega) (by omega), cl, List.getD_eq_getElem?_getD, List.getElem?_append_right (by rw [cl_length]; omega), cl_length]
    simp
  rw [e, nxt, cl_length]
  have q : ∀ i ∈ List.range (k + 2 - 1), (fun i => (cl m k).getD (i + 1) 0 * (cl m k).getD (k + 2 - (i + 1)) 0) i = cnt m (i + 1) * cnt m (k + 2 - (i + 1)) := by
    intro i hi
    have := List.mem_range.mp hi
    dsimp only
    rw [cnt_at m (by omega) (by omega), cnt_at m (by omega) (by omega)]
  rw [List.map_congr_left q]
theorem pair_len {g : Kd → Kd → Kd} (ys : List Kd) : ∀ xs : List Kd, (xs.flatMap fun a => ys.map (g a)).length = xs.length * ys.length
  | [] => by simp
  | x :: xs => by rw [List.flatMap_cons, List.length_append, pair_len ys xs, List.length_map, List.length_cons, Nat.succ_mul, Nat.add_comm]
theorem prs_len (xs ys : List Kd) : (prs xs ys).length = 2 * (xs.length * ys.length) := by rw [prs, List.length_append, pair_len, pair_len]; omega
def pre {α : Type} (f : Nat → List α) (i : Nat) : Nat := ((List.range i).map fun t => (f t).length).sum
theorem pre_s {α : Type} (f : Nat → List α) (i : Nat) : pre f (i + 1) = pre f i + (f i).length := by
  unfold pre; rw [List.range_succ, List.map_append, List.sum_append]; simp
theorem flat_len {α : Type} (f : Nat → List α) (n : Nat) : ((List.range n).flatMap f).length = pre f n := by rw [List.length_flatMap]; rfl
theorem flat_s {α : Type} (f : Nat → List α) (n : Nat) : (List.range (n + 1)).flatMap f = (List.range n).flatMap f ++ f n := by
  rw [List.range_succ, List.flatMap_append]; simp
theorem pre_mono {α : Type} (f : Nat → List α) {i : Nat} : ∀ {n : Nat}, i ≤ n → pre f i ≤ pre f n
  | 0, h => by rw [show i = 0 by omega]; exact Nat.le_refl _
  | n + 1, h => by
    rcases Nat.lt_or_ge i (n + 1) with h' | h'
    · have := pre_mono f (i := i) (n := n) (by omega); rw [pre_s]; omega
    · rw [show i = n + 1 by omega]; exact Nat.le_refl _
theorem flat_at {α : Type} (f : Nat → List α) {i r : Nat} (hr : r < (f i).length) : ∀ n, i < n → ((List.range n).flatMap f)[pre f i + r]? = (f i)[r]?
  | 0, h => by omega
  | n + 1, h => by
    rw [flat_s]
    rcases Nat.lt_or_ge i n with h' | h'
    · have := pre_mono f (i := i + 1) (n := n) (by omega)
      rw [pre_s] at this
      rw [List.getElem?_append_left (by rw [flat_len]; omega), flat_at f hr n h']
    · have : i = n := by omega
      subst this
      rw [List.getElem?_append_right (by rw [flat_len]; omega), flat_len, Nat.add_sub_cancel_left]
theorem flat_inv {α : Type} (f : Nat → List α) {j : Nat} {k : α} : ∀ n, ((List.range n).flatMap f)[j]? = some k → ∃ i r, i < n ∧ j = pre f i + r ∧ (f i)[r]? = some k
  | 0, h => by simp at h
  | n + 1, h => by
    rw [flat_s] at h
    rcases Nat.lt_or_ge j ((List.range n).flatMap f).length with h' | h'
    · rw [List.getElem?_append_left h'] at h
      obtain ⟨i, r, h1, h2, h3⟩ := flat_inv f n h
      exact ⟨i, r, by omega, h2, h3⟩
    · rw [List.getElem?_append_right h', flat_len] at h
      rw [flat_len] at h'
      exact ⟨n, j - pre f n, by omega, by omega, h⟩
theorem pair_at {g : Kd → Kd → Kd} {ys : List Kd} {b : Nat} {x y : Kd} (hy : ys[b]? = some y) : ∀ {xs : List Kd} {a : Nat}, xs[a]? = some x → (xs.flatMap fun u => ys.map (g u))[a * ys.length + b]? = some (g x y)
  | [], a, h => by simp at h
  | u :: xs, 0, h => by
    have e : u = x := by simpa using h
    subst e
    obtain ⟨hb, _⟩ := List.getElem?_eq_some_iff.mp hy
    rw [List.flatMap_cons, Nat.zero_mul, Nat.zero_add, List.getElem?_append_left (by rw [List.length_map]; exact hb), List.getElem?_map, hy]; rfl
  | u :: xs, a + 1, h => by
    rw [List.flatMap_cons, List.getElem?_append_right (by rw [List.length_map, Nat.succ_mul]; omega), List.length_map, show (a + 1) * ys.length + b - ys.length = a * ys.length + b by rw [Nat.succ_mul]; omega]
    exact pair_at hy (by simpa using h)
theorem pair_inv {g : Kd → Kd → Kd} {ys : List Kd} {k : Kd} : ∀ {xs : List Kd} {r : Nat}, (xs.flatMap fun u => ys.map (g u))[r]? = some k → ∃ a b x y, r = a * ys.length + b ∧ xs[a]? = some x ∧ ys[b]? = some y ∧ k = g x y
  | [], r, h => by simp at h
  | u :: xs, r, h => by
    rw [List.flatMap_cons] at h
    rcases Nat.lt_or_ge r (ys.map (g u)).length with h' | h'
    · rw [List.getElem?_append_left h', List.getElem?_map] at h
      obtain ⟨y, hy, rfl⟩ := Option.map_eq_some_iff.mp h
      exact ⟨0, r, u, y, by omega, rfl, hy, rfl⟩
    · rw [List.getElem?_append_right h'] at h
      obtain ⟨a, b, x, y, h1, h2, h3, h4⟩ := pair_inv h
      rw [List.length_map] at h1 h'
      exact ⟨a + 1, b, x, y, by rw [Nat.succ_mul]; omega, by simpa using h2, h3, h4⟩
theorem prs_at {xs ys : List Kd} {a b : Nat} {x y : Kd} (hx : xs[a]? = some x) (hy : ys[b]? = some y) : (prs xs ys)[a * ys.length + b]? = some (.to x y) ∧ (prs xs ys)[xs.length * ys.length + (a * ys.length + b)]? = some (.both x y) := by
  have h1 := pair_at (g := Kd.to) hy hx
  have h2 := pair_at (g := Kd.both) hy hx
  refine ⟨?_, ?_⟩
  · obtain ⟨hb, _⟩ := List.getElem?_eq_some_iff.mp h1
    rw [prs, List.getElem?_append_left hb, h1]
  · rw [prs, List.getElem?_append_right (by rw [pair_len]; omega), pair_len, Nat.add_sub_cancel_left, h2]
theorem prs_inv {xs ys : List Kd} {r : Nat} {k : Kd} (h : (prs xs ys)[r]? = some k) : ∃ a b x y, xs[a]? = some x ∧ ys[b]? = some y ∧ ((r = a * ys.length + b ∧ k = .to x y) ∨ (r = xs.length * ys.length + (a * ys.length + b) ∧ k = .both x y)) := by
  rw [prs] at h
  rcases Nat.lt_or_ge r (xs.flatMap fun a => ys.map (Kd.to a)).length with h' | h'
  · rw [List.getElem?_append_left h'] at h
    obtain ⟨a, b, x, y, h1, h2, h3, h4⟩ := pair_inv h
    exact ⟨a, b, x, y, h2, h3, .inl ⟨h1, h4⟩⟩
  · rw [List.getElem?_append_right h', pair_len] at h
    rw [pair_len] at h'
    obtain ⟨a, b, x, y, h1, h2, h3, h4⟩ := pair_inv h
    exact ⟨a, b, x, y, h2, h3, .inr ⟨by omega, h4⟩⟩
/-- how the number of a kind of two parts is taken apart -/
theorem prs_split {xs ys : List Kd} {r : Nat} {k : Kd} (h : (prs xs ys)[r]? = some k) : ∃ x y, xs[r % (xs.length * ys.length) / ys.length]? = some x ∧ ys[r % (xs.length * ys.length) % ys.length]? = some y ∧
    ((r / (xs.length * ys.length) = 0 ∧ k = .to x y) ∨ (r / (xs.length * ys.length) = 1 ∧ k = .both x y)) := by
  obtain ⟨a, b, x, y, hx, hy, h⟩ := prs_inv h
  obtain ⟨hb, _⟩ := List.getElem?_eq_some_iff.mp hy
  obtain ⟨ha, _⟩ := List.getElem?_eq_some_iff.mp hx
  have hlt : a * ys.length + b < xs.length * ys.length := by
    have : (a + 1) * ys.length ≤ xs.length * ys.length := Nat.mul_le_mul_right _ ha
    rw [Nat.succ_mul] at this
    omega
  have e1 : (a * ys.length + b) / ys.length = a := by rw [Nat.add_comm, Nat.mul_comm, Nat.add_mul_div_left _ _ (by omega), Nat.div_eq_of_lt hb, Nat.zero_add]
  have e2 : (a * ys.length + b) % ys.length = b := by rw [Nat.add_comm, Nat.mul_comm, Nat.add_mul_mod_self_left, Nat.mod_eq_of_lt hb]
  refine ⟨x, y, ?_⟩
  rcases h with ⟨rfl, rfl⟩ | ⟨rfl, rfl⟩
  · rw [Nat.mod_eq_of_lt hlt, e1, e2, Nat.div_eq_of_lt hlt]
    exact ⟨hx, hy, .inl ⟨rfl, rfl⟩⟩
  · rw [Nat.add_mod_left, Nat.mod_eq_of_lt hlt, e1, e2, Nat.add_div_left _ (by omega), Nat.div_eq_of_lt hlt]
    exact ⟨hx, hy, .inr ⟨rfl, rfl⟩⟩
abbrev blkF (ms : List Str) (n : Nat) : Nat → List Kd := fun i => prs (A ms (i + 1)) (A ms (n - (i + 1)))
theorem sum_cast (f : Nat → Nat) (g : Nat → Int) : ∀ n, (∀ i, i < n → g i = (f i : Int)) → ((List.range n).map g).sum = (((List.range n).map f).sum : Nat)
  | 0, _ => rfl
  | n + 1, h => by
    rw [List.range_succ, List.map_append, List.map_append, List.sum_append, List.sum_append, sum_cast f g n fun i hi => h i (by omega)]
    simp [h n (by omega)]
theorem A_len (ms : List Str) : ∀ n, n ≤ 10 → cnt ms.length n = ((A ms n).length : Int) := by
  intro n
  induction n using Nat.strongRecOn with
  | _ n ih =>
    intro h
    match n, ih, h with
    | 0, _, _ =>
      rw [← cnt_at ms.length (n := 0) (k := 0) (by decide) (by decide), ← A_at ms (n := 0) (k := 0) (by decide) (by decide)]; rfl
    | 1, _, _ =>
      rw [← cnt_at ms.length (n := 1) (k := 0) (by decide) (by decide), A_one]; simp [cl]
    | k + 2, ih, h =>
      rw [cnt_eq _ (by omega) h, A_eq ms (by omega) h, flat_len, pre, sum_cast (fun i => (A ms (i + 1)).length * (A ms (k + 2 - (i + 1))).length)]
      · have e : ∀ l : List Nat, 2 * (l.map fun i => (A ms (i + 1)).length * (A ms (k + 2 - (i + 1))).length).sum = (l.map fun t => (blkF ms (k + 2) t).length).sum := by
          intro l
          induction l with
          | nil => rfl
          | cons x l il => rw [List.map_cons, List.map_cons, List.sum_cons, List.sum_cons, Nat.mul_add, il, blkF, prs_len]
        have := e (List.range (k + 2 - 1))
        unfold blkF at this
        rw [← this]
        omega
      · intro i hi
        rw [ih (i + 1) (by omega) (by omega), ih (k + 2 - (i + 1)) (by omega) (by omega)]
        simp
/-! the number of a kind -/
def Kd.over (ms : List Str) : Kd → Prop
  | .mk m => m ∈ ms
  | .one => True
  | .to a b => a.over ms ∧ b.over ms
  | .both a b => a.over ms ∧ b.over ms
def place (ms : List Str) : Kd → Nat
  | .mk m => ms.idxOf m
  | .one => ms.length
  | .to a b => pre (blkF ms (a.leaves + b.leaves)) (a.leaves - 1) + place ms a * (A ms b.leaves).length + place ms b
  | .both a b => pre (blkF ms (a.leaves + b.leaves)) (a.leaves - 1) + (A ms a.leaves).length * (A ms b.leaves).length + place ms a * (A ms b.leaves).length + place ms b
theorem leaves_pos : ∀ k : Kd, 1 ≤ k.leaves
  | .mk _ => by simp [Kd.leaves]
  | .one => by simp [Kd.leaves]
  | .to a b => by have := leaves_pos a; simp only [Kd.leaves]; omega
  | .both a b => by have := leaves_pos a; simp only [Kd.leaves]; omega
theorem place_get {ms : List Str} : ∀ k : Kd, k.leaves ≤ 10 → k.over ms → (A ms k.leaves)[place ms k]? = some k
  | .mk m, _, h => by
    simp only [Kd.leaves, place, Kd.over] at *
    have hi := List.idxOf_lt_length_of_mem h
    rw [A_one, List.getElem?_append_left (by rw [List.length_map]; exact hi), List.getElem?_map, List.getElem?_eq_getElem hi]
    simp
  | .one, _, _ => by
    simp only [Kd.leaves, place]
    rw [A_one, List.getElem?_append_right (by simp)]
    simp
  | .to a b, h, ho => by
    simp only [Kd.leaves, place, Kd.over] at *
    have p1 := leaves_pos a
    have p2 := leaves_pos b
    have h1 := place_get a (by omega) ho.1
    have h2 := place_get b (by omega) ho.2
    have e : blkF ms (a.leaves + b.leaves) (a.leaves - 1) = prs (A ms a.leaves) (A ms b.leaves) := by
      unfold blkF; rw [show a.leaves - 1 + 1 = a.leaves by omega, show a.leaves + b.leaves - a.leaves = b.leaves by omega]
    have h3 := (prs_at h1 h2).1
    rw [← e] at h3
    obtain ⟨hr, _⟩ := List.getElem?_eq_some_iff.mp h3
    rw [A_eq ms (by omega) h, Nat.add_assoc]
    exact (flat_at (blkF ms (a.leaves + b.leaves)) hr _ (by omega)).trans h3
  | .both a b, h, ho => by
    simp only [Kd.leaves, place, Kd.over] at *
    have p1 := leaves_pos a
    have p2 := leaves_pos b
    have h1 := place_get a (by omega) ho.1
    have h2 := place_get b (by omega) ho.2
    have e : blkF ms (a.leaves + b.leaves) (a.leaves - 1) = prs (A ms a.leaves) (A ms b.leaves) := by
      unfold blkF; rw [show a.leaves - 1 + 1 = a.leaves by omega, show a.leaves + b.leaves - a.leaves = b.leaves by omega]
    have h3 := (prs_at h1 h2).2
    rw [← e] at h3
    obtain ⟨hr, _⟩ := List.getElem?_eq_some_iff.mp h3
    rw [A_eq ms (by omega) h, Nat.add_assoc, Nat.add_assoc]
    exact (flat_at (blkF ms (a.leaves + b.leaves)) hr _ (by omega)).trans h3
theorem get_place {ms : List Str} (hn : ms.Nodup) : ∀ n, 1 ≤ n → n ≤ 10 → ∀ j k, (A ms n)[j]? = some k → k.leaves = n ∧ k.over ms ∧ place ms k = j := by
  intro n
  induction n using Nat.strongRecOn with
  | _ n ih =>
    intro h1 h10 j k hk
    by_cases e1 : n = 1
    · subst e1
      rw [A_one] at hk
      rcases Nat.lt_or_ge j (ms.map Kd.mk).length with h' | h'
      · rw [List.getElem?_append_left h', List.getElem?_map] at hk
        obtain ⟨m, hm, rfl⟩ := Option.map_eq_some_iff.mp hk
        obtain ⟨hj, e⟩ := List.getElem?_eq_some_iff.mp hm
        refine ⟨rfl, ?_, ?_⟩
        · rw [← e]; exact List.getElem_mem hj
        · rw [place, ← e]; exact hn.idxOf_getElem j hj
      · rw [List.getElem?_append_right h'] at hk
        rw [List.length_map] at h' hk
        obtain ⟨hj, e⟩ := List.getElem?_eq_some_iff.mp hk
        simp at hj
        have : j = ms.length := by omega
        subst this
        simp at e
        subst e
        exact ⟨rfl, trivial, rfl⟩
    · rw [A_eq ms (by omega) h10] at hk
      obtain ⟨i, r, hi, rfl, hr⟩ := flat_inv (blkF ms n) _ hk
      obtain ⟨a, b, x, y, hx, hy, h⟩ := prs_inv hr
      obtain ⟨l1, o1, q1⟩ := ih (i + 1) (by omega) (by omega) (by omega) _ _ hx
      obtain ⟨l2, o2, q2⟩ := ih (n - (i + 1)) (by omega) (by omega) (by omega) _ _ hy
      have e : x.leaves + y.leaves = n := by omega
      rcases h with ⟨rfl, rfl⟩ | ⟨rfl, rfl⟩
      · refine ⟨by simp only [Kd.leaves]; exact e, ⟨o1, o2⟩, ?_⟩
        rw [place, e, l1, l2, q1, q2, Nat.add_sub_cancel]; omega
      · refine ⟨by simp only [Kd.leaves]; exact e, ⟨o1, o2⟩, ?_⟩
        rw [place, e, l1, l2, q1, q2, Nat.add_sub_cancel]; omega
/-! ### what the catalogue's defs are asked and answer -/
theorem cnt_prod : ∀ m ∈ [(1 : Int), 2, 3, 4], ∀ i ∈ List.range 10, ∀ j ∈ List.range 10, i + 1 + (j + 1) ≤ 10 → 0 < cnt m (i + 1) * cnt m (j + 1) ∧ 2 * (cnt m (i + 1) * cnt m (j + 1)) < 1152921504606846976 := by decide +kernel
theorem cnt_pos : ∀ m ∈ [(1 : Int), 2, 3, 4], ∀ i ∈ List.range 10, 0 < cnt m (i + 1) ∧ cnt m (i + 1) < 1152921504606846976 := by decide +kernel
theorem Small.mem {m : Int} (h : Small m) : m ∈ [(1 : Int), 2, 3, 4] := by rcases h with rfl | rfl | rfl | rfl <;> simp
theorem A_pos {ms : List Str} (h : Small ms.length) {i : Nat} (h1 : 1 ≤ i) (h2 : i ≤ 10) : 0 < (A ms i).length ∧ (A ms i).length < 1152921504606846976 := by
  have := cnt_pos _ h.mem (i - 1) (List.mem_range.mpr (by omega))
  rw [show i - 1 + 1 = i by omega, A_len ms i h2] at this
  omega
theorem A_prod {ms : List Str} (h : Small ms.length) {i j : Nat} (h1 : 1 ≤ i) (h2 : 1 ≤ j) (h3 : i + j ≤ 10) : 0 < (A ms i).length * (A ms j).length ∧ 2 * ((A ms i).length * (A ms j).length) < 1152921504606846976 := by
  have := cnt_prod _ h.mem (i - 1) (List.mem_range.mpr (by omega)) (j - 1) (List.mem_range.mpr (by omega)) (by omega)
  rw [show i - 1 + 1 = i by omega, show j - 1 + 1 = j by omega, A_len ms i (by omega), A_len ms j (by omega)] at this
  omega
def cnts (ms : List Str) (N : Nat) : List D := (cl ms.length (N - 1)).map .int
theorem cnts_at {ms : List Str} {N i : Nat} (h1 : 1 ≤ N) (h2 : N ≤ 10) (h : i ≤ N) : atI (cnts ms N) (i : Int) = some (.int (A ms i).length) := by
  have e := atI_ints (xs := cl ms.length (N - 1)) (i := i) (by rw [cl_length]; omega)
  rw [cnt_at _ (by omega) (by omega), A_len ms i (by omega)] at e
  exact e
theorem rIx_cnts {ms : List Str} {N i : Nat} {O : Ow} {Q : VD} (h1 : 1 ≤ N) (h2 : N ≤ 10) (h : i ≤ N) : rIxD (.lst (cnts ms N)) (.int i) O Q = Q (.int (A ms i).length) O := rIx_l (cnts_at h1 h2 h)
def dMs (ms : List Str) : D := .lst (ms.map .str)
def MsOk (ms : List Str) : Prop := Small ms.length ∧ ms.Nodup ∧ ∀ t ∈ ms, PyData.strOk t = true
theorem MarkL.msOk {ms : List Str} (h : MarkL ms) : MsOk ms := ⟨by have h1 := h.1; have h2 := h.2.1; unfold Small; omega, h.2.2.1, fun t ht => (h.2.2.2 t ht).ok⟩
def spKindBy (n : Nat) : DSp := fun ds O R _ => ∃ (ms : List Str) (l j N : Nat) (k : Kd), ds = [.lst (ms.map .str), .int l, .int j, .lst (cnts ms N)] ∧ MsOk ms ∧ 1 ≤ l ∧ l ≤ n ∧ l ≤ N ∧ N ≤ 10 ∧ (A ms l)[j]? = some k ∧ R (dK k) O
def spKindAt : DSp := fun ds O R _ => ∃ (ms : List Str) (l j : Nat) (k : Kd), ds = [.lst (ms.map .str), .int l, .int j] ∧ MsOk ms ∧ 1 ≤ l ∧ l ≤ 10 ∧ (A ms l)[j]? = some k ∧ R (dK k) O
def spPlace (n : Nat) : DSp := fun ds O R _ => ∃ (ms : List Str) (N : Nat) (k : Kd), ds = [.lst (ms.map .str), dK k, .lst (cnts ms N)] ∧ MsOk ms ∧ k.depth < n ∧ k.leaves ≤ N ∧ N ≤ 10 ∧ k.over ms ∧ R (.int (place ms k)) O
def spNumber : DSp := fun ds O R _ => ∃ (ms : List Str) (k : Kd), ds = [.lst (ms.map .str), dK k] ∧ MsOk ms ∧ k.leaves ≤ 10 ∧ k.over ms ∧ R (.tup [.int k.leaves, .int (place ms k)]) O
def spLeaves (n : Nat) : DSp := fun ds O R _ => ∃ k : Kd, ds = [dK k] ∧ k.depth < n ∧ R (.int k.leaves) O
theorem over_ok {ms : List Str} (h : ∀ t ∈ ms, PyData.strOk t = true) : ∀ k : Kd, k.over ms → k.ok = true
  | .mk m, ho => h m ho
  | .one, _ => rfl
  | .to a b, ho => by simp [Kd.ok, over_ok h a ho.1, over_ok h b ho.2]
  | .both a b, ho => by simp [Kd.ok, over_ok h a ho.1, over_ok h b ho.2]
/-- the leaves in order, as the code writes them -/
theorem lf_map {ms : List Str} : (ms.map fun m => D.tup [.str "mark", .str m]) ++ [D.tup [.str "one"]] = (A ms 1).map dK := by
  rw [A_one, List.map_append, List.map_map]; rfl
theorem atI_A {ms : List Str} {l j : Nat} {k : Kd} (h : (A ms l)[j]? = some k) : atI ((A ms l).map dK) (j : Int) = some (dK k) := by
  refine atI_nat ?_
  rw [List.getElem?_map, h]; rfl
theorem dK_any {ls : List Kd} {k : Kd} : (ls.map dK).any (fun z => PyData.eqv (toPy z) (toPy (dK k))) = decide (k ∈ ls) := by
  induction ls with
  | nil => simp
  | cons a ls ih =>
    rw [List.map_cons, List.any_cons, ih]
    have e : PyData.eqv (toPy (dK a)) (toPy (dK k)) = decide (a = k) := deq_K a k
    rw [e]
    by_cases h : a = k
    · subst h; simp
    · simp [h, Ne.symm h, eq_comm]
theorem isPys_K {ls : List Kd} (h : ∀ k ∈ ls, k.ok = true) : isPys (ls.map dK) = true := by
  rw [isPys_all, List.all_eq_true]
  intro d hd
  obtain ⟨k, hk, rfl⟩ := List.mem_map.mp hd
  rw [isPy_dK]; exact h k hk
theorem dp_K {ls : List Kd} {n : Nat} (h : ∀ k ∈ ls, k.depth ≤ n) : dp (.lst (ls.map dK)) ≤ n + 2 := by
  rw [dpL]
  have : PyData.depthAll (toPys (ls.map dK)) ≤ n + 1 := dps_le fun d hd => by
    obtain ⟨k, hk, rfl⟩ := List.mem_map.mp hd
    have := h k hk
    rw [dp_dK]; omega
  omega
theorem find_K {ls : List Kd} {k : Kd} (hk : k ∈ ls) : (ls.map dK).findIdx? (fun z => deq z (dK k)) = some (ls.idxOf k) := by
  have hi := List.idxOf_lt_length_of_mem hk
  refine List.findIdx?_eq_some_iff_getElem.mpr ⟨by rw [List.length_map]; exact hi, ?_, fun j hj => ?_⟩
  · rw [List.getElem_map, deq_K]; simp
  · rw [List.getElem_map, deq_K]
    have := List.not_of_lt_findIdx (p := (· == k)) (xs := ls) hj
    simpa using this
theorem mem_A1 {ms : List Str} {k : Kd} (h1 : k.leaves = 1) (ho : k.over ms) : k ∈ A ms 1 := by
  have := place_get k (by omega) ho
  rw [h1] at this
  exact List.mem_of_getElem? this
theorem idx_A1 {ms : List Str} (hn : ms.Nodup) {k : Kd} (h1 : k.leaves = 1) (ho : k.over ms) : (A ms 1).idxOf k = place ms k := by
  have hk := mem_A1 h1 ho
  have hi := List.idxOf_lt_length_of_mem hk
  have e : (A ms 1)[(A ms 1).idxOf k]? = some k := by rw [List.getElem?_eq_getElem hi]; simp
  exact ((get_place hn 1 (by decide) (by decide) _ _ e).2.2).symm
theorem A1_leaf {ms : List Str} (hn : ms.Nodup) {k : Kd} (h : k ∈ A ms 1) : k.leaves = 1 ∧ k.over ms ∧ k.depth = 0 := by
  obtain ⟨j, hj⟩ := List.getElem?_of_mem h
  obtain ⟨h1, h2, _⟩ := get_place hn 1 (by decide) (by decide) _ _ hj
  exact ⟨h1, h2, by have := k.depth_lt; omega⟩
theorem rIn_K {neg : Bool} {ls : List Kd} {k : Kd} {O : Ow} {Q : VD} (h : k.ok = true) (hl : ∀ u ∈ ls, u.ok = true) (hd : k.depth < 190) : rInD neg (dK k) (.lst (ls.map dK)) O Q = Q (.bl (neg ^^ decide (k ∈ ls))) O := by
  simp only [rInD, deref_lst, deref_dK, isPy_dK, h, isPys_K hl, dK_any, true_and, dp_dK]
  rw [eq_iff_iff]
  exact ⟨fun h => h.2, fun h => ⟨by omega, h⟩⟩
/-! ### the words of kinds -/
theorem sd_om : decide (Str.ofString "one" = Str.ofString "mark") = false := by decide +kernel
theorem sd_ot : decide (Str.ofString "one" = Str.ofString "to") = false := by decide +kernel
theorem sd_ob : decide (Str.ofString "one" = Str.ofString "both") = false := by decide +kernel
theorem sd_mo : decide (Str.ofString "mark" = Str.ofString "one") = false := by decide +kernel
theorem sd_mt : decide (Str.ofString "mark" = Str.ofString "to") = false := by decide +kernel
theorem sd_mb : decide (Str.ofString "mark" = Str.ofString "both") = false := by decide +kernel
theorem sd_to : decide (Str.ofString "to" = Str.ofString "one") = false := by decide +kernel
theorem sd_tm : decide (Str.ofString "to" = Str.ofString "mark") = false := by decide +kernel
theorem sd_bo : decide (Str.ofString "both" = Str.ofString "one") = false := by decide +kernel
theorem sd_bm : decide (Str.ofString "both" = Str.ofString "mark") = false := by decide +kernel
theorem rIn_tb {z : Str} {O : Ow} {Q : VD} {neg : Bool} (hz : PyData.strOk z = true) : rInD neg (.str z) (.tup [.str "to", .str "both"]) O Q = Q (.bl (neg ^^ (decide (Str.ofString "to" = z) || decide (Str.ofString "both" = z)))) O := by
  have h1 : isPys [D.str "to", .str "both"] = true := by simp [isPys, isPy, so_to, so_both]
  have e1 : PyData.eqv (toPy (.str "to")) (toPy (.str z)) = decide (Str.ofString "to" = z) := deq_s
  have e2 : PyData.eqv (toPy (.str "both")) (toPy (.str z)) = decide (Str.ofString "both" = z) := deq_s
  simp only [rInD, deref, isPy, hz, h1, dpS, true_and, Nat.zero_le, List.any_cons, List.any_nil, e1, e2, Bool.or_false]
theorem any_strs (z : Str) : ∀ ts : List Str, (ts.map D.str).any (fun d => deq d (.str z)) = decide (z ∈ ts)
  | [] => by simp
  | t :: ts => by
    rw [List.map_cons, List.any_cons, any_strs z ts, deq_s]
    by_cases h : t = z
    · subst h; simp
    · have h' : ¬ z = t := fun q => h q.symm
      simp [h, h']
theorem rIn_strs {z : Str} {ts : List Str} {O : Ow} {Q : VD} {neg : Bool} (hz : PyData.strOk z = true) (h : ∀ t ∈ ts, PyData.strOk t = true) : rInD neg (.str z) (.lst (ts.map .str)) O Q = Q (.bl (neg ^^ decide (z ∈ ts))) O := by
  have e := any_strs z ts
  simp only [deq] at e
  simp only [rInD, deref, isPy, hz, isPys_strs h, dpS, true_and, e, Nat.zero_le]
def Kd.marks : Kd → List Str
  | .mk m => [m]
  | .one => []
  | .to a b => a.marks ++ b.marks
  | .both a b => a.marks ++ b.marks
theorem marks_len : ∀ k : Kd, k.marks.length ≤ k.leaves
  | .mk _ => by simp [Kd.marks, Kd.leaves]
  | .one => by simp [Kd.marks, Kd.leaves]
  | .to a b => by have := marks_len a; have := marks_len b; simp only [Kd.marks, Kd.leaves, List.length_append]; omega
  | .both a b => by have := marks_len a; have := marks_len b; simp only [Kd.marks, Kd.leaves, List.length_append]; omega
theorem over_iff {ms : List Str} : ∀ k : Kd, k.over ms ↔ ∀ m ∈ k.marks, m ∈ ms
  | .mk m => by simp [Kd.over, Kd.marks]
  | .one => by simp [Kd.over, Kd.marks]
  | .to a b => by
    simp only [Kd.over, Kd.marks, over_iff a, over_iff b, List.mem_append]
    exact ⟨fun ⟨h1, h2⟩ m hm => hm.elim (h1 m) (h2 m), fun h => ⟨fun m hm => h m (.inl hm), fun m hm => h m (.inr hm)⟩⟩
  | .both a b => by
    simp only [Kd.over, Kd.marks, over_iff a, over_iff b, List.mem_append]
    exact ⟨fun ⟨h1, h2⟩ m hm => hm.elim (h1 m) (h2 m), fun h => ⟨fun m hm => h m (.inl hm), fun m hm => h m (.inr hm)⟩⟩
def spMarksIn (n : Nat) : DSp := fun ds O R _ => ∃ k : Kd, ds = [dK k] ∧ k.depth < n ∧ k.leaves ≤ 1000 ∧ R (.lst (k.marks.map .str)) O
def spIsKind (n : Nat) : DSp := fun ds O R _ => ∃ k : Kd, ds = [dK k] ∧ k.depth < n ∧ k.ok = true ∧ R (.bl true) O
theorem rEq_i2t {neg : Bool} {a b c d : Int} {O : Ow} {Q : VD} : rEqD neg (.tup [.int a, .int b]) (.tup [.int c, .int d]) O Q = Q (.bl (neg ^^ (decide (a = c) && decide (b = d)))) O := by
  rw [rEq_d (by simp [deref, isPy, isPys]) (by simp [deref, isPy, isPys]) (by simp [deref, dpT, dpC, dpN, dpI])]
  simp [deref, deq_t, deqs_cc, deqs_nn, deq_i, deq_b]
theorem mem_enumD {xs : List D} {d : D} (h : d ∈ enumD xs) : ∃ (j : Nat) (x : D), xs[j]? = some x ∧ d = .tup [.int j, x] := by
  obtain ⟨j, hj⟩ := List.getElem?_of_mem h
  rw [enumD_get] at hj
  obtain ⟨x, hx, rfl⟩ := Option.map_eq_some_iff.mp hj
  exact ⟨j, x, hx, rfl⟩
end Kf
namespace Kf
open PySem PySem.Spec L2
open PyProof.Rows hiding St
/-! ### trees of worlds -/
inductive Tr where
  | nd (ms : List Str) (ts : List Tr)
mutual
def dT : Tr → D
  | .nd ms ts => .tup [.lst (ms.map .str), .lst (dTs ts)]
def dTs : List Tr → List D
  | [] => []
  | t :: ts => dT t :: dTs ts
end
theorem dTs_map : ∀ ts : List Tr, dTs ts = ts.map dT
  | [] => rfl
  | t :: ts => by rw [dTs, dTs_map ts, List.map_cons]
def Tr.ms : Tr → List Str
  | .nd ms _ => ms
mutual
def subs : Tr → List Tr
  | .nd ms ts => .nd ms ts :: subss ts
def subss : List Tr → List Tr
  | [] => []
  | t :: ts => subs t ++ subss ts
end
mutual
def Tr.dep : Tr → Nat
  | .nd _ ts => deps ts + 1
def deps : List Tr → Nat
  | [] => 0
  | t :: ts => max t.dep (deps ts)
end
theorem dep_le {t : Tr} : ∀ {ts : List Tr}, t ∈ ts → t.dep ≤ deps ts
  | u :: us, h => by
    rw [deps]
    rcases List.mem_cons.mp h with rfl | h
    · omega
    · have := dep_le h; omega
/-! what put_worlds writes: marks, and the place behind the last one above -/
mutual
def ws : Tr → Nat → List (List Str × Nat)
  | .nd ms ts, n => (ms, n + (subs (.nd ms ts)).length) :: wss ts (n + 1)
def wss : List Tr → Nat → List (List Str × Nat)
  | [], _ => []
  | t :: ts, n => ws t n ++ wss ts (n + (subs t).length)
end
mutual
theorem ws_len : ∀ (t : Tr) (n : Nat), (ws t n).length = (subs t).length
  | .nd ms ts, n => by rw [ws, subs, List.length_cons, List.length_cons, wss_len]
theorem wss_len : ∀ (ts : List Tr) (n : Nat), (wss ts n).length = (subss ts).length
  | [], n => by rw [wss, subss]; rfl
  | t :: ts, n => by rw [wss, subss, List.length_append, List.length_append, ws_len, wss_len]
end
mutual
theorem ws_get : ∀ (t : Tr) (n i : Nat), (ws t n)[i]? = (subs t)[i]?.map fun s => (s.ms, n + i + (subs s).length)
  | .nd ms ts, n, i => by
    rw [ws, subs]
    cases i with
    | zero => simp [Tr.ms, subs]
    | succ i =>
      rw [List.getElem?_cons_succ, List.getElem?_cons_succ, wss_get ts (n + 1) i]
      have e : n + 1 + i = n + (i + 1) := by omega
      rw [e]
theorem wss_get : ∀ (ts : List Tr) (n i : Nat), (wss ts n)[i]? = (subss ts)[i]?.map fun s => (s.ms, n + i + (subs s).length)
  | [], n, i => by rw [wss, subss]; rfl
  | t :: ts, n, i => by
    rw [wss, subss]
    by_cases h : i < (subs t).length
    · rw [List.getElem?_append_left (by rw [ws_len]; exact h), List.getElem?_append_left h, ws_get t n i]
    · rw [List.getElem?_append_right (by rw [ws_len]; omega), List.getElem?_append_right (by omega), wss_get ts _ _, ws_len]
      have e : n + (subs t).length + (i - (subs t).length) = n + i := by omega
      rw [e]
end
theorem take_app {α : Type} {a b : List α} {k i : Nat} {c : List α} (hi : i ≤ a.length) (h : (a.drop i).take k = c) (hc : c.length = k) : ((a ++ b).drop i).take k = c := by
  rw [List.drop_append_of_le_length hi]
  have : k ≤ (a.drop i).length := by
    have := congrArg List.length h
    rw [List.length_take, hc] at this
    omega
  rw [List.take_append_of_le_length this, h]
mutual
theorem subs_at : ∀ (t s : Tr) (i : Nat), (subs t)[i]? = some s → ((subs t).drop i).take (subs s).length = subs s
  | .nd ms ts, s, i, h => by
    cases i with
    | zero =>
      rw [subs] at h
      cases h
      rw [List.drop_zero, List.take_length]
    | succ i =>
      rw [subs] at h ⊢
      rw [List.getElem?_cons_succ] at h
      rw [List.drop_succ_cons]
      exact subss_at ts s i h
theorem subss_at : ∀ (ts : List Tr) (s : Tr) (i : Nat), (subss ts)[i]? = some s → ((subss ts).drop i).take (subs s).length = subs s
  | [], s, i, h => by rw [subss] at h; cases h
  | t :: ts, s, i, h => by
    rw [subss] at h ⊢
    by_cases c : i < (subs t).length
    · rw [List.getElem?_append_left c] at h
      exact take_app (by omega) (subs_at t s i h) rfl
    · rw [List.getElem?_append_right (by omega)] at h
      rw [List.drop_append, List.drop_eq_nil_of_le (by omega), List.nil_append]
      exact subss_at ts s _ h
end
/-! ### what holds -/
def forces : Kd → Tr → Bool
  | .mk m, t => decide (m ∈ t.ms)
  | .one, _ => true
  | .both a b, t => forces a t && forces b t
  | .to a b, t => (subs t).all fun s => !forces a s || forces b s
theorem subs_self (t : Tr) : t ∈ subs t := by cases t; rw [subs]; exact List.mem_cons_self
mutual
theorem subs_trans : ∀ (t s u : Tr), s ∈ subs t → u ∈ subs s → u ∈ subs t
  | .nd ms ts, s, u, h, k => by
    rw [subs] at h
    rcases List.mem_cons.mp h with rfl | h
    · exact k
    · rw [subs]; exact List.mem_cons_of_mem _ (subss_trans ts s u h k)
theorem subss_trans : ∀ (ts : List Tr) (s u : Tr), s ∈ subss ts → u ∈ subs s → u ∈ subss ts
  | [], s, u, h, k => by rw [subss] at h; cases h
  | t :: ts, s, u, h, k => by
    rw [subss] at h ⊢
    rcases List.mem_append.mp h with h | h
    · exact List.mem_append_left _ (subs_trans t s u h k)
    · exact List.mem_append_right _ (subss_trans ts s u h k)
end
mutual
def MonoT : Tr → Prop
  | .nd ms ts => MonoTs ms ts
def MonoTs : List Str → List Tr → Prop
  | _, [] => True
  | ms, t :: ts => (∀ m ∈ ms, m ∈ t.ms) ∧ MonoT t ∧ MonoTs ms ts
end
theorem monoTs_of {ms : List Str} : ∀ {ts : List Tr}, (∀ t ∈ ts, (∀ m ∈ ms, m ∈ t.ms) ∧ MonoT t) → MonoTs ms ts
  | [], _ => by rw [MonoTs]; trivial
  | t :: ts, h => by
    rw [MonoTs]
    exact ⟨(h t List.mem_cons_self).1, (h t List.mem_cons_self).2, monoTs_of fun u hu => h u (List.mem_cons_of_mem _ hu)⟩
mutual
theorem mono_sub : ∀ (t s : Tr), MonoT t → s ∈ subs t → MonoT s ∧ ∀ m ∈ t.ms, m ∈ s.ms
  | .nd ms ts, s, h, k => by
    rw [subs] at k
    rcases List.mem_cons.mp k with rfl | k
    · exact ⟨h, fun m hm => hm⟩
    · rw [MonoT] at h
      exact mono_subs ms ts s h k
theorem mono_subs : ∀ (ms : List Str) (ts : List Tr) (s : Tr), MonoTs ms ts → s ∈ subss ts → MonoT s ∧ ∀ m ∈ ms, m ∈ s.ms
  | ms, [], s, h, k => by rw [subss] at k; cases k
  | ms, t :: ts, s, h, k => by
    rw [MonoTs] at h
    rw [subss] at k
    rcases List.mem_append.mp k with k | k
    · obtain ⟨h1, h2⟩ := mono_sub t s h.2.1 k
      exact ⟨h1, fun m hm => h2 m (h.1 m hm)⟩
    · exact mono_subs ms ts s h.2.2 k
end
theorem forces_mono : ∀ (k : Kd) (t s : Tr), MonoT t → forces k t = true → s ∈ subs t → forces k s = true
  | .mk m, t, s, h, f, hs => by
    simp only [forces, decide_eq_true_eq] at f ⊢
    exact (mono_sub t s h hs).2 m f
  | .one, t, s, h, f, hs => rfl
  | .both a b, t, s, h, f, hs => by
    simp only [forces, Bool.and_eq_true] at f ⊢
    exact ⟨forces_mono a t s h f.1 hs, forces_mono b t s h f.2 hs⟩
  | .to a b, t, s, h, f, hs => by
    simp only [forces, List.all_eq_true] at f ⊢
    exact fun u hu => f u (subs_trans t s u hs hu)
theorem forces_to {a b : Kd} {t : Tr} : forces (.to a b) t = true ↔ ∀ s ∈ subs t, forces a s = true → forces b s = true := by
  simp only [forces, List.all_eq_true, Bool.or_eq_true, Bool.not_eq_true']
  refine ⟨fun h s hs ha => (h s hs).resolve_left (by rw [ha]; decide), fun h s hs => ?_⟩
  cases e : forces a s
  · exact .inl rfl
  · exact .inr (h s hs e)
theorem forces_curry {a b c : Kd} {t : Tr} (h : MonoT t) : forces (.to (.both a b) c) t = forces (.to a (.to b c)) t := by
  rw [Bool.eq_iff_iff, forces_to, forces_to]
  refine ⟨fun f s hs ha => forces_to.mpr fun u hu hb => ?_, fun f s hs hab => ?_⟩
  · have hut := subs_trans t s u hs hu
    have hau := forces_mono a s u (mono_sub t s h hs).1 ha hu
    exact f u hut (by simp [forces, hau, hb])
  · simp only [forces, Bool.and_eq_true] at hab
    exact forces_to.mp (f s hs hab.1) s (subs_self s) hab.2
/-! ### the search for what is amiss -/
theorem le_findIdx {α : Type} (p : α → Bool) : ∀ (l : List α) (n : Nat), n ≤ l.length → (decide (n ≤ l.findIdx p) = (l.take n).all fun x => !p x)
  | [], n, h => by
    have : n = 0 := by simpa using h
    subst this; simp
  | x :: l, 0, h => by simp
  | x :: l, n + 1, h => by
    rw [List.take_succ_cons, List.all_cons, List.findIdx_cons]
    cases e : p x with
    | true => simp
    | false =>
      have ih := le_findIdx p l n (by simpa using h)
      simp only [cond_false, Bool.not_false, Bool.true_and, ← ih]
      simp
/-- the first place from i on where something is amiss -/
def fb (bad : List Bool) (i : Nat) : Nat := i + (bad.drop i).findIdx id
theorem fb_end (bad : List Bool) : fb bad bad.length = bad.length := by simp [fb]
theorem fb_step {bad : List Bool} {i : Nat} {b : Bool} (h : bad[i]? = some b) : fb bad i = if b = true then i else fb bad (i + 1) := by
  obtain ⟨hl, rfl⟩ := List.getElem?_eq_some_iff.mp h
  unfold fb
  rw [List.drop_eq_getElem_cons hl, List.findIdx_cons]
  cases e : bad[i] <;> simp <;> omega
def tl (k : Kd) (t : Tr) : List D := (subs t).map fun s => D.bl (forces k s)
def badOf (a b : Kd) (t : Tr) : List Bool := (subs t).map fun s => forces a s && !forces b s
theorem led_ok {a b : Kd} {t s : Tr} {i : Nat} (h : (subs t)[i]? = some s) : decide (i + (subs s).length ≤ fb (badOf a b t) i) = forces (.to a b) s := by
  have hs := subs_at t s i h
  have e1 : decide (i + (subs s).length ≤ fb (badOf a b t) i) = decide ((subs s).length ≤ ((badOf a b t).drop i).findIdx id) := by
    unfold fb; congr 1; rw [eq_iff_iff]; omega
  have hl : (subs s).length ≤ ((badOf a b t).drop i).length := by
    have := congrArg List.length hs
    rw [List.length_take] at this
    rw [List.length_drop, badOf, List.length_map]
    rw [List.length_drop] at this
    omega
  rw [e1, le_findIdx _ _ _ hl, badOf, ← List.map_drop, ← List.map_take, hs, forces, List.all_map]
  refine congrArg (List.all (subs s)) (funext fun u => ?_)
  simp [Bool.not_and]
def dW (w : List Str × Nat) : D := .tup [.lst (w.1.map .str), .int w.2]
def dWs (t : Tr) : List D := (ws t 0).map dW
def TrOk (t : Tr) : Prop := (subs t).length ≤ 1000 ∧ ∀ s ∈ subs t, ∀ m ∈ s.ms, PyData.strOk m = true
def spPut (n : Nat) : DSp := fun ds O R _ => ∃ (t : Tr) (p : Addr) (acc : List D), ds = [dT t, .ref p] ∧ O p = some (.lst acc) ∧ t.dep < n ∧ acc.length + (subs t).length ≤ 1000 ∧ R .non (updO O p (.lst (acc ++ (ws t acc.length).map dW)))
def spWorlds (n : Nat) : DSp := fun ds O R _ => ∃ t : Tr, ds = [dT t] ∧ t.dep < n ∧ (subs t).length ≤ 1000 ∧ R (.lst (dWs t)) O
def spLed : DSp := fun ds O R _ => ∃ (t : Tr) (a b : Kd), ds = [.lst (dWs t), .lst (tl a t), .lst (tl b t)] ∧ (subs t).length ≤ 1000 ∧ R (.lst (tl (.to a b) t)) O
def spTruths (n : Nat) : DSp := fun ds O R _ => ∃ (t : Tr) (k : Kd), ds = [.lst (dWs t), dK k] ∧ k.depth < n ∧ k.depth < 190 ∧ k.ok = true ∧ TrOk t ∧ R (.lst (tl k t)) O
def spHolds (n : Nat) : DSp := fun ds O R _ => ∃ (t : Tr) (k : Kd), ds = [dT t, dK k] ∧ t.dep < n ∧ k.depth < n ∧ k.depth < 190 ∧ k.ok = true ∧ TrOk t ∧ R (.bl (forces k t)) O
def spAllT (n : Nat) : DSp := fun ds O R _ => ∃ t : Tr, ds = [dT t] ∧ t.dep < n ∧ (subs t).length ≤ 1000 ∧ R (.lst ((subs t).map dT)) O
end Kf
namespace Kf
open PySem PySem.Spec L2
open PyProof.Rows hiding St
theorem subss_app : ∀ a b : List Tr, subss (a ++ b) = subss a ++ subss b
  | [], b => by rw [List.nil_append, subss, List.nil_append]
  | t :: a, b => by rw [List.cons_append, subss, subss, subss_app a b, List.append_assoc]
theorem wss_app : ∀ (a b : List Tr) (n : Nat), wss (a ++ b) n = wss a n ++ wss b (n + (subss a).length)
  | [], b, n => by rw [List.nil_append, wss, subss, List.nil_append]; rfl
  | t :: a, b, n => by
    rw [List.cons_append, wss, wss, wss_app a b, List.append_assoc, subss, List.length_append]
    have e : n + (subs t).length + (subss a).length = n + ((subs t).length + (subss a).length) := by omega
    rw [e]
theorem ixN_nat {n i : Nat} (h : i < n) : ixN n (i : Int) = some i := by
  unfold ixN
  simp [h]
end Kf
namespace Kf
open PySem PySem.Spec L2
open PyProof.Rows hiding St
/-! ### sorted texts -/
theorem cps_le_trans {a b c : List Nat} (h1 : ¬ b < a) (h2 : ¬ c < b) : ¬ c < a := List.le_trans (l₁ := a) (l₂ := b) (l₃ := c) h1 h2
theorem risingS_pw : ∀ (l : List Str) (p : Str), risingS p l = true → (p :: l).Pairwise fun a b => ¬ b.cps.toList < a.cps.toList
  | [], p, _ => by simp
  | x :: r, p, h => by
    simp only [risingS, Bool.and_eq_true, Bool.not_eq_true', ltCps_eq, decide_eq_false_iff_not] at h
    have ih := risingS_pw r x h.2
    refine List.pairwise_cons.mpr ⟨fun y hy => ?_, ih⟩
    rcases List.mem_cons.mp hy with rfl | hy
    · exact h.1
    · exact cps_le_trans h.1 ((List.pairwise_cons.mp ih).1 y hy)
theorem sortedS_pw : ∀ {l : List Str}, sortedS l = true → l.Pairwise fun a b => ¬ b.cps.toList < a.cps.toList
  | [], _ => .nil
  | x :: r, h => risingS_pw r x h
/-- strictly rising -/
def Up (l : List Str) : Prop := l.Pairwise fun a b => a.cps.toList < b.cps.toList
theorem up_of {l : List Str} (h : sortedS l = true) (hn : l.Nodup) : Up l := by
  have h1 := sortedS_pw h
  unfold Up
  refine List.Pairwise.imp ?_ (h1.and hn)
  rintro a b ⟨h2, h3⟩
  rcases Decidable.em (a.cps.toList < b.cps.toList) with h | h
  · exact h
  · exact absurd (str_ext (List.le_antisymm (as := a.cps.toList) (bs := b.cps.toList) h2 h)) h3
theorem Up.sub {l l' : List Str} (h : Up l) (s : l'.Sublist l) : Up l' := List.Pairwise.sublist s h
theorem up_uniq {a b : List Str} (h : Up a) (h' : Up b) (p : a.Perm b) : a = b := by
  refine List.Perm.eq_of_pairwise (le := fun (x y : Str) => x.cps.toList < y.cps.toList ∨ x = y) ?_ (h.imp Or.inl) (h'.imp Or.inl) p
  rintro x y _ _ (h1 | rfl) h2
  · rcases h2 with h2 | rfl
    · exact absurd (List.lt_trans h1 h2) (List.lt_irrefl _)
    · rfl
  · rfl
theorem mem_subss {s : Tr} : ∀ {ts : List Tr}, s ∈ subss ts → ∃ t ∈ ts, s ∈ subs t
  | [], h => by rw [subss] at h; cases h
  | t :: ts, h => by
    rw [subss] at h
    rcases List.mem_append.mp h with h | h
    · exact ⟨t, List.mem_cons_self, h⟩
    · obtain ⟨u, hu, h⟩ := mem_subss h
      exact ⟨u, List.mem_cons_of_mem _ hu, h⟩
/-! ### the law's trees -/
structure GoodT (ms : List Str) (had : List Str) (r : Nat) (t : Tr) : Prop where
  mono : MonoT t
  had : ∀ m ∈ had, m ∈ t.ms
  over : ∀ s ∈ subs t, s.ms.Sublist ms
  size : (subs t).length < 2 ^ (r + 1)
  dep : t.dep ≤ r + 1
theorem good_node {ms' had own : List Str} {r : Nat} {ts : List Tr} (h1 : own.Sublist ms') (h2 : ∀ m ∈ had, m ∈ own) (h3 : ts.length ≤ 2) (h4 : ∀ t ∈ ts, GoodT ms' own r t) : GoodT ms' had (r + 1) (.nd own ts) := by
  refine ⟨?_, h2, fun s hs => ?_, ?_, ?_⟩
  · rw [MonoT]
    exact monoTs_of fun t ht => ⟨(h4 t ht).had, (h4 t ht).mono⟩
  · rw [subs] at hs
    rcases List.mem_cons.mp hs with rfl | hs
    · exact h1
    · obtain ⟨t, ht, hs⟩ := mem_subss hs
      exact (h4 t ht).over s hs
  · rw [subs, List.length_cons]
    have : (subss ts).length ≤ ts.length * (2 ^ (r + 1) - 1) := by
      clear h3
      induction ts with
      | nil => rw [subss]; simp
      | cons t ts ih =>
        rw [subss, List.length_append, List.length_cons, Nat.succ_mul]
        have := ih fun u hu => h4 u (List.mem_cons_of_mem _ hu)
        have := (h4 t List.mem_cons_self).size
        omega
    have h5 : ts.length * (2 ^ (r + 1) - 1) ≤ 2 * (2 ^ (r + 1) - 1) := Nat.mul_le_mul_right _ h3
    have h6 : 1 ≤ 2 ^ (r + 1) := Nat.one_le_two_pow
    have h7 : 2 ^ (r + 1 + 1) = 2 * 2 ^ (r + 1) := by rw [Nat.pow_succ]; omega
    omega
  · rw [Tr.dep]
    have : deps ts ≤ r + 1 := by
      clear h3
      induction ts with
      | nil => rw [deps]; omega
      | cons t ts ih =>
        rw [deps]
        have := ih fun u hu => h4 u (List.mem_cons_of_mem _ hu)
        have := (h4 t List.mem_cons_self).dep
        omega
    omega
theorem good_leaf {ms' had own : List Str} {r : Nat} (h1 : own.Sublist ms') (h2 : ∀ m ∈ had, m ∈ own) : GoodT ms' had r (.nd own []) := by
  refine ⟨by rw [MonoT, MonoTs]; trivial, h2, fun s hs => ?_, ?_, ?_⟩
  · rw [subs, subss] at hs
    rcases List.mem_cons.mp hs with rfl | hs
    · exact h1
    · cases hs
  · rw [subs, subss]
    have : 2 ≤ 2 ^ (r + 1) := by rw [Nat.pow_succ]; have : 1 ≤ 2 ^ r := Nat.one_le_two_pow; omega
    simp only [List.length_cons, List.length_nil]; omega
  · rw [Tr.dep, deps]; omega
/-- ms' are the marks, sorted -/
def spLTree (n : Nat) : DSp := fun ds O R _ => ∃ (p : Addr) (ms had : List Str) (r : Nat), ds = [.ref p, .lst (ms.map .str), .lst (had.map .str), .int r] ∧ O p = some .pool ∧ MarkL ms ∧ (∀ m ∈ had, m ∈ ms) ∧ r < n ∧ r ≤ 8 ∧
  ∀ ms' t, ms'.Perm ms → Up ms' → GoodT ms' had r t → R (dT t) O
theorem GoodT.ok {ms ms' had : List Str} {r : Nat} {t : Tr} (h : GoodT ms' had r t) (hp : ms'.Perm ms) (hm : MarkL ms) (hr : r ≤ 8) : TrOk t := by
  refine ⟨?_, fun s hs m hm' => (hm.2.2.2 m (hp.mem_iff.mp ((h.over s hs).mem hm'))).ok⟩
  have := h.size
  have : 2 ^ (r + 1) ≤ 2 ^ 9 := Nat.pow_le_pow_right (by decide) (by omega)
  omega
theorem subs_dep : ∀ {t s : Tr}, s ∈ subs t → s.dep ≤ t.dep := by
  intro t
  have key : ∀ n (t s : Tr), t.dep ≤ n → s ∈ subs t → s.dep ≤ t.dep := by
    intro n
    induction n with
    | zero => intro t s h; obtain ⟨ms, ts⟩ := t; rw [Tr.dep] at h; omega
    | succ n ih =>
      intro t s h hs
      obtain ⟨ms, ts⟩ := t
      rw [subs] at hs
      rcases List.mem_cons.mp hs with rfl | hs
      · omega
      · rw [Tr.dep] at h ⊢
        have : ∀ us : List Tr, deps us ≤ n → s ∈ subss us → s.dep ≤ deps us := by
          intro us
          induction us with
          | nil => intro _ hs; rw [subss] at hs; cases hs
          | cons u us ihu =>
            intro hn hs
            rw [deps] at hn ⊢
            rw [subss] at hs
            rcases List.mem_append.mp hs with hs | hs
            · have := ih u s (by omega) hs; omega
            · have := ihu (by omega) hs; omega
        have := this ts (by omega) hs
        omega
  exact fun {s} h => key t.dep t s (Nat.le_refl _) h
end Kf
/-! Dl33: sorted(set(xs)) over data; == of a thing and one alike, empty dicts within. -/
namespace Kf
open PySem PySem.Spec L2
open PyProof.Rows hiding St
variable {M : MX}
/-! ### sorted(set(xs)) -/
def rSortSet (x : D) (O : Ow) (Q : VD) : Prop := match deref O x with
  | .lst ds => ∃ xs : List Str, ds = xs.map .str ∧ xs.length ≤ 4000 ∧ ∀ ys, Up ys → (∀ x, x ∈ ys ↔ x ∈ xs) → Q (.lst (ys.map .str)) O
  | .tup ds => ∃ xs : List Str, ds = xs.map .str ∧ xs.length ≤ 4000 ∧ ∀ ys, Up ys → (∀ x, x ∈ ys ↔ x ∈ xs) → Q (.lst (ys.map .str)) O
  | _ => False
def fSortSet (fa : FE) : FE := fun ρ O Q => fa ρ O fun x O1 => rSortSet x O1 Q
theorem ap_fSortSet (fa : FE) {ρ : DEnv} {O : Ow} {Q : VD} : fSortSet fa ρ O Q = fa ρ O fun x O1 => rSortSet x O1 Q := rfl
section
variable {X : Cx} {a : Expr} {fa : FE} {p p2 q pos : Pos}
theorem de_sortSet (hc : X.calm = true) (hg : Gl X "sorted") (hm : X.mg "sorted" = none) (hg2 : Gl X "set") (hm2 : X.mg "set" = none) (ha : DE M X a fa)
    (na : starEach [a] X.env = (false, eval a X.env) :: starEach [] X.env := by rfl) : DE M X (.Call (.Name "sorted" p) [.Call (.Name "set" p2) [a] [] q] [] pos) (fSortSet fa) := by
  refine peMono (Stx.pe_sortSet hc hg hm hg2 hm2 ha na) fun σ H Q h => ?_
  obtain ⟨F, O, P, ρ, R, g, en, q, po⟩ := h
  refine ⟨F, O, P, ρ, _, g, en, q, fun x O1 F1 H1 v q1 s1 g1 r1 => ?_⟩
  have h1 := g1.deref r1
  unfold rSortSet at q1
  revert q1 h1
  generalize Kf.deref O1 x = y
  intro q1 h1
  cases y <;> first | exact q1.elim | skip
  · obtain ⟨xs, rfl, q2, q3⟩ := q1
    simp only [RepH, Rep] at h1
    obtain ⟨b, vs, rfl, b1, b2⟩ := h1
    have ev := RepAll.strs b2
    subst ev
    exact ⟨b, xs, rfl, .inr (Same.seqT g1.fz b1), q2, fun ys p y1 y2 y3 hp => po.more s1 |>.lst g1 (q3 ys (up_of y1 y2) y3) RepAll.of_strs hp⟩
  · obtain ⟨xs, rfl, q2, q3⟩ := q1
    obtain ⟨b, vs, rfl, b1, b2⟩ := h1
    have ev := RepAll.strs b2
    subst ev
    exact ⟨b, xs, rfl, .inl (SqL.of b1), q2, fun ys p y1 y2 y3 hp => po.more s1 |>.lst g1 (q3 ys (up_of y1 y2) y3) RepAll.of_strs hp⟩
end
theorem rSortSet_l {xs : List Str} {O : Ow} {Q : VD} (h : xs.length ≤ 4000) (q : ∀ ys, Up ys → (∀ x, x ∈ ys ↔ x ∈ xs) → Q (.lst (ys.map .str)) O) : rSortSet (.lst (xs.map .str)) O Q := by
  simp only [rSortSet, deref]; exact ⟨xs, rfl, h, q⟩
theorem rSortSet_t {xs : List Str} {O : Ow} {Q : VD} (h : xs.length ≤ 4000) (q : ∀ ys, Up ys → (∀ x, x ∈ ys ↔ x ∈ xs) → Q (.lst (ys.map .str)) O) : rSortSet (.tup (xs.map .str)) O Q := by
  simp only [rSortSet, deref]; exact ⟨xs, rfl, h, q⟩
/-! ### a thing and one alike -/
mutual
def isPyE : D → Bool
  | .non => true
  | .bl _ => true
  | .int _ => true
  | .str _ => true
  | .tup ds => isPyEs ds
  | .lst ds => isPyEs ds
  | .edic => true
  | _ => false
def isPyEs : List D → Bool
  | [] => true
  | d :: ds => isPyE d && isPyEs ds
end
mutual
def dpE : D → Nat
  | .tup ds => dpEs ds + 1
  | .lst ds => dpEs ds + 1
  | _ => 0
def dpEs : List D → Nat
  | [] => 0
  | d :: ds => max (dpE d) (dpEs ds)
end
theorem isPyEs_all : ∀ ds : List D, isPyEs ds = ds.all isPyE
  | [] => rfl
  | d :: ds => by rw [isPyEs, isPyEs_all ds, List.all_cons]
theorem empty_dict {P P' : Program} {w w' : World} {h : Heap} {a : Addr} (d : h.DictOf (mixKind P w) a []) : h.DictOf (mixKind P' w') a [] := by
  obtain ⟨o, es, ep, h1, h2, h3, h4, h5, h6⟩ := d
  have e : es.toList = [] := List.eq_nil_of_length_eq_zero h5.length
  refine ⟨o, es, ep, h1, h2, h3, fun x hx => ?_, by rw [e]; exact .nil, .nil⟩
  have : x ∈ es.toList := by simpa using hx
  rw [e] at this; cases this
section
variable {X : Cx} {pins : List (Addr × Obj)} {σ : St} {H : Hp} {s : Shared}
open SeqAt
mutual
theorem same_at (I : L2.Inv X pins σ H s) : ∀ (d : D) (A : Around) (v v' : V) (u u' : Value), isPyE d = true → A.units + dpE d < cLine → Rep X.K H d v → RelV v u → Rep X.K H d v' → RelV v' u' → EqAt A s u u' true
  | .non, A, v, v', u, u', _, _, r, q, r', q' => by
    simp only [Rep] at r r'; subst r r'
    cases q; cases q'; exact EqAt.same _
  | .bl b, A, v, v', u, u', _, _, r, q, r', q' => by
    simp only [Rep] at r r'; subst r r'
    cases q; cases q'; exact EqAt.same _
  | .int b, A, v, v', u, u', _, _, r, q, r', q' => by
    simp only [Rep] at r r'; subst r r'
    obtain ⟨t, rfl⟩ := q; obtain ⟨t', rfl⟩ := q'
    have := EqAt.int_int (A := A) (s := s) b t b t'
    rwa [beq_self_eq_true] at this
  | .str b, A, v, v', u, u', _, _, r, q, r', q' => by
    simp only [Rep] at r r'; subst r r'
    obtain ⟨t, rfl⟩ := q; obtain ⟨t', rfl⟩ := q'
    have := EqAt.str_str (A := A) (s := s) b t b t'
    rwa [beq_self_eq_true] at this
  | .tup ds, A, v, v', u, u', h, hu, r, q, r', q' => by
    simp only [Rep] at r r'
    simp only [isPyE] at h
    simp only [dpE] at hu
    obtain ⟨a, xs, rfl, h1, h2⟩ := r
    obtain ⟨a', xs', rfl, h1', h2'⟩ := r'
    cases q; cases q'
    by_cases c : a = a'
    · subst c; exact EqAt.same _
    obtain ⟨its, rv, pt, _⟩ := I.tuple h1
    obtain ⟨its', rv', pt', _⟩ := I.tuple h1'
    have e1 : its.toArray.size = ds.length := by rw [List.size_toArray, ← rv.length, ← h2.length]
    have e2 : its'.toArray.size = ds.length := by rw [List.size_toArray, ← rv'.length, ← h2'.length]
    have z := RcAt.tuples (A := A) (s := s) (e := fun _ => true) (show s.heap.IsTuple a its.toArray from pt) (show s.heap.IsTuple a' its'.toArray from pt') (by omega) fun j j1 j2 => by
      have := same_all I ds A.in1 xs xs' its its' h (by have : A.in1.units = A.units + 1 := rfl; omega) h2 rv h2' rv' j (by simpa using j1) (by simpa using j2)
      simpa using this
    rw [e1, e2] at z
    simp only [Nat.min_self, beq_self_eq_true, Bool.and_true] at z
    have e3 : (List.range ds.length).all (fun _ => true) = true := by simp
    rw [e3] at z
    exact EqAt.of_refs c z
  | .lst ds, A, v, v', u, u', h, hu, r, q, r', q' => by
    simp only [Rep] at r r'
    simp only [isPyE] at h
    simp only [dpE] at hu
    obtain ⟨a, xs, rfl, h1, h2⟩ := r
    obtain ⟨a', xs', rfl, h1', h2'⟩ := r'
    cases q; cases q'
    by_cases c : a = a'
    · subst c; exact EqAt.same _
    obtain ⟨its, rv, pt, _⟩ := I.list (SqL.of h1)
    obtain ⟨its', rv', pt', _⟩ := I.list (SqL.of h1')
    have e1 : its.toArray.size = ds.length := by rw [List.size_toArray, ← rv.length, ← h2.length]
    have e2 : its'.toArray.size = ds.length := by rw [List.size_toArray, ← rv'.length, ← h2'.length]
    have z := RcAt.lists (A := A) (s := s) (e := fun _ => true) pt.isList pt'.isList (by omega) (by omega) fun j j1 j2 => by
      have := same_all I ds A.in1 xs xs' its its' h (by have : A.in1.units = A.units + 1 := rfl; omega) h2 rv h2' rv' j (by simpa using j1) (by simpa using j2)
      simpa using this
    rw [e1] at z
    have e3 : (List.range ds.length).all (fun _ => true) = true := by simp
    rw [e3] at z
    exact EqAt.of_refs c z
  | .edic, A, v, v', u, u', h, hu, r, q, r', q' => by
    simp only [Rep] at r r'
    obtain ⟨a, rfl, h1⟩ := r
    obtain ⟨a', rfl, h1'⟩ := r'
    cases q; cases q'
    by_cases c : a = a'
    · subst c; exact EqAt.same _
    obtain ⟨_, ya, vs, ra, da⟩ := dk_of I.hok h1
    obtain ⟨_, yb, vs', rb, db⟩ := dk_of I.hok h1'
    cases ra; cases rb
    refine EqAt.of_refs c fun prog w E Q k => ?_
    exact PySem.W.keq_eq (knd := mixKind prog w) (r := true) ya yb (empty_dict da) (empty_dict db) (by omega) (fun _ => .nil) k
  | .ref _, _, _, _, _, _, h, _, _, _, _, _ => by simp [isPyE] at h
  | .ty _, _, _, _, _, _, h, _, _, _, _, _ => by simp [isPyE] at h
  | .scr _, _, _, _, _, _, h, _, _, _, _, _ => by simp [isPyE] at h
theorem same_all (I : L2.Inv X pins σ H s) : ∀ (ds : List D) (A : Around) (vs vs' : List V) (us us' : List Value), isPyEs ds = true → A.units + dpEs ds < cLine → RepAll X.K H ds vs → Vals vs us → RepAll X.K H ds vs' → Vals vs' us' →
    ∀ j (h1 : j < us.length) (h2 : j < us'.length), EqAt A s us[j] us'[j] true
  | [], A, vs, vs', us, us', _, _, r, q, r', q', j, h1, _ => by
    simp only [RepAll] at r; subst r; cases q; cases h1
  | d :: ds, A, vs, vs', us, us', h, hu, r, q, r', q', j, h1, h2 => by
    simp only [RepAll] at r r'
    simp only [isPyEs, Bool.and_eq_true] at h
    simp only [dpEs] at hu
    obtain ⟨v, w, rfl, ra, rb⟩ := r
    obtain ⟨v', w', rfl, ra', rb'⟩ := r'
    cases q with
    | cons qa qb =>
      cases q' with
      | cons qa' qb' =>
        cases j with
        | zero => exact same_at I d A v v' _ _ h.1 (by omega) ra qa ra' qa'
        | succ j => exact same_all I ds A w w' _ _ h.2 (by omega) rb qb rb' qb' j (Nat.lt_of_succ_lt_succ h1) (Nat.lt_of_succ_lt_succ h2)
end
end
def rEqSm (neg : Bool) : R2D := fun x y O Q => ddf O 192 x = ddf O 192 y ∧ isPyE (ddf O 192 x) = true ∧ dpE (ddf O 192 x) ≤ 190 ∧ Q (.bl (!neg)) O
section
variable {X : Cx} {pins : List (Addr × Obj)} {σ : St} {H : Hp} {s : Shared}
open SeqAt
theorem same_rc (I : L2.Inv X pins σ H s) {A : Around} : ∀ (d : D) (v v' : V) (u u' : Value), isPyE d = true → A.units + dpE d < cLine → Rep X.K H d v → RelV v u → Rep X.K H d v' → RelV v' u' → RcAt A s u u' true ∧ RcNeAt A s u u' false
  | .non, v, v', u, u', _, _, r, q, r', q' => by
    simp only [Rep] at r r'; subst r r'
    cases q; cases q'; exact ⟨RcAt.none_none, RcNeAt.none_none⟩
  | .bl b, v, v', u, u', _, _, r, q, r', q' => by
    simp only [Rep] at r r'; subst r r'
    cases q; cases q'
    have z1 := RcAt.bool_bool (A := A) (s := s) b b
    have z2 := RcNeAt.bool_bool (A := A) (s := s) b b
    rw [beq_self_eq_true] at z1 z2
    exact ⟨z1, z2⟩
  | .int b, v, v', u, u', _, _, r, q, r', q' => by
    simp only [Rep] at r r'; subst r r'
    obtain ⟨t, rfl⟩ := q; obtain ⟨t', rfl⟩ := q'
    have z1 := RcAt.int_int (A := A) (s := s) b t b t'
    have z2 := RcNeAt.int_int (A := A) (s := s) b t b t'
    rw [beq_self_eq_true] at z1 z2
    exact ⟨z1, z2⟩
  | .str b, v, v', u, u', _, _, r, q, r', q' => by
    simp only [Rep] at r r'; subst r r'
    obtain ⟨t, rfl⟩ := q; obtain ⟨t', rfl⟩ := q'
    have z1 := RcAt.str_str (A := A) (s := s) b t b t'
    have z2 := RcNeAt.str_str (A := A) (s := s) b t b t'
    rw [beq_self_eq_true] at z1 z2
    exact ⟨z1, z2⟩
  | .tup ds, v, v', u, u', h, hu, r, q, r', q' => by
    simp only [Rep] at r r'
    simp only [isPyE] at h
    simp only [dpE] at hu
    obtain ⟨a, xs, rfl, h1, h2⟩ := r
    obtain ⟨a', xs', rfl, h1', h2'⟩ := r'
    cases q; cases q'
    obtain ⟨its, rv, pt, _⟩ := I.tuple h1
    obtain ⟨its', rv', pt', _⟩ := I.tuple h1'
    have e1 : its.toArray.size = ds.length := by rw [List.size_toArray, ← rv.length, ← h2.length]
    have e2 : its'.toArray.size = ds.length := by rw [List.size_toArray, ← rv'.length, ← h2'.length]
    have el : ∀ j (j1 : j < its.toArray.size) (j2 : j < its'.toArray.size), EqAt A.in1 s its.toArray[j] its'.toArray[j] true := fun j j1 j2 => by
      have := same_all I ds A.in1 xs xs' its its' h (by have : A.in1.units = A.units + 1 := rfl; omega) h2 rv h2' rv' j (by simpa using j1) (by simpa using j2)
      simpa using this
    have z1 := RcAt.tuples (A := A) (s := s) (e := fun _ => true) (show s.heap.IsTuple a its.toArray from pt) (show s.heap.IsTuple a' its'.toArray from pt') (by omega) el
    have z2 := RcNeAt.tuples (A := A) (s := s) (e := fun _ => true) (show s.heap.IsTuple a its.toArray from pt) (show s.heap.IsTuple a' its'.toArray from pt') (by omega) el
    have e3 : (List.range ds.length).all (fun _ => true) = true := by simp
    rw [e1, e2] at z1 z2
    simp only [Nat.min_self, beq_self_eq_true, Bool.and_true, e3, Bool.not_true] at z1 z2
    exact ⟨z1, z2⟩
  | .lst ds, v, v', u, u', h, hu, r, q, r', q' => by
    simp only [Rep] at r r'
    simp only [isPyE] at h
    simp only [dpE] at hu
    obtain ⟨a, xs, rfl, h1, h2⟩ := r
    obtain ⟨a', xs', rfl, h1', h2'⟩ := r'
    cases q; cases q'
    obtain ⟨its, rv, pt, _⟩ := I.list (SqL.of h1)
    obtain ⟨its', rv', pt', _⟩ := I.list (SqL.of h1')
    have e1 : its.toArray.size = ds.length := by rw [List.size_toArray, ← rv.length, ← h2.length]
    have e2 : its'.toArray.size = ds.length := by rw [List.size_toArray, ← rv'.length, ← h2'.length]
    have el : ∀ j (j1 : j < its.toArray.size) (j2 : j < its'.toArray.size), EqAt A.in1 s its.toArray[j] its'.toArray[j] true := fun j j1 j2 => by
      have := same_all I ds A.in1 xs xs' its its' h (by have : A.in1.units = A.units + 1 := rfl; omega) h2 rv h2' rv' j (by simpa using j1) (by simpa using j2)
      simpa using this
    have z1 := RcAt.lists (A := A) (s := s) (e := fun _ => true) pt.isList pt'.isList (by omega) (by omega) el
    have z2 := RcNeAt.lists (A := A) (s := s) (e := fun _ => true) pt.isList pt'.isList (by omega) (by omega) el
    have e3 : (List.range ds.length).all (fun _ => true) = true := by simp
    rw [e1] at z1 z2
    simp only [e3, Bool.not_true] at z1 z2
    exact ⟨z1, z2⟩
  | .edic, v, v', u, u', h, hu, r, q, r', q' => by
    simp only [Rep] at r r'
    obtain ⟨a, rfl, h1⟩ := r
    obtain ⟨a', rfl, h1'⟩ := r'
    cases q; cases q'
    obtain ⟨_, ya, vs, ra, da⟩ := dk_of I.hok h1
    obtain ⟨_, yb, vs', rb, db⟩ := dk_of I.hok h1'
    cases ra; cases rb
    exact ⟨fun prog w E Q k => PySem.W.keq_eq (knd := mixKind prog w) (r := true) ya yb (empty_dict da) (empty_dict db) (by omega) (fun _ => .nil) k,
      fun prog w E Q k => PySem.W.keq_ne (knd := mixKind prog w) (r := true) ya yb (empty_dict da) (empty_dict db) (by omega) (fun _ => .nil) k⟩
  | .ref _, _, _, _, _, h, _, _, _, _, _ => by simp [isPyE] at h
  | .ty _, _, _, _, _, h, _, _, _, _, _ => by simp [isPyE] at h
  | .scr _, _, _, _, _, h, _, _, _, _, _ => by simp [isPyE] at h
end
section
variable {X : Cx}
theorem od_eqSm (hu : X.A.units + 200 < cLine) : OpD M X (compareOp .Eq) (rEqSm false) := by
  intro pins s σ H x y v u Q I rx ry q
  obtain ⟨F, O, P, dx, dy, R, g, r1, r2, ⟨q1, q2, q3, q4⟩, po⟩ := q
  have z := (same_rc I (A := X.A) _ x y v u q2 (by omega) (g.ddf 192 _ _ r1) rx (q1 ▸ g.ddf 192 _ _ r2) ry).1
  exact z X.prog X.w _ _ ⟨.bl true, H, I, rfl, po.at g q4 (by simp only [Rep, Bool.not_false])⟩
theorem od_neSm (hu : X.A.units + 200 < cLine) : OpD M X (compareOp .NotEq) (rEqSm true) := by
  intro pins s σ H x y v u Q I rx ry q
  obtain ⟨F, O, P, dx, dy, R, g, r1, r2, ⟨q1, q2, q3, q4⟩, po⟩ := q
  have z := (same_rc I (A := X.A) _ x y v u q2 (by omega) (g.ddf 192 _ _ r1) rx (q1 ▸ g.ddf 192 _ _ r2) ry).2
  exact z X.prog X.w _ _ ⟨.bl false, H, I, rfl, po.at g q4 (by simp only [Rep, Bool.not_true])⟩
end
/-! what has no owned list in it is read as it is -/
theorem ddf_pyE {O : Ow} : ∀ (n : Nat) (d : D), isPyE d = true → ddf O n d = d
  | 0, d, h => rfl
  | n + 1, d, h => by
    have hm : ∀ ds : List D, isPyEs ds = true → ds.map (ddf O n) = ds := fun ds hd => by
      rw [isPyEs_all, List.all_eq_true] at hd
      exact (List.map_congr_left fun x hx => ddf_pyE n x (hd x hx)).trans (List.map_id' ds)
    cases d with
    | tup ds => simp only [isPyE] at h; simp only [ddf, hm ds h]
    | lst ds => simp only [isPyE] at h; simp only [ddf, hm ds h]
    | ref a => simp [isPyE] at h
    | _ => rfl
theorem rEqSm_d {neg : Bool} {d : D} {O : Ow} {Q : VD} (h1 : isPyE d = true) (h2 : dpE d ≤ 190) : rEqSm neg d d O Q = Q (.bl (!neg)) O := by
  unfold rEqSm
  rw [ddf_pyE 192 d h1]
  simp only [h1, h2, true_and]
end Kf
/-! Dl34: is True, is False, is not .. of a truth. -/
namespace Kf
open PySem PySem.Spec L2
open PyProof.Rows hiding St
variable {M : MX}
def rIsB (neg : Bool) : R2D := fun x y O Q => match x, y with
  | .bl a, .bl b => Q (.bl (neg ^^ decide (a = b))) O
  | _, _ => False
theorem rIsB_b {neg a b : Bool} {O : Ow} {Q : VD} : rIsB neg (.bl a) (.bl b) O Q = Q (.bl (neg ^^ decide (a = b))) O := rfl
section
variable {X : Cx}
theorem od_isB : OpD M X (compareOp .Is) (rIsB false) := by
  intro pins s σ H x y v u Q I rx ry q
  obtain ⟨F, O, P, dx, dy, R, g, r1, r2, q, po⟩ := q
  unfold rIsB at q
  split at q <;> first | exact q.elim | skip
  rename_i a b
  simp only [Rep] at r1 r2
  subst r1 r2
  cases rx; cases ry
  have z := po.at g q (v := .bl (decide (a = b))) (by simp only [Rep, Bool.false_xor])
  cases a <;> cases b <;> exact wpAny_bind (wpAny_pure (wpAny_pure ⟨.bl _, H, I, rfl, z⟩))
theorem od_isnotB : OpD M X (compareOp .IsNot) (rIsB true) := by
  intro pins s σ H x y v u Q I rx ry q
  obtain ⟨F, O, P, dx, dy, R, g, r1, r2, q, po⟩ := q
  unfold rIsB at q
  split at q <;> first | exact q.elim | skip
  rename_i a b
  simp only [Rep] at r1 r2
  subst r1 r2
  cases rx; cases ry
  have z := po.at g q (v := .bl (!decide (a = b))) (by simp only [Rep, Bool.true_xor])
  cases a <;> cases b <;> exact wpAny_bind (wpAny_pure (wpAny_pure ⟨.bl _, H, I, rfl, z⟩))
end
end Kf
/-! Dl35: walks along lists that may be owned and stay as they are: for, comprehensions; zip and enumerate of such. -/
namespace Kf
open PySem PySem.Spec L2
open PyProof.Rows hiding St
variable {M : MX}
/-- these cells hold these lists -/
def keepO (A : List (Addr × List D)) (O : Ow) : Prop := ∀ p ∈ A, O p.1 = some (.lst p.2)
theorem keepO_nil {O : Ow} : keepO [] O := fun _ h => nomatch h
theorem keepO_one {O : Ow} {a : Addr} {ds : List D} : keepO [(a, ds)] O ↔ O a = some (.lst ds) := ⟨fun h => h _ List.mem_cons_self, fun h p hp => by rw [List.mem_singleton.mp hp]; exact h⟩
theorem keepO_app {A B : List (Addr × List D)} {O : Ow} : keepO (A ++ B) O ↔ keepO A O ∧ keepO B O :=
  ⟨fun h => ⟨fun p hp => h p (List.mem_append_left _ hp), fun p hp => h p (List.mem_append_right _ hp)⟩, fun h p hp => (List.mem_append.mp hp).elim (h.1 p) (h.2 p)⟩
def ItOkJ (M : MX) (K : PySem.W.Frag) (F : Hp) (J : It) (A : List (Addr × List D)) (ds : List D) : Prop := ∀ F' O' P' H', Same F F' → Gd M K F' O' P' H' → keepO A O' → ∀ i : Nat,
  (∀ d, ds[i]? = some d → J.go i H' ∧ ∀ x H'', J.yld i H' x H'' → ∃ F'', Same F' F'' ∧ Gd M K F'' O' P' H'' ∧ Rep K F'' d x) ∧ (ds.length ≤ i → J.stop i H')
abbrev FJ := DEnv → Ow → (List (Addr × List D) → List D → Ow → Prop) → Prop
def liftJ (M : MX) (K : PySem.W.Frag) (f : FJ) : TI := fun σ H Q => ∃ F O P ρ R, Gd M K F O P H ∧ EnvOk K F ρ σ ∧ f ρ O R ∧ ∀ A ds O' F' H' J, R A ds O' → Same F F' → Gd M K F' O' P H' → ItOkJ M K F' J A ds → Q J H'
abbrev DJ (M : MX) (X : Cx) (tg iter : Expr) (f : FJ) : Prop := PI X tg iter (liftJ M X.K f)
/-- a list, owned or not -/
def asLJ (d : D) (O : Ow) (Q : List (Addr × List D) → List D → Ow → Prop) : Prop := match d with
  | .lst ds => Q [] ds O
  | .ref a => match O a with
    | some (.lst ds) => Q [(a, ds)] ds O
    | _ => False
  | _ => False
theorem asLJ_l {ds : List D} {O : Ow} {Q : List (Addr × List D) → List D → Ow → Prop} : asLJ (.lst ds) O Q = Q [] ds O := rfl
theorem asLJ_r {a : Addr} {ds : List D} {O : Ow} {Q : List (Addr × List D) → List D → Ow → Prop} (h : O a = some (.lst ds)) : asLJ (.ref a) O Q = Q [(a, ds)] ds O := by simp only [asLJ, h]
theorem rowJ {K : PySem.W.Frag} {F P H : Hp} {O : Ow} {d : D} {v : V} {Q : List (Addr × List D) → List D → Ow → Prop} (g : Gd M K F O P H) (r : Rep K F d v) (q : asLJ d O Q) :
    ∃ a A ds, v = .ref a ∧ Q A ds O ∧ keepO A O ∧ ∀ F' O' P' H', Same F F' → Gd M K F' O' P' H' → keepO A O' → ∃ xs, SqL K H' a xs ∧ RepAll K F' ds xs := by
  unfold asLJ at q
  split at q <;> first | exact q.elim | skip
  · rename_i ds
    simp only [Rep] at r
    obtain ⟨a, xs, rfl, h1, h2⟩ := r
    exact ⟨a, [], ds, rfl, q, keepO_nil, fun F' O' P' H' s g' _ => ⟨xs, SqL.of (g'.fz _ _ (s _ _ h1)), h2.mono s⟩⟩
  · rename_i a
    split at q <;> first | exact q.elim | skip
    rename_i ds e
    simp only [Rep] at r
    refine ⟨a, [(a, ds)], ds, r, q, keepO_one.mpr e, fun F' O' P' H' s g' k => ?_⟩
    obtain ⟨_, _, xs, h1, h2⟩ := g'.ow a _ (keepO_one.mp k)
    exact ⟨xs, SqL.of h1, h2⟩
section
variable {X : Cx} {tg iter l e e2 : Expr} {fl : FE} {fr : FA} {p tpos pos : Pos} {elts : List Expr} {kk : Nat}
def fjList (fl : FE) : FJ := fun ρ O Q => fl ρ O fun d O1 => asLJ d O1 Q
theorem dj_list (hl : DE M X l fl) : DJ M X tg l (fjList fl) := piMono (pi_list hl) fun σ H Q h => by
  obtain ⟨F, O, P, ρ, R, g, en, q, po⟩ := h
  refine ⟨F, O, P, ρ, _, g, en, q, fun d O1 F1 H1 v q1 s1 g1 r1 => ?_⟩
  obtain ⟨a, A, ds, rfl, q2, k2, row⟩ := rowJ g1 r1 q1
  obtain ⟨xs0, sq0, _⟩ := row F1 O1 P H1 (Same.refl _) g1 k2
  refine ⟨a, rfl, ⟨xs0, sq0⟩, po A ds O1 F1 H1 _ q2 s1 g1 fun F2 O2 P2 H2 s2 g2 k i => ?_⟩
  obtain ⟨xs, sq, rr⟩ := row F2 O2 P2 H2 s2 g2 k
  refine ⟨fun d e => ?_, fun hi => ⟨xs, sq, by rw [← rr.length]; exact hi⟩⟩
  obtain ⟨w, e1, r1⟩ := rr.get e
  refine ⟨⟨xs, w, sq, e1⟩, fun x H3 hy => ?_⟩
  obtain ⟨rfl, hx⟩ := hy
  have := hx xs sq
  rw [e1] at this
  cases this
  exact ⟨F2, Same.refl _, g2, r1⟩
def asLJ1 (ds : List D) (O : Ow) (Q : List (Addr × List D) → List D → Ow → Prop) : Prop := match ds with
  | [d] => asLJ d O Q
  | _ => False
def asLJ2 (ds : List D) (O : Ow) (Q : List (Addr × List D) → List D → List D → Ow → Prop) : Prop := match ds with
  | [d, e] => asLJ d O fun A xs _ => asLJ e O fun B ys _ => Q (A ++ B) xs ys O
  | _ => False
theorem asLJ1_1 {d : D} {O : Ow} {Q : List (Addr × List D) → List D → Ow → Prop} : asLJ1 [d] O Q = asLJ d O Q := rfl
theorem asLJ2_2 {d e : D} {O : Ow} {Q : List (Addr × List D) → List D → List D → Ow → Prop} : asLJ2 [d, e] O Q = asLJ d O fun A xs _ => asLJ e O fun B ys _ => Q (A ++ B) xs ys O := rfl
def fjEnum (fr : FA) : FJ := fun ρ O Q => fr ρ O fun ds O1 => asLJ1 ds O1 fun A ds O2 => Q A (enumD ds) O2
theorem dj_enum (hg : Gl X "enumerate") (hm : X.mg "enumerate" = none) (ha : DA M X [e] fr) (hs : starEach [e] X.env = [(false, eval e X.env)] := by rfl) :
    DJ M X (.Tuple elts kk tpos) (.Call (.Name "enumerate" p) [e] [] pos) (fjEnum fr) := piMono (pi_enum hg hm ha hs) fun σ H Q h => by
  obtain ⟨F, O, P, ρ, R, g, en, q, po⟩ := h
  refine ⟨F, O, P, ρ, _, g, en, q, fun ds O1 F1 H1 vs q1 s1 g1 r1 => ?_⟩
  unfold asLJ1 at q1
  split at q1 <;> first | exact q1.elim | skip
  obtain ⟨v, rfl, r1'⟩ := r1.one'
  obtain ⟨a, A, ds, rfl, q2, k2, row⟩ := rowJ g1 r1' q1
  obtain ⟨xs0, sq0, _⟩ := row F1 O1 P H1 (Same.refl _) g1 k2
  refine ⟨a, xs0, rfl, sq0, po A _ O1 F1 H1 _ q2 s1 g1 fun F2 O2 P2 H2 s2 g2 k i => ?_⟩
  obtain ⟨xs, sq, rr⟩ := row F2 O2 P2 H2 s2 g2 k
  refine ⟨fun d e => ?_, fun hi => ⟨xs, sq, by rw [← rr.length]; rw [enumD_length] at hi; exact hi⟩⟩
  rw [enumD_get] at e
  obtain ⟨d0, e0, rfl⟩ := Option.map_eq_some_iff.mp e
  obtain ⟨w, e1, r1⟩ := rr.get e0
  refine ⟨⟨xs, w, sq, e1⟩, fun x H3 hy => ?_⟩
  obtain ⟨T, y, rfl, hT, rfl, hx⟩ := hy
  have hxx := hx xs sq
  rw [e1] at hxx
  cases hxx
  have hF := g2.freeF hT
  refine ⟨upd F2 T (.tup [.int (i : Nat), w]), same_upd hF, g2.new hT, ?_⟩
  simp only [Rep]
  exact ⟨T, _, rfl, .inl (.inl upd_same), .cons (by simp only [Rep]) (.one (r1.mono (same_upd hF)))⟩
def fjZip (fr : FA) : FJ := fun ρ O Q => fr ρ O fun ds O1 => asLJ2 ds O1 fun A ds es O2 => Q A (zipD ds es) O2
theorem dj_zip (hg : Gl X "zip") (hm : X.mg "zip" = none) (ha : DA M X [e, e2] fr)
    (hs : starEach [e, e2] X.env = (false, eval e X.env) :: starEach [e2] X.env := by rfl) (hpl : (backTo pos (starEach [e2] X.env)).any (·.1) = false := by rfl) :
    DJ M X (.Tuple elts kk tpos) (.Call (.Name "zip" p) [e, e2] [] pos) (fjZip fr) := piMono (pi_zip hg hm ha hs hpl) fun σ H Q h => by
  obtain ⟨F, O, P, ρ, R, g, en, q, po⟩ := h
  refine ⟨F, O, P, ρ, _, g, en, q, fun ds O1 F1 H1 vs q1 s1 g1 r1 => ?_⟩
  unfold asLJ2 at q1
  split at q1 <;> first | exact q1.elim | skip
  obtain ⟨v, w, rfl, r1', r2'⟩ := r1.two'
  obtain ⟨a, A, ds, rfl, q2, k2, row⟩ := rowJ g1 r1' q1
  obtain ⟨b, B, es, rfl, q3, k3, row2⟩ := rowJ g1 r2' q2
  obtain ⟨xs0, sq0, _⟩ := row F1 O1 P H1 (Same.refl _) g1 k2
  obtain ⟨ys0, sr0, _⟩ := row2 F1 O1 P H1 (Same.refl _) g1 k3
  refine ⟨a, b, xs0, ys0, rfl, sq0, sr0, po (A ++ B) _ O1 F1 H1 _ q3 s1 g1 fun F2 O2 P2 H2 s2 g2 k i => ?_⟩
  obtain ⟨xs, sq, rr⟩ := row F2 O2 P2 H2 s2 g2 (keepO_app.mp k).1
  obtain ⟨ys, sr, rr2⟩ := row2 F2 O2 P2 H2 s2 g2 (keepO_app.mp k).2
  refine ⟨fun d e => ?_, fun hi => ?_⟩
  · unfold zipD at e
    rw [List.getElem?_map] at e
    obtain ⟨pq, e0, rfl⟩ := Option.map_eq_some_iff.mp e
    obtain ⟨e0a, e0b⟩ := List.getElem?_zip_eq_some.mp e0
    obtain ⟨w, e1, r1⟩ := rr.get e0a
    obtain ⟨w2, e2, r2⟩ := rr2.get e0b
    refine ⟨⟨xs, ys, w, w2, sq, sr, e1, e2⟩, fun x H3 hy => ?_⟩
    obtain ⟨T, y, y2, rfl, hT, rfl, hx, hx2⟩ := hy
    have hxx := hx xs sq
    rw [e1] at hxx
    cases hxx
    have hxx2 := hx2 ys sr
    rw [e2] at hxx2
    cases hxx2
    have hF := g2.freeF hT
    refine ⟨upd F2 T (.tup [w, w2]), same_upd hF, g2.new hT, ?_⟩
    simp only [Rep]
    exact ⟨T, _, rfl, .inl (.inl upd_same), .cons (r1.mono (same_upd hF)) (.one (r2.mono (same_upd hF)))⟩
  · unfold zipD at hi
    rw [List.length_map, List.length_zip] at hi
    refine ⟨xs, ys, sq, sr, ?_⟩
    rw [← rr.length, ← rr2.length]
    omega
/-! ### for -/
def forJ (A : List (Addr × List D)) (p : Pat) (gb : GS) (R : DEnds) : List D → DEnv → Ow → Prop
  | [], ρ, O => keepO A O ∧ R.nx ρ O
  | d :: ds, ρ, O => keepO A O ∧ patGet (patD p d ρ) fun ρ1 => gb { R with nx := forJ A p gb R ds, ct := forJ A p gb R ds, bk := R.nx } ρ1 O
def gForJ (fi : FJ) (p : Pat) (gb : GS) : GS := fun R ρ O => fi ρ O fun A ds O1 => forJ A p gb R ds ρ O1
theorem ds_forJ {body : List Stmt} {fi : FJ} {p : Pat} {gb : GS} (hp : PassesOwn (model X.prog X.w) X.A X.env X.xe) (hc : X.calm = true) (hi : DJ M X tg iter fi) (hg : DP X tg p) (hb : DSs M X body gb)
    (hs : ∀ x, foldedSetIterable iter X.env x = pure x := by intro _; rfl) : DS M X (.For tg iter body [] pos) (gForJ fi p gb) := psMono (ps_for hp hc hi hg hb hs) fun D σ H h => by
  obtain ⟨F, O, P, ρ, R, g, en, q, po⟩ := h
  refine ⟨F, O, P, ρ, _, g, en, q, fun A ds O1 F1 H1 J q1 s1 g1 it => ?_⟩
  refine ⟨fun i m σ H => ∃ F2 O2 ρ2, i + m = ds.length ∧ Same F1 F2 ∧ Gd M X.K F2 O2 P H ∧ EnvOk X.K F2 ρ2 σ ∧ forJ A p gb R (ds.drop i) ρ2 O2,
    ⟨ds.length, F1, O1, ρ, by omega, Same.refl _, g1, en.mono s1, by rw [List.drop_zero]; exact q1⟩, fun i m σ2 H2 hW => ?_⟩
  obtain ⟨F2, O2, ρ2, hm, s2, g2, en2, q2⟩ := hW
  by_cases hi : i < ds.length
  · rw [List.drop_eq_getElem_cons hi] at q2
    unfold forJ at q2
    obtain ⟨k2, q2⟩ := q2
    obtain ⟨hgo, hy⟩ := (it F2 O2 P H2 s2 g2 k2 i).1 ds[i] (List.getElem?_eq_getElem hi)
    refine .inr ⟨hgo, fun σ' H' => ∃ F3 O3 ρ3, Same F1 F3 ∧ Gd M X.K F3 O3 P H' ∧ EnvOk X.K F3 ρ3 σ' ∧ forJ A p gb R (ds.drop (i + 1)) ρ3 O3, fun σ' H' hN => ?_, fun x H' hyy => ?_⟩
    · obtain ⟨F3, O3, ρ3, s3, g3, en3, q3⟩ := hN
      exact ⟨m - 1, by omega, F3, O3, ρ3, by omega, s3, g3, en3, q3⟩
    · obtain ⟨F3, s3, g3, r3⟩ := hy x H' hyy
      cases e1 : patD p ds[i] ρ2 with
      | none => rw [e1] at q2; exact q2.elim
      | some ρ3 =>
        rw [e1] at q2
        refine pat_ok g3 p ds[i] x ρ2 ρ3 σ2 _ e1 r3 (en2.mono s3) fun σ4 en4 _ => ?_
        refine ⟨F3, O2, P, ρ3, _, g3, en4, q2, ⟨fun ρ5 O5 F5 H5 σ5 q5 s5 g5 en5 => ?_, ?_, ?_, fun ρ5 O5 F5 H5 σ5 q5 s5 g5 en5 => ?_⟩⟩
        · exact ⟨F5, O5, ρ5, s2.trans (s3.trans s5), g5, en5, q5⟩
        · exact po.rt.more (s1.trans (s2.trans s3))
        · exact po.nx.more (s1.trans (s2.trans s3))
        · exact ⟨F5, O5, ρ5, s2.trans (s3.trans s5), g5, en5, q5⟩
  · rw [List.drop_eq_nil_of_le (by omega)] at q2
    unfold forJ at q2
    exact .inl ⟨(it F2 O2 P H2 s2 g2 q2.1 i).2 (by omega), po.nx ρ2 O2 F2 H2 σ2 q2.2 (s1.trans s2) g2 en2⟩
end
/-! ### comprehensions -/
def lcJ (A : List (Addr × List D)) (p : Pat) (ft : FT) (fe : FE) (ρ : DEnv) : List D → List D → Ow → (List D → Ow → Prop) → Prop
  | [], acc, O, Q => keepO A O ∧ Q acc O
  | d :: ds, acc, O, Q => keepO A O ∧ patGet (patD p d ρ) fun ρ1 => ft ρ1 O fun b O1 => if b = true then fe ρ1 O1 fun e O2 => acc.length < sizeLine ∧ lcJ A p ft fe ρ ds (acc ++ [e]) O2 Q else lcJ A p ft fe ρ ds acc O1 Q
def fLcJ (fi : FJ) (p : Pat) (ft : FT) (fe : FE) (vs : List Nat) : FE := fun ρ O Q => fi ρ O fun A ds O1 => lcJ A p ft fe (wipeD ρ vs) ds [] O1 fun acc O2 => Q (.lst acc) O2
def fLcJO (fi : FJ) (p : Pat) (ft : FT) (fe : FE) (vs : List Nat) : FE := fun ρ O Q => fi ρ O fun A ds O1 => lcJ A p ft fe (wipeD ρ vs) ds [] O1 fun acc O2 => ∀ q, O2 q = none → Q (.ref q) (updO O2 q (.lst acc))
section
variable {X : Cx} {elt tg iter : Expr} {ifs : List Expr} {scope : Scope} {own : List (Str × Nat)} {pos : Pos} {fi : FJ} {p : Pat} {ft : FT} {fe : FE}
theorem fLcJ_core {vs : List Nat} {K : PySem.W.Frag} (hv : ∀ i ∈ patI p, i ∈ vs) {σ : L2.St} {H : Hp} {Q : VK} {F P : Hp} {O : Ow} {ρ : DEnv} {R : List D → Ow → Prop} (g : Gd M K F O P H) (en : EnvOk K F ρ σ)
    (q : fi ρ O fun A ds O1 => lcJ A p ft fe (wipeD ρ vs) ds [] O1 R)
    (po : ∀ acc O' F' H' q vacc, R acc O' → Same F F' → P q = none → M.rel F' P → Gd M K F' O' (upd P q (.lst vacc)) H' → RepAll K F' acc vacc → Q (.ref q) H') :
    tLc (liftJ M K fi) (patT K p) (liftT M K ft) (liftE M K fe) vs σ H Q := by
  refine ⟨F, O, P, ρ, _, g, en, q, fun A ds O1 F1 H1 J q1 s1 g1 it D hD => ?_⟩
  have hP := g1.freeP hD
  refine ⟨fun i m H => ∃ F2 O2 acc vacc, i + m = ds.length ∧ Same F1 F2 ∧ Gd M K F2 O2 (upd P D (.lst vacc)) H ∧ RepAll K F2 acc vacc ∧ lcJ A p ft fe (wipeD ρ vs) (ds.drop i) acc O2 R,
    ⟨ds.length, F1, O1, [], [], by omega, Same.refl _, g1.aside hD, .nil, by rw [List.drop_zero]; exact q1⟩, fun i m H2 hW => ?_⟩
  obtain ⟨F2, O2, acc, vacc, hm, s2, g2, ra, q2⟩ := hW
  by_cases hi : i < ds.length
  · rw [List.drop_eq_getElem_cons hi] at q2
    unfold lcJ at q2
    obtain ⟨k2, q2⟩ := q2
    obtain ⟨hgo, hy⟩ := (it F2 O2 (upd P D (.lst vacc)) H2 s2 g2 k2 i).1 ds[i] (List.getElem?_eq_getElem hi)
    refine .inr ⟨hgo, fun H' => ∃ F3 O3 acc vacc, Same F1 F3 ∧ Gd M K F3 O3 (upd P D (.lst vacc)) H' ∧ RepAll K F3 acc vacc ∧ lcJ A p ft fe (wipeD ρ vs) (ds.drop (i + 1)) acc O3 R, fun H' hN => ?_, fun x H' hyy => ?_⟩
    · obtain ⟨F3, O3, acc3, vacc3, s3, g3, r3, q3⟩ := hN
      exact ⟨m - 1, by omega, F3, O3, acc3, vacc3, by omega, s3, g3, r3, q3⟩
    · obtain ⟨F3, s3, g3, r3⟩ := hy x H' hyy
      cases e1 : patD p ds[i] (wipeD ρ vs) with
      | none => rw [e1] at q2; exact q2.elim
      | some ρ3 =>
        rw [e1] at q2
        refine pat_ok g3 p ds[i] x (wipeD ρ vs) ρ3 (wipe σ vs) _ e1 r3 ((en.mono (s1.trans (s2.trans s3))).wipes vs) fun σ4 en4 off => ?_
        refine ⟨wipe_off off hv, F3, O2, upd P D (.lst vacc), ρ3, _, g3, en4, q2, fun b O5 F5 H5 q5 s5 g5 => ?_⟩
        cases b with
        | true =>
          rw [if_pos rfl] at q5 ⊢
          refine ⟨F5, O5, upd P D (.lst vacc), ρ3, _, g5, en4.mono s5, q5, fun y O6 F6 H6 w q6 s6 g6 r6 => ?_⟩
          refine ⟨vacc, (g6.as D _ upd_same).2, by rw [← ra.length]; exact q6.1, F6, O6, acc ++ [y], vacc ++ [w], s2.trans (s3.trans (s5.trans s6)), g6.asideSet (M.mono g1.rl (s2.trans (s3.trans (s5.trans s6))) (same_upd hP)), (ra.mono (s3.trans (s5.trans s6))).append (.one r6), q6.2⟩
        | false =>
          rw [if_neg Bool.false_ne_true] at q5 ⊢
          exact ⟨F5, O5, acc, vacc, s2.trans (s3.trans s5), g5, ra.mono (s3.trans s5), q5⟩
  · rw [List.drop_eq_nil_of_le (by omega)] at q2
    unfold lcJ at q2
    exact .inl ⟨(it F2 O2 (upd P D (.lst vacc)) H2 s2 g2 q2.1 i).2 (by omega), po acc O2 F2 H2 D vacc q2.2 (s1.trans s2) hP (M.mono g1.rl s2 (Same.refl _)) g2 ra⟩
theorem fLcJ_lift {vs : List Nat} {K : PySem.W.Frag} (hv : ∀ i ∈ patI p, i ∈ vs) : ∀ σ H Q, liftE M K (fLcJ fi p ft fe vs) σ H Q → tLc (liftJ M K fi) (patT K p) (liftT M K ft) (liftE M K fe) vs σ H Q := fun σ H Q h => by
  obtain ⟨F, O, P, ρ, R, g, en, q, po⟩ := h
  refine fLcJ_core hv g en q fun acc O' F' H' a vacc q1 s1 hP mk g1 r1 => ?_
  obtain ⟨s2, g2⟩ := g1.asideFz hP mk
  refine po (.lst acc) O' _ H' _ q1 (s1.trans s2) g2 ?_
  simp only [Rep]
  exact ⟨a, vacc, rfl, upd_same, r1.mono s2⟩
theorem fLcJO_lift {vs : List Nat} {K : PySem.W.Frag} (hv : ∀ i ∈ patI p, i ∈ vs) : ∀ σ H Q, liftE M K (fLcJO fi p ft fe vs) σ H Q → tLc (liftJ M K fi) (patT K p) (liftT M K ft) (liftE M K fe) vs σ H Q := fun σ H Q h => by
  obtain ⟨F, O, P, ρ, R, g, en, q, po⟩ := h
  refine fLcJ_core hv g en q fun acc O' F' H' a vacc q1 s1 hP mk g1 r1 => ?_
  obtain ⟨hO, g2⟩ := g1.asideOw hP mk (c := .lst acc) ⟨vacc, (g1.as a _ upd_same).2, r1⟩
  exact po (.ref a) _ F' H' _ (q1 a hO) s1 g2 (by simp only [Rep])
theorem de_lcJ {vs : List Nat} (hc : X.calm = true) (hN : X.N.Nodup) (hi : DJ M X tg iter fi) (ok : BlkOk X.N X.env.scope scope own)
    (hg : ∀ (s : Shared) (H : Hp) (C : Addr) (cl : List (Str × Addr)) (fp : List Addr), DP (X.blk s H scope (compEnvC scope cl C X.env) fp) tg p) (ht : ∀ (s : Shared) (H : Hp) (C : Addr) (cl : List (Str × Addr)) (fp : List Addr), PTs (X.blk s H scope (compEnvC scope cl C X.env) fp) ifs (liftT M X.K ft))
    (he : ∀ (s : Shared) (H : Hp) (C : Addr) (cl : List (Str × Addr)) (fp : List Addr), DE M (X.blk s H scope (compEnvC scope cl C X.env) fp) elt fe) (hvs : own.map (·.2) = vs := by rfl) (hv : ((patI p).all fun i => vs.contains i) = true := by decide) (hs : ∀ x, foldedSetIterable iter X.env x = pure x := by intro _; rfl) :
    DE M X (.ListComp elt [⟨tg, iter, ifs, 0⟩] scope pos) (fLcJ fi p ft fe vs) := by
  subst hvs
  exact peMono (pe_lc (te := liftE M X.K fe) (g := patT X.K p) hc hN hi ok hg ht he hs) (fLcJ_lift (pat_in hv))
theorem de_lcJO {vs : List Nat} (hc : X.calm = true) (hN : X.N.Nodup) (hi : DJ M X tg iter fi) (ok : BlkOk X.N X.env.scope scope own)
    (hg : ∀ (s : Shared) (H : Hp) (C : Addr) (cl : List (Str × Addr)) (fp : List Addr), DP (X.blk s H scope (compEnvC scope cl C X.env) fp) tg p) (ht : ∀ (s : Shared) (H : Hp) (C : Addr) (cl : List (Str × Addr)) (fp : List Addr), PTs (X.blk s H scope (compEnvC scope cl C X.env) fp) ifs (liftT M X.K ft))
    (he : ∀ (s : Shared) (H : Hp) (C : Addr) (cl : List (Str × Addr)) (fp : List Addr), DE M (X.blk s H scope (compEnvC scope cl C X.env) fp) elt fe) (hvs : own.map (·.2) = vs := by rfl) (hv : ((patI p).all fun i => vs.contains i) = true := by decide) (hs : ∀ x, foldedSetIterable iter X.env x = pure x := by intro _; rfl) :
    DE M X (.ListComp elt [⟨tg, iter, ifs, 0⟩] scope pos) (fLcJO fi p ft fe vs) := by
  subst hvs
  exact peMono (pe_lc (te := liftE M X.K fe) (g := patT X.K p) hc hN hi ok hg ht he hs) (fLcJO_lift (pat_in hv))
theorem ds_setLcJ {i : Nat} {vs : List Nat} {y : Str} {py spos : Pos} (hc : X.calm = true) (hN : X.N.Nodup) (hy : X.N[i]? = some y) (hyl : X.env.scope.names.lookup y = some .local)
    (hsw : swapsWith (.ListComp elt [⟨tg, iter, ifs, 0⟩] scope pos) (some (.Name y py)) spos.line X.env = pure true) (hi : DJ M X tg iter fi) (ok : BlkOk X.N X.env.scope scope own)
    (hg : ∀ (s : Shared) (H : Hp) (C : Addr) (cl : List (Str × Addr)) (fp : List Addr), DP (X.blk s H scope (compEnvC scope cl C X.env) fp) tg p) (ht : ∀ (s : Shared) (H : Hp) (C : Addr) (cl : List (Str × Addr)) (fp : List Addr), PTs (X.blk s H scope (compEnvC scope cl C X.env) fp) ifs (liftT M X.K ft))
    (he : ∀ (s : Shared) (H : Hp) (C : Addr) (cl : List (Str × Addr)) (fp : List Addr), DE M (X.blk s H scope (compEnvC scope cl C X.env) fp) elt fe) (hvs : own.map (·.2) = vs := by rfl) (hv : ((patI p).all fun i => vs.contains i) = true := by decide) (hs : ∀ x, foldedSetIterable iter X.env x = pure x := by intro _; rfl) :
    DS M X (.Assign [.Name y py] (.ListComp elt [⟨tg, iter, ifs, 0⟩] scope pos) spos) (gSet (fLcJ fi p ft fe vs) i) := by
  subst hvs
  exact psMono (ps_setLc (te := liftE M X.K fe) (g := patT X.K p) hc hN hy hyl hsw hi ok hg ht he hs) (gSet_lift (fLcJ_lift (pat_in hv)))
theorem ds_setLcJO {i : Nat} {vs : List Nat} {y : Str} {py spos : Pos} (hc : X.calm = true) (hN : X.N.Nodup) (hy : X.N[i]? = some y) (hyl : X.env.scope.names.lookup y = some .local)
    (hsw : swapsWith (.ListComp elt [⟨tg, iter, ifs, 0⟩] scope pos) (some (.Name y py)) spos.line X.env = pure true) (hi : DJ M X tg iter fi) (ok : BlkOk X.N X.env.scope scope own)
    (hg : ∀ (s : Shared) (H : Hp) (C : Addr) (cl : List (Str × Addr)) (fp : List Addr), DP (X.blk s H scope (compEnvC scope cl C X.env) fp) tg p) (ht : ∀ (s : Shared) (H : Hp) (C : Addr) (cl : List (Str × Addr)) (fp : List Addr), PTs (X.blk s H scope (compEnvC scope cl C X.env) fp) ifs (liftT M X.K ft))
    (he : ∀ (s : Shared) (H : Hp) (C : Addr) (cl : List (Str × Addr)) (fp : List Addr), DE M (X.blk s H scope (compEnvC scope cl C X.env) fp) elt fe) (hvs : own.map (·.2) = vs := by rfl) (hv : ((patI p).all fun i => vs.contains i) = true := by decide) (hs : ∀ x, foldedSetIterable iter X.env x = pure x := by intro _; rfl) :
    DS M X (.Assign [.Name y py] (.ListComp elt [⟨tg, iter, ifs, 0⟩] scope pos) spos) (gSet (fLcJO fi p ft fe vs) i) := by
  subst hvs
  exact psMono (ps_setLc (te := liftE M X.K fe) (g := patT X.K p) hc hN hy hyl hsw hi ok hg ht he hs) (gSet_lift (fLcJO_lift (pat_in hv)))
end
theorem ap_fjList (fl : FE) {ρ : DEnv} {O : Ow} {Q : List (Addr × List D) → List D → Ow → Prop} : fjList fl ρ O Q = fl ρ O fun d O1 => asLJ d O1 Q := rfl
theorem ap_fjEnum (fr : FA) {ρ : DEnv} {O : Ow} {Q : List (Addr × List D) → List D → Ow → Prop} : fjEnum fr ρ O Q = fr ρ O fun ds O1 => asLJ1 ds O1 fun A ds O2 => Q A (enumD ds) O2 := rfl
theorem ap_fjZip (fr : FA) {ρ : DEnv} {O : Ow} {Q : List (Addr × List D) → List D → Ow → Prop} : fjZip fr ρ O Q = fr ρ O fun ds O1 => asLJ2 ds O1 fun A ds es O2 => Q A (zipD ds es) O2 := rfl
theorem ap_gForJ (fi : FJ) (p : Pat) (gb : GS) {R : DEnds} {ρ : DEnv} {O : Ow} : gForJ fi p gb R ρ O = fi ρ O fun A ds O1 => forJ A p gb R ds ρ O1 := rfl
theorem ap_fLcJ (fi : FJ) (p : Pat) (ft : FT) (fe : FE) (vs : List Nat) {ρ : DEnv} {O : Ow} {Q : VD} : fLcJ fi p ft fe vs ρ O Q = fi ρ O fun A ds O1 => lcJ A p ft fe (wipeD ρ vs) ds [] O1 fun acc O2 => Q (.lst acc) O2 := rfl
theorem ap_fLcJO (fi : FJ) (p : Pat) (ft : FT) (fe : FE) (vs : List Nat) {ρ : DEnv} {O : Ow} {Q : VD} : fLcJO fi p ft fe vs ρ O Q = fi ρ O fun A ds O1 => lcJ A p ft fe (wipeD ρ vs) ds [] O1 fun acc O2 => ∀ q, O2 q = none → Q (.ref q) (updO O2 q (.lst acc)) := rfl
end Kf
namespace Kf
open PySem PySem.Spec L2
open PyProof.Rows hiding St
abbrev tab_SIGNS : List (Str × Str) := [("->", "to"), ("*", "both")]
def topS (i : Nat) : Stmt := PySem.Challenge.pw_kindfill_k05_kind_texts.main.body.getD i (.Pass ⟨0, 0, 0, 0⟩)
abbrev s_NoFit___init__ : Stmt := inClass (topS 4) 0
abbrev N_NoFit___init__ : List Str := ["self", "place"]
abbrev P_NoFit___init__ : List Str := ["self", "place"]
theorem sc_NoFit___init__ : FnScope N_NoFit___init__ P_NoFit___init__ (defScope s_NoFit___init__) := ⟨rfl, rfl, rfl, by decide +kernel, rfl, by decide +kernel, by decide +kernel⟩
theorem ini_NoFit {P : Program} {w : World} {K : PySem.W.Frag} {mg : Str → Option Value} {base : Heap} {B C fI : Addr} {fd : FuncData} (b : BaseX K mg "KindError" B) (F : Fun K "__init__" "NoFit.__init__" s_NoFit___init__ fI fd) (T : OexC K C) (no : PySem.W.findIn K (.ref C) "place" = some none) : FnOk P w K mg base CX0 1 fI fd P_NoFit___init__ (spI C "place") :=
  fn_initI (k := 0) (N := N_NoFit___init__) F sc_NoFit___init__ rfl rfl T no fun cdv A outer s H E => pss_cons (ps_expr (pe_binit b (by rfl) (pa_cons (pe_var (i := 0) (by rfl) (by first | exact Or.inl rfl | exact Or.inr (Or.inl rfl) | exact Or.inr (Or.inr rfl))) (pa_cons pe_str pa_nil)))) (pss_one (ps_ost (pe_var (i := 0) (by rfl) (by first | exact Or.inl rfl | exact Or.inr (Or.inl rfl) | exact Or.inr (Or.inr rfl))) (pe_var (i := 1) (by rfl) (by first | exact Or.inl rfl | exact Or.inr (Or.inl rfl) | exact Or.inr (Or.inr rfl)))))
/-! ### is_mark -/
abbrev s_is_mark : Stmt := topS 13
abbrev N_is_mark : List Str := ["text", "sign"]
abbrev P_is_mark : List Str := ["text"]
theorem sc_is_mark : FnScope N_is_mark P_is_mark (defScope s_is_mark) := ⟨rfl, rfl, rfl, by decide +kernel, rfl, by decide +kernel, by decide +kernel⟩
def g_is_mark (d_LETTERS d_LONGEST : D) : GS :=
  (gSeq (gFor (fiStr (fVar 0)) (.nm 1) (gIf (fTest (fOp (rInD true) (fVar 1) (fC d_LETTERS))) (gRet (fC (.bl false))) gNext)) (gRet (fChain rLeD rLeD (fC (.int 1)) (fCB rLenD (fCons (fVar 0) fNil)) (fC d_LONGEST))))
theorem der_is_mark {P : Program} {w : World} {K : PySem.W.Frag} {mg : Str → Option Value} {base : Heap} {k : Nat} {f : Addr} {d_LETTERS d_LONGEST : D} (m_len : mg "len" = none) (c_LETTERS : Cst K mg "LETTERS" d_LETTERS) (c_LONGEST : Cst K mg "LONGEST" d_LONGEST)
    (cdv : Value) (A : Around) (outer : List Env) (s : Shared) (H : Hp) (E : XK) (hr : Room k (A.deeper (envOfC "is_mark" (defScope s_is_mark) s.heap.objs.size f cdv))) :
    DSs MT (cxOf CX0 P w K mg base N_is_mark "is_mark" (defScope s_is_mark) f cdv A outer s H E).nox (defBody s_is_mark) (g_is_mark d_LETTERS d_LONGEST) :=
  (dss_cons (ds_for PassesOwn.never rfl (di_str (de_var 0)) (dp_name (i := 1) sc_is_mark.nd (by rfl) (by first | exact Or.inl rfl | exact Or.inr rfl)) (dss_one (ds_if (dt_cmp (od_notin hr.u200) (de_var 1) (de_cst c_LETTERS (by rfl)) (by rfl)) (dss_one (ds_ret de_bl)) dss_nil))) (dss_one (ds_ret (de_chain od_le od_le de_int (de_callB cd_len (by rfl) m_len bb_len (da_cons (de_var 0) da_nil)) (de_cst c_LONGEST (by rfl))))))
/-! ### has_form -/
abbrev s_has_form : Stmt := topS 18
abbrev N_has_form : List Str := ["thing", "room"]
abbrev P_has_form : List Str := ["thing", "room"]
theorem sc_has_form : FnScope N_has_form P_has_form (defScope s_has_form) := ⟨rfl, rfl, rfl, by decide +kernel, rfl, by decide +kernel, by decide +kernel⟩
def g_has_form (sp_is_mark sp_has_form : DSp) (d_ONE : D) : GS :=
  (gSeq (gIf (fOr (fNot (fTest (fCB rIsiD (fCons (fVar 0) (fCons (fC (.ty "tuple")) fNil))))) (fTest (fOp rLtD (fVar 1) (fC (.int 0))))) (gRet (fC (.bl false))) gNext) (gSeq (gIf (fTest (fOp (rEqD false) (fCB rLenD (fCons (fVar 0) fNil)) (fC (.int 1)))) (gRet (fOp (rEqD false) (fVar 0) (fC d_ONE))) gNext) (gSeq (gIf (fTest (fOp (rEqD false) (fCB rLenD (fCons (fVar 0) fNil)) (fC (.int 2)))) (gRet (fAndV (fOp (rEqD false) (fOp rIxD (fVar 0) (fC (.int 0))) (fC (.str "mark"))) (fAndV (fCB rIsiD (fCons (fOp rIxD (fVar 0) (fC (.int 1))) (fCons (fC (.ty "str")) fNil))) (fCall sp_is_mark (fCons (fOp rIxD (fVar 0) (fC (.int 1))) fNil))))) gNext) (gSeq (gIf (fOr (fTest (fOp (rEqD true) (fCB rLenD (fCons (fVar 0) fNil)) (fC (.int 3)))) (fTest (fOp (rInD true) (fOp rIxD (fVar 0) (fC (.int 0))) (fTup (fCons (fC (.str "to")) (fCons (fC (.str "both")) fNil)))))) (gRet (fC (.bl false))) gNext) (gRet (fAndV (fCall sp_has_form (fCons (fOp rIxD (fVar 0) (fC (.int 1))) (fCons (fOp rSubD (fVar 1) (fC (.int 1))) fNil))) (fCall sp_has_form (fCons (fOp rIxD (fVar 0) (fC (.int 2))) (fCons (fOp rSubD (fVar 1) (fC (.int 1))) fNil)))))))))
theorem der_has_form {P : Program} {w : World} {K : PySem.W.Frag} {mg : Str → Option Value} {base : Heap} {k : Nat} {f : Addr} {sp_is_mark sp_has_form : DSp} {d_ONE : D} {a_is_mark : Addr} {fd_is_mark : FuncData} (n_is_mark : Fn K mg "is_mark" s_is_mark P_is_mark a_is_mark fd_is_mark) (G_is_mark : FnOk P w K mg base CX0 k a_is_mark fd_is_mark P_is_mark (liftSp K sp_is_mark)) {a_has_form : Addr} {fd_has_form : FuncData} (n_has_form : Fn K mg "has_form" s_has_form P_has_form a_has_form fd_has_form) (G_has_form : FnOk P w K mg base CX0 k a_has_form fd_has_form P_has_form (liftSp K sp_has_form)) (m_tuple : mg "tuple" = none) (m_isinstance : mg "isinstance" = none) (m_len : mg "len" = none) (m_str : mg "str" = none) (c_ONE : Cst K mg "ONE" d_ONE)
    (cdv : Value) (A : Around) (outer : List Env) (s : Shared) (H : Hp) (E : XK) (hr : Room k (A.deeper (envOfC "has_form" (defScope s_has_form) s.heap.objs.size f cdv))) :
    DSs MT (cxOf CX0 P w K mg base N_has_form "has_form" (defScope s_has_form) f cdv A outer s H E).nox (defBody s_has_form) (g_has_form sp_is_mark sp_has_form d_ONE) :=
  (dss_cons (ds_if (dt_of (dw_or (dt_not (dt_val (de_callB cd_isi (by rfl) m_isinstance bb_isinstance (da_cons (de_var 0) (da_cons (de_ty bb_tuple m_tuple (by rfl)) da_nil))))) (dw_or1 (dt_cmp od_lt (de_var 1) de_int (nomark _))))) (dss_one (ds_ret de_bl)) dss_nil) (dss_cons (ds_if (dt_cmp (od_eq hr.u200) (de_callB cd_len (by rfl) m_len bb_len (da_cons (de_var 0) da_nil)) de_int (nomark _)) (dss_one (ds_ret (de_cmp (od_eq hr.u200) (de_var 0) (de_cst c_ONE (by rfl)) (nomark _)))) dss_nil) (dss_cons (ds_if (dt_cmp (od_eq hr.u200) (de_callB cd_len (by rfl) m_len bb_len (da_cons (de_var 0) da_nil)) de_int (nomark _)) (dss_one (ds_ret (de_and (de_cmp (od_eq hr.u200) (de_ix (de_var 0) de_int) de_str (nomark _)) (de_and (de_callB cd_isi (by rfl) m_isinstance bb_isinstance (da_cons (de_ix (de_var 0) de_int) (da_cons (de_ty bb_str m_str (by rfl)) da_nil))) (de_one (de_callN n_is_mark G_is_mark hr (by rfl) (da_cons (de_ix (de_var 0) de_int) da_nil))))))) dss_nil) (dss_cons (ds_if (dt_of (dw_or (dt_cmp (od_ne hr.u200) (de_callB cd_len (by rfl) m_len bb_len (da_cons (de_var 0) da_nil)) de_int (nomark _)) (dw_or1 (dt_cmp (od_notin hr.u200) (de_ix (de_var 0) de_int) (de_tup (da_cons de_str (da_cons de_str da_nil))) (by rfl))))) (dss_one (ds_ret de_bl)) dss_nil) (dss_one (ds_ret (de_and (de_callN n_has_form G_has_form hr (by rfl) (da_cons (de_ix (de_var 0) de_int) (da_cons (de_op od_sub (de_var 1) de_int) da_nil))) (de_one (de_callN n_has_form G_has_form hr (by rfl) (da_cons (de_ix (de_var 0) de_int) (da_cons (de_op od_sub (de_var 1) de_int) da_nil)))))))))))
/-! ### is_kind -/
abbrev s_is_kind : Stmt := topS 19
abbrev N_is_kind : List Str := ["thing"]
abbrev P_is_kind : List Str := ["thing"]
theorem sc_is_kind : FnScope N_is_kind P_is_kind (defScope s_is_kind) := ⟨rfl, rfl, rfl, by decide +kernel, rfl, by decide +kernel, by decide +kernel⟩
def g_is_kind (sp_has_form sp_leaves_of : DSp) (d_MOST_DEPTH d_MOST_LEAVES : D) : GS :=
  (gRet (fAndV (fCall sp_has_form (fCons (fVar 0) (fCons (fC d_MOST_DEPTH) fNil))) (fOp rLeD (fCall sp_leaves_of (fCons (fVar 0) fNil)) (fC d_MOST_LEAVES))))
theorem der_is_kind {P : Program} {w : World} {K : PySem.W.Frag} {mg : Str → Option Value} {base : Heap} {k : Nat} {f : Addr} {sp_has_form sp_leaves_of : DSp} {d_MOST_DEPTH d_MOST_LEAVES : D} {a_has_form : Addr} {fd_has_form : FuncData} (n_has_form : Fn K mg "has_form" s_has_form P_has_form a_has_form fd_has_form) (G_has_form : FnOk P w K mg base CX0 k a_has_form fd_has_form P_has_form (liftSp K sp_has_form)) {a_leaves_of : Addr} {fd_leaves_of : FuncData} (n_leaves_of : Fn K mg "leaves_of" s_leaves_of P_leaves_of a_leaves_of fd_leaves_of) (G_leaves_of : FnOk P w K mg base CX0 k a_leaves_of fd_leaves_of P_leaves_of (liftSp K sp_leaves_of)) (c_MOST_DEPTH : Cst K mg "MOST_DEPTH" d_MOST_DEPTH) (c_MOST_LEAVES : Cst K mg "MOST_LEAVES" d_MOST_LEAVES)
    (cdv : Value) (A : Around) (outer : List Env) (s : Shared) (H : Hp) (E : XK) (hr : Room k (A.deeper (envOfC "is_kind" (defScope s_is_kind) s.heap.objs.size f cdv))) :
    DSs MT (cxOf CX0 P w K mg base N_is_kind "is_kind" (defScope s_is_kind) f cdv A outer s H E).nox (defBody s_is_kind) (g_is_kind sp_has_form sp_leaves_of d_MOST_DEPTH d_MOST_LEAVES) :=
  (dss_one (ds_ret (de_and (de_callN n_has_form G_has_form hr (by rfl) (da_cons (de_var 0) (da_cons (de_cst c_MOST_DEPTH (by rfl)) da_nil))) (de_one (de_cmp od_le (de_callN n_leaves_of G_leaves_of hr (by rfl) (da_cons (de_var 0) da_nil)) (de_cst c_MOST_LEAVES (by rfl)) (nomark _))))))
/-! ### leaves_of -/
abbrev s_leaves_of : Stmt := topS 20
abbrev N_leaves_of : List Str := ["kind"]
abbrev P_leaves_of : List Str := ["kind"]
theorem sc_leaves_of : FnScope N_leaves_of P_leaves_of (defScope s_leaves_of) := ⟨rfl, rfl, rfl, by decide +kernel, rfl, by decide +kernel, by decide +kernel⟩
def g_leaves_of (sp_leaves_of : DSp) : GS :=
  (gSeq (gIf (fTest (fOp rLtD (fCB rLenD (fCons (fVar 0) fNil)) (fC (.int 3)))) (gRet (fC (.int 1))) gNext) (gRet (fOp rAddD (fCall sp_leaves_of (fCons (fOp rIxD (fVar 0) (fC (.int 1))) fNil)) (fCall sp_leaves_of (fCons (fOp rIxD (fVar 0) (fC (.int 2))) fNil)))))
theorem der_leaves_of {P : Program} {w : World} {K : PySem.W.Frag} {mg : Str → Option Value} {base : Heap} {k : Nat} {f : Addr} {sp_leaves_of : DSp} {a_leaves_of : Addr} {fd_leaves_of : FuncData} (n_leaves_of : Fn K mg "leaves_of" s_leaves_of P_leaves_of a_leaves_of fd_leaves_of) (G_leaves_of : FnOk P w K mg base CX0 k a_leaves_of fd_leaves_of P_leaves_of (liftSp K sp_leaves_of)) (m_len : mg "len" = none)
    (cdv : Value) (A : Around) (outer : List Env) (s : Shared) (H : Hp) (E : XK) (hr : Room k (A.deeper (envOfC "leaves_of" (defScope s_leaves_of) s.heap.objs.size f cdv))) :
    DSs MT (cxOf CX0 P w K mg base N_leaves_of "leaves_of" (defScope s_leaves_of) f cdv A outer s H E).nox (defBody s_leaves_of) (g_leaves_of sp_leaves_of) :=
  (dss_cons (ds_if (dt_cmp od_lt (de_callB cd_len (by rfl) m_len bb_len (da_cons (de_var 0) da_nil)) de_int (nomark _)) (dss_one (ds_ret de_int)) dss_nil) (dss_one (ds_ret (de_op od_add (de_callN n_leaves_of G_leaves_of hr (by rfl) (da_cons (de_ix (de_var 0) de_int) da_nil)) (de_callN n_leaves_of G_leaves_of hr (by rfl) (da_cons (de_ix (de_var 0) de_int) da_nil))))))
/-! ### shown_kind -/
abbrev s_shown_kind : Stmt := topS 24
abbrev N_shown_kind : List Str := ["kind", "sign"]
abbrev P_shown_kind : List Str := ["kind"]
theorem sc_shown_kind : FnScope N_shown_kind P_shown_kind (defScope s_shown_kind) := ⟨rfl, rfl, rfl, by decide +kernel, rfl, by decide +kernel, by decide +kernel⟩
def g_shown_kind (sp_shown_kind : DSp) (d_ONE : D) : GS :=
  (gSeq (gIf (fTest (fOp (rEqD false) (fVar 0) (fC d_ONE))) (gRet (fC (.str "1"))) gNext) (gSeq (gIf (fTest (fOp (rEqD false) (fOp rIxD (fVar 0) (fC (.int 0))) (fC (.str "mark")))) (gRet (fOp rIxD (fVar 0) (fC (.int 1)))) gNext) (gSeq (gSet (fC (.str "->")) 1) (gSeq (gIf (fTest (fOp (rEqD false) (fOp rIxD (fVar 0) (fC (.int 0))) (fC (.str "both")))) (gSet (fC (.str "*")) 1) gNext) (gRet (fOp rAddD (fOp rAddD (fOp rAddD (fOp rAddD (fOp rAddD (fOp rAddD (fC (.str "( ")) (fCall sp_shown_kind (fCons (fOp rIxD (fVar 0) (fC (.int 1))) fNil))) (fC (.str " "))) (fVar 1)) (fC (.str " "))) (fCall sp_shown_kind (fCons (fOp rIxD (fVar 0) (fC (.int 2))) fNil))) (fC (.str " )"))))))))
theorem der_shown_kind {P : Program} {w : World} {K : PySem.W.Frag} {mg : Str → Option Value} {base : Heap} {k : Nat} {f : Addr} {sp_shown_kind : DSp} {d_ONE : D} {a_shown_kind : Addr} {fd_shown_kind : FuncData} (n_shown_kind : Fn K mg "shown_kind" s_shown_kind P_shown_kind a_shown_kind fd_shown_kind) (G_shown_kind : FnOk P w K mg base CX0 k a_shown_kind fd_shown_kind P_shown_kind (liftSp K sp_shown_kind)) (c_ONE : Cst K mg "ONE" d_ONE)
    (cdv : Value) (A : Around) (outer : List Env) (s : Shared) (H : Hp) (E : XK) (hr : Room k (A.deeper (envOfC "shown_kind" (defScope s_shown_kind) s.heap.objs.size f cdv))) :
    DSs MT (cxOf CX0 P w K mg base N_shown_kind "shown_kind" (defScope s_shown_kind) f cdv A outer s H E).nox (defBody s_shown_kind) (g_shown_kind sp_shown_kind d_ONE) :=
  (dss_cons (ds_if (dt_cmp (od_eq hr.u200) (de_var 0) (de_cst c_ONE (by rfl)) (nomark _)) (dss_one (ds_ret de_str)) dss_nil) (dss_cons (ds_if (dt_cmp (od_eq hr.u200) (de_ix (de_var 0) de_int) de_str (nomark _)) (dss_one (ds_ret (de_ix (de_var 0) de_int))) dss_nil) (dss_cons (ds_set (i := 1) sc_shown_kind.nd rfl (by first | exact Or.inl rfl | exact Or.inr rfl) de_str) (dss_cons (ds_if (dt_cmp (od_eq hr.u200) (de_ix (de_var 0) de_int) de_str (nomark _)) (dss_one (ds_set (i := 1) sc_shown_kind.nd rfl (by first | exact Or.inl rfl | exact Or.inr rfl) de_str)) dss_nil) (dss_one (ds_ret (de_op od_add (de_op od_add (de_op od_add (de_op od_add (de_op od_add (de_op od_add de_str (de_callN n_shown_kind G_shown_kind hr (by rfl) (da_cons (de_ix (de_var 0) de_int) da_nil))) de_str) (de_var 1)) de_str) (de_callN n_shown_kind G_shown_kind hr (by rfl) (da_cons (de_ix (de_var 0) de_int) da_nil))) de_str)))))))
/-! ### word_at -/
abbrev s_word_at : Stmt := topS 25
abbrev N_word_at : List Str := ["words", "at"]
abbrev P_word_at : List Str := ["words", "at"]
theorem sc_word_at : FnScope N_word_at P_word_at (defScope s_word_at) := ⟨rfl, rfl, rfl, by decide +kernel, rfl, by decide +kernel, by decide +kernel⟩
def g_word_at : GS :=
  (gSeq (gIf (fTest (fOp rLtD (fVar 1) (fCB rLenD (fCons (fVar 0) fNil)))) (gRet (fOp rIxD (fVar 0) (fVar 1))) gNext) (gRet (fC (.str ""))))
theorem der_word_at {P : Program} {w : World} {K : PySem.W.Frag} {mg : Str → Option Value} {base : Heap} {k : Nat} {f : Addr} (m_len : mg "len" = none)
    (cdv : Value) (A : Around) (outer : List Env) (s : Shared) (H : Hp) (E : XK) (hr : Room k (A.deeper (envOfC "word_at" (defScope s_word_at) s.heap.objs.size f cdv))) :
    DSs MT (cxOf CX0 P w K mg base N_word_at "word_at" (defScope s_word_at) f cdv A outer s H E).nox (defBody s_word_at) (g_word_at) :=
  (dss_cons (ds_if (dt_cmp od_lt (de_var 1) (de_callB cd_len (by rfl) m_len bb_len (da_cons (de_var 0) da_nil)) (nomark _)) (dss_one (ds_ret (de_ix (de_var 0) (de_var 1)))) dss_nil) (dss_one (ds_ret de_str)))
/-! ### kind_from -/
abbrev s_kind_from : Stmt := topS 26
abbrev N_kind_from : List Str := ["words", "at", "room", "word", "one", "sign", "other"]
abbrev P_kind_from : List Str := ["words", "at", "room"]
theorem sc_kind_from : FnScope N_kind_from P_kind_from (defScope s_kind_from) := ⟨rfl, rfl, rfl, by decide +kernel, rfl, by decide +kernel, by decide +kernel⟩
def g_kind_from (sp_word_at sp_is_mark sp_kind_from : DSp) (d_ONE : D) : GS :=
  (gSeq (gSet (fCall sp_word_at (fCons (fVar 0) (fCons (fVar 1) fNil))) 3) (gSeq (gIf (fTest (fOp (rEqD false) (fVar 3) (fC (.str "1")))) (gRet (fTup (fCons (fC d_ONE) (fCons (fOp rAddD (fVar 1) (fC (.int 1))) fNil)))) gNext) (gSeq (gIf (fTest (fCall sp_is_mark (fCons (fVar 3) fNil))) (gRet (fTup (fCons (fTup (fCons (fC (.str "mark")) (fCons (fVar 3) fNil))) (fCons (fOp rAddD (fVar 1) (fC (.int 1))) fNil)))) gNext) (gSeq (gIf (fOr (fTest (fOp (rEqD true) (fVar 3) (fC (.str "(")))) (fTest (fOp (rEqD false) (fVar 2) (fC (.int 0))))) (gRet (fTup (fCons (fC .non) (fCons (fVar 1) fNil)))) gNext) (gSeq (gAsg (fCall sp_kind_from (fCons (fVar 0) (fCons (fOp rAddD (fVar 1) (fC (.int 1))) (fCons (fOp rSubD (fVar 2) (fC (.int 1))) fNil)))) (.tp [(.nm 4), (.nm 1)])) (gSeq (gSet (fKGet tab_SIGNS (fCall sp_word_at (fCons (fVar 0) (fCons (fVar 1) fNil)))) 5) (gSeq (gIf (fOr (fTest (fOp (rIsN false) (fVar 4) (fC .non))) (fTest (fOp (rIsN false) (fVar 5) (fC .non)))) (gRet (fTup (fCons (fC .non) (fCons (fVar 1) fNil)))) gNext) (gSeq (gAsg (fCall sp_kind_from (fCons (fVar 0) (fCons (fOp rAddD (fVar 1) (fC (.int 1))) (fCons (fOp rSubD (fVar 2) (fC (.int 1))) fNil)))) (.tp [(.nm 6), (.nm 1)])) (gSeq (gIf (fOr (fTest (fOp (rIsN false) (fVar 6) (fC .non))) (fTest (fOp (rEqD true) (fCall sp_word_at (fCons (fVar 0) (fCons (fVar 1) fNil))) (fC (.str ")"))))) (gRet (fTup (fCons (fC .non) (fCons (fVar 1) fNil)))) gNext) (gRet (fTup (fCons (fTup (fCons (fVar 5) (fCons (fVar 4) (fCons (fVar 6) fNil)))) (fCons (fOp rAddD (fVar 1) (fC (.int 1))) fNil)))))))))))))
theorem der_kind_from {P : Program} {w : World} {K : PySem.W.Frag} {mg : Str → Option Value} {base : Heap} {k : Nat} {f : Addr} {sp_word_at sp_is_mark sp_kind_from : DSp} {d_ONE : D} {a_word_at : Addr} {fd_word_at : FuncData} (n_word_at : Fn K mg "word_at" s_word_at P_word_at a_word_at fd_word_at) (G_word_at : FnOk P w K mg base CX0 k a_word_at fd_word_at P_word_at (liftSp K sp_word_at)) {a_is_mark : Addr} {fd_is_mark : FuncData} (n_is_mark : Fn K mg "is_mark" s_is_mark P_is_mark a_is_mark fd_is_mark) (G_is_mark : FnOk P w K mg base CX0 k a_is_mark fd_is_mark P_is_mark (liftSp K sp_is_mark)) {a_kind_from : Addr} {fd_kind_from : FuncData} (n_kind_from : Fn K mg "kind_from" s_kind_from P_kind_from a_kind_from fd_kind_from) (G_kind_from : FnOk P w K mg base CX0 k a_kind_from fd_kind_from P_kind_from (liftSp K sp_kind_from)) (c_ONE : Cst K mg "ONE" d_ONE) (t_SIGNS : CDic K w mg "SIGNS" tab_SIGNS)
    (cdv : Value) (A : Around) (outer : List Env) (s : Shared) (H : Hp) (E : XK) (hr : Room k (A.deeper (envOfC "kind_from" (defScope s_kind_from) s.heap.objs.size f cdv))) :
    DSs MT (cxOf CX0 P w K mg base N_kind_from "kind_from" (defScope s_kind_from) f cdv A outer s H E).nox (defBody s_kind_from) (g_kind_from sp_word_at sp_is_mark sp_kind_from d_ONE) :=
  (dss_cons (ds_set (i := 3) sc_kind_from.nd rfl (by first | exact Or.inl rfl | exact Or.inr rfl) (de_callN n_word_at G_word_at hr (by rfl) (da_cons (de_var 0) (da_cons (de_var 1) da_nil)))) (dss_cons (ds_if (dt_cmp (od_eq hr.u200) (de_var 3) de_str (nomark _)) (dss_one (ds_ret (de_tup (da_cons (de_cst c_ONE (by rfl)) (da_cons (de_op od_add (de_var 1) de_int) da_nil))))) dss_nil) (dss_cons (ds_if (dt_val (de_callN n_is_mark G_is_mark hr (by rfl) (da_cons (de_var 3) da_nil))) (dss_one (ds_ret (de_tup (da_cons (de_tup (da_cons de_str (da_cons (de_var 3) da_nil))) (da_cons (de_op od_add (de_var 1) de_int) da_nil))))) dss_nil) (dss_cons (ds_if (dt_of (dw_or (dt_cmp (od_ne hr.u200) (de_var 3) de_str (nomark _)) (dw_or1 (dt_cmp (od_eq hr.u200) (de_var 2) de_int (nomark _))))) (dss_one (ds_ret (de_tup (da_cons de_non (da_cons (de_var 1) da_nil))))) dss_nil) (dss_cons (ds_asg (de_callN n_kind_from G_kind_from hr (by rfl) (da_cons (de_var 0) (da_cons (de_op od_add (de_var 1) de_int) (da_cons (de_op od_sub (de_var 2) de_int) da_nil)))) (dp_tup (by rfl) (dps_cons (dp_name (i := 4) sc_kind_from.nd (by rfl) (by first | exact Or.inl rfl | exact Or.inr rfl)) (dps_cons (dp_name (i := 1) sc_kind_from.nd (by rfl) (by first | exact Or.inl rfl | exact Or.inr rfl)) dps_nil)))) (dss_cons (ds_set (i := 5) sc_kind_from.nd rfl (by first | exact Or.inl rfl | exact Or.inr rfl) (de_kget t_SIGNS (by rfl) (de_callN n_word_at G_word_at hr (by rfl) (da_cons (de_var 0) (da_cons (de_var 1) da_nil))))) (dss_cons (ds_if (dt_of (dw_or (dt_cmp od_is (de_var 4) de_non (nomark _)) (dw_or1 (dt_cmp od_is (de_var 5) de_non (nomark _))))) (dss_one (ds_ret (de_tup (da_cons de_non (da_cons (de_var 1) da_nil))))) dss_nil) (dss_cons (ds_asg (de_callN n_kind_from G_kind_from hr (by rfl) (da_cons (de_var 0) (da_cons (de_op od_add (de_var 1) de_int) (da_cons (de_op od_sub (de_var 2) de_int) da_nil)))) (dp_tup (by rfl) (dps_cons (dp_name (i := 6) sc_kind_from.nd (by rfl) (by first | exact Or.inl rfl | exact Or.inr rfl)) (dps_cons (dp_name (i := 1) sc_kind_from.nd (by rfl) (by first | exact Or.inl rfl | exact Or.inr rfl)) dps_nil)))) (dss_cons (ds_if (dt_of (dw_or (dt_cmp od_is (de_var 6) de_non (nomark _)) (dw_or1 (dt_cmp (od_ne hr.u200) (de_callN n_word_at G_word_at hr (by rfl) (da_cons (de_var 0) (da_cons (de_var 1) da_nil))) de_str (nomark _))))) (dss_one (ds_ret (de_tup (da_cons de_non (da_cons (de_var 1) da_nil))))) dss_nil) (dss_one (ds_ret (de_tup (da_cons (de_tup (da_cons (de_var 5) (da_cons (de_var 4) (da_cons (de_var 6) da_nil)))) (da_cons (de_op od_add (de_var 1) de_int) da_nil))))))))))))))
/-! ### read_kind -/
abbrev s_read_kind : Stmt := topS 27
abbrev N_read_kind : List Str := ["text", "words", "kind", "at"]
abbrev P_read_kind : List Str := ["text"]
theorem sc_read_kind : FnScope N_read_kind P_read_kind (defScope s_read_kind) := ⟨rfl, rfl, rfl, by decide +kernel, rfl, by decide +kernel, by decide +kernel⟩
def g_read_kind (sp_kind_from sp_is_kind : DSp) (d_DEEPEST : D) (C_NoKind : Addr) (RX : XW) : GS :=
  (gSeq (gSet (fBM "str" rSplitD (fVar 0) (fCons (fC (.str " ")) fNil)) 1) (gSeq (gAsg (fCall sp_kind_from (fCons (fVar 1) (fCons (fC (.int 0)) (fCons (fC d_DEEPEST) fNil)))) (.tp [(.nm 2), (.nm 3)])) (gSeq (gIf (fOr (fTest (fOp (rIsN false) (fVar 2) (fC .non))) (fOr (fTest (fOp rLtD (fVar 3) (fCB rLenD (fCons (fVar 1) fNil)))) (fNot (fTest (fCall sp_is_kind (fCons (fVar 2) fNil)))))) (gRaise RX (.ref C_NoKind)) gNext) (gRet (fVar 2)))))
theorem der_read_kind {P : Program} {w : World} {K : PySem.W.Frag} {mg : Str → Option Value} {base : Heap} {k : Nat} {f : Addr} {sp_kind_from sp_is_kind : DSp} {d_DEEPEST : D} {C_NoKind : Addr} {a_kind_from : Addr} {fd_kind_from : FuncData} (n_kind_from : Fn K mg "kind_from" s_kind_from P_kind_from a_kind_from fd_kind_from) (G_kind_from : FnOk P w K mg base CX0 k a_kind_from fd_kind_from P_kind_from (liftSp K sp_kind_from)) {a_is_kind : Addr} {fd_is_kind : FuncData} (n_is_kind : Fn K mg "is_kind" s_is_kind P_is_kind a_is_kind fd_is_kind) (G_is_kind : FnOk P w K mg base CX0 k a_is_kind fd_is_kind P_is_kind (liftSp K sp_is_kind)) (m_len : mg "len" = none) (c_DEEPEST : Cst K mg "DEEPEST" d_DEEPEST) (x_NoKind : ExN K mg "NoKind" C_NoKind)
    (RX : XW) (W : WX) (cdv : Value) (A : Around) (outer : List Env) (s : Shared) (H : Hp) (E : XK) (tk : Takes (cxOf (L2.CX P w) P w K mg base N_read_kind "read_kind" (defScope s_read_kind) f cdv A outer s H E) W) (hp : PassesOwn (model (cxOf (L2.CX P w) P w K mg base N_read_kind "read_kind" (defScope s_read_kind) f cdv A outer s H E).prog (cxOf (L2.CX P w) P w K mg base N_read_kind "read_kind" (defScope s_read_kind) f cdv A outer s H E).w) (cxOf (L2.CX P w) P w K mg base N_read_kind "read_kind" (defScope s_read_kind) f cdv A outer s H E).A (cxOf (L2.CX P w) P w K mg base N_read_kind "read_kind" (defScope s_read_kind) f cdv A outer s H E).env (cxOf (L2.CX P w) P w K mg base N_read_kind "read_kind" (defScope s_read_kind) f cdv A outer s H E).xe) (hr : Room k (A.deeper (envOfC "read_kind" (defScope s_read_kind) s.heap.objs.size f cdv))) :
    DSs (mxw K RX W) (cxOf (L2.CX P w) P w K mg base N_read_kind "read_kind" (defScope s_read_kind) f cdv A outer s H E) (defBody s_read_kind) (g_read_kind sp_kind_from sp_is_kind d_DEEPEST C_NoKind RX) :=
  (dss_cons (ds_set (i := 1) sc_read_kind.nd rfl (by first | exact Or.inl rfl | exact Or.inr rfl) (de_bm PySem.F.plainAttrs_str PySem.F.slot_str_split PySem.F.type_str_split md_split (de_var 0) (da_cons de_str da_nil))) (dss_cons (ds_asg (de_callN n_kind_from G_kind_from hr (by rfl) (da_cons (de_var 1) (da_cons de_int (da_cons (de_cst c_DEEPEST (by rfl)) da_nil)))) (dp_tup (by rfl) (dps_cons (dp_name (i := 2) sc_read_kind.nd (by rfl) (by first | exact Or.inl rfl | exact Or.inr rfl)) (dps_cons (dp_name (i := 3) sc_read_kind.nd (by rfl) (by first | exact Or.inl rfl | exact Or.inr rfl)) dps_nil)))) (dss_cons (ds_if (dt_of (dw_or (dt_cmp od_is (de_var 2) de_non (nomark _)) (dw_or (dt_cmp od_lt (de_var 3) (de_callB cd_len (by rfl) m_len bb_len (da_cons (de_var 1) da_nil)) (nomark _)) (dw_or1 (dt_not (dt_val (de_callN n_is_kind G_is_kind hr (by rfl) (da_cons (de_var 2) da_nil)))))))) (dss_one (ds_raise x_NoKind (by rfl) tk (by rfl))) dss_nil) (dss_one (ds_ret (de_var 2))))))
/-! ### _law_pool -/
abbrev s__law_pool : Stmt := topS 29
abbrev N__law_pool : List Str := ["_law_script", "_law_k", "_law_cell", "_law_number"]
abbrev P__law_pool : List Str := ["_law_script", "_law_k"]
theorem sc__law_pool : FnScope N__law_pool P__law_pool (defScope s__law_pool) := ⟨rfl, rfl, rfl, by decide +kernel, rfl, by decide +kernel, by decide +kernel⟩
def g__law_pool : GS :=
  (gSeq (gSet (fC (.int 0)) 2) (gSeq (gIf (fTest (fOp rLtD (fVar 1) (fCB rLenD (fCons (fVar 0) fNil)))) (gSet (fOp rIxD (fVar 0) (fVar 1)) 2) gNext) (gSeq (gSet (fOp rModD (fOp rPowD (fOp rAddD (fOp rAddD (fOp rModD (fVar 2) (fC (.int 2147483629))) (fOp rMulD (fOp rMulD (fC (.int 104729)) (fVar 1)) (fVar 1))) (fC (.int 11))) (fC (.int 3))) (fC (.int 2147483647))) 3) (gSeq (gIf (fTest (fOp rLtD (fVar 2) (fOp rPowD (fC (.int 10)) (fC (.int 18))))) (gSet (fC (.int 0)) 2) gNext) (gRet (fPool (fCons (fVar 2) (fCons (fVar 3) fNil))))))))
theorem der__law_pool {P : Program} {w : World} {K : PySem.W.Frag} {mg : Str → Option Value} {base : Heap} {k : Nat} {f : Addr} (m_len : mg "len" = none)
    (cdv : Value) (A : Around) (outer : List Env) (s : Shared) (H : Hp) (E : XK) (hr : Room k (A.deeper (envOfC "_law_pool" (defScope s__law_pool) s.heap.objs.size f cdv))) :
    DSs MT (cxOf CX0 P w K mg base N__law_pool "_law_pool" (defScope s__law_pool) f cdv A outer s H E).nox (defBody s__law_pool) (g__law_pool) :=
  (dss_cons (ds_set (i := 2) sc__law_pool.nd rfl (by first | exact Or.inl rfl | exact Or.inr rfl) de_int) (dss_cons (ds_if (dt_cmp od_lt (de_var 1) (de_callB cd_len (by rfl) m_len bb_len (da_cons (de_var 0) da_nil)) (nomark _)) (dss_one (ds_set (i := 2) sc__law_pool.nd rfl (by first | exact Or.inl rfl | exact Or.inr rfl) (de_ix (de_var 0) (de_var 1)))) dss_nil) (dss_cons (ds_set (i := 3) sc__law_pool.nd rfl (by first | exact Or.inl rfl | exact Or.inr rfl) (de_op od_mod (de_op od_pow (de_op od_add (de_op od_add (de_op od_mod (de_var 2) de_int) (de_op od_mul (de_op od_mul de_int (de_var 1)) (de_var 1))) de_int) de_int) de_int)) (dss_cons (ds_if (dt_cmp od_lt (de_var 2) (de_op od_pow de_int de_int) (nomark _)) (dss_one (ds_set (i := 2) sc__law_pool.nd rfl (by first | exact Or.inl rfl | exact Or.inr rfl) de_int)) dss_nil) (dss_one (ds_ret (de_pool (da_cons (de_var 2) (da_cons (de_var 3) da_nil)))))))))
/-! ### _law_take -/
abbrev s__law_take : Stmt := topS 30
abbrev N__law_take : List Str := ["_law_pool_here", "_law_many", "_law_found"]
abbrev P__law_take : List Str := ["_law_pool_here", "_law_many"]
theorem sc__law_take : FnScope N__law_take P__law_take (defScope s__law_take) := ⟨rfl, rfl, rfl, by decide +kernel, rfl, by decide +kernel, by decide +kernel⟩
def g__law_take : GS :=
  (gSeq (gIf (fTest (fOp rGtD (fOp rIxD (fVar 0) (fC (.int 0))) (fC (.int 0)))) (gSeq (gSet (fOp rModD (fOp rIxD (fVar 0) (fC (.int 0))) (fVar 1)) 2) (gSeq (gSetIx (fVar 0) (fC (.int 0)) (fOp rDivD (fOp rIxD (fVar 0) (fC (.int 0))) (fVar 1))) (gRet (fVar 2)))) gNext) (gSeq (gSetIx (fVar 0) (fC (.int 1)) (fOp rModD (fOp rAddD (fOp rMulD (fOp rIxD (fVar 0) (fC (.int 1))) (fC (.int 48271))) (fC (.int 11))) (fC (.int 2147483647)))) (gRet (fOp rModD (fOp rDivD (fOp rModD (fOp rMulD (fOp rIxD (fVar 0) (fC (.int 1))) (fOp rIxD (fVar 0) (fC (.int 1)))) (fC (.int 2147483629))) (fC (.int 64))) (fVar 1)))))
theorem der__law_take {P : Program} {w : World} {K : PySem.W.Frag} {mg : Str → Option Value} {base : Heap} {k : Nat} {f : Addr} 
    (cdv : Value) (A : Around) (outer : List Env) (s : Shared) (H : Hp) (E : XK) (hr : Room k (A.deeper (envOfC "_law_take" (defScope s__law_take) s.heap.objs.size f cdv))) :
    DSs MT (cxOf CX0 P w K mg base N__law_take "_law_take" (defScope s__law_take) f cdv A outer s H E).nox (defBody s__law_take) (g__law_take) :=
  (dss_cons (ds_if (dt_cmp od_gt (de_ix (de_var 0) de_int) de_int (nomark _)) (dss_cons (ds_set (i := 2) sc__law_take.nd rfl (by first | exact Or.inl rfl | exact Or.inr rfl) (de_op od_mod (de_ix (de_var 0) de_int) (de_var 1))) (dss_cons (ds_setIx (de_var 0) de_int (de_op od_div (de_ix (de_var 0) de_int) (de_var 1))) (dss_one (ds_ret (de_var 2))))) dss_nil) (dss_cons (ds_setIx (de_var 0) de_int (de_op od_mod (de_op od_add (de_op od_mul (de_ix (de_var 0) de_int) de_int) de_int) de_int)) (dss_one (ds_ret (de_op od_mod (de_op od_div (de_op od_mod (de_op od_mul (de_ix (de_var 0) de_int) (de_ix (de_var 0) de_int)) de_int) de_int) (de_var 1))))))
/-! ### _law_kind -/
abbrev s__law_kind : Stmt := topS 31
abbrev N__law_kind : List Str := ["_law_pool_here", "_law_leaves", "_law_marks", "_law_one", "_law_word"]
abbrev P__law_kind : List Str := ["_law_pool_here", "_law_leaves", "_law_marks"]
theorem sc__law_kind : FnScope N__law_kind P__law_kind (defScope s__law_kind) := ⟨rfl, rfl, rfl, by decide +kernel, rfl, by decide +kernel, by decide +kernel⟩
def g__law_kind (sp__law_take sp__law_kind : DSp) : GS :=
  (gSeq (gIf (fTest (fOp (rEqD false) (fVar 1) (fC (.int 1)))) (gSeq (gIf (fTest (fOp (rEqD false) (fCall sp__law_take (fCons (fVar 0) (fCons (fC (.int 9)) fNil))) (fC (.int 8)))) (gRet (fTup (fCons (fC (.str "one")) fNil))) gNext) (gRet (fTup (fCons (fC (.str "mark")) (fCons (fOp rIxD (fVar 2) (fCall sp__law_take (fCons (fVar 0) (fCons (fCB rLenD (fCons (fVar 2) fNil)) fNil)))) fNil))))) gNext) (gSeq (gSet (fOp rAddD (fC (.int 1)) (fCall sp__law_take (fCons (fVar 0) (fCons (fOp rSubD (fVar 1) (fC (.int 1))) fNil)))) 3) (gSeq (gSet (fOp rIxD (fLst (fCons (fC (.str "to")) (fCons (fC (.str "to")) (fCons (fC (.str "both")) fNil)))) (fCall sp__law_take (fCons (fVar 0) (fCons (fC (.int 3)) fNil)))) 4) (gRet (fTup (fCons (fVar 4) (fCons (fCall sp__law_kind (fCons (fVar 0) (fCons (fVar 3) (fCons (fVar 2) fNil)))) (fCons (fCall sp__law_kind (fCons (fVar 0) (fCons (fOp rSubD (fVar 1) (fVar 3)) (fCons (fVar 2) fNil)))) fNil))))))))
theorem der__law_kind {P : Program} {w : World} {K : PySem.W.Frag} {mg : Str → Option Value} {base : Heap} {k : Nat} {f : Addr} {sp__law_take sp__law_kind : DSp} {a__law_take : Addr} {fd__law_take : FuncData} (n__law_take : Fn K mg "_law_take" s__law_take P__law_take a__law_take fd__law_take) (G__law_take : FnOk P w K mg base CX0 k a__law_take fd__law_take P__law_take (liftSp K sp__law_take)) {a__law_kind : Addr} {fd__law_kind : FuncData} (n__law_kind : Fn K mg "_law_kind" s__law_kind P__law_kind a__law_kind fd__law_kind) (G__law_kind : FnOk P w K mg base CX0 k a__law_kind fd__law_kind P__law_kind (liftSp K sp__law_kind)) (m_len : mg "len" = none)
    (cdv : Value) (A : Around) (outer : List Env) (s : Shared) (H : Hp) (E : XK) (hr : Room k (A.deeper (envOfC "_law_kind" (defScope s__law_kind) s.heap.objs.size f cdv))) :
    DSs MT (cxOf CX0 P w K mg base N__law_kind "_law_kind" (defScope s__law_kind) f cdv A outer s H E).nox (defBody s__law_kind) (g__law_kind sp__law_take sp__law_kind) :=
  (dss_cons (ds_if (dt_cmp (od_eq hr.u200) (de_var 1) de_int (nomark _)) (dss_cons (ds_if (dt_cmp (od_eq hr.u200) (de_callN n__law_take G__law_take hr (by rfl) (da_cons (de_var 0) (da_cons de_int da_nil))) de_int (nomark _)) (dss_one (ds_ret (de_tup (da_cons de_str da_nil)))) dss_nil) (dss_one (ds_ret (de_tup (da_cons de_str (da_cons (de_ix (de_var 2) (de_callN n__law_take G__law_take hr (by rfl) (da_cons (de_var 0) (da_cons (de_callB cd_len (by rfl) m_len bb_len (da_cons (de_var 2) da_nil)) da_nil)))) da_nil)))))) dss_nil) (dss_cons (ds_set (i := 3) sc__law_kind.nd rfl (by first | exact Or.inl rfl | exact Or.inr rfl) (de_op od_add de_int (de_callN n__law_take G__law_take hr (by rfl) (da_cons (de_var 0) (da_cons (de_op od_sub (de_var 1) de_int) da_nil))))) (dss_cons (ds_set (i := 4) sc__law_kind.nd rfl (by first | exact Or.inl rfl | exact Or.inr rfl) (de_ix (de_lst (da_cons de_str (da_cons de_str (da_cons de_str da_nil)))) (de_callN n__law_take G__law_take hr (by rfl) (da_cons (de_var 0) (da_cons de_int da_nil))))) (dss_one (ds_ret (de_tup (da_cons (de_var 4) (da_cons (de_callN n__law_kind G__law_kind hr (by rfl) (da_cons (de_var 0) (da_cons (de_var 3) (da_cons (de_var 2) da_nil)))) (da_cons (de_callN n__law_kind G__law_kind hr (by rfl) (da_cons (de_var 0) (da_cons (de_op od_sub (de_var 1) (de_var 3)) (da_cons (de_var 2) da_nil)))) da_nil)))))))))
/-! ### _law_text -/
abbrev s__law_text : Stmt := topS 32
abbrev N__law_text : List Str := ["_law_kind_here", "_law_sign"]
abbrev P__law_text : List Str := ["_law_kind_here"]
theorem sc__law_text : FnScope N__law_text P__law_text (defScope s__law_text) := ⟨rfl, rfl, rfl, by decide +kernel, rfl, by decide +kernel, by decide +kernel⟩
def g__law_text (sp__law_text : DSp) : GS :=
  (gSeq (gIf (fTest (fOp (rEqD false) (fCB rLenD (fCons (fVar 0) fNil)) (fC (.int 1)))) (gRet (fC (.str "1"))) gNext) (gSeq (gIf (fTest (fOp (rEqD false) (fCB rLenD (fCons (fVar 0) fNil)) (fC (.int 2)))) (gRet (fOp rIxD (fVar 0) (fC (.int 1)))) gNext) (gSeq (gSet (fOp rIxD (fLst (fCons (fC (.str "->")) (fCons (fC (.str "*")) fNil))) (fCB rInt1 (fCons (fOp (rEqD false) (fOp rIxD (fVar 0) (fC (.int 0))) (fC (.str "both"))) fNil))) 1) (gRet (fOp rAddD (fOp rAddD (fOp rAddD (fOp rAddD (fOp rAddD (fOp rAddD (fC (.str "( ")) (fCall sp__law_text (fCons (fOp rIxD (fVar 0) (fC (.int 1))) fNil))) (fC (.str " "))) (fVar 1)) (fC (.str " "))) (fCall sp__law_text (fCons (fOp rIxD (fVar 0) (fC (.int 2))) fNil))) (fC (.str " )")))))))
theorem der__law_text {P : Program} {w : World} {K : PySem.W.Frag} {mg : Str → Option Value} {base : Heap} {k : Nat} {f : Addr} {sp__law_text : DSp} {a__law_text : Addr} {fd__law_text : FuncData} (n__law_text : Fn K mg "_law_text" s__law_text P__law_text a__law_text fd__law_text) (G__law_text : FnOk P w K mg base CX0 k a__law_text fd__law_text P__law_text (liftSp K sp__law_text)) (m_len : mg "len" = none) (m_int : mg "int" = none)
    (cdv : Value) (A : Around) (outer : List Env) (s : Shared) (H : Hp) (E : XK) (hr : Room k (A.deeper (envOfC "_law_text" (defScope s__law_text) s.heap.objs.size f cdv))) :
    DSs MT (cxOf CX0 P w K mg base N__law_text "_law_text" (defScope s__law_text) f cdv A outer s H E).nox (defBody s__law_text) (g__law_text sp__law_text) :=
  (dss_cons (ds_if (dt_cmp (od_eq hr.u200) (de_callB cd_len (by rfl) m_len bb_len (da_cons (de_var 0) da_nil)) de_int (nomark _)) (dss_one (ds_ret de_str)) dss_nil) (dss_cons (ds_if (dt_cmp (od_eq hr.u200) (de_callB cd_len (by rfl) m_len bb_len (da_cons (de_var 0) da_nil)) de_int (nomark _)) (dss_one (ds_ret (de_ix (de_var 0) de_int))) dss_nil) (dss_cons (ds_set (i := 1) sc__law_text.nd rfl (by first | exact Or.inl rfl | exact Or.inr rfl) (de_ix (de_lst (da_cons de_str (da_cons de_str da_nil))) (de_callTy cd_int1 (by rfl) m_int bb_int (da_cons (de_cmp (od_eq hr.u200) (de_ix (de_var 0) de_int) de_str (nomark _)) da_nil)))) (dss_one (ds_ret (de_op od_add (de_op od_add (de_op od_add (de_op od_add (de_op od_add (de_op od_add de_str (de_callN n__law_text G__law_text hr (by rfl) (da_cons (de_ix (de_var 0) de_int) da_nil))) de_str) (de_var 1)) de_str) (de_callN n__law_text G__law_text hr (by rfl) (da_cons (de_ix (de_var 0) de_int) da_nil))) de_str))))))
/-! ### _law_bent -/
abbrev s__law_bent : Stmt := topS 33
abbrev N__law_bent : List Str := ["_law_pool_here", "_law_text_here", "_law_words", "_law_some", "_law_at", "_law_one", "_law_way"]
abbrev P__law_bent : List Str := ["_law_pool_here", "_law_text_here"]
theorem sc__law_bent : FnScope N__law_bent P__law_bent (defScope s__law_bent) := ⟨rfl, rfl, rfl, by decide +kernel, rfl, by decide +kernel, by decide +kernel⟩
def g__law_bent (sp__law_take : DSp) : GS :=
  (gSeq (gSet (fBM "str" rSplitD (fVar 1) (fCons (fC (.str " ")) fNil)) 2) (gSeq (gSet (fLst (fCons (fC (.str "(")) (fCons (fC (.str ")")) (fCons (fC (.str "->")) (fCons (fC (.str "*")) (fCons (fC (.str "1")) (fCons (fC (.str "a")) (fCons (fC (.str "bb")) (fCons (fC (.str "")) (fCons (fC (.str "A")) (fCons (fC (.str "abcdefg")) (fCons (fC (.str "=>")) (fCons (fC (.str "0")) (fCons (fC (.str "11")) (fCons (fC (.str "a1")) fNil))))))))))))))) 3) (gSeq (gSet (fCall sp__law_take (fCons (fVar 0) (fCons (fCB rLenD (fCons (fVar 2) fNil)) fNil))) 4) (gSeq (gSet (fOp rIxD (fVar 3) (fCall sp__law_take (fCons (fVar 0) (fCons (fCB rLenD (fCons (fVar 3) fNil)) fNil)))) 5) (gSeq (gSet (fCall sp__law_take (fCons (fVar 0) (fCons (fC (.int 9)) fNil))) 6) (gSeq (gIf (fTest (fOp (rEqD false) (fVar 6) (fC (.int 0)))) (gSet (fOp rAddD (fSl rSlD (fVar 2) fNoPart (fPart (fVar 4))) (fSl rSlD (fVar 2) (fPart (fOp rAddD (fVar 4) (fC (.int 1)))) fNoPart)) 2) gNext) (gSeq (gIf (fTest (fOp (rEqD false) (fVar 6) (fC (.int 1)))) (gSet (fOp rAddD (fOp rAddD (fSl rSlD (fVar 2) fNoPart (fPart (fVar 4))) (fLst (fCons (fOp rIxD (fVar 2) (fVar 4)) fNil))) (fSl rSlD (fVar 2) (fPart (fVar 4)) fNoPart)) 2) gNext) (gSeq (gIf (fTest (fOp (rEqD false) (fVar 6) (fC (.int 2)))) (gSet (fOp rAddD (fOp rAddD (fSl rSlD (fVar 2) fNoPart (fPart (fVar 4))) (fLst (fCons (fVar 5) fNil))) (fSl rSlD (fVar 2) (fPart (fOp rAddD (fVar 4) (fC (.int 1)))) fNoPart)) 2) gNext) (gSeq (gIf (fTest (fOp (rEqD false) (fVar 6) (fC (.int 3)))) (gSet (fOp rAddD (fOp rAddD (fSl rSlD (fVar 2) fNoPart (fPart (fVar 4))) (fLst (fCons (fVar 5) fNil))) (fSl rSlD (fVar 2) (fPart (fVar 4)) fNoPart)) 2) gNext) (gSeq (gIf (fTest (fOp (rEqD false) (fVar 6) (fC (.int 4)))) (gSet (fOp rAddD (fSl rSlD (fVar 2) fNoPart (fPart (fVar 4))) (fRev (fSl rSlD (fVar 2) (fPart (fVar 4)) fNoPart) (fPart (fUn rNeg (fC (.int 1)))))) 2) gNext) (gSeq (gIf (fTest (fOp (rEqD false) (fVar 6) (fC (.int 5)))) (gSet (fSl rSlD (fVar 2) (fPart (fC (.int 1))) (fPart (fUn rNeg (fC (.int 1))))) 2) gNext) (gSeq (gIf (fTest (fOp (rEqD false) (fVar 6) (fC (.int 6)))) (gSet (fOp rAddD (fOp rAddD (fLst (fCons (fC (.str "(")) fNil)) (fVar 2)) (fLst (fCons (fC (.str ")")) fNil))) 2) gNext) (gSeq (gIf (fTest (fOp (rEqD false) (fVar 6) (fC (.int 7)))) (gRet (fRep1 (fVar 1) " " "  ")) gNext) (gSeq (gIf (fTest (fOp (rEqD false) (fVar 6) (fC (.int 8)))) (gRet (fOp rIxD (fLst (fCons (fOp rAddD (fC (.str " ")) (fVar 1)) (fCons (fOp rAddD (fVar 1) (fC (.str " "))) (fCons (fRepA (fVar 1) " " "") (fCons (fOp rAddD (fVar 1) (fC (.str "\n"))) (fCons (fRep1 (fVar 1) " " "\t") fNil)))))) (fOp rModD (fVar 4) (fC (.int 5))))) gNext) (gRet (fBM "str" rJoinD (fC (.str " ")) (fCons (fVar 2) fNil)))))))))))))))))
theorem der__law_bent {P : Program} {w : World} {K : PySem.W.Frag} {mg : Str → Option Value} {base : Heap} {k : Nat} {f : Addr} {sp__law_take : DSp} {a__law_take : Addr} {fd__law_take : FuncData} (n__law_take : Fn K mg "_law_take" s__law_take P__law_take a__law_take fd__law_take) (G__law_take : FnOk P w K mg base CX0 k a__law_take fd__law_take P__law_take (liftSp K sp__law_take)) (m_len : mg "len" = none)
    (cdv : Value) (A : Around) (outer : List Env) (s : Shared) (H : Hp) (E : XK) (hr : Room k (A.deeper (envOfC "_law_bent" (defScope s__law_bent) s.heap.objs.size f cdv))) :
    DSs MT (cxOf CX0 P w K mg base N__law_bent "_law_bent" (defScope s__law_bent) f cdv A outer s H E).nox (defBody s__law_bent) (g__law_bent sp__law_take) :=
  (dss_cons (ds_set (i := 2) sc__law_bent.nd rfl (by first | exact Or.inl rfl | exact Or.inr rfl) (de_bm PySem.F.plainAttrs_str PySem.F.slot_str_split PySem.F.type_str_split md_split (de_var 1) (da_cons de_str da_nil))) (dss_tok (i := 3) sc__law_bent.nd rfl (by first | exact Or.inl rfl | exact Or.inr rfl) (da_cons de_str (da_cons de_str (da_cons de_str (da_cons de_str (da_cons de_str (da_cons de_str (da_cons de_str (da_cons de_str (da_cons de_str (da_cons de_str (da_cons de_str (da_cons de_str (da_cons de_str da_nil))))))))))))) (dsst_cons (dst_of (ds_set (i := 4) sc__law_bent.nd rfl (by first | exact Or.inl rfl | exact Or.inr rfl) (de_callN n__law_take G__law_take hr (by rfl) (da_cons (de_var 0) (da_cons (de_callB cd_len (by rfl) m_len bb_len (da_cons (de_var 2) da_nil)) da_nil))))) (dsst_cons (dst_of (ds_set (i := 5) sc__law_bent.nd rfl (by first | exact Or.inl rfl | exact Or.inr rfl) (de_ix (de_var 3) (de_callN n__law_take G__law_take hr (by rfl) (da_cons (de_var 0) (da_cons (de_callB cd_len (by rfl) m_len bb_len (da_cons (de_var 3) da_nil)) da_nil)))))) (dsst_cons (dst_of (ds_set (i := 6) sc__law_bent.nd rfl (by first | exact Or.inl rfl | exact Or.inr rfl) (de_callN n__law_take G__law_take hr (by rfl) (da_cons (de_var 0) (da_cons de_int da_nil))))) (dsst_cons (dst_of (ds_if (dt_cmp (od_eq hr.u200) (de_var 6) de_int (nomark _)) (dss_one (ds_set (i := 2) sc__law_bent.nd rfl (by first | exact Or.inl rfl | exact Or.inr rfl) (de_op od_add (de_slice (de_var 2) do_none (do_some (de_var 4))) (de_slice (de_var 2) (do_some (de_op od_add (de_var 4) de_int)) do_none)))) dss_nil)) (dsst_cons (dst_of (ds_if (dt_cmp (od_eq hr.u200) (de_var 6) de_int (nomark _)) (dss_one (ds_set (i := 2) sc__law_bent.nd rfl (by first | exact Or.inl rfl | exact Or.inr rfl) (de_op od_add (de_op od_add (de_slice (de_var 2) do_none (do_some (de_var 4))) (de_lst (da_cons (de_ix (de_var 2) (de_var 4)) da_nil))) (de_slice (de_var 2) (do_some (de_var 4)) do_none)))) dss_nil)) (dsst_cons (dst_of (ds_if (dt_cmp (od_eq hr.u200) (de_var 6) de_int (nomark _)) (dss_one (ds_set (i := 2) sc__law_bent.nd rfl (by first | exact Or.inl rfl | exact Or.inr rfl) (de_op od_add (de_op od_add (de_slice (de_var 2) do_none (do_some (de_var 4))) (de_lst (da_cons (de_var 5) da_nil))) (de_slice (de_var 2) (do_some (de_op od_add (de_var 4) de_int)) do_none)))) dss_nil)) (dsst_cons (dst_of (ds_if (dt_cmp (od_eq hr.u200) (de_var 6) de_int (nomark _)) (dss_one (ds_set (i := 2) sc__law_bent.nd rfl (by first | exact Or.inl rfl | exact Or.inr rfl) (de_op od_add (de_op od_add (de_slice (de_var 2) do_none (do_some (de_var 4))) (de_lst (da_cons (de_var 5) da_nil))) (de_slice (de_var 2) (do_some (de_var 4)) do_none)))) dss_nil)) (dsst_cons (dst_of (ds_if (dt_cmp (od_eq hr.u200) (de_var 6) de_int (nomark _)) (dss_one (ds_set (i := 2) sc__law_bent.nd rfl (by first | exact Or.inl rfl | exact Or.inr rfl) (de_op od_add (de_slice (de_var 2) do_none (do_some (de_var 4))) (de_rev (de_slice (de_var 2) (do_some (de_var 4)) do_none) (do_some (de_neg de_int)))))) dss_nil)) (dsst_cons (dst_of (ds_if (dt_cmp (od_eq hr.u200) (de_var 6) de_int (nomark _)) (dss_one (ds_set (i := 2) sc__law_bent.nd rfl (by first | exact Or.inl rfl | exact Or.inr rfl) (de_slice (de_var 2) (do_some de_int) (do_some (de_neg de_int))))) dss_nil)) (dsst_cons (dst_of (ds_if (dt_cmp (od_eq hr.u200) (de_var 6) de_int (nomark _)) (dss_one (ds_set (i := 2) sc__law_bent.nd rfl (by first | exact Or.inl rfl | exact Or.inr rfl) (de_op od_add (de_op od_add (de_lst (da_cons de_str da_nil)) (de_var 2)) (de_lst (da_cons de_str da_nil))))) dss_nil)) (dsst_cons (dst_if (dt_cmp (od_eq hr.u200) (de_var 6) de_int (nomark _)) (dsst_one (dst_ret (det_rep1 (de_var 1)))) (dsst_of dss_nil)) (dsst_cons (dst_if (dt_cmp (od_eq hr.u200) (de_var 6) de_int (nomark _)) (dsst_one (dst_ret (det_ix (det_lst (dat_cons (det_of (de_op od_add de_str (de_var 1))) (dat_cons (det_of (de_op od_add (de_var 1) de_str)) (dat_cons (det_repA (de_var 1)) (dat_cons (det_of (de_op od_add (de_var 1) de_str)) (dat_cons (det_rep1 (de_var 1)) dat_nil)))))) (de_op od_mod (de_var 4) de_int)))) (dsst_of dss_nil)) (dsst_of (dss_one (ds_ret (de_bm PySem.F.plainAttrs_str PySem.F.slot_str_join PySem.F.type_str_join md_join de_str (da_cons (de_var 2) da_nil)))))))))))))))))))
/-! ### _law_from -/
abbrev s__law_from : Stmt := topS 34
abbrev N__law_from : List Str := ["_law_words", "_law_at", "_law_word", "_law_one", "_law_other", "_law_kind_here", "_law_sign"]
abbrev P__law_from : List Str := ["_law_words", "_law_at"]
theorem sc__law_from : FnScope N__law_from P__law_from (defScope s__law_from) := ⟨rfl, rfl, rfl, by decide +kernel, rfl, by decide +kernel, by decide +kernel⟩
def g__law_from (sp__law_from : DSp) : GS :=
  (gSeq (gIf (fOr (fTest (fOp rGeD (fVar 1) (fCB rLenD (fCons (fVar 0) fNil)))) (fTest (fOp (rInD false) (fOp rIxD (fVar 0) (fVar 1)) (fLst (fCons (fC (.str "")) (fCons (fC (.str ")")) (fCons (fC (.str "->")) (fCons (fC (.str "*")) fNil)))))))) (gRet (fC .non)) gNext) (gSeq (gSet (fOp rIxD (fVar 0) (fVar 1)) 2) (gSeq (gIf (fTest (fOp (rEqD false) (fVar 2) (fC (.str "1")))) (gRet (fLst (fCons (fTup (fCons (fC (.str "one")) fNil)) (fCons (fOp rAddD (fVar 1) (fC (.int 1))) (fCons (fC (.int 1)) (fCons (fC (.int 0)) fNil)))))) gNext) (gSeq (gIf (fTest (fOp (rEqD true) (fVar 2) (fC (.str "(")))) (gSeq (gIf (fOr (fTest (fOp rGtD (fCB rLenD (fCons (fVar 2) fNil)) (fC (.int 6)))) (fTest (fOp (rEqD true) (fLc (fiStr (fVar 2)) (.nm 6) (fTest (fOp (rInD true) (fVar 6) (fC (.str "abcdefghijklmnopqrstuvwxyz")))) (fVar 6) [6]) (fLst fNil)))) (gRet (fC .non)) gNext) (gRet (fLst (fCons (fTup (fCons (fC (.str "mark")) (fCons (fVar 2) fNil))) (fCons (fOp rAddD (fVar 1) (fC (.int 1))) (fCons (fC (.int 1)) (fCons (fC (.int 0)) fNil))))))) gNext) (gSeq (gSet (fCall sp__law_from (fCons (fVar 0) (fCons (fOp rAddD (fVar 1) (fC (.int 1))) fNil))) 3) (gSeq (gIf (fOr (fTest (fOp (rIsN false) (fVar 3) (fC .non))) (fTest (fOp (rInD true) (fSl rSlD (fVar 0) (fPart (fOp rIxD (fVar 3) (fC (.int 1)))) (fPart (fOp rAddD (fOp rIxD (fVar 3) (fC (.int 1))) (fC (.int 1))))) (fLst (fCons (fLst (fCons (fC (.str "->")) fNil)) (fCons (fLst (fCons (fC (.str "*")) fNil)) fNil)))))) (gRet (fC .non)) gNext) (gSeq (gSet (fCall sp__law_from (fCons (fVar 0) (fCons (fOp rAddD (fOp rIxD (fVar 3) (fC (.int 1))) (fC (.int 1))) fNil))) 4) (gSeq (gIf (fOr (fTest (fOp (rIsN false) (fVar 4) (fC .non))) (fTest (fOp (rEqD true) (fSl rSlD (fVar 0) (fPart (fOp rIxD (fVar 4) (fC (.int 1)))) (fPart (fOp rAddD (fOp rIxD (fVar 4) (fC (.int 1))) (fC (.int 1))))) (fLst (fCons (fC (.str ")")) fNil))))) (gRet (fC .non)) gNext) (gSeq (gSet (fTup (fCons (fOp rIxD (fLst (fCons (fC (.str "to")) (fCons (fC (.str "both")) fNil))) (fCB rInt1 (fCons (fOp (rEqD false) (fOp rIxD (fVar 0) (fOp rIxD (fVar 3) (fC (.int 1)))) (fC (.str "*"))) fNil))) (fCons (fOp rIxD (fVar 3) (fC (.int 0))) (fCons (fOp rIxD (fVar 4) (fC (.int 0))) fNil)))) 5) (gRet (fLst (fCons (fVar 5) (fCons (fOp rAddD (fOp rIxD (fVar 4) (fC (.int 1))) (fC (.int 1))) (fCons (fOp rAddD (fOp rIxD (fVar 3) (fC (.int 2))) (fOp rIxD (fVar 4) (fC (.int 2)))) (fCons (fOp rAddD (fC (.int 1)) (fCB rMax2 (fCons (fOp rIxD (fVar 3) (fC (.int 3))) (fCons (fOp rIxD (fVar 4) (fC (.int 3))) fNil)))) fNil)))))))))))))))
theorem der__law_from {P : Program} {w : World} {K : PySem.W.Frag} {mg : Str → Option Value} {base : Heap} {k : Nat} {f : Addr} {sp__law_from : DSp} {a__law_from : Addr} {fd__law_from : FuncData} (n__law_from : Fn K mg "_law_from" s__law_from P__law_from a__law_from fd__law_from) (G__law_from : FnOk P w K mg base CX0 k a__law_from fd__law_from P__law_from (liftSp K sp__law_from)) (m_len : mg "len" = none) (m_int : mg "int" = none) (m_max : mg "max" = none)
    (cdv : Value) (A : Around) (outer : List Env) (s : Shared) (H : Hp) (E : XK) (hr : Room k (A.deeper (envOfC "_law_from" (defScope s__law_from) s.heap.objs.size f cdv))) :
    DSs MT (cxOf CX0 P w K mg base N__law_from "_law_from" (defScope s__law_from) f cdv A outer s H E).nox (defBody s__law_from) (g__law_from sp__law_from) :=
  (dss_cons (ds_if (dt_of (dw_or (dt_cmp od_ge (de_var 1) (de_callB cd_len (by rfl) m_len bb_len (da_cons (de_var 0) da_nil)) (nomark _)) (dw_or1 (dt_cmp (od_in hr.u200) (de_ix (de_var 0) (de_var 1)) (de_lst (da_cons de_str (da_cons de_str (da_cons de_str (da_cons de_str da_nil))))) (by rfl))))) (dss_one (ds_ret de_non)) dss_nil) (dss_cons (ds_set (i := 2) sc__law_from.nd rfl (by first | exact Or.inl rfl | exact Or.inr rfl) (de_ix (de_var 0) (de_var 1))) (dss_cons (ds_if (dt_cmp (od_eq hr.u200) (de_var 2) de_str (nomark _)) (dss_one (ds_ret (de_lst (da_cons (de_tup (da_cons de_str da_nil)) (da_cons (de_op od_add (de_var 1) de_int) (da_cons de_int (da_cons de_int da_nil))))))) dss_nil) (dss_cons (ds_if (dt_cmp (od_ne hr.u200) (de_var 2) de_str (nomark _)) (dss_cons (ds_if (dt_of (dw_or (dt_cmp od_gt (de_callB cd_len (by rfl) m_len bb_len (da_cons (de_var 2) da_nil)) de_int (nomark _)) (dw_or1 (dt_cmp (od_ne hr.u200) (de_lc (by rfl) sc__law_from.nd (di_str (de_var 2)) (blkOk_by (own := [("_law_sign", 6)]) (N := N__law_from) (sc := defScope s__law_from) (by decide +kernel)) (fun _ _ _ _ _ => (dp_name (i := 6) sc__law_from.nd (by rfl) (by first | exact Or.inl rfl | exact Or.inr rfl))) (fun _ _ _ _ _ => (dts_one (dt_cmp (od_notin hr.u200) (de_var 6) de_str (by rfl)))) (fun _ _ _ _ _ => (de_var 6))) (de_lst da_nil) (nomark _))))) (dss_one (ds_ret de_non)) dss_nil) (dss_one (ds_ret (de_lst (da_cons (de_tup (da_cons de_str (da_cons (de_var 2) da_nil))) (da_cons (de_op od_add (de_var 1) de_int) (da_cons de_int (da_cons de_int da_nil)))))))) dss_nil) (dss_cons (ds_set (i := 3) sc__law_from.nd rfl (by first | exact Or.inl rfl | exact Or.inr rfl) (de_callN n__law_from G__law_from hr (by rfl) (da_cons (de_var 0) (da_cons (de_op od_add (de_var 1) de_int) da_nil)))) (dss_cons (ds_if (dt_of (dw_or (dt_cmp od_is (de_var 3) de_non (nomark _)) (dw_or1 (dt_cmp (od_notin hr.u200) (de_slice (de_var 0) (do_some (de_ix (de_var 3) de_int)) (do_some (de_op od_add (de_ix (de_var 3) de_int) de_int))) (de_lst (da_cons (de_lst (da_cons de_str da_nil)) (da_cons (de_lst (da_cons de_str da_nil)) da_nil))) (by rfl))))) (dss_one (ds_ret de_non)) dss_nil) (dss_cons (ds_set (i := 4) sc__law_from.nd rfl (by first | exact Or.inl rfl | exact Or.inr rfl) (de_callN n__law_from G__law_from hr (by rfl) (da_cons (de_var 0) (da_cons (de_op od_add (de_ix (de_var 3) de_int) de_int) da_nil)))) (dss_cons (ds_if (dt_of (dw_or (dt_cmp od_is (de_var 4) de_non (nomark _)) (dw_or1 (dt_cmp (od_ne hr.u200) (de_slice (de_var 0) (do_some (de_ix (de_var 4) de_int)) (do_some (de_op od_add (de_ix (de_var 4) de_int) de_int))) (de_lst (da_cons de_str da_nil)) (nomark _))))) (dss_one (ds_ret de_non)) dss_nil) (dss_cons (ds_set (i := 5) sc__law_from.nd rfl (by first | exact Or.inl rfl | exact Or.inr rfl) (de_tup (da_cons (de_ix (de_lst (da_cons de_str (da_cons de_str da_nil))) (de_callTy cd_int1 (by rfl) m_int bb_int (da_cons (de_cmp (od_eq hr.u200) (de_ix (de_var 0) (de_ix (de_var 3) de_int)) de_str (nomark _)) da_nil))) (da_cons (de_ix (de_var 3) de_int) (da_cons (de_ix (de_var 4) de_int) da_nil))))) (dss_one (ds_ret (de_lst (da_cons (de_var 5) (da_cons (de_op od_add (de_ix (de_var 4) de_int) de_int) (da_cons (de_op od_add (de_ix (de_var 3) de_int) (de_ix (de_var 4) de_int)) (da_cons (de_op od_add de_int (de_callB (cd_max2 (by rfl)) (by rfl) m_max bb_max (da_cons (de_ix (de_var 3) de_int) (da_cons (de_ix (de_var 4) de_int) da_nil)))) da_nil))))))))))))))))
/-! ### _law_due -/
abbrev s__law_due : Stmt := topS 35
abbrev N__law_due : List Str := ["_law_text_here", "_law_words", "_law_found"]
abbrev P__law_due : List Str := ["_law_text_here"]
theorem sc__law_due : FnScope N__law_due P__law_due (defScope s__law_due) := ⟨rfl, rfl, rfl, by decide +kernel, rfl, by decide +kernel, by decide +kernel⟩
def g__law_due (sp__law_from : DSp) : GS :=
  (gSeq (gSet (fBM "str" rSplitD (fVar 0) (fCons (fC (.str " ")) fNil)) 1) (gSeq (gSet (fCall sp__law_from (fCons (fVar 1) (fCons (fC (.int 0)) fNil))) 2) (gSeq (gIf (fOr (fTest (fOp (rIsN false) (fVar 2) (fC .non))) (fOr (fTest (fOp (rEqD true) (fOp rIxD (fVar 2) (fC (.int 1))) (fCB rLenD (fCons (fVar 1) fNil)))) (fOr (fTest (fOp rGtD (fOp rIxD (fVar 2) (fC (.int 2))) (fC (.int 24)))) (fTest (fOp rGtD (fOp rIxD (fVar 2) (fC (.int 3))) (fC (.int 12))))))) (gRet (fC .non)) gNext) (gRet (fOp rIxD (fVar 2) (fC (.int 0)))))))
theorem der__law_due {P : Program} {w : World} {K : PySem.W.Frag} {mg : Str → Option Value} {base : Heap} {k : Nat} {f : Addr} {sp__law_from : DSp} {a__law_from : Addr} {fd__law_from : FuncData} (n__law_from : Fn K mg "_law_from" s__law_from P__law_from a__law_from fd__law_from) (G__law_from : FnOk P w K mg base CX0 k a__law_from fd__law_from P__law_from (liftSp K sp__law_from)) (m_len : mg "len" = none)
    (cdv : Value) (A : Around) (outer : List Env) (s : Shared) (H : Hp) (E : XK) (hr : Room k (A.deeper (envOfC "_law_due" (defScope s__law_due) s.heap.objs.size f cdv))) :
    DSs MT (cxOf CX0 P w K mg base N__law_due "_law_due" (defScope s__law_due) f cdv A outer s H E).nox (defBody s__law_due) (g__law_due sp__law_from) :=
  (dss_cons (ds_set (i := 1) sc__law_due.nd rfl (by first | exact Or.inl rfl | exact Or.inr rfl) (de_bm PySem.F.plainAttrs_str PySem.F.slot_str_split PySem.F.type_str_split md_split (de_var 0) (da_cons de_str da_nil))) (dss_cons (ds_set (i := 2) sc__law_due.nd rfl (by first | exact Or.inl rfl | exact Or.inr rfl) (de_callN n__law_from G__law_from hr (by rfl) (da_cons (de_var 1) (da_cons de_int da_nil)))) (dss_cons (ds_if (dt_of (dw_or (dt_cmp od_is (de_var 2) de_non (nomark _)) (dw_or (dt_cmp (od_ne hr.u200) (de_ix (de_var 2) de_int) (de_callB cd_len (by rfl) m_len bb_len (da_cons (de_var 1) da_nil)) (nomark _)) (dw_or (dt_cmp od_gt (de_ix (de_var 2) de_int) de_int (nomark _)) (dw_or1 (dt_cmp od_gt (de_ix (de_var 2) de_int) de_int (nomark _))))))) (dss_one (ds_ret de_non)) dss_nil) (dss_one (ds_ret (de_ix (de_var 2) de_int))))))
/-! ### _law_read -/
abbrev s__law_read : Stmt := topS 36
abbrev N__law_read : List Str := ["_law_text_here", "_law_found", "_law_error", "e"]
abbrev P__law_read : List Str := ["_law_text_here"]
theorem sc__law_read : FnScope N__law_read P__law_read (defScope s__law_read) := ⟨rfl, rfl, rfl, by decide +kernel, rfl, by decide +kernel, by decide +kernel⟩
def g__law_read (sp_read_kind : DSp) (K : PySem.W.Frag) (C_KindError C_NoKind C_NoText C_NoFit C_NoName C_NoNumber C_NoRow C_TooLong C_TooMany : Addr) : GS :=
  (gSeq (gSet (fC .non) 1) (gSeq (gSet (fC .non) 2) (gSeq (gTryKp K (.ref C_KindError) 3 (fun RX => (gSet (fCallX sp_read_kind RX (fCons (fVar 0) fNil)) 1)) (fun a cls fs => (gSet (fVar 3) 2)) RX0) (gSeq (gIf (fTest (fOp (rIsN false) (fVar 2) (fC .non))) (gRet (fTup (fCons (fC (.str "told")) (fCons (fVar 1) fNil)))) gNext) (gSeq (gIf (fOr (fNot (fTest (fCB (rIsXD K) (fCons (fVar 2) (fCons (fC (.ref C_NoKind)) fNil))))) (fNot (fTest (fCB (rIsXD K) (fCons (fVar 2) (fCons (fC (.ty "ValueError")) fNil)))))) (gRet (fC (.str "other"))) gNext) (gSeq (gIf (fTest (fCB (rIsXD K) (fCons (fVar 2) (fCons (fTup (fCons (fC (.ref C_NoText)) (fCons (fC (.ref C_NoFit)) (fCons (fC (.ref C_NoName)) (fCons (fC (.ref C_NoNumber)) (fCons (fC (.ref C_NoRow)) (fCons (fC (.ref C_TooLong)) (fCons (fC (.ref C_TooMany)) fNil)))))))) fNil)))) (gRet (fC (.str "other"))) gNext) (gRet (fC .non))))))))
theorem der__law_read {P : Program} {w : World} {K : PySem.W.Frag} {mg : Str → Option Value} {base : Heap} {k : Nat} {f : Addr} {sp_read_kind : DSp} {C_KindError C_NoKind C_NoText C_NoFit C_NoName C_NoNumber C_NoRow C_TooLong C_TooMany : Addr} {a_read_kind : Addr} {fd_read_kind : FuncData} (n_read_kind : Fn K mg "read_kind" s_read_kind P_read_kind a_read_kind fd_read_kind) (G_read_kind : FnOk P w K mg base (L2.CX P w) k a_read_kind fd_read_kind P_read_kind (liftSp K sp_read_kind)) (m_isinstance : mg "isinstance" = none) (m_ValueError : mg "ValueError" = none) (k_KindError : Cl K mg "KindError" C_KindError) (k_NoKind : Cl K mg "NoKind" C_NoKind) (k_NoText : Cl K mg "NoText" C_NoText) (k_NoFit : Cl K mg "NoFit" C_NoFit) (k_NoName : Cl K mg "NoName" C_NoName) (k_NoNumber : Cl K mg "NoNumber" C_NoNumber) (k_NoRow : Cl K mg "NoRow" C_NoRow) (k_TooLong : Cl K mg "TooLong" C_TooLong) (k_TooMany : Cl K mg "TooMany" C_TooMany)
    (cdv : Value) (A : Around) (outer : List Env) (s : Shared) (H : Hp) (E : XK) (hr : Room k (A.deeper (envOfC "_law_read" (defScope s__law_read) s.heap.objs.size f cdv))) :
    DSs MT (cxOf CX0 P w K mg base N__law_read "_law_read" (defScope s__law_read) f cdv A outer s H E).nox (defBody s__law_read) (g__law_read sp_read_kind K C_KindError C_NoKind C_NoText C_NoFit C_NoName C_NoNumber C_NoRow C_TooLong C_TooMany) :=
  (dss_cons (ds_set (i := 1) sc__law_read.nd rfl (by first | exact Or.inl rfl | exact Or.inr rfl) de_non) (dss_cons (ds_set (i := 2) sc__law_read.nd rfl (by first | exact Or.inl rfl | exact Or.inr rfl) de_non) (dss_cons (ds_try_keep (i := 3) sc__law_read.nd rfl rfl ⟨rfl, by decide, .inl k_KindError.g⟩ takes0 outs0 (fun RX W pn xe tk hp => (dss_one (ds_set (i := 1) sc__law_read.nd rfl (by first | exact Or.inl rfl | exact Or.inr rfl) (de_callX n_read_kind G_read_kind hr tk (by rfl) (da_cons (de_var 0) da_nil))))) (fun fs a oe cls d pn hz hf => (dss_one (ds_set (i := 2) sc__law_read.nd rfl (by first | exact Or.inl rfl | exact Or.inr rfl) (de_var 3))))) (dss_cons (ds_if (dt_cmp od_is (de_var 2) de_non (nomark _)) (dss_one (ds_ret (de_tup (da_cons de_str (da_cons (de_var 1) da_nil))))) dss_nil) (dss_cons (ds_if (dt_of (dw_or (dt_not (dt_val (de_callB cd_isX (by rfl) m_isinstance bb_isinstance (da_cons (de_var 2) (da_cons (de_cst (cst_cls k_NoKind) (by rfl)) da_nil))))) (dw_or1 (dt_not (dt_val (de_callB cd_isX (by rfl) m_isinstance bb_isinstance (da_cons (de_var 2) (da_cons (de_ty bb_ValueError m_ValueError (by rfl)) da_nil)))))))) (dss_one (ds_ret de_str)) dss_nil) (dss_cons (ds_if (dt_val (de_callB cd_isX (by rfl) m_isinstance bb_isinstance (da_cons (de_var 2) (da_cons (de_tup (da_cons (de_cst (cst_cls k_NoText) (by rfl)) (da_cons (de_cst (cst_cls k_NoFit) (by rfl)) (da_cons (de_cst (cst_cls k_NoName) (by rfl)) (da_cons (de_cst (cst_cls k_NoNumber) (by rfl)) (da_cons (de_cst (cst_cls k_NoRow) (by rfl)) (da_cons (de_cst (cst_cls k_TooLong) (by rfl)) (da_cons (de_cst (cst_cls k_TooMany) (by rfl)) da_nil)))))))) da_nil)))) (dss_one (ds_ret de_str)) dss_nil) (dss_one (ds_ret de_non))))))))
/-! ### law -/
abbrev s_law : Stmt := topS 37
abbrev N_law : List Str := ["_law_script", "_law_k", "_law_pool_here", "_law_leaves", "_law_kind_here", "_law_text_here", "_law_due_here"]
abbrev P_law : List Str := ["_law_script"]
theorem sc_law : FnScope N_law P_law (defScope s_law) := ⟨rfl, rfl, rfl, by decide +kernel, rfl, by decide +kernel, by decide +kernel⟩
def g_law (sp__law_pool sp__law_take sp__law_kind sp__law_text sp__law_due sp_shown_kind sp__law_bent sp__law_read sp_read_kind : DSp) : GS :=
  (gSeq (gFor (fiRng1 (fCons (fCB rMax2 (fCons (fC (.int 1)) (fCons (fCB rMin2 (fCons (fCB rLenD (fCons (fVar 0) fNil)) (fCons (fC (.int 20)) fNil))) fNil))) fNil)) (.nm 1) (gSeq (gSet (fCall sp__law_pool (fCons (fVar 0) (fCons (fVar 1) fNil))) 2) (gSeq (gSet (fOp rIxD (fLst (fCons (fOp rAddD (fC (.int 1)) (fCall sp__law_take (fCons (fVar 2) (fCons (fC (.int 12)) fNil)))) (fCons (fOp rAddD (fC (.int 22)) (fCall sp__law_take (fCons (fVar 2) (fCons (fC (.int 6)) fNil)))) fNil))) (fCB rInt1 (fCons (fOp (rEqD false) (fCall sp__law_take (fCons (fVar 2) (fCons (fC (.int 5)) fNil))) (fC (.int 4))) fNil))) 3) (gSeq (gSet (fCall sp__law_kind (fCons (fVar 2) (fCons (fVar 3) (fCons (fLst (fCons (fC (.str "a")) (fCons (fC (.str "x")) (fCons (fC (.str "one")) (fCons (fC (.str "to")) (fCons (fC (.str "both")) (fCons (fC (.str "mark")) (fCons (fC (.str "dddddd")) fNil)))))))) fNil)))) 4) (gSeq (gSet (fCall sp__law_text (fCons (fVar 4) fNil)) 5) (gSeq (gIf (fAnd (fTest (fOp (rIsN true) (fCall sp__law_due (fCons (fVar 5) fNil)) (fC .non))) (fTest (fOp (rEqD true) (fCall sp_shown_kind (fCons (fVar 4) fNil)) (fVar 5)))) (gRet (fC (.bl false))) gNext) (gSeq (gIf (fTest (fOp rGtD (fCall sp__law_take (fCons (fVar 2) (fCons (fC (.int 3)) fNil))) (fC (.int 0)))) (gSet (fCall sp__law_bent (fCons (fVar 2) (fCons (fVar 5) fNil))) 5) gNext) (gSeq (gSet (fCall sp__law_due (fCons (fVar 5) fNil)) 6) (gSeq (gIf (fTest (fOp (rEqD true) (fCall sp__law_read (fCons (fVar 5) fNil)) (fOp rIxD (fLst (fCons (fC .non) (fCons (fTup (fCons (fC (.str "told")) (fCons (fVar 6) fNil))) fNil))) (fCB rInt1 (fCons (fOp (rIsN true) (fVar 6) (fC .non)) fNil))))) (gRet (fC (.bl false))) gNext) (gIf (fAnd (fTest (fOp (rIsN true) (fVar 6) (fC .non))) (fTest (fOp (rEqD true) (fCall sp_shown_kind (fCons (fCallX sp_read_kind RX0 (fCons (fVar 5) fNil)) fNil)) (fVar 5)))) (gRet (fC (.bl false))) gNext)))))))))) (gRet (fC (.bl true))))
theorem der_law {P : Program} {w : World} {K : PySem.W.Frag} {mg : Str → Option Value} {base : Heap} {k : Nat} {f : Addr} {sp__law_pool sp__law_take sp__law_kind sp__law_text sp__law_due sp_shown_kind sp__law_bent sp__law_read sp_read_kind : DSp} {a__law_pool : Addr} {fd__law_pool : FuncData} (n__law_pool : Fn K mg "_law_pool" s__law_pool P__law_pool a__law_pool fd__law_pool) (G__law_pool : FnOk P w K mg base CX0 k a__law_pool fd__law_pool P__law_pool (liftSp K sp__law_pool)) {a__law_take : Addr} {fd__law_take : FuncData} (n__law_take : Fn K mg "_law_take" s__law_take P__law_take a__law_take fd__law_take) (G__law_take : FnOk P w K mg base CX0 k a__law_take fd__law_take P__law_take (liftSp K sp__law_take)) {a__law_kind : Addr} {fd__law_kind : FuncData} (n__law_kind : Fn K mg "_law_kind" s__law_kind P__law_kind a__law_kind fd__law_kind) (G__law_kind : FnOk P w K mg base CX0 k a__law_kind fd__law_kind P__law_kind (liftSp K sp__law_kind)) {a__law_text : Addr} {fd__law_text : FuncData} (n__law_text : Fn K mg "_law_text" s__law_text P__law_text a__law_text fd__law_text) (G__law_text : FnOk P w K mg base CX0 k a__law_text fd__law_text P__law_text (liftSp K sp__law_text)) {a__law_due : Addr} {fd__law_due : FuncData} (n__law_due : Fn K mg "_law_due" s__law_due P__law_due a__law_due fd__law_due) (G__law_due : FnOk P w K mg base CX0 k a__law_due fd__law_due P__law_due (liftSp K sp__law_due)) {a_shown_kind : Addr} {fd_shown_kind : FuncData} (n_shown_kind : Fn K mg "shown_kind" s_shown_kind P_shown_kind a_shown_kind fd_shown_kind) (G_shown_kind : FnOk P w K mg base CX0 k a_shown_kind fd_shown_kind P_shown_kind (liftSp K sp_shown_kind)) {a__law_bent : Addr} {fd__law_bent : FuncData} (n__law_bent : Fn K mg "_law_bent" s__law_bent P__law_bent a__law_bent fd__law_bent) (G__law_bent : FnOk P w K mg base CX0 k a__law_bent fd__law_bent P__law_bent (liftSp K sp__law_bent)) {a__law_read : Addr} {fd__law_read : FuncData} (n__law_read : Fn K mg "_law_read" s__law_read P__law_read a__law_read fd__law_read) (G__law_read : FnOk P w K mg base CX0 k a__law_read fd__law_read P__law_read (liftSp K sp__law_read)) {a_read_kind : Addr} {fd_read_kind : FuncData} (n_read_kind : Fn K mg "read_kind" s_read_kind P_read_kind a_read_kind fd_read_kind) (G_read_kind : FnOk P w K mg base (L2.CX P w) k a_read_kind fd_read_kind P_read_kind (liftSp K sp_read_kind)) (m_range : mg "range" = none) (m_len : mg "len" = none) (m_min : mg "min" = none) (m_max : mg "max" = none) (m_int : mg "int" = none)
    (cdv : Value) (A : Around) (outer : List Env) (s : Shared) (H : Hp) (E : XK) (hr : Room k (A.deeper (envOfC "law" (defScope s_law) s.heap.objs.size f cdv))) :
    DSs MT (cxOf CX0 P w K mg base N_law "law" (defScope s_law) f cdv A outer s H E).nox (defBody s_law) (g_law sp__law_pool sp__law_take sp__law_kind sp__law_text sp__law_due sp_shown_kind sp__law_bent sp__law_read sp_read_kind) :=
  (dss_cons (ds_for PassesOwn.never rfl (di_range1 (by rfl) m_range (da_cons (de_callB (cd_max2 (by rfl)) (by rfl) m_max bb_max (da_cons de_int (da_cons (de_callB (cd_min2 (by rfl)) (by rfl) m_min bb_min (da_cons (de_callB cd_len (by rfl) m_len bb_len (da_cons (de_var 0) da_nil)) (da_cons de_int da_nil))) da_nil))) da_nil)) (dp_name (i := 1) sc_law.nd (by rfl) (by first | exact Or.inl rfl | exact Or.inr rfl)) (dss_cons (ds_set (i := 2) sc_law.nd rfl (by first | exact Or.inl rfl | exact Or.inr rfl) (de_callN n__law_pool G__law_pool hr (by rfl) (da_cons (de_var 0) (da_cons (de_var 1) da_nil)))) (dss_cons (ds_set (i := 3) sc_law.nd rfl (by first | exact Or.inl rfl | exact Or.inr rfl) (de_ix (de_lst (da_cons (de_op od_add de_int (de_callN n__law_take G__law_take hr (by rfl) (da_cons (de_var 2) (da_cons de_int da_nil)))) (da_cons (de_op od_add de_int (de_callN n__law_take G__law_take hr (by rfl) (da_cons (de_var 2) (da_cons de_int da_nil)))) da_nil))) (de_callTy cd_int1 (by rfl) m_int bb_int (da_cons (de_cmp (od_eq hr.u200) (de_callN n__law_take G__law_take hr (by rfl) (da_cons (de_var 2) (da_cons de_int da_nil))) de_int (nomark _)) da_nil)))) (dss_cons (ds_set (i := 4) sc_law.nd rfl (by first | exact Or.inl rfl | exact Or.inr rfl) (de_callN n__law_kind G__law_kind hr (by rfl) (da_cons (de_var 2) (da_cons (de_var 3) (da_cons (de_lst (da_cons de_str (da_cons de_str (da_cons de_str (da_cons de_str (da_cons de_str (da_cons de_str (da_cons de_str da_nil)))))))) da_nil))))) (dss_cons (ds_set (i := 5) sc_law.nd rfl (by first | exact Or.inl rfl | exact Or.inr rfl) (de_callN n__law_text G__law_text hr (by rfl) (da_cons (de_var 4) da_nil))) (dss_cons (ds_if (dt_of (dw_and (dt_cmp od_isnot (de_callN n__law_due G__law_due hr (by rfl) (da_cons (de_var 5) da_nil)) de_non (nomark _)) (dw_and1 (dt_cmp (od_ne hr.u200) (de_callN n_shown_kind G_shown_kind hr (by rfl) (da_cons (de_var 4) da_nil)) (de_var 5) (nomark _))))) (dss_one (ds_ret de_bl)) dss_nil) (dss_cons (ds_if (dt_cmp od_gt (de_callN n__law_take G__law_take hr (by rfl) (da_cons (de_var 2) (da_cons de_int da_nil))) de_int (nomark _)) (dss_one (ds_set (i := 5) sc_law.nd rfl (by first | exact Or.inl rfl | exact Or.inr rfl) (de_callN n__law_bent G__law_bent hr (by rfl) (da_cons (de_var 2) (da_cons (de_var 5) da_nil))))) dss_nil) (dss_cons (ds_set (i := 6) sc_law.nd rfl (by first | exact Or.inl rfl | exact Or.inr rfl) (de_callN n__law_due G__law_due hr (by rfl) (da_cons (de_var 5) da_nil))) (dss_cons (ds_if (dt_cmp (od_ne hr.u200) (de_callN n__law_read G__law_read hr (by rfl) (da_cons (de_var 5) da_nil)) (de_ix (de_lst (da_cons de_non (da_cons (de_tup (da_cons de_str (da_cons (de_var 6) da_nil))) da_nil))) (de_callTy cd_int1 (by rfl) m_int bb_int (da_cons (de_cmp od_isnot (de_var 6) de_non (nomark _)) da_nil))) (nomark _)) (dss_one (ds_ret de_bl)) dss_nil) (dss_one (ds_if (dt_of (dw_and (dt_cmp od_isnot (de_var 6) de_non (nomark _)) (dw_and1 (dt_cmp (od_ne hr.u200) (de_callN n_shown_kind G_shown_kind hr (by rfl) (da_cons (de_callX0 n_read_kind G_read_kind hr (by rfl) (da_cons (de_var 5) da_nil)) da_nil)) (de_var 5) (nomark _))))) (dss_one (ds_ret de_bl)) dss_nil))))))))))) (dss_one (ds_ret de_bl)))
/-! ### all facts of the text -/
structure TxW (w : World) (K : PySem.W.Frag) (mg : Str → Option Value) where
  a_is_mark : Addr
  fd_is_mark : FuncData
  n_is_mark : Fn K mg "is_mark" s_is_mark P_is_mark a_is_mark fd_is_mark
  a_has_form : Addr
  fd_has_form : FuncData
  n_has_form : Fn K mg "has_form" s_has_form P_has_form a_has_form fd_has_form
  a_is_kind : Addr
  fd_is_kind : FuncData
  n_is_kind : Fn K mg "is_kind" s_is_kind P_is_kind a_is_kind fd_is_kind
  a_leaves_of : Addr
  fd_leaves_of : FuncData
  n_leaves_of : Fn K mg "leaves_of" s_leaves_of P_leaves_of a_leaves_of fd_leaves_of
  a_shown_kind : Addr
  fd_shown_kind : FuncData
  n_shown_kind : Fn K mg "shown_kind" s_shown_kind P_shown_kind a_shown_kind fd_shown_kind
  a_word_at : Addr
  fd_word_at : FuncData
  n_word_at : Fn K mg "word_at" s_word_at P_word_at a_word_at fd_word_at
  a_kind_from : Addr
  fd_kind_from : FuncData
  n_kind_from : Fn K mg "kind_from" s_kind_from P_kind_from a_kind_from fd_kind_from
  a_read_kind : Addr
  fd_read_kind : FuncData
  n_read_kind : Fn K mg "read_kind" s_read_kind P_read_kind a_read_kind fd_read_kind
  a__law_pool : Addr
  fd__law_pool : FuncData
  n__law_pool : Fn K mg "_law_pool" s__law_pool P__law_pool a__law_pool fd__law_pool
  a__law_take : Addr
  fd__law_take : FuncData
  n__law_take : Fn K mg "_law_take" s__law_take P__law_take a__law_take fd__law_take
  a__law_kind : Addr
  fd__law_kind : FuncData
  n__law_kind : Fn K mg "_law_kind" s__law_kind P__law_kind a__law_kind fd__law_kind
  a__law_text : Addr
  fd__law_text : FuncData
  n__law_text : Fn K mg "_law_text" s__law_text P__law_text a__law_text fd__law_text
  a__law_bent : Addr
  fd__law_bent : FuncData
  n__law_bent : Fn K mg "_law_bent" s__law_bent P__law_bent a__law_bent fd__law_bent
  a__law_from : Addr
  fd__law_from : FuncData
  n__law_from : Fn K mg "_law_from" s__law_from P__law_from a__law_from fd__law_from
  a__law_due : Addr
  fd__law_due : FuncData
  n__law_due : Fn K mg "_law_due" s__law_due P__law_due a__law_due fd__law_due
  a__law_read : Addr
  fd__law_read : FuncData
  n__law_read : Fn K mg "_law_read" s__law_read P__law_read a__law_read fd__law_read
  a_law : Addr
  fd_law : FuncData
  n_law : Fn K mg "law" s_law P_law a_law fd_law
  m_len : mg "len" = none
  m_tuple : mg "tuple" = none
  m_isinstance : mg "isinstance" = none
  m_str : mg "str" = none
  m_int : mg "int" = none
  m_max : mg "max" = none
  m_ValueError : mg "ValueError" = none
  m_range : mg "range" = none
  m_min : mg "min" = none
  c_LETTERS : Cst K mg "LETTERS" (.str "abcdefghijklmnopqrstuvwxyz")
  c_LONGEST : Cst K mg "LONGEST" (.int 6)
  c_ONE : Cst K mg "ONE" (.tup [(.str "one")])
  c_MOST_DEPTH : Cst K mg "MOST_DEPTH" (.int 12)
  c_MOST_LEAVES : Cst K mg "MOST_LEAVES" (.int 24)
  c_DEEPEST : Cst K mg "DEEPEST" (.int 12)
  t_SIGNS : CDic K w mg "SIGNS" tab_SIGNS
  C_NoKind : Addr
  C_KindError : Addr
  C_NoText : Addr
  C_NoFit : Addr
  C_NoName : Addr
  C_NoNumber : Addr
  C_NoRow : Addr
  C_TooLong : Addr
  C_TooMany : Addr
  x_NoKind : ExN K mg "NoKind" C_NoKind
  k_KindError : Cl K mg "KindError" C_KindError
  k_NoKind : Cl K mg "NoKind" C_NoKind
  k_NoText : Cl K mg "NoText" C_NoText
  k_NoFit : Cl K mg "NoFit" C_NoFit
  k_NoName : Cl K mg "NoName" C_NoName
  k_NoNumber : Cl K mg "NoNumber" C_NoNumber
  k_NoRow : Cl K mg "NoRow" C_NoRow
  k_TooLong : Cl K mg "TooLong" C_TooLong
  k_TooMany : Cl K mg "TooMany" C_TooMany
  ec_NoKind : ExcC K C_NoKind
  sb_NoKind_KindError : PySem.W.subIn K (.ref C_NoKind) (.ref C_KindError) = some true
  sb_NoKind_ValueError : PySem.W.subIn K (.ref C_NoKind) (.type "ValueError") = some true
  sb_NoKind_NoText : PySem.W.subIn K (.ref C_NoKind) (.ref C_NoText) = some false
  sb_NoKind_NoFit : PySem.W.subIn K (.ref C_NoKind) (.ref C_NoFit) = some false
  sb_NoKind_NoName : PySem.W.subIn K (.ref C_NoKind) (.ref C_NoName) = some false
  sb_NoKind_NoNumber : PySem.W.subIn K (.ref C_NoKind) (.ref C_NoNumber) = some false
  sb_NoKind_NoRow : PySem.W.subIn K (.ref C_NoKind) (.ref C_NoRow) = some false
  sb_NoKind_TooLong : PySem.W.subIn K (.ref C_NoKind) (.ref C_TooLong) = some false
  sb_NoKind_TooMany : PySem.W.subIn K (.ref C_NoKind) (.ref C_TooMany) = some false
section
variable {P : Program} {w : World} {K : PySem.W.Frag} {mg : Str → Option Value} {base : Heap}
abbrev FO_is_mark (P : Program) (w : World) (base : Heap) (T : TxW w K mg) (k : Nat) (sp : DSp) : Prop := FnOk P w K mg base CX0 k T.a_is_mark T.fd_is_mark P_is_mark (liftSp K sp)
abbrev FO_has_form (P : Program) (w : World) (base : Heap) (T : TxW w K mg) (k : Nat) (sp : DSp) : Prop := FnOk P w K mg base CX0 k T.a_has_form T.fd_has_form P_has_form (liftSp K sp)
abbrev FO_is_kind (P : Program) (w : World) (base : Heap) (T : TxW w K mg) (k : Nat) (sp : DSp) : Prop := FnOk P w K mg base CX0 k T.a_is_kind T.fd_is_kind P_is_kind (liftSp K sp)
abbrev FO_leaves_of (P : Program) (w : World) (base : Heap) (T : TxW w K mg) (k : Nat) (sp : DSp) : Prop := FnOk P w K mg base CX0 k T.a_leaves_of T.fd_leaves_of P_leaves_of (liftSp K sp)
abbrev FO_shown_kind (P : Program) (w : World) (base : Heap) (T : TxW w K mg) (k : Nat) (sp : DSp) : Prop := FnOk P w K mg base CX0 k T.a_shown_kind T.fd_shown_kind P_shown_kind (liftSp K sp)
abbrev FO_word_at (P : Program) (w : World) (base : Heap) (T : TxW w K mg) (k : Nat) (sp : DSp) : Prop := FnOk P w K mg base CX0 k T.a_word_at T.fd_word_at P_word_at (liftSp K sp)
abbrev FO_kind_from (P : Program) (w : World) (base : Heap) (T : TxW w K mg) (k : Nat) (sp : DSp) : Prop := FnOk P w K mg base CX0 k T.a_kind_from T.fd_kind_from P_kind_from (liftSp K sp)
abbrev FO_read_kind (P : Program) (w : World) (base : Heap) (T : TxW w K mg) (k : Nat) (sp : DSp) : Prop := FnOk P w K mg base (L2.CX P w) k T.a_read_kind T.fd_read_kind P_read_kind (liftSp K sp)
abbrev FO__law_pool (P : Program) (w : World) (base : Heap) (T : TxW w K mg) (k : Nat) (sp : DSp) : Prop := FnOk P w K mg base CX0 k T.a__law_pool T.fd__law_pool P__law_pool (liftSp K sp)
abbrev FO__law_take (P : Program) (w : World) (base : Heap) (T : TxW w K mg) (k : Nat) (sp : DSp) : Prop := FnOk P w K mg base CX0 k T.a__law_take T.fd__law_take P__law_take (liftSp K sp)
abbrev FO__law_kind (P : Program) (w : World) (base : Heap) (T : TxW w K mg) (k : Nat) (sp : DSp) : Prop := FnOk P w K mg base CX0 k T.a__law_kind T.fd__law_kind P__law_kind (liftSp K sp)
abbrev FO__law_text (P : Program) (w : World) (base : Heap) (T : TxW w K mg) (k : Nat) (sp : DSp) : Prop := FnOk P w K mg base CX0 k T.a__law_text T.fd__law_text P__law_text (liftSp K sp)
abbrev FO__law_bent (P : Program) (w : World) (base : Heap) (T : TxW w K mg) (k : Nat) (sp : DSp) : Prop := FnOk P w K mg base CX0 k T.a__law_bent T.fd__law_bent P__law_bent (liftSp K sp)
abbrev FO__law_from (P : Program) (w : World) (base : Heap) (T : TxW w K mg) (k : Nat) (sp : DSp) : Prop := FnOk P w K mg base CX0 k T.a__law_from T.fd__law_from P__law_from (liftSp K sp)
abbrev FO__law_due (P : Program) (w : World) (base : Heap) (T : TxW w K mg) (k : Nat) (sp : DSp) : Prop := FnOk P w K mg base CX0 k T.a__law_due T.fd__law_due P__law_due (liftSp K sp)
abbrev FO__law_read (P : Program) (w : World) (base : Heap) (T : TxW w K mg) (k : Nat) (sp : DSp) : Prop := FnOk P w K mg base CX0 k T.a__law_read T.fd__law_read P__law_read (liftSp K sp)
abbrev FO_law (P : Program) (w : World) (base : Heap) (T : TxW w K mg) (k : Nat) (sp : DSp) : Prop := FnOk P w K mg base CX0 k T.a_law T.fd_law P_law (liftSp K sp)
theorem fnd_is_mark {k : Nat} {dsp  : DSp} (T : TxW w K mg) 
    (len : ∀ ds O R RE, dsp ds O R RE → ds.length = 1) (hread : ∀ ds O R RE, dsp ds O R RE → g_is_mark (.str "abcdefghijklmnopqrstuvwxyz") (.int 6) { nx := fun _ O' => R .non O', rt := R } (startD N_is_mark ds) O) : FO_is_mark P w base T (k + 1) dsp :=
  fn_d (g := g_is_mark (.str "abcdefghijklmnopqrstuvwxyz") (.int 6)) T.n_is_mark.F sc_is_mark len (der_is_mark T.m_len T.c_LETTERS T.c_LONGEST) hread
theorem fndG_is_mark {k : Nat} {dsp  : DSp} (T : TxW w K mg) 
    (len : ∀ ds O R RE, dsp ds O R RE → ds.length = 1) (hread : ∀ ds O R RE, dsp ds O R RE → g_is_mark (.str "abcdefghijklmnopqrstuvwxyz") (.int 6) { nx := fun _ O' => VG R .non O', rt := VG R } (startD N_is_mark ds) O) : FO_is_mark P w base T (k + 1) dsp :=
  fn_dG (g := g_is_mark (.str "abcdefghijklmnopqrstuvwxyz") (.int 6)) T.n_is_mark.F sc_is_mark len (der_is_mark T.m_len T.c_LETTERS T.c_LONGEST) hread
theorem fnd_has_form {k : Nat} {dsp sp_is_mark sp_has_form : DSp} (T : TxW w K mg) (G_is_mark : FO_is_mark P w base T k sp_is_mark) (G_has_form : FO_has_form P w base T k sp_has_form)
    (len : ∀ ds O R RE, dsp ds O R RE → ds.length = 2) (hread : ∀ ds O R RE, dsp ds O R RE → g_has_form sp_is_mark sp_has_form (.tup [(.str "one")]) { nx := fun _ O' => R .non O', rt := R } (startD N_has_form ds) O) : FO_has_form P w base T (k + 1) dsp :=
  fn_d (g := g_has_form sp_is_mark sp_has_form (.tup [(.str "one")])) T.n_has_form.F sc_has_form len (der_has_form T.n_is_mark G_is_mark T.n_has_form G_has_form T.m_tuple T.m_isinstance T.m_len T.m_str T.c_ONE) hread
theorem fndG_has_form {k : Nat} {dsp sp_is_mark sp_has_form : DSp} (T : TxW w K mg) (G_is_mark : FO_is_mark P w base T k sp_is_mark) (G_has_form : FO_has_form P w base T k sp_has_form)
    (len : ∀ ds O R RE, dsp ds O R RE → ds.length = 2) (hread : ∀ ds O R RE, dsp ds O R RE → g_has_form sp_is_mark sp_has_form (.tup [(.str "one")]) { nx := fun _ O' => VG R .non O', rt := VG R } (startD N_has_form ds) O) : FO_has_form P w base T (k + 1) dsp :=
  fn_dG (g := g_has_form sp_is_mark sp_has_form (.tup [(.str "one")])) T.n_has_form.F sc_has_form len (der_has_form T.n_is_mark G_is_mark T.n_has_form G_has_form T.m_tuple T.m_isinstance T.m_len T.m_str T.c_ONE) hread
theorem fnd_is_kind {k : Nat} {dsp sp_has_form sp_leaves_of : DSp} (T : TxW w K mg) (G_has_form : FO_has_form P w base T k sp_has_form) (G_leaves_of : FO_leaves_of P w base T k sp_leaves_of)
    (len : ∀ ds O R RE, dsp ds O R RE → ds.length = 1) (hread : ∀ ds O R RE, dsp ds O R RE → g_is_kind sp_has_form sp_leaves_of (.int 12) (.int 24) { nx := fun _ O' => R .non O', rt := R } (startD N_is_kind ds) O) : FO_is_kind P w base T (k + 1) dsp :=
  fn_d (g := g_is_kind sp_has_form sp_leaves_of (.int 12) (.int 24)) T.n_is_kind.F sc_is_kind len (der_is_kind T.n_has_form G_has_form T.n_leaves_of G_leaves_of T.c_MOST_DEPTH T.c_MOST_LEAVES) hread
theorem fndG_is_kind {k : Nat} {dsp sp_has_form sp_leaves_of : DSp} (T : TxW w K mg) (G_has_form : FO_has_form P w base T k sp_has_form) (G_leaves_of : FO_leaves_of P w base T k sp_leaves_of)
    (len : ∀ ds O R RE, dsp ds O R RE → ds.length = 1) (hread : ∀ ds O R RE, dsp ds O R RE → g_is_kind sp_has_form sp_leaves_of (.int 12) (.int 24) { nx := fun _ O' => VG R .non O', rt := VG R } (startD N_is_kind ds) O) : FO_is_kind P w base T (k + 1) dsp :=
  fn_dG (g := g_is_kind sp_has_form sp_leaves_of (.int 12) (.int 24)) T.n_is_kind.F sc_is_kind len (der_is_kind T.n_has_form G_has_form T.n_leaves_of G_leaves_of T.c_MOST_DEPTH T.c_MOST_LEAVES) hread
theorem fnd_leaves_of {k : Nat} {dsp sp_leaves_of : DSp} (T : TxW w K mg) (G_leaves_of : FO_leaves_of P w base T k sp_leaves_of)
    (len : ∀ ds O R RE, dsp ds O R RE → ds.length = 1) (hread : ∀ ds O R RE, dsp ds O R RE → g_leaves_of sp_leaves_of { nx := fun _ O' => R .non O', rt := R } (startD N_leaves_of ds) O) : FO_leaves_of P w base T (k + 1) dsp :=
  fn_d (g := g_leaves_of sp_leaves_of) T.n_leaves_of.F sc_leaves_of len (der_leaves_of T.n_leaves_of G_leaves_of T.m_len) hread
theorem fndG_leaves_of {k : Nat} {dsp sp_leaves_of : DSp} (T : TxW w K mg) (G_leaves_of : FO_leaves_of P w base T k sp_leaves_of)
    (len : ∀ ds O R RE, dsp ds O R RE → ds.length = 1) (hread : ∀ ds O R RE, dsp ds O R RE → g_leaves_of sp_leaves_of { nx := fun _ O' => VG R .non O', rt := VG R } (startD N_leaves_of ds) O) : FO_leaves_of P w base T (k + 1) dsp :=
  fn_dG (g := g_leaves_of sp_leaves_of) T.n_leaves_of.F sc_leaves_of len (der_leaves_of T.n_leaves_of G_leaves_of T.m_len) hread
theorem fnd_shown_kind {k : Nat} {dsp sp_shown_kind : DSp} (T : TxW w K mg) (G_shown_kind : FO_shown_kind P w base T k sp_shown_kind)
    (len : ∀ ds O R RE, dsp ds O R RE → ds.length = 1) (hread : ∀ ds O R RE, dsp ds O R RE → g_shown_kind sp_shown_kind (.tup [(.str "one")]) { nx := fun _ O' => R .non O', rt := R } (startD N_shown_kind ds) O) : FO_shown_kind P w base T (k + 1) dsp :=
  fn_d (g := g_shown_kind sp_shown_kind (.tup [(.str "one")])) T.n_shown_kind.F sc_shown_kind len (der_shown_kind T.n_shown_kind G_shown_kind T.c_ONE) hread
theorem fndG_shown_kind {k : Nat} {dsp sp_shown_kind : DSp} (T : TxW w K mg) (G_shown_kind : FO_shown_kind P w base T k sp_shown_kind)
    (len : ∀ ds O R RE, dsp ds O R RE → ds.length = 1) (hread : ∀ ds O R RE, dsp ds O R RE → g_shown_kind sp_shown_kind (.tup [(.str "one")]) { nx := fun _ O' => VG R .non O', rt := VG R } (startD N_shown_kind ds) O) : FO_shown_kind P w base T (k + 1) dsp :=
  fn_dG (g := g_shown_kind sp_shown_kind (.tup [(.str "one")])) T.n_shown_kind.F sc_shown_kind len (der_shown_kind T.n_shown_kind G_shown_kind T.c_ONE) hread
theorem fnd_word_at {k : Nat} {dsp  : DSp} (T : TxW w K mg) 
    (len : ∀ ds O R RE, dsp ds O R RE → ds.length = 2) (hread : ∀ ds O R RE, dsp ds O R RE → g_word_at  { nx := fun _ O' => R .non O', rt := R } (startD N_word_at ds) O) : FO_word_at P w base T (k + 1) dsp :=
  fn_d (g := g_word_at ) T.n_word_at.F sc_word_at len (der_word_at T.m_len) hread
theorem fndG_word_at {k : Nat} {dsp  : DSp} (T : TxW w K mg) 
    (len : ∀ ds O R RE, dsp ds O R RE → ds.length = 2) (hread : ∀ ds O R RE, dsp ds O R RE → g_word_at  { nx := fun _ O' => VG R .non O', rt := VG R } (startD N_word_at ds) O) : FO_word_at P w base T (k + 1) dsp :=
  fn_dG (g := g_word_at ) T.n_word_at.F sc_word_at len (der_word_at T.m_len) hread
theorem fnd_kind_from {k : Nat} {dsp sp_word_at sp_is_mark sp_kind_from : DSp} (T : TxW w K mg) (G_word_at : FO_word_at P w base T k sp_word_at) (G_is_mark : FO_is_mark P w base T k sp_is_mark) (G_kind_from : FO_kind_from P w base T k sp_kind_from)
    (len : ∀ ds O R RE, dsp ds O R RE → ds.length = 3) (hread : ∀ ds O R RE, dsp ds O R RE → g_kind_from sp_word_at sp_is_mark sp_kind_from (.tup [(.str "one")]) { nx := fun _ O' => R .non O', rt := R } (startD N_kind_from ds) O) : FO_kind_from P w base T (k + 1) dsp :=
  fn_d (g := g_kind_from sp_word_at sp_is_mark sp_kind_from (.tup [(.str "one")])) T.n_kind_from.F sc_kind_from len (der_kind_from T.n_word_at G_word_at T.n_is_mark G_is_mark T.n_kind_from G_kind_from T.c_ONE T.t_SIGNS) hread
theorem fndG_kind_from {k : Nat} {dsp sp_word_at sp_is_mark sp_kind_from : DSp} (T : TxW w K mg) (G_word_at : FO_word_at P w base T k sp_word_at) (G_is_mark : FO_is_mark P w base T k sp_is_mark) (G_kind_from : FO_kind_from P w base T k sp_kind_from)
    (len : ∀ ds O R RE, dsp ds O R RE → ds.length = 3) (hread : ∀ ds O R RE, dsp ds O R RE → g_kind_from sp_word_at sp_is_mark sp_kind_from (.tup [(.str "one")]) { nx := fun _ O' => VG R .non O', rt := VG R } (startD N_kind_from ds) O) : FO_kind_from P w base T (k + 1) dsp :=
  fn_dG (g := g_kind_from sp_word_at sp_is_mark sp_kind_from (.tup [(.str "one")])) T.n_kind_from.F sc_kind_from len (der_kind_from T.n_word_at G_word_at T.n_is_mark G_is_mark T.n_kind_from G_kind_from T.c_ONE T.t_SIGNS) hread
theorem fnd_read_kind {k : Nat} {dsp sp_kind_from sp_is_kind : DSp} (T : TxW w K mg) (G_kind_from : FO_kind_from P w base T k sp_kind_from) (G_is_kind : FO_is_kind P w base T k sp_is_kind)
    (len : ∀ ds O R RE, dsp ds O R RE → ds.length = 1) (hread : ∀ ds O R RE, dsp ds O R RE → g_read_kind sp_kind_from sp_is_kind (.int 12) T.C_NoKind (XG RE) { nx := fun _ O' => VG R .non O', rt := VG R } (startD N_read_kind ds) O) : FO_read_kind P w base T (k + 1) dsp :=
  fn_dX (g := g_read_kind sp_kind_from sp_is_kind (.int 12) T.C_NoKind) T.n_read_kind.F sc_read_kind len (der_read_kind T.n_kind_from G_kind_from T.n_is_kind G_is_kind T.m_len T.c_DEEPEST T.x_NoKind) hread
theorem fnd__law_pool {k : Nat} {dsp  : DSp} (T : TxW w K mg) 
    (len : ∀ ds O R RE, dsp ds O R RE → ds.length = 2) (hread : ∀ ds O R RE, dsp ds O R RE → g__law_pool  { nx := fun _ O' => R .non O', rt := R } (startD N__law_pool ds) O) : FO__law_pool P w base T (k + 1) dsp :=
  fn_d (g := g__law_pool ) T.n__law_pool.F sc__law_pool len (der__law_pool T.m_len) hread
theorem fndG__law_pool {k : Nat} {dsp  : DSp} (T : TxW w K mg) 
    (len : ∀ ds O R RE, dsp ds O R RE → ds.length = 2) (hread : ∀ ds O R RE, dsp ds O R RE → g__law_pool  { nx := fun _ O' => VG R .non O', rt := VG R } (startD N__law_pool ds) O) : FO__law_pool P w base T (k + 1) dsp :=
  fn_dG (g := g__law_pool ) T.n__law_pool.F sc__law_pool len (der__law_pool T.m_len) hread
theorem fnd__law_take {k : Nat} {dsp  : DSp} (T : TxW w K mg) 
    (len : ∀ ds O R RE, dsp ds O R RE → ds.length = 2) (hread : ∀ ds O R RE, dsp ds O R RE → g__law_take  { nx := fun _ O' => R .non O', rt := R } (startD N__law_take ds) O) : FO__law_take P w base T (k + 1) dsp :=
  fn_d (g := g__law_take ) T.n__law_take.F sc__law_take len (der__law_take ) hread
theorem fndG__law_take {k : Nat} {dsp  : DSp} (T : TxW w K mg) 
    (len : ∀ ds O R RE, dsp ds O R RE → ds.length = 2) (hread : ∀ ds O R RE, dsp ds O R RE → g__law_take  { nx := fun _ O' => VG R .non O', rt := VG R } (startD N__law_take ds) O) : FO__law_take P w base T (k + 1) dsp :=
  fn_dG (g := g__law_take ) T.n__law_take.F sc__law_take len (der__law_take ) hread
theorem fnd__law_kind {k : Nat} {dsp sp__law_take sp__law_kind : DSp} (T : TxW w K mg) (G__law_take : FO__law_take P w base T k sp__law_take) (G__law_kind : FO__law_kind P w base T k sp__law_kind)
    (len : ∀ ds O R RE, dsp ds O R RE → ds.length = 3) (hread : ∀ ds O R RE, dsp ds O R RE → g__law_kind sp__law_take sp__law_kind { nx := fun _ O' => R .non O', rt := R } (startD N__law_kind ds) O) : FO__law_kind P w base T (k + 1) dsp :=
  fn_d (g := g__law_kind sp__law_take sp__law_kind) T.n__law_kind.F sc__law_kind len (der__law_kind T.n__law_take G__law_take T.n__law_kind G__law_kind T.m_len) hread
theorem fndG__law_kind {k : Nat} {dsp sp__law_take sp__law_kind : DSp} (T : TxW w K mg) (G__law_take : FO__law_take P w base T k sp__law_take) (G__law_kind : FO__law_kind P w base T k sp__law_kind)
    (len : ∀ ds O R RE, dsp ds O R RE → ds.length = 3) (hread : ∀ ds O R RE, dsp ds O R RE → g__law_kind sp__law_take sp__law_kind { nx := fun _ O' => VG R .non O', rt := VG R } (startD N__law_kind ds) O) : FO__law_kind P w base T (k + 1) dsp :=
  fn_dG (g := g__law_kind sp__law_take sp__law_kind) T.n__law_kind.F sc__law_kind len (der__law_kind T.n__law_take G__law_take T.n__law_kind G__law_kind T.m_len) hread
theorem fnd__law_text {k : Nat} {dsp sp__law_text : DSp} (T : TxW w K mg) (G__law_text : FO__law_text P w base T k sp__law_text)
    (len : ∀ ds O R RE, dsp ds O R RE → ds.length = 1) (hread : ∀ ds O R RE, dsp ds O R RE → g__law_text sp__law_text { nx := fun _ O' => R .non O', rt := R } (startD N__law_text ds) O) : FO__law_text P w base T (k + 1) dsp :=
  fn_d (g := g__law_text sp__law_text) T.n__law_text.F sc__law_text len (der__law_text T.n__law_text G__law_text T.m_len T.m_int) hread
theorem fndG__law_text {k : Nat} {dsp sp__law_text : DSp} (T : TxW w K mg) (G__law_text : FO__law_text P w base T k sp__law_text)
    (len : ∀ ds O R RE, dsp ds O R RE → ds.length = 1) (hread : ∀ ds O R RE, dsp ds O R RE → g__law_text sp__law_text { nx := fun _ O' => VG R .non O', rt := VG R } (startD N__law_text ds) O) : FO__law_text P w base T (k + 1) dsp :=
  fn_dG (g := g__law_text sp__law_text) T.n__law_text.F sc__law_text len (der__law_text T.n__law_text G__law_text T.m_len T.m_int) hread
theorem fnd__law_bent {k : Nat} {dsp sp__law_take : DSp} (T : TxW w K mg) (G__law_take : FO__law_take P w base T k sp__law_take)
    (len : ∀ ds O R RE, dsp ds O R RE → ds.length = 2) (hread : ∀ ds O R RE, dsp ds O R RE → g__law_bent sp__law_take { nx := fun _ O' => R .non O', rt := R } (startD N__law_bent ds) O) : FO__law_bent P w base T (k + 1) dsp :=
  fn_d (g := g__law_bent sp__law_take) T.n__law_bent.F sc__law_bent len (der__law_bent T.n__law_take G__law_take T.m_len) hread
theorem fndG__law_bent {k : Nat} {dsp sp__law_take : DSp} (T : TxW w K mg) (G__law_take : FO__law_take P w base T k sp__law_take)
    (len : ∀ ds O R RE, dsp ds O R RE → ds.length = 2) (hread : ∀ ds O R RE, dsp ds O R RE → g__law_bent sp__law_take { nx := fun _ O' => VG R .non O', rt := VG R } (startD N__law_bent ds) O) : FO__law_bent P w base T (k + 1) dsp :=
  fn_dG (g := g__law_bent sp__law_take) T.n__law_bent.F sc__law_bent len (der__law_bent T.n__law_take G__law_take T.m_len) hread
theorem fnd__law_from {k : Nat} {dsp sp__law_from : DSp} (T : TxW w K mg) (G__law_from : FO__law_from P w base T k sp__law_from)
    (len : ∀ ds O R RE, dsp ds O R RE → ds.length = 2) (hread : ∀ ds O R RE, dsp ds O R RE → g__law_from sp__law_from { nx := fun _ O' => R .non O', rt := R } (startD N__law_from ds) O) : FO__law_from P w base T (k + 1) dsp :=
  fn_d (g := g__law_from sp__law_from) T.n__law_from.F sc__law_from len (der__law_from T.n__law_from G__law_from T.m_len T.m_int T.m_max) hread
theorem fndG__law_from {k : Nat} {dsp sp__law_from : DSp} (T : TxW w K mg) (G__law_from : FO__law_from P w base T k sp__law_from)
    (len : ∀ ds O R RE, dsp ds O R RE → ds.length = 2) (hread : ∀ ds O R RE, dsp ds O R RE → g__law_from sp__law_from { nx := fun _ O' => VG R .non O', rt := VG R } (startD N__law_from ds) O) : FO__law_from P w base T (k + 1) dsp :=
  fn_dG (g := g__law_from sp__law_from) T.n__law_from.F sc__law_from len (der__law_from T.n__law_from G__law_from T.m_len T.m_int T.m_max) hread
theorem fnd__law_due {k : Nat} {dsp sp__law_from : DSp} (T : TxW w K mg) (G__law_from : FO__law_from P w base T k sp__law_from)
    (len : ∀ ds O R RE, dsp ds O R RE → ds.length = 1) (hread : ∀ ds O R RE, dsp ds O R RE → g__law_due sp__law_from { nx := fun _ O' => R .non O', rt := R } (startD N__law_due ds) O) : FO__law_due P w base T (k + 1) dsp :=
  fn_d (g := g__law_due sp__law_from) T.n__law_due.F sc__law_due len (der__law_due T.n__law_from G__law_from T.m_len) hread
theorem fndG__law_due {k : Nat} {dsp sp__law_from : DSp} (T : TxW w K mg) (G__law_from : FO__law_from P w base T k sp__law_from)
    (len : ∀ ds O R RE, dsp ds O R RE → ds.length = 1) (hread : ∀ ds O R RE, dsp ds O R RE → g__law_due sp__law_from { nx := fun _ O' => VG R .non O', rt := VG R } (startD N__law_due ds) O) : FO__law_due P w base T (k + 1) dsp :=
  fn_dG (g := g__law_due sp__law_from) T.n__law_due.F sc__law_due len (der__law_due T.n__law_from G__law_from T.m_len) hread
theorem fnd__law_read {k : Nat} {dsp sp_read_kind : DSp} (T : TxW w K mg) (G_read_kind : FO_read_kind P w base T k sp_read_kind)
    (len : ∀ ds O R RE, dsp ds O R RE → ds.length = 1) (hread : ∀ ds O R RE, dsp ds O R RE → g__law_read sp_read_kind K T.C_KindError T.C_NoKind T.C_NoText T.C_NoFit T.C_NoName T.C_NoNumber T.C_NoRow T.C_TooLong T.C_TooMany { nx := fun _ O' => R .non O', rt := R } (startD N__law_read ds) O) : FO__law_read P w base T (k + 1) dsp :=
  fn_d (g := g__law_read sp_read_kind K T.C_KindError T.C_NoKind T.C_NoText T.C_NoFit T.C_NoName T.C_NoNumber T.C_NoRow T.C_TooLong T.C_TooMany) T.n__law_read.F sc__law_read len (der__law_read T.n_read_kind G_read_kind T.m_isinstance T.m_ValueError T.k_KindError T.k_NoKind T.k_NoText T.k_NoFit T.k_NoName T.k_NoNumber T.k_NoRow T.k_TooLong T.k_TooMany) hread
theorem fndG__law_read {k : Nat} {dsp sp_read_kind : DSp} (T : TxW w K mg) (G_read_kind : FO_read_kind P w base T k sp_read_kind)
    (len : ∀ ds O R RE, dsp ds O R RE → ds.length = 1) (hread : ∀ ds O R RE, dsp ds O R RE → g__law_read sp_read_kind K T.C_KindError T.C_NoKind T.C_NoText T.C_NoFit T.C_NoName T.C_NoNumber T.C_NoRow T.C_TooLong T.C_TooMany { nx := fun _ O' => VG R .non O', rt := VG R } (startD N__law_read ds) O) : FO__law_read P w base T (k + 1) dsp :=
  fn_dG (g := g__law_read sp_read_kind K T.C_KindError T.C_NoKind T.C_NoText T.C_NoFit T.C_NoName T.C_NoNumber T.C_NoRow T.C_TooLong T.C_TooMany) T.n__law_read.F sc__law_read len (der__law_read T.n_read_kind G_read_kind T.m_isinstance T.m_ValueError T.k_KindError T.k_NoKind T.k_NoText T.k_NoFit T.k_NoName T.k_NoNumber T.k_NoRow T.k_TooLong T.k_TooMany) hread
theorem fnd_law {k : Nat} {dsp sp__law_pool sp__law_take sp__law_kind sp__law_text sp__law_due sp_shown_kind sp__law_bent sp__law_read sp_read_kind : DSp} (T : TxW w K mg) (G__law_pool : FO__law_pool P w base T k sp__law_pool) (G__law_take : FO__law_take P w base T k sp__law_take) (G__law_kind : FO__law_kind P w base T k sp__law_kind) (G__law_text : FO__law_text P w base T k sp__law_text) (G__law_due : FO__law_due P w base T k sp__law_due) (G_shown_kind : FO_shown_kind P w base T k sp_shown_kind) (G__law_bent : FO__law_bent P w base T k sp__law_bent) (G__law_read : FO__law_read P w base T k sp__law_read) (G_read_kind : FO_read_kind P w base T k sp_read_kind)
    (len : ∀ ds O R RE, dsp ds O R RE → ds.length = 1) (hread : ∀ ds O R RE, dsp ds O R RE → g_law sp__law_pool sp__law_take sp__law_kind sp__law_text sp__law_due sp_shown_kind sp__law_bent sp__law_read sp_read_kind { nx := fun _ O' => R .non O', rt := R } (startD N_law ds) O) : FO_law P w base T (k + 1) dsp :=
  fn_d (g := g_law sp__law_pool sp__law_take sp__law_kind sp__law_text sp__law_due sp_shown_kind sp__law_bent sp__law_read sp_read_kind) T.n_law.F sc_law len (der_law T.n__law_pool G__law_pool T.n__law_take G__law_take T.n__law_kind G__law_kind T.n__law_text G__law_text T.n__law_due G__law_due T.n_shown_kind G_shown_kind T.n__law_bent G__law_bent T.n__law_read G__law_read T.n_read_kind G_read_kind T.m_range T.m_len T.m_min T.m_max T.m_int) hread
theorem fndG_law {k : Nat} {dsp sp__law_pool sp__law_take sp__law_kind sp__law_text sp__law_due sp_shown_kind sp__law_bent sp__law_read sp_read_kind : DSp} (T : TxW w K mg) (G__law_pool : FO__law_pool P w base T k sp__law_pool) (G__law_take : FO__law_take P w base T k sp__law_take) (G__law_kind : FO__law_kind P w base T k sp__law_kind) (G__law_text : FO__law_text P w base T k sp__law_text) (G__law_due : FO__law_due P w base T k sp__law_due) (G_shown_kind : FO_shown_kind P w base T k sp_shown_kind) (G__law_bent : FO__law_bent P w base T k sp__law_bent) (G__law_read : FO__law_read P w base T k sp__law_read) (G_read_kind : FO_read_kind P w base T k sp_read_kind)
    (len : ∀ ds O R RE, dsp ds O R RE → ds.length = 1) (hread : ∀ ds O R RE, dsp ds O R RE → g_law sp__law_pool sp__law_take sp__law_kind sp__law_text sp__law_due sp_shown_kind sp__law_bent sp__law_read sp_read_kind { nx := fun _ O' => VG R .non O', rt := VG R } (startD N_law ds) O) : FO_law P w base T (k + 1) dsp :=
  fn_dG (g := g_law sp__law_pool sp__law_take sp__law_kind sp__law_text sp__law_due sp_shown_kind sp__law_bent sp__law_read sp_read_kind) T.n_law.F sc_law len (der_law T.n__law_pool G__law_pool T.n__law_take G__law_take T.n__law_kind G__law_kind T.n__law_text G__law_text T.n__law_due G__law_due T.n_shown_kind G_shown_kind T.n__law_bent G__law_bent T.n__law_read G__law_read T.n_read_kind G_read_kind T.m_range T.m_len T.m_min T.m_max T.m_int) hread
end
end Kf
namespace Kf
open PySem PySem.Spec L2
open PyProof.Rows hiding St
/-! ### words -/
abbrev fig : Str := "0123456789"
theorem strOk_iff (z : Str) : PyData.strOk z = true ↔ ∀ c ∈ z.cps.toList, c < 1114112 := by
  unfold PyData.strOk
  rw [Array.all_eq_true_iff_forall_mem]
  simp
theorem len_tl (z : Str) : z.cps.toList.length = z.length := by simp [Str.length]
theorem tl_app (a b : Str) : (a ++ b).cps.toList = a.cps.toList ++ b.cps.toList := by
  show (a.cps ++ b.cps).toList = _
  simp
theorem len_app (a b : Str) : (a ++ b).length = a.length + b.length := Str.length_append a b
theorem ok_app {a b : Str} (ha : PyData.strOk a = true) (hb : PyData.strOk b = true) : PyData.strOk (a ++ b) = true := by
  rw [strOk_iff] at *
  intro c hc
  rw [tl_app] at hc
  rcases List.mem_append.mp hc with h | h
  · exact ha c h
  · exact hb c h
theorem tl_cutS (z : Str) (lo hi : Option Int) : (cutS z lo hi).cps.toList = cut z.cps.toList lo hi := by
  unfold cutS cut
  rw [len_tl]
theorem ok_cut {a : Str} (ha : PyData.strOk a = true) (lo hi : Option Int) : PyData.strOk (cutS a lo hi) = true := by
  rw [strOk_iff] at *
  intro c hc
  rw [tl_cutS] at hc
  exact ha c (List.mem_of_mem_drop (List.mem_of_mem_take hc))
theorem len_cut (a : Str) (lo hi : Option Int) : (cutS a lo hi).length ≤ a.length := cutS_length a lo hi
theorem ok_one {c : Nat} (h : c < 1114112) : PyData.strOk ⟨#[c]⟩ = true := by
  rw [strOk_iff]; intro d hd; simp at hd; omega
/-! ### marks, numbers, names -/
def letB (c : Nat) : Bool := decide (c ∈ abc.cps.toList)
def figB (c : Nat) : Bool := decide (c ∈ fig.cps.toList)
def isMarkB (z : Str) : Bool := z.cps.toList.all letB && (decide (1 ≤ z.length) && decide (z.length ≤ 6))
def isNumB (z : Str) : Bool := z.cps.toList.all figB && (decide (z.cps.toList = [48]) || (!decide (z.cps.toList = []) && !decide (z.cps.toList.head? = some 48)))
def isNameB (z : Str) : Bool := isMarkB z || (decide (cut z.cps.toList none (some 1) = [120]) && (decide (z.length ≤ 3) && isNumB (cutS z (some 1) none)))
def spIsMark : DSp := fun ds O R _ => ∃ z : Str, ds = [.str z] ∧ z.length ≤ 1000 ∧ R (.bl (isMarkB z)) O
def spIsNum : DSp := fun ds O R _ => ∃ z : Str, ds = [.str z] ∧ z.length ≤ 1000 ∧ PyData.strOk z = true ∧ R (.bl (isNumB z)) O
def spIsName : DSp := fun ds O R _ => ∃ z : Str, ds = [.str z] ∧ z.length ≤ 1000 ∧ PyData.strOk z = true ∧ R (.bl (isNameB z)) O
/-- a walk that goes on as long as the signs are of a text -/
theorem for_in {j : Nat} {alph : Str} {R : DEnds} {ρ : DEnv} {O : Ow} (hj : j < ρ.length) : ∀ (cs : List Nat) (x : Option D),
    (cs.all (fun c => decide (c ∈ alph.cps.toList)) = true → ∀ x, R.nx (ρ.set j x) O) → (cs.all (fun c => decide (c ∈ alph.cps.toList)) = false → R.rt (.bl false) O) →
    forD (.nm j) (gIf (fTest (fOp (rInD true) (fVar j) (fC (.str alph)))) (gRet (fC (.bl false))) gNext) R (cs.map fun c => .str ⟨#[c]⟩) (ρ.set j x) O
  | [], x, h, _ => h rfl x
  | c :: cs, x, h, h' => by
    rw [List.map_cons]
    unfold forD
    rw [patD_nm, patGet_s, List.set_set]
    simp only [gIf, fTest, fOp, fVar, fC, List.getElem?_set_self hj, envGet_s]
    refine ⟨c, rfl, _, rfl, ?_⟩
    rw [List.all_cons] at h h'
    by_cases hc : c ∈ alph.cps.toList
    · simp only [hc, decide_true, notX, Bool.not_true, gNext, Bool.true_and] at h h' ⊢
      rw [if_neg Bool.false_ne_true]
      exact for_in hj cs _ h h'
    · simp only [hc, decide_false, notX, Bool.not_false, gRet, fC, Bool.false_and] at h h' ⊢
      rw [if_pos trivial]
      exact h' trivial
theorem so_x : PyData.strOk "x" = true := by decide +kernel
theorem so_0 : PyData.strOk "0" = true := by decide +kernel
theorem so_e : PyData.strOk "" = true := by decide +kernel
theorem tl_x : (Str.ofString "x").cps.toList = [120] := by decide +kernel
theorem tl_0 : (Str.ofString "0").cps.toList = [48] := by decide +kernel
theorem tl_e : (Str.ofString "").cps.toList = [] := by decide +kernel
theorem str_eq (a b : Str) : decide (a = b) = decide (a.cps.toList = b.cps.toList) := by
  by_cases h : a = b
  · subst h; simp
  · rw [decide_eq_false h, decide_eq_false fun e => h (str_ext e)]
end Kf
namespace Kf
open PySem PySem.Spec L2
open PyProof.Rows hiding St
/-! ### things that may be kinds -/
def isPlain : D → Bool
  | .ref _ => false
  | .ty _ => false
  | .scr _ => false
  | _ => true
def strB : D → Bool
  | .str s => isMarkB s
  | _ => false
def hf : Nat → D → Bool
  | 0, _ => false
  | _ + 1, .tup [x] => deq x (.str "one")
  | _ + 1, .tup [x, y] => deq x (.str "mark") && strB y
  | n + 1, .tup [x, y, z] => (deq x (.str "to") || deq x (.str "both")) && (hf n y && hf n z)
  | _, _ => false
def HdOk (x : D) : Prop := isPy x = true ∧ dp x ≤ 64
def StOk (y : D) : Prop := isPlain y = true ∧ ∀ s, y = .str s → s.length ≤ 1000 ∧ PyData.strOk s = true
def ThOk : Nat → D → Prop
  | 0, d => isPlain d = true
  | _ + 1, .tup [x] => HdOk x
  | _ + 1, .tup [x, y] => HdOk x ∧ StOk y
  | n + 1, .tup [x, y, z] => HdOk x ∧ ThOk n y ∧ ThOk n z
  | _ + 1, d => isPlain d = true
def ThAll (d : D) : Prop := ∀ n, ThOk n d
theorem deq_str {x : D} {a : Str} (h : isPy x = true) : deq x (.str a) = true ↔ x = .str a := by
  cases x with
  | str b => rw [deq_s, decide_eq_true_eq]; simp
  | non => simp [deq, toPy, PyData.eqv]
  | bl b => simp [deq, toPy, PyData.eqv]
  | int i => simp [deq, toPy, PyData.eqv]
  | tup ds => simp [deq_ts]
  | lst ds => simp [deq_ls]
  | ref a => simp [isPy] at h
  | ty a => simp [isPy] at h
  | scr a => simp [isPy] at h
  | edic => simp [isPy] at h
theorem pow2_le {d n : Nat} (h : d ≤ n) : 2 ^ d ≤ 2 ^ n := Nat.pow_le_pow_right (by decide) h
theorem leaves_le : ∀ k : Kd, k.leaves ≤ 2 ^ k.depth
  | .mk _ => by simp [Kd.leaves, Kd.depth]
  | .one => by simp [Kd.leaves, Kd.depth]
  | .to a b => by
    have h1 := leaves_le a; have h2 := leaves_le b
    simp only [Kd.leaves, Kd.depth, Nat.pow_succ]
    have := pow2_le (Nat.le_max_left a.depth b.depth); have := pow2_le (Nat.le_max_right a.depth b.depth)
    omega
  | .both a b => by
    have h1 := leaves_le a; have h2 := leaves_le b
    simp only [Kd.leaves, Kd.depth, Nat.pow_succ]
    have := pow2_le (Nat.le_max_left a.depth b.depth); have := pow2_le (Nat.le_max_right a.depth b.depth)
    omega
/-- what has the form is a kind -/
theorem hf_kind : ∀ (n : Nat) (d : D), ThOk n d → hf n d = true → ∃ k : Kd, d = dK k ∧ k.depth < n ∧ k.ok = true ∧ ∀ m ∈ k.marks, isMarkB m = true := by
  intro n
  induction n with
  | zero => intro d _ h; cases h
  | succ n ih =>
    intro d hd h
    match d, hd, h with
    | .tup [x], hd, h =>
      simp only [hf] at h
      simp only [ThOk] at hd
      rw [(deq_str hd.1).mp h]
      exact ⟨.one, rfl, by simp [Kd.depth], rfl, by simp [Kd.marks]⟩
    | .tup [x, y], hd, h =>
      simp only [hf, Bool.and_eq_true] at h
      simp only [ThOk] at hd
      rw [(deq_str hd.1.1).mp h.1]
      obtain ⟨hd1, hd2, hd3⟩ := hd
      match y, h.2, hd3 with
      | .str s, h2, hd3 => exact ⟨.mk s, rfl, by simp [Kd.depth], (hd3 s rfl).2, by intro m hm; simp [Kd.marks] at hm; subst hm; exact h2⟩
    | .tup [x, y, z], hd, h =>
      simp only [hf, Bool.and_eq_true, Bool.or_eq_true] at h
      simp only [ThOk] at hd
      obtain ⟨k1, rfl, h1, o1, m1⟩ := ih y hd.2.1 h.2.1
      obtain ⟨k2, rfl, h2, o2, m2⟩ := ih z hd.2.2 h.2.2
      rcases h.1 with h3 | h3
      · rw [(deq_str hd.1.1).mp h3]
        exact ⟨.to k1 k2, rfl, by simp only [Kd.depth]; omega, by simp [Kd.ok, o1, o2], by intro m hm; simp [Kd.marks] at hm; exact hm.elim (m1 m) (m2 m)⟩
      · rw [(deq_str hd.1.1).mp h3]
        exact ⟨.both k1 k2, rfl, by simp only [Kd.depth]; omega, by simp [Kd.ok, o1, o2], by intro m hm; simp [Kd.marks] at hm; exact hm.elim (m1 m) (m2 m)⟩
theorem hd_str {s : Str} (h : PyData.strOk s = true) : HdOk (.str s) := ⟨by simp [isPy, h], by rw [dpS]; omega⟩
theorem th_dK : ∀ k : Kd, k.ok = true → (∀ m ∈ k.marks, m.length ≤ 1000) → ThAll (dK k)
  | .mk m, h, hl, n => by
    cases n with
    | zero => rfl
    | succ n => exact ⟨hd_str so_mark, rfl, fun s e => by cases e; exact ⟨hl m (by simp [Kd.marks]), h⟩⟩
  | .one, h, hl, n => by
    cases n with
    | zero => rfl
    | succ n => exact hd_str so_one
  | .to a b, h, hl, n => by
    simp only [Kd.ok, Bool.and_eq_true] at h
    cases n with
    | zero => rfl
    | succ n => exact ⟨hd_str so_to, th_dK a h.1 (fun m hm => hl m (by simp [Kd.marks, hm])) n, th_dK b h.2 (fun m hm => hl m (by simp [Kd.marks, hm])) n⟩
  | .both a b, h, hl, n => by
    simp only [Kd.ok, Bool.and_eq_true] at h
    cases n with
    | zero => rfl
    | succ n => exact ⟨hd_str so_both, th_dK a h.1 (fun m hm => hl m (by simp [Kd.marks, hm])) n, th_dK b h.2 (fun m hm => hl m (by simp [Kd.marks, hm])) n⟩
def spForm (n : Nat) : DSp := fun ds O R _ => ∃ (d : D) (r : Nat), ds = [d, .int ((r : Int) - 1)] ∧ r < n ∧ ThOk r d ∧ R (.bl (hf r d)) O
def spIsKd : DSp := fun ds O R _ => ∃ d : D, ds = [d] ∧ ThOk 13 d ∧ (hf 13 d = false → R (.bl false) O) ∧ ∀ k : Kd, d = dK k → hf 13 d = true → R (.bl (decide (k.leaves ≤ 24))) O
end Kf
/-! Kpg: programs as data. -/
namespace Kf
open PySem PySem.Spec L2
open PyProof.Rows hiding St
/-! ### words -/
section
variable {neg : Bool} {O : Ow} {Q : VD}
theorem rIn_ws {z : Str} {ts : List Str} (hz : PyData.strOk z = true) (h : ∀ t ∈ ts, PyData.strOk t = true) : rInD neg (.str z) (.tup (ts.map .str)) O Q = Q (.bl (neg ^^ decide (z ∈ ts))) O := by
  have h1 : isPys (ts.map D.str) = true := by
    rw [isPys_all, List.all_eq_true]
    intro d hd
    obtain ⟨t, ht, rfl⟩ := List.mem_map.mp hd
    simp only [isPy, h t ht]
  have h2 : (ts.map D.str).any (fun x => PyData.eqv (toPy x) (toPy (.str z))) = decide (z ∈ ts) := by
    clear h h1
    induction ts with
    | nil => simp
    | cons t ts ih =>
      have e : PyData.eqv (toPy (.str t)) (toPy (.str z)) = decide (t = z) := deq_s
      rw [List.map_cons, List.any_cons, ih, e]
      by_cases h : t = z
      · subst h; simp
      · have h' : ¬ z = t := fun q => h q.symm
        simp [h, h']
  simp only [rInD, deref_str, deref_tup, isPy, hz, h1, h2, true_and]
  first | rfl | simp [dp, toPy, PyData.depth]
theorem sw_name : PyData.strOk (Str.ofString "name") = true := by decide +kernel
theorem sw_thing : PyData.strOk (Str.ofString "thing") = true := by decide +kernel
theorem sw_take : PyData.strOk (Str.ofString "take") = true := by decide +kernel
theorem sw_give : PyData.strOk (Str.ofString "give") = true := by decide +kernel
theorem sw_pair : PyData.strOk (Str.ofString "pair") = true := by decide +kernel
theorem sw_first : PyData.strOk (Str.ofString "first") = true := by decide +kernel
theorem sw_second : PyData.strOk (Str.ofString "second") = true := by decide +kernel
theorem sw_mark : PyData.strOk (Str.ofString "mark") = true := by decide +kernel
theorem sw_one : PyData.strOk (Str.ofString "one") = true := by decide +kernel
theorem sw_to : PyData.strOk (Str.ofString "to") = true := by decide +kernel
theorem sw_both : PyData.strOk (Str.ofString "both") = true := by decide +kernel
theorem sw_at : PyData.strOk (Str.ofString "at") = true := by decide +kernel
theorem te_name_take : rEqD neg (.str (Str.ofString "name")) (.str (Str.ofString "take")) O Q = Q (.bl neg) O := by
  rw [rEq_s sw_name sw_take, show decide (Str.ofString "name" = Str.ofString "take") = false by decide +kernel]; cases neg <;> rfl
theorem te_name_give : rEqD neg (.str (Str.ofString "name")) (.str (Str.ofString "give")) O Q = Q (.bl neg) O := by
  rw [rEq_s sw_name sw_give, show decide (Str.ofString "name" = Str.ofString "give") = false by decide +kernel]; cases neg <;> rfl
theorem te_name_pair : rEqD neg (.str (Str.ofString "name")) (.str (Str.ofString "pair")) O Q = Q (.bl neg) O := by
  rw [rEq_s sw_name sw_pair, show decide (Str.ofString "name" = Str.ofString "pair") = false by decide +kernel]; cases neg <;> rfl
theorem te_name_first : rEqD neg (.str (Str.ofString "name")) (.str (Str.ofString "first")) O Q = Q (.bl neg) O := by
  rw [rEq_s sw_name sw_first, show decide (Str.ofString "name" = Str.ofString "first") = false by decide +kernel]; cases neg <;> rfl
theorem te_name_second : rEqD neg (.str (Str.ofString "name")) (.str (Str.ofString "second")) O Q = Q (.bl neg) O := by
  rw [rEq_s sw_name sw_second, show decide (Str.ofString "name" = Str.ofString "second") = false by decide +kernel]; cases neg <;> rfl
theorem te_name_to : rEqD neg (.str (Str.ofString "name")) (.str (Str.ofString "to")) O Q = Q (.bl neg) O := by
  rw [rEq_s sw_name sw_to, show decide (Str.ofString "name" = Str.ofString "to") = false by decide +kernel]; cases neg <;> rfl
theorem te_name_both : rEqD neg (.str (Str.ofString "name")) (.str (Str.ofString "both")) O Q = Q (.bl neg) O := by
  rw [rEq_s sw_name sw_both, show decide (Str.ofString "name" = Str.ofString "both") = false by decide +kernel]; cases neg <;> rfl
theorem te_name_one : rEqD neg (.str (Str.ofString "name")) (.str (Str.ofString "one")) O Q = Q (.bl neg) O := by
  rw [rEq_s sw_name sw_one, show decide (Str.ofString "name" = Str.ofString "one") = false by decide +kernel]; cases neg <;> rfl
theorem te_name_mark : rEqD neg (.str (Str.ofString "name")) (.str (Str.ofString "mark")) O Q = Q (.bl neg) O := by
  rw [rEq_s sw_name sw_mark, show decide (Str.ofString "name" = Str.ofString "mark") = false by decide +kernel]; cases neg <;> rfl
theorem te_name_name : rEqD neg (.str (Str.ofString "name")) (.str (Str.ofString "name")) O Q = Q (.bl !neg) O := by
  rw [rEq_s sw_name sw_name, show decide (Str.ofString "name" = Str.ofString "name") = true by decide +kernel]; cases neg <;> rfl
theorem te_name_thing : rEqD neg (.str (Str.ofString "name")) (.str (Str.ofString "thing")) O Q = Q (.bl neg) O := by
  rw [rEq_s sw_name sw_thing, show decide (Str.ofString "name" = Str.ofString "thing") = false by decide +kernel]; cases neg <;> rfl
theorem te_name_at : rEqD neg (.str (Str.ofString "name")) (.str (Str.ofString "at")) O Q = Q (.bl neg) O := by
  rw [rEq_s sw_name sw_at, show decide (Str.ofString "name" = Str.ofString "at") = false by decide +kernel]; cases neg <;> rfl
theorem te_thing_take : rEqD neg (.str (Str.ofString "thing")) (.str (Str.ofString "take")) O Q = Q (.bl neg) O := by
  rw [rEq_s sw_thing sw_take, show decide (Str.ofString "thing" = Str.ofString "take") = false by decide +kernel]; cases neg <;> rfl
theorem te_thing_give : rEqD neg (.str (Str.ofString "thing")) (.str (Str.ofString "give")) O Q = Q (.bl neg) O := by
  rw [rEq_s sw_thing sw_give, show decide (Str.ofString "thing" = Str.ofString "give") = false by decide +kernel]; cases neg <;> rfl
theorem te_thing_pair : rEqD neg (.str (Str.ofString "thing")) (.str (Str.ofString "pair")) O Q = Q (.bl neg) O := by
  rw [rEq_s sw_thing sw_pair, show decide (Str.ofString "thing" = Str.ofString "pair") = false by decide +kernel]; cases neg <;> rfl
theorem te_thing_first : rEqD neg (.str (Str.ofString "thing")) (.str (Str.ofString "first")) O Q = Q (.bl neg) O := by
  rw [rEq_s sw_thing sw_first, show decide (Str.ofString "thing" = Str.ofString "first") = false by decide +kernel]; cases neg <;> rfl
theorem te_thing_second : rEqD neg (.str (Str.ofString "thing")) (.str (Str.ofString "second")) O Q = Q (.bl neg) O := by
  rw [rEq_s sw_thing sw_second, show decide (Str.ofString "thing" = Str.ofString "second") = false by decide +kernel]; cases neg <;> rfl
theorem te_thing_to : rEqD neg (.str (Str.ofString "thing")) (.str (Str.ofString "to")) O Q = Q (.bl neg) O := by
  rw [rEq_s sw_thing sw_to, show decide (Str.ofString "thing" = Str.ofString "to") = false by decide +kernel]; cases neg <;> rfl
theorem te_thing_both : rEqD neg (.str (Str.ofString "thing")) (.str (Str.ofString "both")) O Q = Q (.bl neg) O := by
  rw [rEq_s sw_thing sw_both, show decide (Str.ofString "thing" = Str.ofString "both") = false by decide +kernel]; cases neg <;> rfl
theorem te_thing_one : rEqD neg (.str (Str.ofString "thing")) (.str (Str.ofString "one")) O Q = Q (.bl neg) O := by
  rw [rEq_s sw_thing sw_one, show decide (Str.ofString "thing" = Str.ofString "one") = false by decide +kernel]; cases neg <;> rfl
theorem te_thing_mark : rEqD neg (.str (Str.ofString "thing")) (.str (Str.ofString "mark")) O Q = Q (.bl neg) O := by
  rw [rEq_s sw_thing sw_mark, show decide (Str.ofString "thing" = Str.ofString "mark") = false by decide +kernel]; cases neg <;> rfl
theorem te_thing_name : rEqD neg (.str (Str.ofString "thing")) (.str (Str.ofString "name")) O Q = Q (.bl neg) O := by
  rw [rEq_s sw_thing sw_name, show decide (Str.ofString "thing" = Str.ofString "name") = false by decide +kernel]; cases neg <;> rfl
theorem te_thing_thing : rEqD neg (.str (Str.ofString "thing")) (.str (Str.ofString "thing")) O Q = Q (.bl !neg) O := by
  rw [rEq_s sw_thing sw_thing, show decide (Str.ofString "thing" = Str.ofString "thing") = true by decide +kernel]; cases neg <;> rfl
theorem te_thing_at : rEqD neg (.str (Str.ofString "thing")) (.str (Str.ofString "at")) O Q = Q (.bl neg) O := by
  rw [rEq_s sw_thing sw_at, show decide (Str.ofString "thing" = Str.ofString "at") = false by decide +kernel]; cases neg <;> rfl
theorem te_take_take : rEqD neg (.str (Str.ofString "take")) (.str (Str.ofString "take")) O Q = Q (.bl !neg) O := by
  rw [rEq_s sw_take sw_take, show decide (Str.ofString "take" = Str.ofString "take") = true by decide +kernel]; cases neg <;> rfl
theorem te_take_give : rEqD neg (.str (Str.ofString "take")) (.str (Str.ofString "give")) O Q = Q (.bl neg) O := by
  rw [rEq_s sw_take sw_give, show decide (Str.ofString "take" = Str.ofString "give") = false by decide +kernel]; cases neg <;> rfl
theorem te_take_pair : rEqD neg (.str (Str.ofString "take")) (.str (Str.ofString "pair")) O Q = Q (.bl neg) O := by
  rw [rEq_s sw_take sw_pair, show decide (Str.ofString "take" = Str.ofString "pair") = false by decide +kernel]; cases neg <;> rfl
theorem te_take_first : rEqD neg (.str (Str.ofString "take")) (.str (Str.ofString "first")) O Q = Q (.bl neg) O := by
  rw [rEq_s sw_take sw_first, show decide (Str.ofString "take" = Str.ofString "first") = false by decide +kernel]; cases neg <;> rfl
theorem te_take_second : rEqD neg (.str (Str.ofString "take")) (.str (Str.ofString "second")) O Q = Q (.bl neg) O := by
  rw [rEq_s sw_take sw_second, show decide (Str.ofString "take" = Str.ofString "second") = false by decide +kernel]; cases neg <;> rfl
theorem te_take_to : rEqD neg (.str (Str.ofString "take")) (.str (Str.ofString "to")) O Q = Q (.bl neg) O := by
  rw [rEq_s sw_take sw_to, show decide (Str.ofString "take" = Str.ofString "to") = false by decide +kernel]; cases neg <;> rfl
theorem te_take_both : rEqD neg (.str (Str.ofString "take")) (.str (Str.ofString "both")) O Q = Q (.bl neg) O := by
  rw [rEq_s sw_take sw_both, show decide (Str.ofString "take" = Str.ofString "both") = false by decide +kernel]; cases neg <;> rfl
theorem te_take_one : rEqD neg (.str (Str.ofString "take")) (.str (Str.ofString "one")) O Q = Q (.bl neg) O := by
  rw [rEq_s sw_take sw_one, show decide (Str.ofString "take" = Str.ofString "one") = false by decide +kernel]; cases neg <;> rfl
theorem te_take_mark : rEqD neg (.str (Str.ofString "take")) (.str (Str.ofString "mark")) O Q = Q (.bl neg) O := by
  rw [rEq_s sw_take sw_mark, show decide (Str.ofString "take" = Str.ofString "mark") = false by decide +kernel]; cases neg <;> rfl
theorem te_take_name : rEqD neg (.str (Str.ofString "take")) (.str (Str.ofString "name")) O Q = Q (.bl neg) O := by
  rw [rEq_s sw_take sw_name, show decide (Str.ofString "take" = Str.ofString "name") = false by decide +kernel]; cases neg <;> rfl
theorem te_take_thing : rEqD neg (.str (Str.ofString "take")) (.str (Str.ofString "thing")) O Q = Q (.bl neg) O := by
  rw [rEq_s sw_take sw_thing, show decide (Str.ofString "take" = Str.ofString "thing") = false by decide +kernel]; cases neg <;> rfl
theorem te_take_at : rEqD neg (.str (Str.ofString "take")) (.str (Str.ofString "at")) O Q = Q (.bl neg) O := by
  rw [rEq_s sw_take sw_at, show decide (Str.ofString "take" = Str.ofString "at") = false by decide +kernel]; cases neg <;> rfl
theorem te_give_take : rEqD neg (.str (Str.ofString "give")) (.str (Str.ofString "take")) O Q = Q (.bl neg) O := by
  rw [rEq_s sw_give sw_take, show decide (Str.ofString "give" = Str.ofString "take") = false by decide +kernel]; cases neg <;> rfl
theorem te_give_give : rEqD neg (.str (Str.ofString "give")) (.str (Str.ofString "give")) O Q = Q (.bl !neg) O := by
  rw [rEq_s sw_give sw_give, show decide (Str.ofString "give" = Str.ofString "give") = true by decide +kernel]; cases neg <;> rfl
theorem te_give_pair : rEqD neg (.str (Str.ofString "give")) (.str (Str.ofString "pair")) O Q = Q (.bl neg) O := by
  rw [rEq_s sw_give sw_pair, show decide (Str.ofString "give" = Str.ofString "pair") = false by decide +kernel]; cases neg <;> rfl
theorem te_give_first : rEqD neg (.str (Str.ofString "give")) (.str (Str.ofString "first")) O Q = Q (.bl neg) O := by
  rw [rEq_s sw_give sw_first, show decide (Str.ofString "give" = Str.ofString "first") = false by decide +kernel]; cases neg <;> rfl
theorem te_give_second : rEqD neg (.str (Str.ofString "give")) (.str (Str.ofString "second")) O Q = Q (.bl neg) O := by
  rw [rEq_s sw_give sw_second, show decide (Str.ofString "give" = Str.ofString "second") = false by decide +kernel]; cases neg <;> rfl
theorem te_give_to : rEqD neg (.str (Str.ofString "give")) (.str (Str.ofString "to")) O Q = Q (.bl neg) O := by
  rw [rEq_s sw_give sw_to, show decide (Str.ofString "give" = Str.ofString "to") = false by decide +kernel]; cases neg <;> rfl
theorem te_give_both : rEqD neg (.str (Str.ofString "give")) (.str (Str.ofString "both")) O Q = Q (.bl neg) O := by
  rw [rEq_s sw_give sw_both, show decide (Str.ofString "give" = Str.ofString "both") = false by decide +kernel]; cases neg <;> rfl
theorem te_give_one : rEqD neg (.str (Str.ofString "give")) (.str (Str.ofString "one")) O Q = Q (.bl neg) O := by
  rw [rEq_s sw_give sw_one, show decide (Str.ofString "give" = Str.ofString "one") = false by decide +kernel]; cases neg <;> rfl
theorem te_give_mark : rEqD neg (.str (Str.ofString "give")) (.str (Str.ofString "mark")) O Q = Q (.bl neg) O := by
  rw [rEq_s sw_give sw_mark, show decide (Str.ofString "give" = Str.ofString "mark") = false by decide +kernel]; cases neg <;> rfl
theorem te_give_name : rEqD neg (.str (Str.ofString "give")) (.str (Str.ofString "name")) O Q = Q (.bl neg) O := by
  rw [rEq_s sw_give sw_name, show decide (Str.ofString "give" = Str.ofString "name") = false by decide +kernel]; cases neg <;> rfl
theorem te_give_thing : rEqD neg (.str (Str.ofString "give")) (.str (Str.ofString "thing")) O Q = Q (.bl neg) O := by
  rw [rEq_s sw_give sw_thing, show decide (Str.ofString "give" = Str.ofString "thing") = false by decide +kernel]; cases neg <;> rfl
theorem te_give_at : rEqD neg (.str (Str.ofString "give")) (.str (Str.ofString "at")) O Q = Q (.bl neg) O := by
  rw [rEq_s sw_give sw_at, show decide (Str.ofString "give" = Str.ofString "at") = false by decide +kernel]; cases neg <;> rfl
theorem te_pair_take : rEqD neg (.str (Str.ofString "pair")) (.str (Str.ofString "take")) O Q = Q (.bl neg) O := by
  rw [rEq_s sw_pair sw_take, show decide (Str.ofString "pair" = Str.ofString "take") = false by decide +kernel]; cases neg <;> rfl
theorem te_pair_give : rEqD neg (.str (Str.ofString "pair")) (.str (Str.ofString "give")) O Q = Q (.bl neg) O := by
  rw [rEq_s sw_pair sw_give, show decide (Str.ofString "pair" = Str.ofString "give") = false by decide +kernel]; cases neg <;> rfl
theorem te_pair_pair : rEqD neg (.str (Str.ofString "pair")) (.str (Str.ofString "pair")) O Q = Q (.bl !neg) O := by
  rw [rEq_s sw_pair sw_pair, show decide (Str.ofString "pair" = Str.ofString "pair") = true by decide +kernel]; cases neg <;> rfl
theorem te_pair_first : rEqD neg (.str (Str.ofString "pair")) (.str (Str.ofString "first")) O Q = Q (.bl neg) O := by
  rw [rEq_s sw_pair sw_first, show decide (Str.ofString "pair" = Str.ofString "first") = false by decide +kernel]; cases neg <;> rfl
theorem te_pair_second : rEqD neg (.str (Str.ofString "pair")) (.str (Str.ofString "second")) O Q = Q (.bl neg) O := by
  rw [rEq_s sw_pair sw_second, show decide (Str.ofString "pair" = Str.ofString "second") = false by decide +kernel]; cases neg <;> rfl
theorem te_pair_to : rEqD neg (.str (Str.ofString "pair")) (.str (Str.ofString "to")) O Q = Q (.bl neg) O := by
  rw [rEq_s sw_pair sw_to, show decide (Str.ofString "pair" = Str.ofString "to") = false by decide +kernel]; cases neg <;> rfl
theorem te_pair_both : rEqD neg (.str (Str.ofString "pair")) (.str (Str.ofString "both")) O Q = Q (.bl neg) O := by
  rw [rEq_s sw_pair sw_both, show decide (Str.ofString "pair" = Str.ofString "both") = false by decide +kernel]; cases neg <;> rfl
theorem te_pair_one : rEqD neg (.str (Str.ofString "pair")) (.str (Str.ofString "one")) O Q = Q (.bl neg) O := by
  rw [rEq_s sw_pair sw_one, show decide (Str.ofString "pair" = Str.ofString "one") = false by decide +kernel]; cases neg <;> rfl
theorem te_pair_mark : rEqD neg (.str (Str.ofString "pair")) (.str (Str.ofString "mark")) O Q = Q (.bl neg) O := by
  rw [rEq_s sw_pair sw_mark, show decide (Str.ofString "pair" = Str.ofString "mark") = false by decide +kernel]; cases neg <;> rfl
theorem te_pair_name : rEqD neg (.str (Str.ofString "pair")) (.str (Str.ofString "name")) O Q = Q (.bl neg) O := by
  rw [rEq_s sw_pair sw_name, show decide (Str.ofString "pair" = Str.ofString "name") = false by decide +kernel]; cases neg <;> rfl
theorem te_pair_thing : rEqD neg (.str (Str.ofString "pair")) (.str (Str.ofString "thing")) O Q = Q (.bl neg) O := by
  rw [rEq_s sw_pair sw_thing, show decide (Str.ofString "pair" = Str.ofString "thing") = false by decide +kernel]; cases neg <;> rfl
theorem te_pair_at : rEqD neg (.str (Str.ofString "pair")) (.str (Str.ofString "at")) O Q = Q (.bl neg) O := by
  rw [rEq_s sw_pair sw_at, show decide (Str.ofString "pair" = Str.ofString "at") = false by decide +kernel]; cases neg <;> rfl
theorem te_first_take : rEqD neg (.str (Str.ofString "first")) (.str (Str.ofString "take")) O Q = Q (.bl neg) O := by
  rw [rEq_s sw_first sw_take, show decide (Str.ofString "first" = Str.ofString "take") = false by decide +kernel]; cases neg <;> rfl
theorem te_first_give : rEqD neg (.str (Str.ofString "first")) (.str (Str.ofString "give")) O Q = Q (.bl neg) O := by
  rw [rEq_s sw_first sw_give, show decide (Str.ofString "first" = Str.ofString "give") = false by decide +kernel]; cases neg <;> rfl
theorem te_first_pair : rEqD neg (.str (Str.ofString "first")) (.str (Str.ofString "pair")) O Q = Q (.bl neg) O := by
  rw [rEq_s sw_first sw_pair, show decide (Str.ofString "first" = Str.ofString "pair") = false by decide +kernel]; cases neg <;> rfl
theorem te_first_first : rEqD neg (.str (Str.ofString "first")) (.str (Str.ofString "first")) O Q = Q (.bl !neg) O := by
  rw [rEq_s sw_first sw_first, show decide (Str.ofString "first" = Str.ofString "first") = true by decide +kernel]; cases neg <;> rfl
theorem te_first_second : rEqD neg (.str (Str.ofString "first")) (.str (Str.ofString "second")) O Q = Q (.bl neg) O := by
  rw [rEq_s sw_first sw_second, show decide (Str.ofString "first" = Str.ofString "second") = false by decide +kernel]; cases neg <;> rfl
theorem te_first_to : rEqD neg (.str (Str.ofString "first")) (.str (Str.ofString "to")) O Q = Q (.bl neg) O := by
  rw [rEq_s sw_first sw_to, show decide (Str.ofString "first" = Str.ofString "to") = false by decide +kernel]; cases neg <;> rfl
theorem te_first_both : rEqD neg (.str (Str.ofString "first")) (.str (Str.ofString "both")) O Q = Q (.bl neg) O := by
  rw [rEq_s sw_first sw_both, show decide (Str.ofString "first" = Str.ofString "both") = false by decide +kernel]; cases neg <;> rfl
theorem te_first_one : rEqD neg (.str (Str.ofString "first")) (.str (Str.ofString "one")) O Q = Q (.bl neg) O := by
  rw [rEq_s sw_first sw_one, show decide (Str.ofString "first" = Str.ofString "one") = false by decide +kernel]; cases neg <;> rfl
theorem te_first_mark : rEqD neg (.str (Str.ofString "first")) (.str (Str.ofString "mark")) O Q = Q (.bl neg) O := by
  rw [rEq_s sw_first sw_mark, show decide (Str.ofString "first" = Str.ofString "mark") = false by decide +kernel]; cases neg <;> rfl
theorem te_first_name : rEqD neg (.str (Str.ofString "first")) (.str (Str.ofString "name")) O Q = Q (.bl neg) O := by
  rw [rEq_s sw_first sw_name, show decide (Str.ofString "first" = Str.ofString "name") = false by decide +kernel]; cases neg <;> rfl
theorem te_first_thing : rEqD neg (.str (Str.ofString "first")) (.str (Str.ofString "thing")) O Q = Q (.bl neg) O := by
  rw [rEq_s sw_first sw_thing, show decide (Str.ofString "first" = Str.ofString "thing") = false by decide +kernel]; cases neg <;> rfl
theorem te_first_at : rEqD neg (.str (Str.ofString "first")) (.str (Str.ofString "at")) O Q = Q (.bl neg) O := by
  rw [rEq_s sw_first sw_at, show decide (Str.ofString "first" = Str.ofString "at") = false by decide +kernel]; cases neg <;> rfl
theorem te_second_take : rEqD neg (.str (Str.ofString "second")) (.str (Str.ofString "take")) O Q = Q (.bl neg) O := by
  rw [rEq_s sw_second sw_take, show decide (Str.ofString "second" = Str.ofString "take") = false by decide +kernel]; cases neg <;> rfl
theorem te_second_give : rEqD neg (.str (Str.ofString "second")) (.str (Str.ofString "give")) O Q = Q (.bl neg) O := by
  rw [rEq_s sw_second sw_give, show decide (Str.ofString "second" = Str.ofString "give") = false by decide +kernel]; cases neg <;> rfl
theorem te_second_pair : rEqD neg (.str (Str.ofString "second")) (.str (Str.ofString "pair")) O Q = Q (.bl neg) O := by
  rw [rEq_s sw_second sw_pair, show decide (Str.ofString "second" = Str.ofString "pair") = false by decide +kernel]; cases neg <;> rfl
theorem te_second_first : rEqD neg (.str (Str.ofString "second")) (.str (Str.ofString "first")) O Q = Q (.bl neg) O := by
  rw [rEq_s sw_second sw_first, show decide (Str.ofString "second" = Str.ofString "first") = false by decide +kernel]; cases neg <;> rfl
theorem te_second_second : rEqD neg (.str (Str.ofString "second")) (.str (Str.ofString "second")) O Q = Q (.bl !neg) O := by
  rw [rEq_s sw_second sw_second, show decide (Str.ofString "second" = Str.ofString "second") = true by decide +kernel]; cases neg <;> rfl
theorem te_second_to : rEqD neg (.str (Str.ofString "second")) (.str (Str.ofString "to")) O Q = Q (.bl neg) O := by
  rw [rEq_s sw_second sw_to, show decide (Str.ofString "second" = Str.ofString "to") = false by decide +kernel]; cases neg <;> rfl
theorem te_second_both : rEqD neg (.str (Str.ofString "second")) (.str (Str.ofString "both")) O Q = Q (.bl neg) O := by
  rw [rEq_s sw_second sw_both, show decide (Str.ofString "second" = Str.ofString "both") = false by decide +kernel]; cases neg <;> rfl
theorem te_second_one : rEqD neg (.str (Str.ofString "second")) (.str (Str.ofString "one")) O Q = Q (.bl neg) O := by
  rw [rEq_s sw_second sw_one, show decide (Str.ofString "second" = Str.ofString "one") = false by decide +kernel]; cases neg <;> rfl
theorem te_second_mark : rEqD neg (.str (Str.ofString "second")) (.str (Str.ofString "mark")) O Q = Q (.bl neg) O := by
  rw [rEq_s sw_second sw_mark, show decide (Str.ofString "second" = Str.ofString "mark") = false by decide +kernel]; cases neg <;> rfl
theorem te_second_name : rEqD neg (.str (Str.ofString "second")) (.str (Str.ofString "name")) O Q = Q (.bl neg) O := by
  rw [rEq_s sw_second sw_name, show decide (Str.ofString "second" = Str.ofString "name") = false by decide +kernel]; cases neg <;> rfl
theorem te_second_thing : rEqD neg (.str (Str.ofString "second")) (.str (Str.ofString "thing")) O Q = Q (.bl neg) O := by
  rw [rEq_s sw_second sw_thing, show decide (Str.ofString "second" = Str.ofString "thing") = false by decide +kernel]; cases neg <;> rfl
theorem te_second_at : rEqD neg (.str (Str.ofString "second")) (.str (Str.ofString "at")) O Q = Q (.bl neg) O := by
  rw [rEq_s sw_second sw_at, show decide (Str.ofString "second" = Str.ofString "at") = false by decide +kernel]; cases neg <;> rfl
theorem te_mark_take : rEqD neg (.str (Str.ofString "mark")) (.str (Str.ofString "take")) O Q = Q (.bl neg) O := by
  rw [rEq_s sw_mark sw_take, show decide (Str.ofString "mark" = Str.ofString "take") = false by decide +kernel]; cases neg <;> rfl
theorem te_mark_give : rEqD neg (.str (Str.ofString "mark")) (.str (Str.ofString "give")) O Q = Q (.bl neg) O := by
  rw [rEq_s sw_mark sw_give, show decide (Str.ofString "mark" = Str.ofString "give") = false by decide +kernel]; cases neg <;> rfl
theorem te_mark_pair : rEqD neg (.str (Str.ofString "mark")) (.str (Str.ofString "pair")) O Q = Q (.bl neg) O := by
  rw [rEq_s sw_mark sw_pair, show decide (Str.ofString "mark" = Str.ofString "pair") = false by decide +kernel]; cases neg <;> rfl
theorem te_mark_first : rEqD neg (.str (Str.ofString "mark")) (.str (Str.ofString "first")) O Q = Q (.bl neg) O := by
  rw [rEq_s sw_mark sw_first, show decide (Str.ofString "mark" = Str.ofString "first") = false by decide +kernel]; cases neg <;> rfl
theorem te_mark_second : rEqD neg (.str (Str.ofString "mark")) (.str (Str.ofString "second")) O Q = Q (.bl neg) O := by
  rw [rEq_s sw_mark sw_second, show decide (Str.ofString "mark" = Str.ofString "second") = false by decide +kernel]; cases neg <;> rfl
theorem te_mark_to : rEqD neg (.str (Str.ofString "mark")) (.str (Str.ofString "to")) O Q = Q (.bl neg) O := by
  rw [rEq_s sw_mark sw_to, show decide (Str.ofString "mark" = Str.ofString "to") = false by decide +kernel]; cases neg <;> rfl
theorem te_mark_both : rEqD neg (.str (Str.ofString "mark")) (.str (Str.ofString "both")) O Q = Q (.bl neg) O := by
  rw [rEq_s sw_mark sw_both, show decide (Str.ofString "mark" = Str.ofString "both") = false by decide +kernel]; cases neg <;> rfl
theorem te_mark_one : rEqD neg (.str (Str.ofString "mark")) (.str (Str.ofString "one")) O Q = Q (.bl neg) O := by
  rw [rEq_s sw_mark sw_one, show decide (Str.ofString "mark" = Str.ofString "one") = false by decide +kernel]; cases neg <;> rfl
theorem te_mark_mark : rEqD neg (.str (Str.ofString "mark")) (.str (Str.ofString "mark")) O Q = Q (.bl !neg) O := by
  rw [rEq_s sw_mark sw_mark, show decide (Str.ofString "mark" = Str.ofString "mark") = true by decide +kernel]; cases neg <;> rfl
theorem te_mark_name : rEqD neg (.str (Str.ofString "mark")) (.str (Str.ofString "name")) O Q = Q (.bl neg) O := by
  rw [rEq_s sw_mark sw_name, show decide (Str.ofString "mark" = Str.ofString "name") = false by decide +kernel]; cases neg <;> rfl
theorem te_mark_thing : rEqD neg (.str (Str.ofString "mark")) (.str (Str.ofString "thing")) O Q = Q (.bl neg) O := by
  rw [rEq_s sw_mark sw_thing, show decide (Str.ofString "mark" = Str.ofString "thing") = false by decide +kernel]; cases neg <;> rfl
theorem te_mark_at : rEqD neg (.str (Str.ofString "mark")) (.str (Str.ofString "at")) O Q = Q (.bl neg) O := by
  rw [rEq_s sw_mark sw_at, show decide (Str.ofString "mark" = Str.ofString "at") = false by decide +kernel]; cases neg <;> rfl
theorem te_one_take : rEqD neg (.str (Str.ofString "one")) (.str (Str.ofString "take")) O Q = Q (.bl neg) O := by
  rw [rEq_s sw_one sw_take, show decide (Str.ofString "one" = Str.ofString "take") = false by decide +kernel]; cases neg <;> rfl
theorem te_one_give : rEqD neg (.str (Str.ofString "one")) (.str (Str.ofString "give")) O Q = Q (.bl neg) O := by
  rw [rEq_s sw_one sw_give, show decide (Str.ofString "one" = Str.ofString "give") = false by decide +kernel]; cases neg <;> rfl
theorem te_one_pair : rEqD neg (.str (Str.ofString "one")) (.str (Str.ofString "pair")) O Q = Q (.bl neg) O := by
  rw [rEq_s sw_one sw_pair, show decide (Str.ofString "one" = Str.ofString "pair") = false by decide +kernel]; cases neg <;> rfl
theorem te_one_first : rEqD neg (.str (Str.ofString "one")) (.str (Str.ofString "first")) O Q = Q (.bl neg) O := by
  rw [rEq_s sw_one sw_first, show decide (Str.ofString "one" = Str.ofString "first") = false by decide +kernel]; cases neg <;> rfl
theorem te_one_second : rEqD neg (.str (Str.ofString "one")) (.str (Str.ofString "second")) O Q = Q (.bl neg) O := by
  rw [rEq_s sw_one sw_second, show decide (Str.ofString "one" = Str.ofString "second") = false by decide +kernel]; cases neg <;> rfl
theorem te_one_to : rEqD neg (.str (Str.ofString "one")) (.str (Str.ofString "to")) O Q = Q (.bl neg) O := by
  rw [rEq_s sw_one sw_to, show decide (Str.ofString "one" = Str.ofString "to") = false by decide +kernel]; cases neg <;> rfl
theorem te_one_both : rEqD neg (.str (Str.ofString "one")) (.str (Str.ofString "both")) O Q = Q (.bl neg) O := by
  rw [rEq_s sw_one sw_both, show decide (Str.ofString "one" = Str.ofString "both") = false by decide +kernel]; cases neg <;> rfl
theorem te_one_one : rEqD neg (.str (Str.ofString "one")) (.str (Str.ofString "one")) O Q = Q (.bl !neg) O := by
  rw [rEq_s sw_one sw_one, show decide (Str.ofString "one" = Str.ofString "one") = true by decide +kernel]; cases neg <;> rfl
theorem te_one_mark : rEqD neg (.str (Str.ofString "one")) (.str (Str.ofString "mark")) O Q = Q (.bl neg) O := by
  rw [rEq_s sw_one sw_mark, show decide (Str.ofString "one" = Str.ofString "mark") = false by decide +kernel]; cases neg <;> rfl
theorem te_one_name : rEqD neg (.str (Str.ofString "one")) (.str (Str.ofString "name")) O Q = Q (.bl neg) O := by
  rw [rEq_s sw_one sw_name, show decide (Str.ofString "one" = Str.ofString "name") = false by decide +kernel]; cases neg <;> rfl
theorem te_one_thing : rEqD neg (.str (Str.ofString "one")) (.str (Str.ofString "thing")) O Q = Q (.bl neg) O := by
  rw [rEq_s sw_one sw_thing, show decide (Str.ofString "one" = Str.ofString "thing") = false by decide +kernel]; cases neg <;> rfl
theorem te_one_at : rEqD neg (.str (Str.ofString "one")) (.str (Str.ofString "at")) O Q = Q (.bl neg) O := by
  rw [rEq_s sw_one sw_at, show decide (Str.ofString "one" = Str.ofString "at") = false by decide +kernel]; cases neg <;> rfl
theorem te_to_take : rEqD neg (.str (Str.ofString "to")) (.str (Str.ofString "take")) O Q = Q (.bl neg) O := by
  rw [rEq_s sw_to sw_take, show decide (Str.ofString "to" = Str.ofString "take") = false by decide +kernel]; cases neg <;> rfl
theorem te_to_give : rEqD neg (.str (Str.ofString "to")) (.str (Str.ofString "give")) O Q = Q (.bl neg) O := by
  rw [rEq_s sw_to sw_give, show decide (Str.ofString "to" = Str.ofString "give") = false by decide +kernel]; cases neg <;> rfl
theorem te_to_pair : rEqD neg (.str (Str.ofString "to")) (.str (Str.ofString "pair")) O Q = Q (.bl neg) O := by
  rw [rEq_s sw_to sw_pair, show decide (Str.ofString "to" = Str.ofString "pair") = false by decide +kernel]; cases neg <;> rfl
theorem te_to_first : rEqD neg (.str (Str.ofString "to")) (.str (Str.ofString "first")) O Q = Q (.bl neg) O := by
  rw [rEq_s sw_to sw_first, show decide (Str.ofString "to" = Str.ofString "first") = false by decide +kernel]; cases neg <;> rfl
theorem te_to_second : rEqD neg (.str (Str.ofString "to")) (.str (Str.ofString "second")) O Q = Q (.bl neg) O := by
  rw [rEq_s sw_to sw_second, show decide (Str.ofString "to" = Str.ofString "second") = false by decide +kernel]; cases neg <;> rfl
theorem te_to_to : rEqD neg (.str (Str.ofString "to")) (.str (Str.ofString "to")) O Q = Q (.bl !neg) O := by
  rw [rEq_s sw_to sw_to, show decide (Str.ofString "to" = Str.ofString "to") = true by decide +kernel]; cases neg <;> rfl
theorem te_to_both : rEqD neg (.str (Str.ofString "to")) (.str (Str.ofString "both")) O Q = Q (.bl neg) O := by
  rw [rEq_s sw_to sw_both, show decide (Str.ofString "to" = Str.ofString "both") = false by decide +kernel]; cases neg <;> rfl
theorem te_to_one : rEqD neg (.str (Str.ofString "to")) (.str (Str.ofString "one")) O Q = Q (.bl neg) O := by
  rw [rEq_s sw_to sw_one, show decide (Str.ofString "to" = Str.ofString "one") = false by decide +kernel]; cases neg <;> rfl
theorem te_to_mark : rEqD neg (.str (Str.ofString "to")) (.str (Str.ofString "mark")) O Q = Q (.bl neg) O := by
  rw [rEq_s sw_to sw_mark, show decide (Str.ofString "to" = Str.ofString "mark") = false by decide +kernel]; cases neg <;> rfl
theorem te_to_name : rEqD neg (.str (Str.ofString "to")) (.str (Str.ofString "name")) O Q = Q (.bl neg) O := by
  rw [rEq_s sw_to sw_name, show decide (Str.ofString "to" = Str.ofString "name") = false by decide +kernel]; cases neg <;> rfl
theorem te_to_thing : rEqD neg (.str (Str.ofString "to")) (.str (Str.ofString "thing")) O Q = Q (.bl neg) O := by
  rw [rEq_s sw_to sw_thing, show decide (Str.ofString "to" = Str.ofString "thing") = false by decide +kernel]; cases neg <;> rfl
theorem te_to_at : rEqD neg (.str (Str.ofString "to")) (.str (Str.ofString "at")) O Q = Q (.bl neg) O := by
  rw [rEq_s sw_to sw_at, show decide (Str.ofString "to" = Str.ofString "at") = false by decide +kernel]; cases neg <;> rfl
theorem te_both_take : rEqD neg (.str (Str.ofString "both")) (.str (Str.ofString "take")) O Q = Q (.bl neg) O := by
  rw [rEq_s sw_both sw_take, show decide (Str.ofString "both" = Str.ofString "take") = false by decide +kernel]; cases neg <;> rfl
theorem te_both_give : rEqD neg (.str (Str.ofString "both")) (.str (Str.ofString "give")) O Q = Q (.bl neg) O := by
  rw [rEq_s sw_both sw_give, show decide (Str.ofString "both" = Str.ofString "give") = false by decide +kernel]; cases neg <;> rfl
theorem te_both_pair : rEqD neg (.str (Str.ofString "both")) (.str (Str.ofString "pair")) O Q = Q (.bl neg) O := by
  rw [rEq_s sw_both sw_pair, show decide (Str.ofString "both" = Str.ofString "pair") = false by decide +kernel]; cases neg <;> rfl
theorem te_both_first : rEqD neg (.str (Str.ofString "both")) (.str (Str.ofString "first")) O Q = Q (.bl neg) O := by
  rw [rEq_s sw_both sw_first, show decide (Str.ofString "both" = Str.ofString "first") = false by decide +kernel]; cases neg <;> rfl
theorem te_both_second : rEqD neg (.str (Str.ofString "both")) (.str (Str.ofString "second")) O Q = Q (.bl neg) O := by
  rw [rEq_s sw_both sw_second, show decide (Str.ofString "both" = Str.ofString "second") = false by decide +kernel]; cases neg <;> rfl
theorem te_both_to : rEqD neg (.str (Str.ofString "both")) (.str (Str.ofString "to")) O Q = Q (.bl neg) O := by
  rw [rEq_s sw_both sw_to, show decide (Str.ofString "both" = Str.ofString "to") = false by decide +kernel]; cases neg <;> rfl
theorem te_both_both : rEqD neg (.str (Str.ofString "both")) (.str (Str.ofString "both")) O Q = Q (.bl !neg) O := by
  rw [rEq_s sw_both sw_both, show decide (Str.ofString "both" = Str.ofString "both") = true by decide +kernel]; cases neg <;> rfl
theorem te_both_one : rEqD neg (.str (Str.ofString "both")) (.str (Str.ofString "one")) O Q = Q (.bl neg) O := by
  rw [rEq_s sw_both sw_one, show decide (Str.ofString "both" = Str.ofString "one") = false by decide +kernel]; cases neg <;> rfl
theorem te_both_mark : rEqD neg (.str (Str.ofString "both")) (.str (Str.ofString "mark")) O Q = Q (.bl neg) O := by
  rw [rEq_s sw_both sw_mark, show decide (Str.ofString "both" = Str.ofString "mark") = false by decide +kernel]; cases neg <;> rfl
theorem te_both_name : rEqD neg (.str (Str.ofString "both")) (.str (Str.ofString "name")) O Q = Q (.bl neg) O := by
  rw [rEq_s sw_both sw_name, show decide (Str.ofString "both" = Str.ofString "name") = false by decide +kernel]; cases neg <;> rfl
theorem te_both_thing : rEqD neg (.str (Str.ofString "both")) (.str (Str.ofString "thing")) O Q = Q (.bl neg) O := by
  rw [rEq_s sw_both sw_thing, show decide (Str.ofString "both" = Str.ofString "thing") = false by decide +kernel]; cases neg <;> rfl
theorem te_both_at : rEqD neg (.str (Str.ofString "both")) (.str (Str.ofString "at")) O Q = Q (.bl neg) O := by
  rw [rEq_s sw_both sw_at, show decide (Str.ofString "both" = Str.ofString "at") = false by decide +kernel]; cases neg <;> rfl
theorem te_at_take : rEqD neg (.str (Str.ofString "at")) (.str (Str.ofString "take")) O Q = Q (.bl neg) O := by
  rw [rEq_s sw_at sw_take, show decide (Str.ofString "at" = Str.ofString "take") = false by decide +kernel]; cases neg <;> rfl
theorem te_at_give : rEqD neg (.str (Str.ofString "at")) (.str (Str.ofString "give")) O Q = Q (.bl neg) O := by
  rw [rEq_s sw_at sw_give, show decide (Str.ofString "at" = Str.ofString "give") = false by decide +kernel]; cases neg <;> rfl
theorem te_at_pair : rEqD neg (.str (Str.ofString "at")) (.str (Str.ofString "pair")) O Q = Q (.bl neg) O := by
  rw [rEq_s sw_at sw_pair, show decide (Str.ofString "at" = Str.ofString "pair") = false by decide +kernel]; cases neg <;> rfl
theorem te_at_first : rEqD neg (.str (Str.ofString "at")) (.str (Str.ofString "first")) O Q = Q (.bl neg) O := by
  rw [rEq_s sw_at sw_first, show decide (Str.ofString "at" = Str.ofString "first") = false by decide +kernel]; cases neg <;> rfl
theorem te_at_second : rEqD neg (.str (Str.ofString "at")) (.str (Str.ofString "second")) O Q = Q (.bl neg) O := by
  rw [rEq_s sw_at sw_second, show decide (Str.ofString "at" = Str.ofString "second") = false by decide +kernel]; cases neg <;> rfl
theorem te_at_to : rEqD neg (.str (Str.ofString "at")) (.str (Str.ofString "to")) O Q = Q (.bl neg) O := by
  rw [rEq_s sw_at sw_to, show decide (Str.ofString "at" = Str.ofString "to") = false by decide +kernel]; cases neg <;> rfl
theorem te_at_both : rEqD neg (.str (Str.ofString "at")) (.str (Str.ofString "both")) O Q = Q (.bl neg) O := by
  rw [rEq_s sw_at sw_both, show decide (Str.ofString "at" = Str.ofString "both") = false by decide +kernel]; cases neg <;> rfl
theorem te_at_one : rEqD neg (.str (Str.ofString "at")) (.str (Str.ofString "one")) O Q = Q (.bl neg) O := by
  rw [rEq_s sw_at sw_one, show decide (Str.ofString "at" = Str.ofString "one") = false by decide +kernel]; cases neg <;> rfl
theorem te_at_mark : rEqD neg (.str (Str.ofString "at")) (.str (Str.ofString "mark")) O Q = Q (.bl neg) O := by
  rw [rEq_s sw_at sw_mark, show decide (Str.ofString "at" = Str.ofString "mark") = false by decide +kernel]; cases neg <;> rfl
theorem te_at_name : rEqD neg (.str (Str.ofString "at")) (.str (Str.ofString "name")) O Q = Q (.bl neg) O := by
  rw [rEq_s sw_at sw_name, show decide (Str.ofString "at" = Str.ofString "name") = false by decide +kernel]; cases neg <;> rfl
theorem te_at_thing : rEqD neg (.str (Str.ofString "at")) (.str (Str.ofString "thing")) O Q = Q (.bl neg) O := by
  rw [rEq_s sw_at sw_thing, show decide (Str.ofString "at" = Str.ofString "thing") = false by decide +kernel]; cases neg <;> rfl
theorem te_at_at : rEqD neg (.str (Str.ofString "at")) (.str (Str.ofString "at")) O Q = Q (.bl !neg) O := by
  rw [rEq_s sw_at sw_at, show decide (Str.ofString "at" = Str.ofString "at") = true by decide +kernel]; cases neg <;> rfl
theorem ti4_name : rInD neg (.str (Str.ofString "name")) (.tup [.str (Str.ofString "give"), .str (Str.ofString "pair"), .str (Str.ofString "first"), .str (Str.ofString "second")]) O Q = Q (.bl neg) O := by
  have e := rIn_ws (neg := neg) (O := O) (Q := Q) (z := Str.ofString "name") (ts := [Str.ofString "give", Str.ofString "pair", Str.ofString "first", Str.ofString "second"]) (by decide +kernel) (by decide +kernel)
  rw [show decide (Str.ofString "name" ∈ ([Str.ofString "give", Str.ofString "pair", Str.ofString "first", Str.ofString "second"] : List Str)) = false by decide +kernel] at e
  exact e.trans (by cases neg <;> rfl)
theorem ti4_thing : rInD neg (.str (Str.ofString "thing")) (.tup [.str (Str.ofString "give"), .str (Str.ofString "pair"), .str (Str.ofString "first"), .str (Str.ofString "second")]) O Q = Q (.bl neg) O := by
  have e := rIn_ws (neg := neg) (O := O) (Q := Q) (z := Str.ofString "thing") (ts := [Str.ofString "give", Str.ofString "pair", Str.ofString "first", Str.ofString "second"]) (by decide +kernel) (by decide +kernel)
  rw [show decide (Str.ofString "thing" ∈ ([Str.ofString "give", Str.ofString "pair", Str.ofString "first", Str.ofString "second"] : List Str)) = false by decide +kernel] at e
  exact e.trans (by cases neg <;> rfl)
theorem ti4_take : rInD neg (.str (Str.ofString "take")) (.tup [.str (Str.ofString "give"), .str (Str.ofString "pair"), .str (Str.ofString "first"), .str (Str.ofString "second")]) O Q = Q (.bl neg) O := by
  have e := rIn_ws (neg := neg) (O := O) (Q := Q) (z := Str.ofString "take") (ts := [Str.ofString "give", Str.ofString "pair", Str.ofString "first", Str.ofString "second"]) (by decide +kernel) (by decide +kernel)
  rw [show decide (Str.ofString "take" ∈ ([Str.ofString "give", Str.ofString "pair", Str.ofString "first", Str.ofString "second"] : List Str)) = false by decide +kernel] at e
  exact e.trans (by cases neg <;> rfl)
theorem ti4_give : rInD neg (.str (Str.ofString "give")) (.tup [.str (Str.ofString "give"), .str (Str.ofString "pair"), .str (Str.ofString "first"), .str (Str.ofString "second")]) O Q = Q (.bl !neg) O := by
  have e := rIn_ws (neg := neg) (O := O) (Q := Q) (z := Str.ofString "give") (ts := [Str.ofString "give", Str.ofString "pair", Str.ofString "first", Str.ofString "second"]) (by decide +kernel) (by decide +kernel)
  rw [show decide (Str.ofString "give" ∈ ([Str.ofString "give", Str.ofString "pair", Str.ofString "first", Str.ofString "second"] : List Str)) = true by decide +kernel] at e
  exact e.trans (by cases neg <;> rfl)
theorem ti4_pair : rInD neg (.str (Str.ofString "pair")) (.tup [.str (Str.ofString "give"), .str (Str.ofString "pair"), .str (Str.ofString "first"), .str (Str.ofString "second")]) O Q = Q (.bl !neg) O := by
  have e := rIn_ws (neg := neg) (O := O) (Q := Q) (z := Str.ofString "pair") (ts := [Str.ofString "give", Str.ofString "pair", Str.ofString "first", Str.ofString "second"]) (by decide +kernel) (by decide +kernel)
  rw [show decide (Str.ofString "pair" ∈ ([Str.ofString "give", Str.ofString "pair", Str.ofString "first", Str.ofString "second"] : List Str)) = true by decide +kernel] at e
  exact e.trans (by cases neg <;> rfl)
theorem ti4_first : rInD neg (.str (Str.ofString "first")) (.tup [.str (Str.ofString "give"), .str (Str.ofString "pair"), .str (Str.ofString "first"), .str (Str.ofString "second")]) O Q = Q (.bl !neg) O := by
  have e := rIn_ws (neg := neg) (O := O) (Q := Q) (z := Str.ofString "first") (ts := [Str.ofString "give", Str.ofString "pair", Str.ofString "first", Str.ofString "second"]) (by decide +kernel) (by decide +kernel)
  rw [show decide (Str.ofString "first" ∈ ([Str.ofString "give", Str.ofString "pair", Str.ofString "first", Str.ofString "second"] : List Str)) = true by decide +kernel] at e
  exact e.trans (by cases neg <;> rfl)
theorem ti4_second : rInD neg (.str (Str.ofString "second")) (.tup [.str (Str.ofString "give"), .str (Str.ofString "pair"), .str (Str.ofString "first"), .str (Str.ofString "second")]) O Q = Q (.bl !neg) O := by
  have e := rIn_ws (neg := neg) (O := O) (Q := Q) (z := Str.ofString "second") (ts := [Str.ofString "give", Str.ofString "pair", Str.ofString "first", Str.ofString "second"]) (by decide +kernel) (by decide +kernel)
  rw [show decide (Str.ofString "second" ∈ ([Str.ofString "give", Str.ofString "pair", Str.ofString "first", Str.ofString "second"] : List Str)) = true by decide +kernel] at e
  exact e.trans (by cases neg <;> rfl)
theorem ti2_name : rInD neg (.str (Str.ofString "name")) (.tup [.str (Str.ofString "first"), .str (Str.ofString "second")]) O Q = Q (.bl neg) O := by
  have e := rIn_ws (neg := neg) (O := O) (Q := Q) (z := Str.ofString "name") (ts := [Str.ofString "first", Str.ofString "second"]) (by decide +kernel) (by decide +kernel)
  rw [show decide (Str.ofString "name" ∈ ([Str.ofString "first", Str.ofString "second"] : List Str)) = false by decide +kernel] at e
  exact e.trans (by cases neg <;> rfl)
theorem ti2_thing : rInD neg (.str (Str.ofString "thing")) (.tup [.str (Str.ofString "first"), .str (Str.ofString "second")]) O Q = Q (.bl neg) O := by
  have e := rIn_ws (neg := neg) (O := O) (Q := Q) (z := Str.ofString "thing") (ts := [Str.ofString "first", Str.ofString "second"]) (by decide +kernel) (by decide +kernel)
  rw [show decide (Str.ofString "thing" ∈ ([Str.ofString "first", Str.ofString "second"] : List Str)) = false by decide +kernel] at e
  exact e.trans (by cases neg <;> rfl)
theorem ti2_take : rInD neg (.str (Str.ofString "take")) (.tup [.str (Str.ofString "first"), .str (Str.ofString "second")]) O Q = Q (.bl neg) O := by
  have e := rIn_ws (neg := neg) (O := O) (Q := Q) (z := Str.ofString "take") (ts := [Str.ofString "first", Str.ofString "second"]) (by decide +kernel) (by decide +kernel)
  rw [show decide (Str.ofString "take" ∈ ([Str.ofString "first", Str.ofString "second"] : List Str)) = false by decide +kernel] at e
  exact e.trans (by cases neg <;> rfl)
theorem ti2_give : rInD neg (.str (Str.ofString "give")) (.tup [.str (Str.ofString "first"), .str (Str.ofString "second")]) O Q = Q (.bl neg) O := by
  have e := rIn_ws (neg := neg) (O := O) (Q := Q) (z := Str.ofString "give") (ts := [Str.ofString "first", Str.ofString "second"]) (by decide +kernel) (by decide +kernel)
  rw [show decide (Str.ofString "give" ∈ ([Str.ofString "first", Str.ofString "second"] : List Str)) = false by decide +kernel] at e
  exact e.trans (by cases neg <;> rfl)
theorem ti2_pair : rInD neg (.str (Str.ofString "pair")) (.tup [.str (Str.ofString "first"), .str (Str.ofString "second")]) O Q = Q (.bl neg) O := by
  have e := rIn_ws (neg := neg) (O := O) (Q := Q) (z := Str.ofString "pair") (ts := [Str.ofString "first", Str.ofString "second"]) (by decide +kernel) (by decide +kernel)
  rw [show decide (Str.ofString "pair" ∈ ([Str.ofString "first", Str.ofString "second"] : List Str)) = false by decide +kernel] at e
  exact e.trans (by cases neg <;> rfl)
theorem ti2_first : rInD neg (.str (Str.ofString "first")) (.tup [.str (Str.ofString "first"), .str (Str.ofString "second")]) O Q = Q (.bl !neg) O := by
  have e := rIn_ws (neg := neg) (O := O) (Q := Q) (z := Str.ofString "first") (ts := [Str.ofString "first", Str.ofString "second"]) (by decide +kernel) (by decide +kernel)
  rw [show decide (Str.ofString "first" ∈ ([Str.ofString "first", Str.ofString "second"] : List Str)) = true by decide +kernel] at e
  exact e.trans (by cases neg <;> rfl)
theorem ti2_second : rInD neg (.str (Str.ofString "second")) (.tup [.str (Str.ofString "first"), .str (Str.ofString "second")]) O Q = Q (.bl !neg) O := by
  have e := rIn_ws (neg := neg) (O := O) (Q := Q) (z := Str.ofString "second") (ts := [Str.ofString "first", Str.ofString "second"]) (by decide +kernel) (by decide +kernel)
  rw [show decide (Str.ofString "second" ∈ ([Str.ofString "first", Str.ofString "second"] : List Str)) = true by decide +kernel] at e
  exact e.trans (by cases neg <;> rfl)
end
/-! ### small sizes -/
theorem szT_0 : ((0 : Nat) ≤ sizeLine) = True := eq_true (sz_small (by decide))
theorem szT_1 : ((1 : Nat) ≤ sizeLine) = True := eq_true (sz_small (by decide))
theorem szT_2 : ((2 : Nat) ≤ sizeLine) = True := eq_true (sz_small (by decide))
theorem szT_3 : ((3 : Nat) ≤ sizeLine) = True := eq_true (sz_small (by decide))
theorem szT_4 : ((4 : Nat) ≤ sizeLine) = True := eq_true (sz_small (by decide))
theorem szT_5 : ((5 : Nat) ≤ sizeLine) = True := eq_true (sz_small (by decide))
theorem szT_6 : ((6 : Nat) ≤ sizeLine) = True := eq_true (sz_small (by decide))
theorem szT_7 : ((7 : Nat) ≤ sizeLine) = True := eq_true (sz_small (by decide))
theorem szT_8 : ((8 : Nat) ≤ sizeLine) = True := eq_true (sz_small (by decide))
theorem szT_9 : ((9 : Nat) ≤ sizeLine) = True := eq_true (sz_small (by decide))
theorem szT_10 : ((10 : Nat) ≤ sizeLine) = True := eq_true (sz_small (by decide))
theorem szT_11 : ((11 : Nat) ≤ sizeLine) = True := eq_true (sz_small (by decide))
theorem szT_12 : ((12 : Nat) ≤ sizeLine) = True := eq_true (sz_small (by decide))
/-! ### programs -/
inductive Pg where
  | nm (x : Str) | thing | take (x : Str) (k : Kd) (b : Pg) | give (f a : Pg) | pair (a b : Pg) | first (p : Pg) | second (p : Pg)
  deriving DecidableEq, Inhabited
def dP : Pg → D
  | .nm x => .tup [.str "name", .str x]
  | .thing => .tup [.str "thing"]
  | .take x k b => .tup [.str "take", .str x, dK k, dP b]
  | .give f a => .tup [.str "give", dP f, dP a]
  | .pair a b => .tup [.str "pair", dP a, dP b]
  | .first p => .tup [.str "first", dP p]
  | .second p => .tup [.str "second", dP p]
def Pg.ins : Pg → List Pg
  | .nm _ => []
  | .thing => []
  | .take _ _ b => [b]
  | .give f a => [f, a]
  | .pair a b => [a, b]
  | .first p => [p]
  | .second p => [p]
def Pg.hgt : Pg → Nat
  | .nm _ => 0
  | .thing => 0
  | .take _ _ b => b.hgt + 1
  | .give f a => max f.hgt a.hgt + 1
  | .pair a b => max a.hgt b.hgt + 1
  | .first p => p.hgt + 1
  | .second p => p.hgt + 1
def Pg.isTake : Pg → Bool
  | .take .. => true
  | _ => false
def Pg.isPair : Pg → Bool
  | .pair .. => true
  | _ => false
def Pg.can : Pg → Bool
  | .give f _ => f.isTake
  | .first p => p.isPair
  | .second p => p.isPair
  | _ => false
/-- the places at which a step can be done -/
def plc : Pg → List Int → List (List Int)
  | .nm _, _ => []
  | .thing, _ => []
  | .take _ _ b, pl => plc b (pl ++ [0])
  | .give f a, pl => (if f.isTake then [pl] else []) ++ plc f (pl ++ [0]) ++ plc a (pl ++ [1])
  | .pair a b, pl => plc a (pl ++ [0]) ++ plc b (pl ++ [1])
  | .first p, pl => (if p.isPair then [pl] else []) ++ plc p (pl ++ [0])
  | .second p, pl => (if p.isPair then [pl] else []) ++ plc p (pl ++ [0])
theorem plc_len : ∀ (p : Pg) (pl : List Int), (plc p pl).length + 1 ≤ 2 ^ (p.hgt + 1)
  | .nm _, pl => by simp [plc, Pg.hgt]
  | .thing, pl => by simp [plc, Pg.hgt]
  | .take _ _ b, pl => by
    have := plc_len b (pl ++ [0])
    simp only [plc, Pg.hgt]
    rw [Nat.pow_succ]; omega
  | .give f a, pl => by
    have h1 := plc_len f (pl ++ [0])
    have h2 := plc_len a (pl ++ [1])
    have h3 : 2 ^ (f.hgt + 1) ≤ 2 ^ (max f.hgt a.hgt + 1) := Nat.pow_le_pow_right (by decide) (by omega)
    have h4 : 2 ^ (a.hgt + 1) ≤ 2 ^ (max f.hgt a.hgt + 1) := Nat.pow_le_pow_right (by decide) (by omega)
    simp only [plc, Pg.hgt, List.length_append]
    have h5 : (if f.isTake then [pl] else []).length ≤ 1 := by split <;> simp
    rw [Nat.pow_succ 2 (max f.hgt a.hgt + 1)]
    omega
  | .pair a b, pl => by
    have h1 := plc_len a (pl ++ [0])
    have h2 := plc_len b (pl ++ [1])
    have h3 : 2 ^ (a.hgt + 1) ≤ 2 ^ (max a.hgt b.hgt + 1) := Nat.pow_le_pow_right (by decide) (by omega)
    have h4 : 2 ^ (b.hgt + 1) ≤ 2 ^ (max a.hgt b.hgt + 1) := Nat.pow_le_pow_right (by decide) (by omega)
    simp only [plc, Pg.hgt, List.length_append]
    rw [Nat.pow_succ 2 (max a.hgt b.hgt + 1)]
    omega
  | .first p, pl => by
    have h1 := plc_len p (pl ++ [0])
    simp only [plc, Pg.hgt, List.length_append]
    have h5 : (if p.isPair then [pl] else []).length ≤ 1 := by split <;> simp
    rw [Nat.pow_succ 2 (p.hgt + 1)]
    have : 2 ≤ 2 ^ (p.hgt + 1) := by rw [Nat.pow_succ]; have := Nat.one_le_two_pow (n := p.hgt); omega
    omega
  | .second p, pl => by
    have h1 := plc_len p (pl ++ [0])
    simp only [plc, Pg.hgt, List.length_append]
    have h5 : (if p.isPair then [pl] else []).length ≤ 1 := by split <;> simp
    rw [Nat.pow_succ 2 (p.hgt + 1)]
    have : 2 ≤ 2 ^ (p.hgt + 1) := by rw [Nat.pow_succ]; have := Nat.one_le_two_pow (n := p.hgt); omega
    omega
def plcs : List Pg → Nat → List Int → List (List Int)
  | [], _, _ => []
  | q :: qs, i, pl => plc q (pl ++ [(i : Int)]) ++ plcs qs (i + 1) pl
theorem plc_eq (p : Pg) (pl : List Int) : plc p pl = (if p.can then [pl] else []) ++ plcs p.ins 0 pl := by
  cases p <;> simp [plc, Pg.can, Pg.ins, plcs] <;> rfl
theorem ins_cases (p : Pg) : p.ins = [] ∨ (∃ x, p.ins = [x]) ∨ ∃ x y, p.ins = [x, y] := by
  cases p <;> simp [Pg.ins]
theorem ins_hgt {p q : Pg} (h : q ∈ p.ins) : q.hgt < p.hgt := by
  cases p <;> simp only [Pg.ins, List.mem_cons, List.not_mem_nil, or_false] at h
  · subst h; simp [Pg.hgt]
  · rcases h with rfl | rfl <;> simp only [Pg.hgt] <;> omega
  · rcases h with rfl | rfl <;> simp only [Pg.hgt] <;> omega
  · subst h; simp [Pg.hgt]
  · subst h; simp [Pg.hgt]
theorem plc_le {p : Pg} {pl : List Int} (h : p.hgt ≤ 20) : (plc p pl).length ≤ 2097152 := by
  have h1 := plc_len p pl
  have h2 : 2 ^ (p.hgt + 1) ≤ 2 ^ 21 := Nat.pow_le_pow_right (by decide) (by omega)
  have h3 : (2 : Nat) ^ 21 = 2097152 := by decide
  omega
theorem sz_21 {n : Nat} (h : n ≤ 4194304) : n ≤ sizeLine := Nat.le_trans h (by decide)
abbrev dI (q : List Int) : D := .lst (q.map .int)
theorem enum0 : enumD [] = [] := rfl
theorem enum1 (x : D) : enumD [x] = [.tup [.int 0, x]] := rfl
theorem enum2 (x y : D) : enumD [x, y] = [.tup [.int 0, x], .tup [.int 1, y]] := rfl
/-! ### rows of names -/
/-- what a name is by a row: the last one counts -/
def envOf (kn : List (Str × Kd)) (x : Str) : Option Kd := (kn.reverse.find? fun q => decide (q.1 = x)).map (·.2)
theorem envOf_nil (x : Str) : envOf [] x = none := rfl
theorem envOf_snoc (kn : List (Str × Kd)) (y : Str) (k : Kd) (x : Str) : envOf (kn ++ [(y, k)]) x = if y = x then some k else envOf kn x := by
  unfold envOf
  rw [List.reverse_append, List.reverse_singleton, List.singleton_append, List.find?_cons]
  by_cases h : y = x
  · simp [h]
  · simp [h]
/-- the kind of a program by what its names are -/
def hasK : (Str → Option Kd) → Pg → Kd → Prop
  | e, .nm x, k => e x = some k
  | _, .thing, k => k = .one
  | e, .take x a b, k => ∃ r, k = .to a r ∧ hasK (fun y => if x = y then some a else e y) b r
  | e, .give f a, k => ∃ c, hasK e f (.to c k) ∧ hasK e a c
  | e, .pair a b, k => ∃ c d, k = .both c d ∧ hasK e a c ∧ hasK e b d
  | e, .first p, k => ∃ d, hasK e p (.both k d)
  | e, .second p, k => ∃ c, hasK e p (.both c k)
end Kf
/-! Ktx: texts of kinds. -/
namespace Kf
open PySem PySem.Spec L2
open PyProof.Rows hiding St
abbrev bl1 : Str := " "
/-! ### joining and splitting -/
theorem join_app {sep : Str} : ∀ (a b : List Str), a ≠ [] → b ≠ [] → Str.join sep (a ++ b) = Str.join sep a ++ sep ++ Str.join sep b
  | [], _, h, _ => absurd rfl h
  | [x], y :: b, _, _ => rfl
  | [x], [], _, h => absurd rfl h
  | x :: z :: a, b, _, hb => by
    have ih := join_app (sep := sep) (z :: a) b (by simp) hb
    show x ++ sep ++ Str.join sep (z :: (a ++ b)) = (x ++ sep ++ Str.join sep (z :: a)) ++ sep ++ Str.join sep b
    rw [show z :: (a ++ b) = z :: a ++ b from rfl, ih]
    apply str_ext
    simp only [tl_app, List.append_assoc]
theorem join_cons {sep : Str} (x : Str) (b : List Str) (h : b ≠ []) : Str.join sep (x :: b) = x ++ sep ++ Str.join sep b := join_app [x] b (by simp) h
theorem split_words {ws : List Str} (h : ws ≠ []) (hp : ∀ w ∈ ws, 32 ∉ w.cps.toList) : Txt.split (Str.join bl1 ws) bl1 = ws := by
  rw [← TL.join_eq]
  exact TL.split_join (y := bl1) (s := 32) (S := []) (by decide +kernel) (by decide +kernel) h hp
/-! ### kinds by words -/
def kwords : Kd → List Str
  | .mk m => [m]
  | .one => ["1"]
  | .to a b => [Str.ofString "("] ++ kwords a ++ [Str.ofString "->"] ++ kwords b ++ [Str.ofString ")"]
  | .both a b => [Str.ofString "("] ++ kwords a ++ [Str.ofString "*"] ++ kwords b ++ [Str.ofString ")"]
def kshow : Kd → Str
  | .mk m => m
  | .one => "1"
  | .to a b => Str.ofString "( " ++ kshow a ++ Str.ofString " " ++ Str.ofString "->" ++ Str.ofString " " ++ kshow b ++ Str.ofString " )"
  | .both a b => Str.ofString "( " ++ kshow a ++ Str.ofString " " ++ Str.ofString "*" ++ Str.ofString " " ++ kshow b ++ Str.ofString " )"
theorem kwords_ne (k : Kd) : kwords k ≠ [] := by cases k <;> simp [kwords]
theorem tlop : (Str.ofString "( ").cps.toList = (Str.ofString "(").cps.toList ++ bl1.cps.toList := by decide +kernel
theorem tlcl : (Str.ofString " )").cps.toList = bl1.cps.toList ++ (Str.ofString ")").cps.toList := by decide +kernel
theorem join5 (a b : List Str) (s : Str) (ha : a ≠ []) (hb : b ≠ []) : Str.join bl1 ([Str.ofString "("] ++ a ++ [s] ++ b ++ [Str.ofString ")"]) = Str.ofString "( " ++ Str.join bl1 a ++ Str.ofString " " ++ s ++ Str.ofString " " ++ Str.join bl1 b ++ Str.ofString " )" := by
  rw [join_app _ _ (by simp) (by simp), join_app _ _ (by simp) hb, join_app _ _ (by simp) (by simp), join_app _ _ (by simp) ha]
  show Str.ofString "(" ++ bl1 ++ _ ++ bl1 ++ s ++ bl1 ++ _ ++ bl1 ++ Str.ofString ")" = _
  apply str_ext
  simp only [tl_app, tlop, tlcl, List.append_assoc]
theorem kshow_eq : ∀ k : Kd, kshow k = Str.join bl1 (kwords k)
  | .mk _ => rfl
  | .one => rfl
  | .to a b => by simp only [kshow, kwords, kshow_eq a, kshow_eq b]; rw [join5 _ _ _ (kwords_ne a) (kwords_ne b)]
  | .both a b => by simp only [kshow, kwords, kshow_eq a, kshow_eq b]; rw [join5 _ _ _ (kwords_ne a) (kwords_ne b)]
def Kd.mks (k : Kd) : Prop := ∀ m ∈ k.marks, isMarkB m = true
theorem mark_sp {m : Str} (h : isMarkB m = true) : 32 ∉ m.cps.toList := by
  unfold isMarkB at h
  simp only [Bool.and_eq_true, List.all_eq_true] at h
  intro h2
  have := h.1 32 h2
  revert this
  decide +kernel
theorem kwords_sp : ∀ k : Kd, k.mks → ∀ w ∈ kwords k, 32 ∉ w.cps.toList
  | .mk m, h, w, hw => by
    simp only [kwords, List.mem_singleton] at hw
    subst hw
    exact mark_sp (h w (by simp [Kd.marks]))
  | .one, h, w, hw => by
    simp only [kwords, List.mem_singleton] at hw
    subst hw
    decide +kernel
  | .to a b, h, w, hw => by
    simp only [kwords, List.mem_append, List.mem_singleton] at hw
    rcases hw with (((rfl | hw) | rfl) | hw) | rfl
    · decide +kernel
    · exact kwords_sp a (fun m hm => h m (by simp [Kd.marks, hm])) w hw
    · decide +kernel
    · exact kwords_sp b (fun m hm => h m (by simp [Kd.marks, hm])) w hw
    · decide +kernel
  | .both a b, h, w, hw => by
    simp only [kwords, List.mem_append, List.mem_singleton] at hw
    rcases hw with (((rfl | hw) | rfl) | hw) | rfl
    · decide +kernel
    · exact kwords_sp a (fun m hm => h m (by simp [Kd.marks, hm])) w hw
    · decide +kernel
    · exact kwords_sp b (fun m hm => h m (by simp [Kd.marks, hm])) w hw
    · decide +kernel
theorem split_kshow {k : Kd} (h : k.mks) : Txt.split (kshow k) bl1 = kwords k := by rw [kshow_eq, split_words (kwords_ne k) (kwords_sp k h)]
theorem kwords_len : ∀ k : Kd, (kwords k).length + 3 = 4 * k.leaves
  | .mk _ => rfl
  | .one => rfl
  | .to a b => by have := kwords_len a; have := kwords_len b; simp only [kwords, List.length_append, List.length_singleton, Kd.leaves]; omega
  | .both a b => by have := kwords_len a; have := kwords_len b; simp only [kwords, List.length_append, List.length_singleton, Kd.leaves]; omega
theorem mark_len {m : Str} (h : isMarkB m = true) : m.length ≤ 6 := by
  unfold isMarkB at h
  simp only [Bool.and_eq_true, decide_eq_true_eq] at h
  exact h.2.2
theorem kshow_len : ∀ k : Kd, k.mks → (kshow k).length + 8 ≤ 14 * k.leaves
  | .mk m, h => by have := mark_len (h m (by simp [Kd.marks])); simp only [kshow, Kd.leaves]; omega
  | .one, _ => by simp only [kshow, Kd.leaves]; decide +kernel
  | .to a b, h => by
    have h1 := kshow_len a fun m hm => h m (by simp [Kd.marks, hm])
    have h2 := kshow_len b fun m hm => h m (by simp [Kd.marks, hm])
    have e1 : (Str.ofString "( ").length = 2 := by decide +kernel
    have e2 : (Str.ofString " ").length = 1 := by decide +kernel
    have e3 : (Str.ofString "->").length = 2 := by decide +kernel
    have e4 : (Str.ofString " )").length = 2 := by decide +kernel
    simp only [kshow, Kd.leaves, len_app, e1, e2, e3, e4]; omega
  | .both a b, h => by
    have h1 := kshow_len a fun m hm => h m (by simp [Kd.marks, hm])
    have h2 := kshow_len b fun m hm => h m (by simp [Kd.marks, hm])
    have e1 : (Str.ofString "( ").length = 2 := by decide +kernel
    have e2 : (Str.ofString " ").length = 1 := by decide +kernel
    have e3 : (Str.ofString "*").length = 1 := by decide +kernel
    have e4 : (Str.ofString " )").length = 2 := by decide +kernel
    simp only [kshow, Kd.leaves, len_app, e1, e2, e3, e4]; omega
def kwd : Kd → Str
  | .mk _ => "mark"
  | .one => "one"
  | .to .. => "to"
  | .both .. => "both"
/-! ### reading -/
def sg (s : Str) : Option (Kd → Kd → Kd) := if s = "->" then some .to else if s = "*" then some .both else none
/-- a leaf's word -/
def lfw (w : Str) : Option Kd := if w = "1" then some .one else if isMarkB w = true then some (.mk w) else none
def kp : Nat → List Str → Option (Kd × List Str)
  | _, [] => none
  | 0, w :: r => (lfw w).map fun k => (k, r)
  | n + 1, w :: r => match lfw w with
    | some k => some (k, r)
    | none => if w = "(" then match kp n r with
        | some (a, s :: r2) => match sg s with
          | some f => match kp n r2 with
            | some (b, c :: r3) => if c = ")" then some (f a b, r3) else none
            | _ => none
          | none => none
        | _ => none
      else none
theorem lfw_op : lfw "(" = none := by decide +kernel
theorem lfw_cl : lfw ")" = none := by decide +kernel
theorem sg_lf {s : Str} {f : Kd → Kd → Kd} (h : sg s = some f) : lfw s = none := by
  unfold sg at h
  split at h
  · rename_i e; subst e; decide +kernel
  · split at h
    · rename_i e; subst e; decide +kernel
    · cases h
def kpo (n : Nat) (l : List Str) : Option (Kd × List Str) := match kp n l with
  | some (a, s :: r2) => match sg s with
    | some f => match kp n r2 with
      | some (b, c :: r3) => if c = Str.ofString ")" then some (f a b, r3) else none
      | _ => none
    | none => none
  | _ => none
theorem kp_op (n : Nat) (l : List Str) : kp (n + 1) (Str.ofString "(" :: l) = kpo n l := by
  unfold kpo
  rw [kp, lfw_op]
  simp only [if_true]
theorem sg_e : sg (Str.ofString "") = none := by unfold sg; rw [if_neg (by decide +kernel), if_neg (by decide +kernel)]
/-- what is read is the rest's beginning -/
theorem kp_words : ∀ (n : Nat) (l : List Str) (k : Kd) (r : List Str), kp n l = some (k, r) → l = kwords k ++ r ∧ k.mks ∧ k.depth ≤ n
  | n, [], k, r, h => by cases n <;> simp [kp] at h
  | 0, w :: l, k, r, h => by
    simp only [kp] at h
    obtain ⟨k', e1, e2⟩ := Option.map_eq_some_iff.mp h
    cases e2
    unfold lfw at e1
    split at e1
    · rename_i e; cases e1; subst e; exact ⟨rfl, by simp [Kd.mks, Kd.marks], by simp [Kd.depth]⟩
    · split at e1
      · rename_i e; cases e1; exact ⟨rfl, by intro m hm; simp [Kd.marks] at hm; subst hm; exact e, by simp [Kd.depth]⟩
      · cases e1
  | n + 1, w :: l, k, r, h => by
    unfold kp at h
    cases hl : lfw w with
    | some k' =>
      rw [hl] at h
      cases h
      unfold lfw at hl
      split at hl
      · rename_i e; cases hl; subst e; exact ⟨rfl, by simp [Kd.mks, Kd.marks], by simp [Kd.depth]⟩
      · split at hl
        · rename_i e; cases hl; exact ⟨rfl, by intro m hm; simp [Kd.marks] at hm; subst hm; exact e, by simp [Kd.depth]⟩
        · cases hl
    | none =>
      rw [hl] at h
      dsimp only at h
      split at h
      · rename_i ew
        subst ew
        split at h
        · rename_i a s r2 e1
          obtain ⟨w1, m1, d1⟩ := kp_words n l a _ e1
          split at h
          · rename_i f e2
            split at h
            · rename_i b c r3 e3
              obtain ⟨w2, m2, d2⟩ := kp_words n r2 b _ e3
              split at h
              · rename_i ec
                subst ec
                cases h
                unfold sg at e2
                split at e2
                · rename_i es
                  cases e2
                  subst es
                  refine ⟨by rw [w1, w2]; simp [kwords], ?_, by simp only [Kd.depth]; omega⟩
                  intro m hm
                  simp only [Kd.marks, List.mem_append] at hm
                  exact hm.elim (m1 m) (m2 m)
                · split at e2
                  · rename_i es
                    cases e2
                    subst es
                    refine ⟨by rw [w1, w2]; simp [kwords], ?_, by simp only [Kd.depth]; omega⟩
                    intro m hm
                    simp only [Kd.marks, List.mem_append] at hm
                    exact hm.elim (m1 m) (m2 m)
                  · cases e2
              · cases h
            · cases h
          · cases h
        · cases h
      · cases h
theorem lfw_mk {m : Str} (h : isMarkB m = true) : lfw m = some (.mk m) := by
  unfold lfw
  rw [if_neg, if_pos h]
  rintro rfl
  revert h
  decide +kernel
/-- a kind's words are read -/
theorem kp_read : ∀ (k : Kd) (n : Nat) (r : List Str), k.mks → k.depth ≤ n → kp n (kwords k ++ r) = some (k, r)
  | .mk m, n, r, h, _ => by
    have := lfw_mk (h m (by simp [Kd.marks]))
    cases n <;> simp [kwords, kp, this]
  | .one, n, r, h, _ => by
    have : lfw "1" = some .one := by decide +kernel
    cases n <;> simp [kwords, kp, this]
  | .to a b, n, r, h, hd => by
    cases n with
    | zero => simp [Kd.depth] at hd
    | succ n =>
      simp only [Kd.depth] at hd
      have i1 := kp_read a n ([Str.ofString "->"] ++ (kwords b ++ ([Str.ofString ")"] ++ r))) (fun m hm => h m (by simp [Kd.marks, hm])) (by omega)
      have i2 := kp_read b n ([Str.ofString ")"] ++ r) (fun m hm => h m (by simp [Kd.marks, hm])) (by omega)
      have e : kwords (.to a b) ++ r = Str.ofString "(" :: (kwords a ++ ([Str.ofString "->"] ++ (kwords b ++ ([Str.ofString ")"] ++ r)))) := by simp [kwords]
      have hs : sg "->" = some .to := by unfold sg; rw [if_pos rfl]
      rw [e]
      unfold kp
      rw [lfw_op]
      simp only [if_true, i1]
      simp only [List.singleton_append, hs, List.append_eq]
      rw [List.singleton_append] at i2
      rw [i2]
      simp
  | .both a b, n, r, h, hd => by
    cases n with
    | zero => simp [Kd.depth] at hd
    | succ n =>
      simp only [Kd.depth] at hd
      have i1 := kp_read a n ([Str.ofString "*"] ++ (kwords b ++ ([Str.ofString ")"] ++ r))) (fun m hm => h m (by simp [Kd.marks, hm])) (by omega)
      have i2 := kp_read b n ([Str.ofString ")"] ++ r) (fun m hm => h m (by simp [Kd.marks, hm])) (by omega)
      have e : kwords (.both a b) ++ r = Str.ofString "(" :: (kwords a ++ ([Str.ofString "*"] ++ (kwords b ++ ([Str.ofString ")"] ++ r)))) := by simp [kwords]
      have hs : sg "*" = some .both := by unfold sg; rw [if_neg (by decide +kernel), if_pos rfl]
      rw [e]
      unfold kp
      rw [lfw_op]
      simp only [if_true, i1]
      simp only [List.singleton_append, hs, List.append_eq]
      rw [List.singleton_append] at i2
      rw [i2]
      simp
/-- the kind of a text -/
def rk (t : Str) : Option Kd := match kp 12 (Txt.split t bl1) with
  | some (k, []) => if k.leaves ≤ 24 then some k else none
  | _ => none
theorem hf_of : ∀ (k : Kd) (n : Nat), k.mks → k.depth < n → hf n (dK k) = true
  | .mk m, n, h, hd => by
    cases n with
    | zero => omega
    | succ n => simp only [dK, hf, deq_s, decide_true, strB, h m (by simp [Kd.marks]), Bool.and_self]
  | .one, n, h, hd => by
    cases n with
    | zero => omega
    | succ n => simp only [dK, hf, deq_s, decide_true]
  | .to a b, n, h, hd => by
    cases n with
    | zero => omega
    | succ n =>
      simp only [Kd.depth] at hd
      simp only [dK, hf, deq_s, decide_true, Bool.true_or, Bool.true_and, hf_of a n (fun m hm => h m (by simp [Kd.marks, hm])) (by omega), hf_of b n (fun m hm => h m (by simp [Kd.marks, hm])) (by omega), Bool.and_self]
  | .both a b, n, h, hd => by
    cases n with
    | zero => omega
    | succ n =>
      simp only [Kd.depth] at hd
      simp only [dK, hf, deq_s, decide_true, Bool.or_true, Bool.true_and, hf_of a n (fun m hm => h m (by simp [Kd.marks, hm])) (by omega), hf_of b n (fun m hm => h m (by simp [Kd.marks, hm])) (by omega), Bool.and_self]
theorem mark_so {m : Str} (h : isMarkB m = true) : PyData.strOk m = true := by
  rw [strOk_iff]
  unfold isMarkB at h
  simp only [Bool.and_eq_true, List.all_eq_true] at h
  intro c hc
  have h1 := h.1 c hc
  unfold letB at h1
  have h2 : ∀ c ∈ abc.cps.toList, c < 1114112 := by decide +kernel
  exact h2 c (of_decide_eq_true h1)
theorem mks_ok : ∀ k : Kd, k.mks → k.ok = true
  | .mk m, h => mark_so (h m (by simp [Kd.marks]))
  | .one, _ => rfl
  | .to a b, h => by simp only [Kd.ok, mks_ok a fun m hm => h m (by simp [Kd.marks, hm]), mks_ok b fun m hm => h m (by simp [Kd.marks, hm]), Bool.and_self]
  | .both a b, h => by simp only [Kd.ok, mks_ok a fun m hm => h m (by simp [Kd.marks, hm]), mks_ok b fun m hm => h m (by simp [Kd.marks, hm]), Bool.and_self]
theorem mks_th {k : Kd} (h : k.mks) : ThAll (dK k) := th_dK k (mks_ok k h) fun m hm => by have := mark_len (h m hm); omega
end Kf
/-! Kpw5: reading kinds of words, with no bound to the depth. -/
namespace Kf
open PySem PySem.Spec L2
open PyProof.Rows hiding St
def kpw (l : List Str) : Option (Kd × List Str) := kp l.length l
theorem kp_big {n : Nat} {l : List Str} (h : l.length ≤ n) : kp n l = kpw l := by
  unfold kpw
  cases e : kp l.length l with
  | some p =>
    obtain ⟨k, r⟩ := p
    obtain ⟨h1, h2, h3⟩ := kp_words _ l k r e
    rw [h1]; exact kp_read k n r h2 (by omega)
  | none =>
    cases e2 : kp n l with
    | none => rfl
    | some p =>
      obtain ⟨k, r⟩ := p
      obtain ⟨h1, h2, h3⟩ := kp_words _ l k r e2
      have hl := congrArg List.length h1
      rw [List.length_append] at hl
      have := kwords_len k
      have := k.depth_lt
      have e3 := kp_read k l.length r h2 (by omega)
      rw [← h1, e] at e3; cases e3
theorem kpw_read {k : Kd} {r : List Str} (h : k.mks) : kpw (kwords k ++ r) = some (k, r) := by
  have := kwords_len k
  have := k.depth_lt
  unfold kpw
  exact kp_read k _ r h (by rw [List.length_append]; omega)
theorem kpw_words {l : List Str} {k : Kd} {r : List Str} (h : kpw l = some (k, r)) : l = kwords k ++ r ∧ k.mks := by
  obtain ⟨h1, h2, _⟩ := kp_words _ l k r h
  exact ⟨h1, h2⟩
theorem kp_12 (l : List Str) : kp 12 l = match kpw l with
    | some (k, r) => if k.depth ≤ 12 then some (k, r) else none
    | none => none := by
  cases e : kpw l with
  | some p =>
    obtain ⟨k, r⟩ := p
    obtain ⟨h1, h2⟩ := kpw_words e
    dsimp only
    by_cases c : k.depth ≤ 12
    · rw [if_pos c, h1]; exact kp_read k 12 r h2 c
    · rw [if_neg c]
      cases e2 : kp 12 l with
      | none => rfl
      | some p =>
        obtain ⟨k', r'⟩ := p
        obtain ⟨g1, g2, g3⟩ := kp_words _ l k' r' e2
        have := kpw_read (r := r') g2
        rw [← g1, e] at this
        cases this
        omega
  | none =>
    dsimp only
    cases e2 : kp 12 l with
    | none => rfl
    | some p =>
      obtain ⟨k', r'⟩ := p
      obtain ⟨g1, g2, g3⟩ := kp_words _ l k' r' e2
      have := kpw_read (r := r') g2
      rw [← g1, e] at this
      cases this
theorem kpw_nil : kpw [] = none := rfl
theorem kpw_lf {w : Str} {r : List Str} {k : Kd} (h : lfw w = some k) : kpw (w :: r) = some (k, r) := by
  simp [kpw, kp, h]
theorem kpw_no {w : Str} {r : List Str} (h : lfw w = none) (h2 : w ≠ "(") : kpw (w :: r) = none := by
  simp [kpw, kp, h, h2]
theorem kpw_op (r : List Str) : kpw (Str.ofString "(" :: r) = match kpw r with
    | some (a, s :: r2) => match sg s with
      | some f => match kpw r2 with
        | some (b, c :: r3) => if c = ")" then some (f a b, r3) else none
        | _ => none
      | none => none
    | _ => none := by
  have h0 : kpw (Str.ofString "(" :: r) = kpo r.length r := by
    unfold kpw
    rw [List.length_cons, kp_op]
  rw [h0]
  unfold kpo
  rw [show kp r.length r = kpw r from rfl]
  cases e : kpw r with
  | none => rfl
  | some p =>
    obtain ⟨a, l⟩ := p
    cases l with
    | nil => rfl
    | cons s r2 =>
      dsimp only
      obtain ⟨h1, _⟩ := kpw_words e
      have hl := congrArg List.length h1
      rw [List.length_append, List.length_cons] at hl
      rw [kp_big (n := r.length) (l := r2) (by omega)]
      try rfl
def dFrom (m : Nat) : Option (Kd × List Str) → D
  | some (k, r) => .lst [dK k, .int ((m - r.length : Nat) : Int), .int (k.leaves : Int), .int (k.depth : Int)]
  | none => .non
theorem cut1 {α : Type} (xs : List α) (o : Nat) (h : o ≤ xs.length) : cut xs (some (o : Int)) (some ((o : Int) + 1)) = (xs.drop o).take 1 := by
  unfold cut
  rw [show (o : Int) + 1 = ((o + 1 : Nat) : Int) by omega, HT.sIx_nat, HT.sIx_nat, show min o xs.length = o by omega]
  by_cases c : o = xs.length
  · subst c
    rw [List.drop_length]; simp
  · rw [show min (o + 1) xs.length - o = 1 by omega]
theorem deqs_ss : ∀ a b : List Str, deqs (a.map D.str) (b.map D.str) = decide (a = b)
  | [], [] => by simp [deqs_nn]
  | [], _ :: _ => by simp [deqs_nc]
  | _ :: _, [] => by simp [deqs_cn]
  | x :: a, y :: b => by
    rw [List.map_cons, List.map_cons, deqs_cc, deqs_ss a b, deq_s]
    by_cases h : x = y <;> simp [h]
theorem rEq_ss {neg : Bool} {O : Ow} {us vs : List Str} {Q : VD} (hu : ∀ u ∈ us, PyData.strOk u = true) (hv : ∀ u ∈ vs, PyData.strOk u = true) : rEqD neg (.lst (us.map .str)) (.lst (vs.map .str)) O Q = Q (.bl (neg ^^ decide (us = vs))) O := by
  have hd : ∀ ts : List Str, dp (.lst (ts.map .str)) ≤ 100 := fun ts => by
    have : ∀ ts : List Str, PyData.depthAll (toPys (ts.map .str)) ≤ 1 := fun ts => by
      induction ts with
      | nil => rw [List.map_nil, dpN]; omega
      | cons t ts ih => rw [List.map_cons, dpC, dpS]; omega
    have := this ts
    rw [dpL]; omega
  have := hd us
  have := hd vs
  rw [rEq_d (by rw [deref_lst, isPy]; exact isPys_strs hu) (by rw [deref_lst, isPy]; exact isPys_strs hv) (by rw [deref_lst]; omega), deref_lst, deref_lst, deq_l, deqs_ss]
theorem rIn_wl2 {neg : Bool} {O : Ow} {us : List Str} {Q : VD} (hu : ∀ u ∈ us, PyData.strOk u = true) (hl : us.length ≤ 1) : rInD neg (.lst (us.map .str)) (.lst [.lst [.str (Str.ofString "->")], .lst [.str (Str.ofString "*")]]) O Q = Q (.bl (neg ^^ (decide (us = [Str.ofString "->"]) || decide (us = [Str.ofString "*"])))) O := by
  have h1 : isPys [D.lst [.str (Str.ofString "->")], .lst [.str (Str.ofString "*")]] = true := by decide +kernel
  have hd : dp (.lst (us.map .str)) ≤ 3 := by
    have : ∀ ts : List Str, PyData.depthAll (toPys (ts.map .str)) ≤ 1 := fun ts => by
      induction ts with
      | nil => rw [List.map_nil, dpN]; omega
      | cons t ts ih => rw [List.map_cons, dpC, dpS]; omega
    have := this us
    rw [dpL]; omega
  have e1 := deqs_ss [Str.ofString "->"] us
  have e2 := deqs_ss [Str.ofString "*"] us
  have c1 : decide ([Str.ofString "->"] = us) = decide (us = [Str.ofString "->"]) := by simp only [eq_comm]
  have c2 : decide ([Str.ofString "*"] = us) = decide (us = [Str.ofString "*"]) := by simp only [eq_comm]
  have f1 : PyData.eqv (toPy (.lst [.str (Str.ofString "->")])) (toPy (.lst (us.map .str))) = decide (us = [Str.ofString "->"]) := (deq_l).trans (e1.trans c1)
  have f2 : PyData.eqv (toPy (.lst [.str (Str.ofString "*")])) (toPy (.lst (us.map .str))) = decide (us = [Str.ofString "*"]) := (deq_l).trans (e2.trans c2)
  simp only [rInD, deref_lst, isPy, isPys_strs hu, h1, true_and, List.any_cons, List.any_nil, f1, f2, Bool.or_false]
  rw [eq_iff_iff]
  exact ⟨fun h => h.2, fun h => ⟨by omega, h⟩⟩
theorem rk_none {t : Str} (e : kpw (Txt.split t bl1) = none) : rk t = none := by
  unfold rk; rw [kp_12, e]
theorem rk_cons {t : Str} {k : Kd} {c : Str} {r : List Str} (e : kpw (Txt.split t bl1) = some (k, c :: r)) : rk t = none := by
  unfold rk; rw [kp_12, e]
  dsimp only
  by_cases h : k.depth ≤ 12
  · rw [if_pos h]
  · rw [if_neg h]
theorem rk_nil {t : Str} {k : Kd} (e : kpw (Txt.split t bl1) = some (k, [])) : rk t = if k.leaves ≤ 24 ∧ k.depth ≤ 12 then some k else none := by
  unfold rk; rw [kp_12, e]
  dsimp only
  by_cases h : k.depth ≤ 12
  · rw [if_pos h]; dsimp only
    by_cases h2 : k.leaves ≤ 24
    · rw [if_pos h2, if_pos ⟨h2, h⟩]
    · rw [if_neg h2, if_neg fun q => h2 q.1]
  · rw [if_neg h, if_neg fun q => h q.2]
end Kf
namespace Kf
open PySem PySem.Spec L2
open PyProof.Rows hiding St
local macro_rules | `(tactic| walk_at "kf") => `(tactic| simp (config := { failIfUnchanged := false }) only [startD, ap_fiEnumT, asT1_t, ap_fKGet, asStr_s, ap_fKIn, ap_fKIx, ap_gAsgL, rUnl_l, ap_fiRng3, asR3_i, rSplitO_s, ap_fOrL, rOrL_l, ap_fLcK, ap_gForK, ap_fMaxD, rMaxD_l, rMaxL_l, ap_fCallXD, ap_gForE, asLE_l, ap_fFrz, ap_fDicO, ap_fDGet, ap_fDGet1, ap_fDGet2, ap_gDPut, ap_fIsiT, ap_gForR, rRep_l, isT_i, isT_s, isT_b, isT_n, isT_t, isT_l, ap_gSeq, ap_gIf, ap_gRet, ap_gNext, ap_gSet, ap_gAsg, ap_gDrop, ap_gRetF, ap_gRetN, ap_gFor, ap_gSetIx, ap_gBreak, ap_fRev, ap_fiRevR, asIR_i, rRev_l, ap_fCallX, ap_gRaise, ap_gTry, ap_gTryAs, ap_gNever, ap_fEdic, ap_fTest, ap_fOp, ap_fVar, envGet_s, patGet_s, ap_fC, ap_fCB, ap_fCons, ap_fNil, ap_fCall, ap_fAnd, ap_fOr, ap_fNot, ap_fAndV, ap_fOrV, ap_fNotV, ap_fIf, ap_fTup, ap_fLst, ap_fLstO, ap_fChain, ap_fUn, ap_fBM, ap_fBM0, ap_fPool, rPool_i, ap_fSl, ap_fPart, ap_fNoPart, asI_i, rSl_l, ap_fiRng1, ap_fiRng2, ap_fiList, ap_fiTup, ap_fiStr, ap_fiEnum, ap_fiZip, ap_fiRev, asL_l, asT_t, asSg_s, asR1_i, asR2_i, asL1_l, asL2_l, ap_fLc, ap_fLcO, ap_fYes, wipeD, lcD, isi_i_int, isi_i_bool, isi_i_str, isi_i_tuple, isi_i_list, isi_i_dict, isi_b_int, isi_b_bool, isi_b_str, isi_b_tuple, isi_b_list, isi_b_dict, isi_s_int, isi_s_bool, isi_s_str, isi_s_tuple, isi_s_list, isi_s_dict, isi_t_int, isi_t_bool, isi_t_str, isi_t_tuple, isi_t_list, isi_t_dict, isi_l_int, isi_l_bool, isi_l_str, isi_l_tuple, isi_l_list, isi_l_dict, isi_n_int, isi_n_bool, isi_n_str, isi_n_tuple, isi_n_list, isi_n_dict, isi_d_int, isi_d_bool, isi_d_str, isi_d_tuple, isi_d_list, isi_d_dict,
  deref_tup, deref_lst, deref_int, deref_str, deref_bl, deref_non, deref_scr, rLt_i, rLt_s, rLe_i, rLe_s, rInts_i, rInts0_i, rAdd_i, rAdd_s, rAdd_l, rAdd_t, rCatO_l, rNeg_i, rLen_t, rLen_l, rLen_c, rLen_s, rMax_i, rMin_i, rInt_i, rInt_b, rDivmod_i, ap_gAug, rStr_i, rList_l, rList_t, rListO_l, rListO_t, rTup_l, rTup_t,
  rIx_t0, rIx_t1, rIx_t2, rIx_t3, rIx_l0, rIx_l1, rIx_l2, rIsN_x, isNon_t, isNon_n, isNon_i, isNon_s, isNon_l, rEq_i, rEq_b, rEq_i2, rEq_b2, rJoin_m, rSplit_s, tyOk_l, tyOk_s, patD_nm, patD_tp, patDs_nil, patDs_cons, Option.bind_some, notX, notX',
  List.map_cons, List.map_nil, List.length_cons, List.length_nil, List.cons_append, List.nil_append, List.append_nil, List.replicate, List.getElem?_cons_zero, List.getElem?_cons_succ, List.set_cons_zero, List.set_cons_succ, updO_same, updO_updO,
  Nat.reduceSub, Nat.reduceAdd, Nat.reduceLeDiff, Nat.zero_add, Int.cast_ofNat_Int, Int.natCast_zero, Int.natCast_one, Int.reduceLT, Int.reduceLE, Int.reduceEq, Int.reduceAdd, Int.reduceSub, Int.reduceNeg, decide_true, decide_false, if_true, if_false, Bool.false_eq_true, eq_self, reduceIte, Bool.true_eq_false, decide_eq_true_eq, Bool.not_true, Bool.not_false, Bool.not_eq_true', decide_eq_false_iff_not, exists_eq_left', exists_eq_left, D.bl.injEq, true_and, and_true, not_true_eq_false, not_false_eq_true])
local macro_rules | `(tactic| walk_at "len") => `(tactic| (intro ds O R RE h; first | (obtain ⟨e, _⟩ := h; subst e; rfl) | (obtain ⟨_, e, _⟩ := h; subst e; rfl) | (obtain ⟨_, _, e, _⟩ := h; subst e; rfl) | (obtain ⟨_, _, _, e, _⟩ := h; subst e; rfl) | (obtain ⟨_, _, _, _, e, _⟩ := h; subst e; rfl) | (obtain ⟨_, _, _, _, _, e, _⟩ := h; subst e; rfl) | (obtain ⟨_, _, _, _, _, _, e, _⟩ := h; subst e; rfl) | (obtain ⟨_, _, _, _, _, _, _, e, _⟩ := h; subst e; rfl) | (obtain ⟨_, _, _, _, _, _, _, _, e, _⟩ := h; subst e; rfl) | (obtain ⟨_, _, _, _, _, _, _, _, _, e, _⟩ := h; subst e; rfl)))
local macro_rules | `(tactic| walk_at "kf1") => `(tactic| simp (config := { failIfUnchanged := false }) only [startD, ap_fiEnumT, asT1_t, ap_fKGet, asStr_s, ap_fKIn, ap_fKIx, ap_gAsgL, rUnl_l, ap_fiRng3, asR3_i, rSplitO_s, ap_fOrL, rOrL_l, ap_fLcK, ap_gForK, ap_fMaxD, rMaxD_l, rMaxL_l, ap_fCallXD, ap_gForE, asLE_l, ap_fFrz, ap_fDicO, ap_fDGet, ap_fDGet1, ap_fDGet2, ap_gDPut, ap_fIsiT, ap_gForR, rRep_l, isT_i, isT_s, isT_b, isT_n, isT_t, isT_l, ap_gIf, ap_gRet, ap_gNext, ap_gSet, ap_gAsg, ap_gDrop, ap_gRetF, ap_gRetN, ap_gFor, ap_gSetIx, ap_gBreak, ap_fRev, ap_fiRevR, asIR_i, rRev_l, ap_fCallX, ap_gRaise, ap_gTry, ap_gTryAs, ap_gNever, ap_fEdic, ap_fTest, ap_fOp, ap_fVar, envGet_s, patGet_s, ap_fC, ap_fCB, ap_fCons, ap_fNil, ap_fCall, ap_fAnd, ap_fOr, ap_fNot, ap_fAndV, ap_fOrV, ap_fNotV, ap_fIf, ap_fTup, ap_fLst, ap_fLstO, ap_fChain, ap_fUn, ap_fBM, ap_fBM0, ap_fPool, rPool_i, ap_fSl, ap_fPart, ap_fNoPart, asI_i, rSl_l, ap_fiRng1, ap_fiRng2, ap_fiList, ap_fiTup, ap_fiStr, ap_fiEnum, ap_fiZip, ap_fiRev, asL_l, asT_t, asSg_s, asR1_i, asR2_i, asL1_l, asL2_l, ap_fLc, ap_fLcO, ap_fYes, wipeD, lcD, isi_i_int, isi_i_bool, isi_i_str, isi_i_tuple, isi_i_list, isi_i_dict, isi_b_int, isi_b_bool, isi_b_str, isi_b_tuple, isi_b_list, isi_b_dict, isi_s_int, isi_s_bool, isi_s_str, isi_s_tuple, isi_s_list, isi_s_dict, isi_t_int, isi_t_bool, isi_t_str, isi_t_tuple, isi_t_list, isi_t_dict, isi_l_int, isi_l_bool, isi_l_str, isi_l_tuple, isi_l_list, isi_l_dict, isi_n_int, isi_n_bool, isi_n_str, isi_n_tuple, isi_n_list, isi_n_dict, isi_d_int, isi_d_bool, isi_d_str, isi_d_tuple, isi_d_list, isi_d_dict,
  deref_tup, deref_lst, deref_int, deref_str, deref_bl, deref_non, deref_scr, rLt_i, rLt_s, rLe_i, rLe_s, rInts_i, rInts0_i, rAdd_i, rAdd_s, rAdd_l, rAdd_t, rCatO_l, rNeg_i, rLen_t, rLen_l, rLen_c, rLen_s, rMax_i, rMin_i, rInt_i, rInt_b, rDivmod_i, ap_gAug, rStr_i, rList_l, rList_t, rListO_l, rListO_t, rTup_l, rTup_t,
  rIx_t0, rIx_t1, rIx_t2, rIx_t3, rIx_l0, rIx_l1, rIx_l2, rIsN_x, isNon_t, isNon_n, isNon_i, isNon_s, isNon_l, rEq_i, rEq_b, rEq_i2, rEq_b2, rJoin_m, rSplit_s, tyOk_l, tyOk_s, patD_nm, patD_tp, patDs_nil, patDs_cons, Option.bind_some, notX, notX',
  List.map_cons, List.map_nil, List.length_cons, List.length_nil, List.cons_append, List.nil_append, List.append_nil, List.replicate, List.getElem?_cons_zero, List.getElem?_cons_succ, List.set_cons_zero, List.set_cons_succ, updO_same, updO_updO,
  Nat.reduceSub, Nat.reduceAdd, Nat.reduceLeDiff, Nat.zero_add, Int.cast_ofNat_Int, Int.natCast_zero, Int.natCast_one, Int.reduceLT, Int.reduceLE, Int.reduceEq, Int.reduceAdd, Int.reduceSub, Int.reduceNeg, decide_true, decide_false, if_true, if_false, Bool.false_eq_true, eq_self, reduceIte, Bool.true_eq_false, decide_eq_true_eq, Bool.not_true, Bool.not_false, Bool.not_eq_true', decide_eq_false_iff_not, exists_eq_left', exists_eq_left, D.bl.injEq, true_and, and_true, not_true_eq_false, not_false_eq_true])
section
variable {P : Program} {w : World} {K : PySem.W.Frag} {mg : Str → Option Value} {base : Heap}
local macro_rules | `(tactic| walk_at "tg") => `(tactic| simp (config := { failIfUnchanged := false }) only [te_name_take, te_name_give, te_name_pair, te_name_first, te_name_second, te_name_to, te_name_both, te_name_one, te_name_mark, te_name_name, te_name_thing, te_name_at, te_thing_take, te_thing_give, te_thing_pair, te_thing_first, te_thing_second, te_thing_to, te_thing_both, te_thing_one, te_thing_mark, te_thing_name, te_thing_thing, te_thing_at, te_take_take, te_take_give, te_take_pair, te_take_first, te_take_second, te_take_to, te_take_both, te_take_one, te_take_mark, te_take_name, te_take_thing, te_take_at, te_give_take, te_give_give, te_give_pair, te_give_first, te_give_second, te_give_to, te_give_both, te_give_one, te_give_mark, te_give_name, te_give_thing, te_give_at, te_pair_take, te_pair_give, te_pair_pair, te_pair_first, te_pair_second, te_pair_to, te_pair_both, te_pair_one, te_pair_mark, te_pair_name, te_pair_thing, te_pair_at, te_first_take, te_first_give, te_first_pair, te_first_first, te_first_second, te_first_to, te_first_both, te_first_one, te_first_mark, te_first_name, te_first_thing, te_first_at, te_second_take, te_second_give, te_second_pair, te_second_first, te_second_second, te_second_to, te_second_both, te_second_one, te_second_mark, te_second_name, te_second_thing, te_second_at, te_mark_take, te_mark_give, te_mark_pair, te_mark_first, te_mark_second, te_mark_to, te_mark_both, te_mark_one, te_mark_mark, te_mark_name, te_mark_thing, te_mark_at, te_one_take, te_one_give, te_one_pair, te_one_first, te_one_second, te_one_to, te_one_both, te_one_one, te_one_mark, te_one_name, te_one_thing, te_one_at, te_to_take, te_to_give, te_to_pair, te_to_first, te_to_second, te_to_to, te_to_both, te_to_one, te_to_mark, te_to_name, te_to_thing, te_to_at, te_both_take, te_both_give, te_both_pair, te_both_first, te_both_second, te_both_to, te_both_both, te_both_one, te_both_mark, te_both_name, te_both_thing, te_both_at, te_at_take, te_at_give, te_at_pair, te_at_first, te_at_second, te_at_to, te_at_both, te_at_one, te_at_mark, te_at_name, te_at_thing, te_at_at, ti4_name, ti4_thing, ti4_take, ti4_give, ti4_pair, ti4_first, ti4_second, ti2_name, ti2_thing, ti2_take, ti2_give, ti2_pair, ti2_first, ti2_second, szT_0, szT_1, szT_2, szT_3, szT_4, szT_5, szT_6, szT_7, szT_8, szT_9, szT_10, szT_11, szT_12, Bool.not_true, Bool.not_false, true_and])
local macro_rules | `(tactic| walk_at "jj") => `(tactic| simp (config := { failIfUnchanged := false }) only [ap_fjList, ap_fjEnum, ap_fjZip, ap_gForJ, ap_fLcJ, ap_fLcJO, asLJ_l, asLJ1_1, asLJ2_2, rIsB_b, ap_fSortSet, List.nil_append, List.append_nil])
local macro_rules | `(tactic| walk_at "kj") => `(tactic| (walk_at "kf"; walk_at "jj"; walk_at "kf"; walk_at "jj"; walk_at "kf"))
local macro_rules | `(tactic| walk_at "kj1") => `(tactic| (walk_at "kf1"; walk_at "jj"; walk_at "kf1"; walk_at "jj"; walk_at "kf1"))
theorem ok_pool {a : Addr} {fd : FuncData} {k : Nat} (N : Fn K mg "_law_pool" s__law_pool P__law_pool a fd) (m_len : mg "len" = none) : FnOk P w K mg base CX0 (k + 1) a fd P__law_pool (liftSp K spPool) := by
  refine fn_d (g := g__law_pool) N.F sc__law_pool (fun ds O R RE ⟨ns, k, e, _⟩ => by rw [e]; rfl) (der__law_pool m_len) ?_
  rintro ds O R RE ⟨ns, k, rfl, h0, h1, hR⟩
  unfold g__law_pool
  walk_at "kf"
  have c1 : CMul 104729 k := Or.inl ⟨by decide, by decide⟩
  have c2 : CMul (104729 * k) k := Or.inr ⟨by omega, by omega⟩
  have c3 : CPow 10 18 := ⟨by decide, by decide, by decide⟩
  have e18 : (10 : Int) ^ Int.toNat 18 = 1000000000000000000 := by decide
  split
  · obtain ⟨n, e1, _⟩ := atI_some (xs := ns) h0 (by assumption)
    simp only [rIx_c e1]
    walk_at "kf"
    refine ⟨c1, c2, poolNum n h0 h1, c3, ?_⟩
    rw [e18]
    split
    · exact ⟨(poolMod _).1, (poolMod _).2, hR⟩
    · exact ⟨by omega, (poolMod _).1, (poolMod _).2, hR⟩
  · refine ⟨c1, c2, poolNum 0 h0 h1, c3, (poolMod _).1, (poolMod _).2, hR⟩
theorem ok_take {a : Addr} {fd : FuncData} {k : Nat} (N : Fn K mg "_law_take" s__law_take P__law_take a fd) : FnOk P w K mg base CX0 (k + 1) a fd P__law_take (liftSp K spTake) := by
  refine fn_d (g := g__law_take) N.F sc__law_take (fun ds O R RE ⟨ns, k, e, _⟩ => by rw [e]; rfl) der__law_take ?_
  rintro ds O R RE ⟨p, m, rfl, hp, h0, h1, hR⟩
  unfold g__law_take
  walk_at "kf"
  simp only [rIx_p0 hp, rIx_p1 hp]
  intro x hx
  walk_at "kf"
  split
  · simp only [rIx_p0 hp]
    intro y hy
    walk_at "kf"
    refine ⟨h0, ?_⟩
    simp only [rIx_p0 hp]
    intro z hz
    walk_at "kf"
    refine ⟨⟨h0, h1⟩, ?_⟩
    simp only [rSet_p0 hp]
    exact ⟨Int.ediv_nonneg hz (by omega), hR _ (Int.emod_nonneg _ (by omega)) (Int.emod_lt_of_pos _ h0)⟩
  · simp only [rIx_p1 hp]
    intro y hy hy2
    walk_at "kf"
    refine ⟨Or.inr ⟨by decide, by decide⟩, ?_⟩
    simp only [rSet_p1 hp]
    refine ⟨poolMod _, ?_⟩
    walk_at "kf"
    simp only [rIx_p1 hp]
    intro z hz hz2
    intro u hu hu2
    walk_at "kf"
    exact ⟨Or.inl ⟨by omega, by omega⟩, ⟨by decide, by decide⟩, h0, hR _ (Int.emod_nonneg _ (by omega)) (Int.emod_lt_of_pos _ h0)⟩
theorem ok_is_mark {a : Addr} {fd : FuncData} {k : Nat} (N : Fn K mg "is_mark" s_is_mark P_is_mark a fd) (m_len : mg "len" = none) (c1 : Cst K mg "LETTERS" (.str abc)) (c2 : Cst K mg "LONGEST" (.int 6)) : FnOk P w K mg base CX0 (k + 1) a fd P_is_mark (liftSp K spIsMark) := by
  refine fn_d (g := g_is_mark (.str abc) (.int 6)) N.F sc_is_mark (fun ds O R RE ⟨z, e, _⟩ => by rw [e]; rfl) (der_is_mark m_len c1 c2) ?_
  rintro ds O R RE ⟨z, rfl, hz, hR⟩
  unfold g_is_mark
  simp only [gSeq, gFor]
  walk_at "kf"
  refine for_in (j := 1) (ρ := [some (.str z), none]) (by simp) z.cps.toList none (fun h x => ?_) (fun h => ?_)
  · walk_at "kf"
    refine ⟨sz_small (by omega), ?_⟩
    unfold isMarkB at hR
    rw [show z.cps.toList.all letB = true from h, Bool.true_and] at hR
    by_cases c : (1 : Int) ≤ z.length
    · have c' : 1 ≤ z.length := by omega
      simp only [c, c', decide_true, Bool.true_and, if_true] at hR ⊢
      have e : decide ((z.length : Int) ≤ 6) = decide (z.length ≤ 6) := by
        by_cases q : z.length ≤ 6
        · rw [decide_eq_true q, decide_eq_true (by omega)]
        · rw [decide_eq_false q, decide_eq_false (by omega)]
      rw [e]; exact hR
    · have c' : ¬ 1 ≤ z.length := by omega
      simp only [c, c', decide_false, Bool.false_and] at hR ⊢
      exact hR
  · unfold isMarkB at hR
    rw [show z.cps.toList.all letB = false from h, Bool.false_and] at hR
    exact hR
theorem ok_leaves_of {a : Addr} {fd : FuncData} (N : Fn K mg "leaves_of" s_leaves_of P_leaves_of a fd) (m_len : mg "len" = none) : ∀ n, FnOk P w K mg base CX0 n a fd P_leaves_of (liftSp K (spLeaves n))
  | 0 => none_left fun ds O R RE ⟨k, _, h, _⟩ => by omega
  | n + 1 => by
    refine fn_d (g := g_leaves_of (spLeaves n)) N.F sc_leaves_of (fun ds O R RE ⟨k, e, _⟩ => by rw [e]; rfl) (der_leaves_of N (ok_leaves_of N m_len n) m_len) ?_
    rintro ds O R RE ⟨k, rfl, hd, hR⟩
    unfold g_leaves_of
    cases k <;> simp only [dK, Kd.leaves, Kd.depth, Int.natCast_add] at hR hd ⊢ <;> walk_at "kf"
    · exact hR
    · exact hR
    all_goals
      refine ⟨_, rfl, by omega, ⟨_, rfl, by omega, ?_⟩⟩
      walk_at "kf"
      exact hR
theorem rEq_h {neg : Bool} {x : D} {a : Str} {O : Ow} {Q : VD} (h : HdOk x) (ha : PyData.strOk a = true) : rEqD neg x (.str a) O Q = Q (.bl (neg ^^ deq x (.str a))) O := by
  have hx : deref O x = x := by
    have := h.1
    cases x <;> first | rfl | (simp [isPy] at this)
  rw [rEq_d (by rw [hx]; exact h.1) (by simp [deref, isPy, ha]) (by rw [hx]; have := h.2; omega), hx, deref_str]
theorem rIn_h {neg : Bool} {x : D} {O : Ow} {Q : VD} (h : HdOk x) : rInD neg x (.tup [.str "to", .str "both"]) O Q = Q (.bl (neg ^^ (deq x (.str "to") || deq x (.str "both")))) O := by
  have hx : deref O x = x := by
    have := h.1
    cases x <;> first | rfl | (simp [isPy] at this)
  have h1 : isPys [D.str "to", .str "both"] = true := by simp [isPys, isPy, so_to, so_both]
  have hc : ∀ a : Str, PyData.eqv (toPy (.str a)) (toPy x) = deq x (.str a) := fun a => by
    have h0 := h.1
    by_cases e : x = .str a
    · subst e; rfl
    · have h2 : deq x (.str a) = false := by
        rw [Bool.eq_false_iff]; exact fun q => e ((deq_str h.1).mp q)
      rw [h2]
      cases x with
      | str b =>
        show deq (.str a) (.str b) = false
        rw [deq_s, decide_eq_false]
        intro q; exact e (by rw [q])
      | non => simp [toPy, PyData.eqv]
      | bl b => simp [toPy, PyData.eqv]
      | int i => simp [toPy, PyData.eqv]
      | tup ds => exact deq_st
      | lst ds => exact deq_sl
      | ref a => simp [isPy] at h0
      | ty a => simp [isPy] at h0
      | scr a => simp [isPy] at h0
      | edic => simp [isPy] at h0
  have hd : dp x ≤ 190 := by have := h.2; omega
  simp only [rInD, deref_tup, hx, h.1, h1, true_and, hd, List.any_cons, List.any_nil, Bool.or_false, hc]
theorem ok_form (T : TxW w K mg) : ∀ n, FO_has_form P w base T (n + 1) (spForm n)
  | 0 => fnUp (none_left fun ds O R RE ⟨d, r, _, h, _⟩ => by omega) (Nat.zero_le _)
  | n + 1 => by
    refine fnd_has_form T (ok_is_mark T.n_is_mark T.m_len T.c_LETTERS T.c_LONGEST) (ok_form T n) (by walk_at "len") ?_
    rintro ds O R RE ⟨d, r, rfl, hr, hd, hR⟩
    unfold g_has_form
    have fls : ∀ (c : Prop), hf r d = false → R (.bl false) O := fun _ h => by rw [h] at hR; exact hR
    have pl : isPlain d = true := by
      cases r with
      | zero => exact hd
      | succ r =>
        cases d <;> first | rfl | (simp only [ThOk, isPlain] at hd; cases hd)
    cases d with
    | ref a => cases pl
    | ty a => cases pl
    | scr a => cases pl
    | tup xs =>
      walk_at "kf"
      cases r with
      | zero => rw [if_pos (by omega)]; exact hR
      | succ r =>
        rw [if_neg (by omega)]
        match xs, hd, hR with
        | [], hd, hR => walk_at "kf"; exact hR
        | [x], hd, hR =>
          simp only [ThOk] at hd
          simp only [hf] at hR
          walk_at "kf"
          rw [rEq_d (by simp [deref, isPy, isPys, hd.1]) (by simp [deref, isPy, isPys, so_one]) (by rw [deref_tup, dpT, dpC, dpN]; have := hd.2; omega), deref_tup, deref_tup, deq_t, deqs_cc, deqs_nn, Bool.and_true]
          walk_at "kf"
          exact hR
        | [x, y], hd, hR =>
          simp only [ThOk] at hd
          simp only [hf] at hR
          walk_at "kf"
          rw [rEq_h hd.1 so_mark]
          walk_at "kf"
          cases e : deq x (.str "mark") with
          | false => rw [e, Bool.false_and] at hR; walk_at "kf"; exact hR
          | true =>
            rw [e, Bool.true_and] at hR
            walk_at "kf"
            cases y with
            | str s =>
              walk_at "kf"
              exact ⟨s, rfl, (hd.2.2 s rfl).1, hR⟩
            | ref a => cases hd.2.1
            | ty a => cases hd.2.1
            | scr a => cases hd.2.1
            | _ => walk_at "kf"; exact hR
        | [x, y, z], hd, hR =>
          simp only [ThOk] at hd
          simp only [hf] at hR
          walk_at "kf"
          refine ⟨sz_small (by decide), ?_⟩
          rw [rIn_h hd.1]
          walk_at "kf"
          cases e : (deq x (.str "to") || deq x (.str "both")) with
          | false => rw [e, Bool.false_and] at hR; walk_at "kf"; exact hR
          | true =>
            rw [e, Bool.true_and] at hR
            walk_at "kf"
            rw [show ((r + 1 : Nat) : Int) - 1 - 1 = (r : Int) - 1 by omega]
            refine ⟨y, r, rfl, by omega, hd.2.1, ?_⟩
            walk_at "kf"
            cases e2 : hf r y with
            | false => rw [e2, Bool.false_and] at hR; walk_at "kf"; exact hR
            | true =>
              rw [e2, Bool.true_and] at hR
              walk_at "kf"
              exact ⟨z, r, rfl, by omega, hd.2.2, hR⟩
        | x :: y :: z :: u :: us, hd, hR =>
          have e4 : ((us.length + 1 + 1 + 1 + 1 : Nat) : Int) = (us.length : Int) + 4 := by omega
          walk_at "kf"
          rw [if_neg (by omega)]
          walk_at "kf"
          rw [if_neg (by omega)]
          walk_at "kf"
          rw [if_pos (by omega)]
          exact hR
    | _ => walk_at "kf"; exact fls True (by cases r <;> rfl)
theorem ok_is_kind (T : TxW w K mg) {k : Nat} : FO_is_kind P w base T (k + 16) spIsKd := by
  refine fnd_is_kind T (fnUp (ok_form T 14) (by omega)) (fnUp (ok_leaves_of T.n_leaves_of T.m_len 14) (by omega)) (by walk_at "len") ?_
  rintro ds O R RE ⟨d, rfl, hd, hR1, hR2⟩
  unfold g_is_kind
  walk_at "kf"
  refine ⟨d, 13, rfl, by decide, hd, ?_⟩
  walk_at "kf"
  cases e : hf 13 d with
  | false => walk_at "kf"; exact hR1 e
  | true =>
    walk_at "kf"
    obtain ⟨kk, rfl, h1, h2, h3⟩ := hf_kind 13 d hd e
    refine ⟨kk, rfl, by omega, ?_⟩
    walk_at "kf"
    have := hR2 kk rfl e
    rw [show decide ((kk.leaves : Int) ≤ 24) = decide (kk.leaves ≤ 24) by rw [decide_eq_decide]; omega]
    exact this
def wsOk (ws : List Str) : Prop := ∀ w ∈ ws, PyData.strOk w = true ∧ w.length ≤ 1000
def wat (ws : List Str) (j : Nat) : Str := (ws[j]?).getD (Str.ofString "")
def spWordAt : DSp := fun ds O R _ => ∃ (ws : List Str) (j : Nat), ds = [.lst (ws.map .str), .int j] ∧ R (.str (wat ws j)) O
theorem ok_word_at (T : TxW w K mg) : FO_word_at P w base T 1 spWordAt := by
  refine fnd_word_at T (by walk_at "len") ?_
  rintro ds O R RE ⟨ws, j, rfl, hR⟩
  unfold g_word_at
  walk_at "kf"
  rw [List.length_map]
  unfold wat at hR
  by_cases h : j < ws.length
  · rw [if_pos (by omega)]
    rw [List.getElem?_eq_getElem h] at hR
    rw [rIx_l (show atI (ws.map D.str) (j : Int) = some (.str ws[j]) from atI_nat (by rw [List.getElem?_map, List.getElem?_eq_getElem h]; rfl))]
    exact hR
  · rw [if_neg (by omega)]
    rw [List.getElem?_eq_none (by omega)] at hR
    exact hR
theorem wat_drop (ws : List Str) (j : Nat) : wat ws j = (ws.drop j).headD (Str.ofString "") := by
  unfold wat
  cases h : ws.drop j with
  | nil =>
    have : ws.length ≤ j := by simpa using h
    rw [List.getElem?_eq_none this]; rfl
  | cons a r =>
    have : ws[j]? = some a := by
      have := congrArg (fun l => l[0]?) h
      simpa using this
    rw [this]; rfl
theorem wat_ok {ws : List Str} (h : wsOk ws) (j : Nat) : PyData.strOk (wat ws j) = true ∧ (wat ws j).length ≤ 1000 := by
  unfold wat
  cases e : ws[j]? with
  | none => exact ⟨by decide +kernel, by decide +kernel⟩
  | some a => exact h a (List.mem_of_getElem? e)
theorem so_op : PyData.strOk (Str.ofString "(") = true := by decide +kernel
theorem so_cl : PyData.strOk (Str.ofString ")") = true := by decide +kernel
theorem so_ar : PyData.strOk (Str.ofString "->") = true := by decide +kernel
theorem so_st : PyData.strOk (Str.ofString "*") = true := by decide +kernel
theorem so_1 : PyData.strOk (Str.ofString "1") = true := by decide +kernel
theorem tab_sg (z : Str) : tabD tab_SIGNS z = match sg z with
    | some f => .str (kwd (f .one .one))
    | none => .non := by
  have h1 : tabF tab_SIGNS z = if z = Str.ofString "->" then some (Str.ofString "to") else if z = Str.ofString "*" then some (Str.ofString "both") else none := by
    unfold tabF tab_SIGNS
    simp only [List.find?_cons, List.find?_nil]
    by_cases c1 : z = Str.ofString "->"
    · subst c1; simp
    · have c1' : ¬ Str.ofString "->" = z := fun q => c1 q.symm
      by_cases c2 : z = Str.ofString "*"
      · subst c2; simp [c1, c1']
      · have c2' : ¬ Str.ofString "*" = z := fun q => c2 q.symm
        simp [c1, c1', c2, c2']
  unfold tabD sg
  rw [h1]
  by_cases c1 : z = Str.ofString "->"
  · rw [if_pos c1, if_pos c1]; rfl
  · rw [if_neg c1, if_neg c1]
    by_cases c2 : z = Str.ofString "*"
    · rw [if_pos c2, if_pos c2]; rfl
    · rw [if_neg c2, if_neg c2]
theorem sg_dK {z : Str} {f : Kd → Kd → Kd} (h : sg z = some f) (a b : Kd) : D.tup [.str (kwd (f .one .one)), dK a, dK b] = dK (f a b) := by
  unfold sg at h
  split at h
  · cases h; rfl
  · split at h
    · cases h; rfl
    · cases h
def spKf (n : Nat) : DSp := fun ds O R _ => ∃ (ws : List Str) (j r : Nat), ds = [.lst (ws.map .str), .int j, .int r] ∧ r < n ∧ wsOk ws ∧ (∀ k rest, kp r (ws.drop j) = some (k, rest) → R (.tup [dK k, .int ((ws.length - rest.length : Nat) : Int)]) O) ∧ (kp r (ws.drop j) = none → ∀ i : Nat, R (.tup [.non, .int i]) O)
theorem drop_suf {α : Type} {ws rest pre : List α} {j : Nat} (h : ws.drop j = pre ++ rest) : ws.drop (ws.length - rest.length) = rest := by
  have h1 : ws = ws.take j ++ (pre ++ rest) := by rw [← h]; exact (List.take_append_drop j ws).symm
  have h2 : ws = (ws.take j ++ pre) ++ rest := by rw [List.append_assoc]; exact h1
  generalize ws.take j ++ pre = q at h2
  subst h2
  rw [List.length_append, Nat.add_sub_cancel, List.drop_left]
theorem ok_kf (T : TxW w K mg) : ∀ n, FO_kind_from P w base T (n + 2) (spKf n)
  | 0 => fnUp (none_left fun ds O R RE ⟨ws, j, r, _, h, _⟩ => by omega) (Nat.zero_le _)
  | n + 1 => by
    refine fnd_kind_from T (fnUp (ok_word_at T) (by omega)) (ok_is_mark T.n_is_mark T.m_len T.c_LETTERS T.c_LONGEST) (ok_kf T n) (by walk_at "len") ?_
    rintro ds O R RE ⟨ws, j, r, rfl, hr, hws, hS, hN⟩
    unfold g_kind_from
    refine gSeq_step ?_
    walk_at "kf1"
    refine ⟨ws, j, rfl, ?_⟩
    have hw := wat_ok hws j
    have hdr := wat_drop ws j
    try dsimp only
    have sz : ∀ {l rest : List Str}, ws.drop j = l ++ rest → True := fun _ => trivial
    have jlt : ∀ (a : Str) (l : List Str), ws.drop j = a :: l → j < ws.length ∧ ws.length - l.length = j + 1 := fun a l h => by
      have := congrArg List.length h
      rw [List.length_drop, List.length_cons] at this
      omega
    refine gSeq_step ?_
    walk_at "kf1"
    rw [rEq_s hw.1 so_1]
    by_cases c1 : wat ws j = Str.ofString "1"
    · simp only [c1, decide_true, Bool.false_xor]
      walk_at "kf1"
      walk_at "tg"
      cases hd : ws.drop j with
      | nil => rw [hdr, hd] at c1; exact absurd c1 (by decide +kernel)
      | cons a l =>
        rw [hdr, hd] at c1
        have ea : a = Str.ofString "1" := c1
        have := hS .one l (by rw [hd, ea]; have : lfw (Str.ofString "1") = some .one := by decide +kernel
                              cases r <;> simp [kp, this])
        rw [(jlt a l hd).2] at this
        exact this
    · simp only [c1, decide_false, Bool.false_xor]
      walk_at "kf1"
      refine gSeq_step ?_
      walk_at "kf1"
      refine ⟨wat ws j, rfl, hw.2, ?_⟩
      cases hm : isMarkB (wat ws j) with
      | true =>
        walk_at "kf1"
        walk_at "tg"
        cases hd : ws.drop j with
        | nil => rw [hdr, hd] at hm; exact absurd hm (by decide +kernel)
        | cons a l =>
          rw [hdr, hd] at hm ⊢
          have hm' : isMarkB a = true := hm
          have := hS (.mk a) l (by rw [hd]; cases r <;> simp [kp, lfw_mk hm'])
          rw [(jlt a l hd).2] at this
          exact this
      | false =>
        have hlf : lfw (wat ws j) = none := by unfold lfw; rw [if_neg c1, if_neg (by rw [hm]; simp)]
        walk_at "kf1"
        refine gSeq_step ?_
        walk_at "kf1"
        rw [rEq_s hw.1 so_op]
        by_cases c2 : wat ws j = Str.ofString "("
        · simp only [c2, decide_true, Bool.true_xor, Bool.not_true]
          walk_at "kf1"
          cases r with
          | zero =>
            walk_at "kf1"
            walk_at "tg"
            refine hN ?_ j
            cases hd : ws.drop j with
            | nil => rfl
            | cons a l =>
              rw [hdr, hd] at hlf
              have : lfw a = none := hlf
              simp [kp, this]
          | succ r =>
            rw [if_neg (show ¬ (((r + 1 : Nat) : Int) = 0) by omega)]
            cases hd : ws.drop j with
            | nil => rw [hdr, hd] at c2; exact absurd c2 (by decide +kernel)
            | cons a l =>
              have ea : a = Str.ofString "(" := by rw [hdr, hd] at c2; exact c2
              have hl := (jlt a l hd)
              have el : ws.drop (j + 1) = l := by
                rw [← List.drop_drop, hd]; rfl
              have kpe : kp (r + 1) (ws.drop j) = kpo r l := by rw [hd, ea, kp_op]
              rw [kpe] at hS hN
              unfold kpo at hS hN
              refine gSeq_step ?_
              walk_at "kf1"
              rw [show (j : Int) + 1 = ((j + 1 : Nat) : Int) by omega, show (((r + 1 : Nat) : Int) - 1) = (r : Int) by omega]
              refine ⟨ws, j + 1, r, rfl, by omega, hws, fun k1 rest1 e1 => ?_, fun e1 i => ?_⟩
              · rw [el] at e1
                obtain ⟨w1, m1, d1⟩ := kp_words r l k1 rest1 e1
                have ed1 : ws.drop (ws.length - rest1.length) = rest1 := drop_suf (pre := kwords k1) (j := j + 1) (by rw [el, w1])
                rw [e1] at hS hN
                generalize hj1 : ws.length - rest1.length = j1 at ed1
                have hw1 := wat_ok hws j1
                have hdr1 := wat_drop ws j1
                rw [ed1] at hdr1
                walk_at "kf1"
                refine gSeq_step ?_
                walk_at "kf1"
                refine ⟨ws, j1, rfl, ?_⟩
                walk_at "kf1"
                rw [tab_sg]
                refine gSeq_step ?_
                walk_at "kf1"
                rw [show isNon (dK k1) = false by cases k1 <;> rfl]
                walk_at "kf1"
                cases hs1 : sg (wat ws j1) with
                | none =>
                  simp only
                  walk_at "kf1"
                  walk_at "tg"
                  refine hN ?_ j1
                  cases rest1 with
                  | nil => rfl
                  | cons s r2 =>
                    have : sg s = none := by rw [hdr1] at hs1; exact hs1
                    simp only [this]
                | some f =>
                  simp only
                  walk_at "kf1"
                  cases rest1 with
                  | nil => rw [hdr1] at hs1; exact absurd (show sg (Str.ofString "") = some f from hs1) (by rw [sg_e]; simp)
                  | cons s r2 =>
                    have hsf : sg s = some f := by rw [hdr1] at hs1; exact hs1
                    simp only [hsf] at hS hN
                    have ed2 : ws.drop (j1 + 1) = r2 := by rw [← List.drop_drop, ed1]; rfl
                    refine gSeq_step ?_
                    walk_at "kf1"
                    rw [show (j1 : Int) + 1 = ((j1 + 1 : Nat) : Int) by omega, show (((r + 1 : Nat) : Int) - 1) = (r : Int) by omega]
                    refine ⟨ws, j1 + 1, r, rfl, by omega, hws, fun k2 rest2 e2 => ?_, fun e2 i => ?_⟩
                    · rw [ed2] at e2
                      obtain ⟨w2, m2, d2⟩ := kp_words r r2 k2 rest2 e2
                      have ed3 : ws.drop (ws.length - rest2.length) = rest2 := drop_suf (pre := kwords k2) (j := j1 + 1) (by rw [ed2, w2])
                      rw [e2] at hS hN
                      generalize hj2 : ws.length - rest2.length = j2 at ed3
                      have hw2 := wat_ok hws j2
                      have hdr2 := wat_drop ws j2
                      rw [ed3] at hdr2
                      walk_at "kf1"
                      refine gSeq_step ?_
                      walk_at "kf1"
                      rw [show isNon (dK k2) = false by cases k2 <;> rfl]
                      walk_at "kf1"
                      refine ⟨ws, j2, rfl, ?_⟩
                      dsimp only
                      rw [rEq_s hw2.1 so_cl]
                      by_cases c3 : wat ws j2 = Str.ofString ")"
                      · simp only [c3, decide_true, Bool.true_xor, Bool.not_true]
                        walk_at "kf1"
                        walk_at "tg"
                        cases rest2 with
                        | nil => rw [hdr2] at c3; exact absurd c3 (by decide +kernel)
                        | cons c r3 =>
                          have ec : c = Str.ofString ")" := by rw [hdr2] at c3; exact c3
                          have := hS (f k1 k2) r3 (by simp only [ec, if_true])
                          have hl3 : ws.length - r3.length = j2 + 1 := by
                            have := congrArg List.length ed3
                            rw [List.length_drop, List.length_cons] at this
                            omega
                          rw [hl3] at this
                          rw [sg_dK hsf]
                          exact this
                      · simp only [c3, decide_false, Bool.true_xor, Bool.not_false]
                        walk_at "kf1"
                        walk_at "tg"
                        refine hN ?_ j2
                        cases rest2 with
                        | nil => rfl
                        | cons c r3 =>
                          have ec : ¬ c = Str.ofString ")" := by rw [hdr2] at c3; exact c3
                          simp only [ec, if_false]
                    · rw [ed2] at e2
                      rw [e2] at hN
                      walk_at "kf1"
                      refine gSeq_step ?_
                      walk_at "kf1"
                      walk_at "tg"
                      exact hN rfl i
              · rw [el] at e1
                rw [e1] at hN
                walk_at "kf1"
                refine gSeq_step ?_
                walk_at "kf1"
                refine ⟨ws, i, rfl, ?_⟩
                try dsimp only
                walk_at "kf1"
                refine gSeq_step ?_
                walk_at "kf1"
                walk_at "tg"
                exact hN rfl i
        · simp only [c2, decide_false, Bool.true_xor, Bool.not_false]
          walk_at "kf1"
          walk_at "tg"
          refine hN ?_ j
          cases hd : ws.drop j with
          | nil => cases r <;> rfl
          | cons a l =>
            rw [hdr, hd] at hlf c2
            have h1 : lfw a = none := hlf
            have h2 : ¬ a = Str.ofString "(" := c2
            cases r with
            | zero => simp [kp, h1]
            | succ r => simp [kp, h1, h2]
def spRead (C : Addr) : DSp := fun ds O R RE => ∃ t : Str, ds = [.str t] ∧ t.length ≤ 10000 ∧ wsOk (Txt.split t bl1) ∧ (∀ k, rk t = some k → k.mks → k.depth ≤ 12 → k.leaves ≤ 24 → R (dK k) O) ∧ (rk t = none → RE (.ref C) none O)
theorem ok_read (T : TxW w K mg) : FO_read_kind P w base T 20 (spRead T.C_NoKind) := by
  refine fnd_read_kind T (fnUp (ok_kf T 13) (by omega)) (fnUp (ok_is_kind T (k := 0)) (by omega)) (by walk_at "len") ?_
  rintro ds O R RE ⟨t, rfl, hl, hws, hS, hN⟩
  have raise : ∀ ρ : DEnv, rk t = none → XG RE (.ref T.C_NoKind) none ρ O := fun ρ h => ⟨O, Sub.refl _, hN h⟩
  unfold g_read_kind
  refine gSeq_step ?_
  walk_at "kf1"
  refine ⟨by decide +kernel, sz_21 (by omega), ?_⟩
  refine gSeq_step ?_
  walk_at "kf1"
  refine ⟨Txt.split t bl1, 0, 12, rfl, by omega, hws, fun k rest e => ?_, fun e i => ?_⟩
  · rw [List.drop_zero] at e
    obtain ⟨w1, m1, d1⟩ := kp_words 12 _ k rest e
    walk_at "kf1"
    refine gSeq_step ?_
    walk_at "kf1"
    rw [show isNon (dK k) = false by cases k <;> rfl]
    walk_at "kf1"
    rw [List.length_map, show Txt.split t (Str.ofString " ") = Txt.split t bl1 from rfl]
    have hne := kwords_ne k
    have hlen := congrArg List.length w1
    rw [List.length_append] at hlen
    have hpos : 0 < (kwords k).length := List.length_pos_iff.mpr hne
    by_cases c : rest = []
    · subst c
      rw [if_neg (by rw [List.length_nil]; omega)]
      refine ⟨dK k, rfl, mks_th m1 13, fun h => ?_, fun k' ek h => ?_⟩
      · rw [hf_of k 13 m1 (by omega)] at h; cases h
      · have hkk : k = k' := by
          have h1 := deq_K k k'
          rw [← ek] at h1
          have h2 := deq_K k k
          exact of_decide_eq_true (by rw [← h1, h2]; simp)
        subst hkk
        by_cases c2 : k.leaves ≤ 24
        · simp only [c2, decide_true]
          walk_at "kf1"
          exact .at (hS k (by unfold rk; rw [e]; simp [c2]) m1 d1 c2)
        · simp only [c2, decide_false]
          walk_at "kf1"
          exact raise _ (by unfold rk; rw [e]; simp [c2])
    · have hr : 0 < rest.length := List.length_pos_iff.mpr c
      rw [if_pos (by omega)]
      refine raise _ ?_
      unfold rk
      rw [e]
      cases rest with
      | nil => exact absurd rfl c
      | cons _ _ => rfl
  · rw [List.drop_zero] at e
    walk_at "kf1"
    refine gSeq_step ?_
    walk_at "kf1"
    exact raise _ (by unfold rk; rw [e])
end
end Kf
namespace Kf
open PySem PySem.Spec L2
open PyProof.Rows hiding St
local macro_rules | `(tactic| walk_at "kf") => `(tactic| simp (config := { failIfUnchanged := false }) only [startD, ap_fiEnumT, asT1_t, ap_fKGet, asStr_s, ap_fKIn, ap_fKIx, ap_gAsgL, rUnl_l, ap_fiRng3, asR3_i, rSplitO_s, ap_fOrL, rOrL_l, ap_fLcK, ap_gForK, ap_fMaxD, rMaxD_l, rMaxL_l, ap_fCallXD, ap_gForE, asLE_l, ap_fFrz, ap_fDicO, ap_fDGet, ap_fDGet1, ap_fDGet2, ap_gDPut, ap_fIsiT, ap_gForR, rRep_l, isT_i, isT_s, isT_b, isT_n, isT_t, isT_l, ap_gSeq, ap_gIf, ap_gRet, ap_gNext, ap_gSet, ap_gAsg, ap_gDrop, ap_gRetF, ap_gRetN, ap_gFor, ap_gSetIx, ap_gBreak, ap_fRev, ap_fiRevR, asIR_i, rRev_l, ap_fCallX, ap_gRaise, ap_gTry, ap_gTryAs, ap_gNever, ap_fEdic, ap_fTest, ap_fOp, ap_fVar, envGet_s, patGet_s, ap_fC, ap_fCB, ap_fCons, ap_fNil, ap_fCall, ap_fAnd, ap_fOr, ap_fNot, ap_fAndV, ap_fOrV, ap_fNotV, ap_fIf, ap_fTup, ap_fLst, ap_fLstO, ap_fChain, ap_fUn, ap_fBM, ap_fBM0, ap_fPool, rPool_i, ap_fSl, ap_fPart, ap_fNoPart, asI_i, rSl_l, ap_fiRng1, ap_fiRng2, ap_fiList, ap_fiTup, ap_fiStr, ap_fiEnum, ap_fiZip, ap_fiRev, asL_l, asT_t, asSg_s, asR1_i, asR2_i, asL1_l, asL2_l, ap_fLc, ap_fLcO, ap_fYes, wipeD, lcD, isi_i_int, isi_i_bool, isi_i_str, isi_i_tuple, isi_i_list, isi_i_dict, isi_b_int, isi_b_bool, isi_b_str, isi_b_tuple, isi_b_list, isi_b_dict, isi_s_int, isi_s_bool, isi_s_str, isi_s_tuple, isi_s_list, isi_s_dict, isi_t_int, isi_t_bool, isi_t_str, isi_t_tuple, isi_t_list, isi_t_dict, isi_l_int, isi_l_bool, isi_l_str, isi_l_tuple, isi_l_list, isi_l_dict, isi_n_int, isi_n_bool, isi_n_str, isi_n_tuple, isi_n_list, isi_n_dict, isi_d_int, isi_d_bool, isi_d_str, isi_d_tuple, isi_d_list, isi_d_dict,
  deref_tup, deref_lst, deref_int, deref_str, deref_bl, deref_non, deref_scr, rLt_i, rLt_s, rLe_i, rLe_s, rInts_i, rInts0_i, rAdd_i, rAdd_s, rAdd_l, rAdd_t, rCatO_l, rNeg_i, rLen_t, rLen_l, rLen_c, rLen_s, rMax_i, rMin_i, rInt_i, rInt_b, rDivmod_i, ap_gAug, rStr_i, rList_l, rList_t, rListO_l, rListO_t, rTup_l, rTup_t,
  rIx_t0, rIx_t1, rIx_t2, rIx_t3, rIx_l0, rIx_l1, rIx_l2, rIsN_x, isNon_t, isNon_n, isNon_i, isNon_s, isNon_l, rEq_i, rEq_b, rEq_i2, rEq_b2, rJoin_m, rSplit_s, tyOk_l, tyOk_s, patD_nm, patD_tp, patDs_nil, patDs_cons, Option.bind_some, notX, notX',
  List.map_cons, List.map_nil, List.length_cons, List.length_nil, List.cons_append, List.nil_append, List.append_nil, List.replicate, List.getElem?_cons_zero, List.getElem?_cons_succ, List.set_cons_zero, List.set_cons_succ, updO_same, updO_updO,
  Nat.reduceSub, Nat.reduceAdd, Nat.reduceLeDiff, Nat.zero_add, Int.cast_ofNat_Int, Int.natCast_zero, Int.natCast_one, Int.reduceLT, Int.reduceLE, Int.reduceEq, Int.reduceAdd, Int.reduceSub, Int.reduceNeg, decide_true, decide_false, if_true, if_false, Bool.false_eq_true, eq_self, reduceIte, Bool.true_eq_false, decide_eq_true_eq, Bool.not_true, Bool.not_false, Bool.not_eq_true', decide_eq_false_iff_not, exists_eq_left', exists_eq_left, D.bl.injEq, true_and, and_true, not_true_eq_false, not_false_eq_true])
local macro_rules | `(tactic| walk_at "len") => `(tactic| (intro ds O R RE h; first | (obtain ⟨e, _⟩ := h; subst e; rfl) | (obtain ⟨_, e, _⟩ := h; subst e; rfl) | (obtain ⟨_, _, e, _⟩ := h; subst e; rfl) | (obtain ⟨_, _, _, e, _⟩ := h; subst e; rfl) | (obtain ⟨_, _, _, _, e, _⟩ := h; subst e; rfl) | (obtain ⟨_, _, _, _, _, e, _⟩ := h; subst e; rfl) | (obtain ⟨_, _, _, _, _, _, e, _⟩ := h; subst e; rfl) | (obtain ⟨_, _, _, _, _, _, _, e, _⟩ := h; subst e; rfl) | (obtain ⟨_, _, _, _, _, _, _, _, e, _⟩ := h; subst e; rfl) | (obtain ⟨_, _, _, _, _, _, _, _, _, e, _⟩ := h; subst e; rfl)))
local macro_rules | `(tactic| walk_at "kf1") => `(tactic| simp (config := { failIfUnchanged := false }) only [startD, ap_fiEnumT, asT1_t, ap_fKGet, asStr_s, ap_fKIn, ap_fKIx, ap_gAsgL, rUnl_l, ap_fiRng3, asR3_i, rSplitO_s, ap_fOrL, rOrL_l, ap_fLcK, ap_gForK, ap_fMaxD, rMaxD_l, rMaxL_l, ap_fCallXD, ap_gForE, asLE_l, ap_fFrz, ap_fDicO, ap_fDGet, ap_fDGet1, ap_fDGet2, ap_gDPut, ap_fIsiT, ap_gForR, rRep_l, isT_i, isT_s, isT_b, isT_n, isT_t, isT_l, ap_gIf, ap_gRet, ap_gNext, ap_gSet, ap_gAsg, ap_gDrop, ap_gRetF, ap_gRetN, ap_gFor, ap_gSetIx, ap_gBreak, ap_fRev, ap_fiRevR, asIR_i, rRev_l, ap_fCallX, ap_gRaise, ap_gTry, ap_gTryAs, ap_gNever, ap_fEdic, ap_fTest, ap_fOp, ap_fVar, envGet_s, patGet_s, ap_fC, ap_fCB, ap_fCons, ap_fNil, ap_fCall, ap_fAnd, ap_fOr, ap_fNot, ap_fAndV, ap_fOrV, ap_fNotV, ap_fIf, ap_fTup, ap_fLst, ap_fLstO, ap_fChain, ap_fUn, ap_fBM, ap_fBM0, ap_fPool, rPool_i, ap_fSl, ap_fPart, ap_fNoPart, asI_i, rSl_l, ap_fiRng1, ap_fiRng2, ap_fiList, ap_fiTup, ap_fiStr, ap_fiEnum, ap_fiZip, ap_fiRev, asL_l, asT_t, asSg_s, asR1_i, asR2_i, asL1_l, asL2_l, ap_fLc, ap_fLcO, ap_fYes, wipeD, lcD, isi_i_int, isi_i_bool, isi_i_str, isi_i_tuple, isi_i_list, isi_i_dict, isi_b_int, isi_b_bool, isi_b_str, isi_b_tuple, isi_b_list, isi_b_dict, isi_s_int, isi_s_bool, isi_s_str, isi_s_tuple, isi_s_list, isi_s_dict, isi_t_int, isi_t_bool, isi_t_str, isi_t_tuple, isi_t_list, isi_t_dict, isi_l_int, isi_l_bool, isi_l_str, isi_l_tuple, isi_l_list, isi_l_dict, isi_n_int, isi_n_bool, isi_n_str, isi_n_tuple, isi_n_list, isi_n_dict, isi_d_int, isi_d_bool, isi_d_str, isi_d_tuple, isi_d_list, isi_d_dict,
  deref_tup, deref_lst, deref_int, deref_str, deref_bl, deref_non, deref_scr, rLt_i, rLt_s, rLe_i, rLe_s, rInts_i, rInts0_i, rAdd_i, rAdd_s, rAdd_l, rAdd_t, rCatO_l, rNeg_i, rLen_t, rLen_l, rLen_c, rLen_s, rMax_i, rMin_i, rInt_i, rInt_b, rDivmod_i, ap_gAug, rStr_i, rList_l, rList_t, rListO_l, rListO_t, rTup_l, rTup_t,
  rIx_t0, rIx_t1, rIx_t2, rIx_t3, rIx_l0, rIx_l1, rIx_l2, rIsN_x, isNon_t, isNon_n, isNon_i, isNon_s, isNon_l, rEq_i, rEq_b, rEq_i2, rEq_b2, rJoin_m, rSplit_s, tyOk_l, tyOk_s, patD_nm, patD_tp, patDs_nil, patDs_cons, Option.bind_some, notX, notX',
  List.map_cons, List.map_nil, List.length_cons, List.length_nil, List.cons_append, List.nil_append, List.append_nil, List.replicate, List.getElem?_cons_zero, List.getElem?_cons_succ, List.set_cons_zero, List.set_cons_succ, updO_same, updO_updO,
  Nat.reduceSub, Nat.reduceAdd, Nat.reduceLeDiff, Nat.zero_add, Int.cast_ofNat_Int, Int.natCast_zero, Int.natCast_one, Int.reduceLT, Int.reduceLE, Int.reduceEq, Int.reduceAdd, Int.reduceSub, Int.reduceNeg, decide_true, decide_false, if_true, if_false, Bool.false_eq_true, eq_self, reduceIte, Bool.true_eq_false, decide_eq_true_eq, Bool.not_true, Bool.not_false, Bool.not_eq_true', decide_eq_false_iff_not, exists_eq_left', exists_eq_left, D.bl.injEq, true_and, and_true, not_true_eq_false, not_false_eq_true])
section
variable {P : Program} {w : World} {K : PySem.W.Frag} {mg : Str → Option Value} {base : Heap}
local macro_rules | `(tactic| walk_at "tg") => `(tactic| simp (config := { failIfUnchanged := false }) only [te_name_take, te_name_give, te_name_pair, te_name_first, te_name_second, te_name_to, te_name_both, te_name_one, te_name_mark, te_name_name, te_name_thing, te_name_at, te_thing_take, te_thing_give, te_thing_pair, te_thing_first, te_thing_second, te_thing_to, te_thing_both, te_thing_one, te_thing_mark, te_thing_name, te_thing_thing, te_thing_at, te_take_take, te_take_give, te_take_pair, te_take_first, te_take_second, te_take_to, te_take_both, te_take_one, te_take_mark, te_take_name, te_take_thing, te_take_at, te_give_take, te_give_give, te_give_pair, te_give_first, te_give_second, te_give_to, te_give_both, te_give_one, te_give_mark, te_give_name, te_give_thing, te_give_at, te_pair_take, te_pair_give, te_pair_pair, te_pair_first, te_pair_second, te_pair_to, te_pair_both, te_pair_one, te_pair_mark, te_pair_name, te_pair_thing, te_pair_at, te_first_take, te_first_give, te_first_pair, te_first_first, te_first_second, te_first_to, te_first_both, te_first_one, te_first_mark, te_first_name, te_first_thing, te_first_at, te_second_take, te_second_give, te_second_pair, te_second_first, te_second_second, te_second_to, te_second_both, te_second_one, te_second_mark, te_second_name, te_second_thing, te_second_at, te_mark_take, te_mark_give, te_mark_pair, te_mark_first, te_mark_second, te_mark_to, te_mark_both, te_mark_one, te_mark_mark, te_mark_name, te_mark_thing, te_mark_at, te_one_take, te_one_give, te_one_pair, te_one_first, te_one_second, te_one_to, te_one_both, te_one_one, te_one_mark, te_one_name, te_one_thing, te_one_at, te_to_take, te_to_give, te_to_pair, te_to_first, te_to_second, te_to_to, te_to_both, te_to_one, te_to_mark, te_to_name, te_to_thing, te_to_at, te_both_take, te_both_give, te_both_pair, te_both_first, te_both_second, te_both_to, te_both_both, te_both_one, te_both_mark, te_both_name, te_both_thing, te_both_at, te_at_take, te_at_give, te_at_pair, te_at_first, te_at_second, te_at_to, te_at_both, te_at_one, te_at_mark, te_at_name, te_at_thing, te_at_at, ti4_name, ti4_thing, ti4_take, ti4_give, ti4_pair, ti4_first, ti4_second, ti2_name, ti2_thing, ti2_take, ti2_give, ti2_pair, ti2_first, ti2_second, szT_0, szT_1, szT_2, szT_3, szT_4, szT_5, szT_6, szT_7, szT_8, szT_9, szT_10, szT_11, szT_12, Bool.not_true, Bool.not_false, true_and])
local macro_rules | `(tactic| walk_at "jj") => `(tactic| simp (config := { failIfUnchanged := false }) only [ap_fjList, ap_fjEnum, ap_fjZip, ap_gForJ, ap_fLcJ, ap_fLcJO, asLJ_l, asLJ1_1, asLJ2_2, rIsB_b, ap_fSortSet, List.nil_append, List.append_nil])
local macro_rules | `(tactic| walk_at "kj") => `(tactic| (walk_at "kf"; walk_at "jj"; walk_at "kf"; walk_at "jj"; walk_at "kf"))
local macro_rules | `(tactic| walk_at "kj1") => `(tactic| (walk_at "kf1"; walk_at "jj"; walk_at "kf1"; walk_at "jj"; walk_at "kf1"))
def spFrom (n : Nat) : DSp := fun ds O R _ => ∃ (ws : List Str) (j : Nat), ds = [.lst (ws.map .str), .int j] ∧ ws.length ≤ 200 ∧ wsOk ws ∧ ws.length < j + n ∧ R (dFrom ws.length (kpw (ws.drop j))) O
def BAD4 : List Str := ["", ")", "->", "*"]
theorem bad4_ok : ∀ w ∈ BAD4, PyData.strOk w = true := by decide +kernel
theorem bad4_no : ∀ w ∈ BAD4, lfw w = none ∧ w ≠ Str.ofString "(" := by decide +kernel
theorem mark0 {z : Str} (h : isMarkB z = true) : 1 ≤ z.length ∧ z.length ≤ 6 := by
  unfold isMarkB at h
  simp only [Bool.and_eq_true, decide_eq_true_eq] at h
  exact h.2
theorem drop_cons {α : Type} {ws : List α} {j : Nat} {z : α} (hz : ws[j]? = some z) : ws.drop j = z :: ws.drop (j + 1) := by
  obtain ⟨h1, h2⟩ := List.getElem?_eq_some_iff.mp hz
  rw [List.drop_eq_getElem_cons h1, h2]
theorem ok_from (T : TxW w K mg) : ∀ n, FO__law_from P w base T (n + 1) (spFrom n)
  | 0 => by
    refine fnd__law_from (k := 0) (sp__law_from := fun _ _ _ _ => False) T (fnUp (none_left fun _ _ _ _ h => h) (Nat.le_refl _)) (by walk_at "len") ?_
    rintro ds O R RE ⟨ws, j, rfl, hl, hws, hn, hR⟩
    unfold g__law_from
    refine gSeq_step ?_
    walk_at "kf1"
    rw [List.length_map]
    rw [List.drop_eq_nil_of_le (by omega), kpw_nil] at hR
    simp only [show ((ws.length : Int) ≤ (j : Int)) by omega, decide_true]
    walk_at "kf1"
    exact hR
  | n + 1 => by
    refine fnd__law_from T (ok_from T n) (by walk_at "len") ?_
    rintro ds O R RE ⟨ws, j, rfl, hl, hws, hn, hR⟩
    unfold g__law_from
    refine gSeq_step ?_
    walk_at "kf1"
    rw [List.length_map]
    by_cases c0 : ws.length ≤ j
    · rw [List.drop_eq_nil_of_le c0, kpw_nil] at hR
      simp only [show ((ws.length : Int) ≤ (j : Int)) by omega, decide_true]
      walk_at "kf1"
      exact hR
    · have getw : ∀ i, i < ws.length → ∃ z, ws[i]? = some z := fun i h => ⟨_, List.getElem?_eq_getElem h⟩
      have hix : ∀ (i : Nat) (z : Str), ws[i]? = some z → ∀ Q : VD, ∀ O : Ow, rIxD (.lst (ws.map .str)) (.int (i : Int)) O Q = Q (.str z) O := fun i z hz Q O => rIx_l (atI_nat (by rw [List.getElem?_map, hz]; rfl))
      obtain ⟨z, hz⟩ := getw j (by omega)
      obtain ⟨hzo, hzl⟩ := hws z (List.mem_of_getElem? hz)
      rw [drop_cons hz] at hR
      simp only [show ¬ ((ws.length : Int) ≤ (j : Int)) by omega, decide_false]
      walk_at "kf1"
      rw [hix j z hz]
      walk_at "kf1"
      refine ⟨sz_small (by decide), ?_⟩
      rw [show D.lst [D.str (Str.ofString ""), D.str (Str.ofString ")"), D.str (Str.ofString "->"), D.str (Str.ofString "*")] = .lst (BAD4.map .str) from rfl, rIn_strs hzo bad4_ok]
      by_cases c1 : z ∈ BAD4
      · obtain ⟨h1, h2⟩ := bad4_no z c1
        rw [kpw_no h1 h2] at hR
        simp only [c1, decide_true, Bool.false_xor]
        walk_at "kf1"
        exact hR
      · simp only [c1, decide_false, Bool.false_xor]
        walk_at "kf1"
        refine gSeq_step ?_
        walk_at "kf1"
        rw [hix j z hz]
        refine gSeq_step ?_
        walk_at "kf1"
        rw [rEq_s hzo so_1]
        by_cases c2 : z = Str.ofString "1"
        · subst c2
          rw [kpw_lf (k := .one) (by decide +kernel)] at hR
          simp only [dFrom, List.length_drop] at hR
          simp only [decide_true, Bool.false_xor]
          walk_at "kf1"
          refine ⟨sz_small (by decide), sz_small (by decide), ?_⟩
          rw [show ((ws.length - (ws.length - (j + 1)) : Nat) : Int) = (j : Int) + 1 by omega] at hR
          exact hR
        · simp only [c2, decide_false, Bool.false_xor]
          walk_at "kf1"
          refine gSeq_step ?_
          walk_at "kf1"
          rw [rEq_s hzo so_op]
          by_cases c3 : z = Str.ofString "("
          · subst c3
            simp only [decide_true, Bool.xor_self]
            walk_at "kf1"
            rw [kpw_op] at hR
            refine gSeq_step ?_
            walk_at "kf1"
            refine ⟨ws, j + 1, rfl, hl, hws, by omega, ?_⟩
            cases e1 : kpw (ws.drop (j + 1)) with
            | none =>
              rw [e1] at hR
              simp only [dFrom] at hR ⊢
              refine gSeq_step ?_
              walk_at "kf1"
              exact hR
            | some p1 =>
              obtain ⟨a, r1⟩ := p1
              rw [e1] at hR
              obtain ⟨w1, m1⟩ := kpw_words e1
              simp only [dFrom]
              have hr1 : ws.drop (ws.length - r1.length) = r1 := drop_suf w1
              have hr1l : r1.length ≤ ws.length := by
                have := congrArg List.length w1
                rw [List.length_append, List.length_drop] at this; omega
              generalize ho1 : ws.length - r1.length = o1 at hr1
              have ho1l : o1 ≤ ws.length := by omega
              refine gSeq_step ?_
              walk_at "kf1"
              rw [cut1 _ _ (by rw [List.length_map]; exact ho1l), ← List.map_drop, hr1, ← List.map_take]
              have hr1w : ∀ u ∈ r1.take 1, PyData.strOk u = true := fun u hu => by
                have := List.mem_of_mem_take hu
                rw [← hr1] at this
                exact (hws u (List.mem_of_mem_drop this)).1
              refine ⟨sz_small (by decide), sz_small (by decide), sz_small (by decide), ?_⟩
              rw [rIn_wl2 hr1w (by rw [List.length_take]; omega)]
              cases r1 with
              | nil =>
                simp only [dFrom] at hR
                walk_at "kf1"
                exact hR
              | cons s r2 =>
                simp only at hR
                have hso : PyData.strOk s = true := hr1w s (by simp)
                rw [show List.take 1 (s :: r2) = [s] from rfl]
                have hs1 : ws[o1]? = some s := by
                  have := congrArg (fun l => l[0]?) hr1
                  simpa using this
                have hr2 : ws.drop (o1 + 1) = r2 := by
                  rw [drop_cons hs1] at hr1
                  exact (List.cons.inj hr1).2
                have ho1s : o1 < ws.length := (List.getElem?_eq_some_iff.mp hs1).1
                have hjo : j < o1 := by
                  have := congrArg List.length w1
                  rw [List.length_append, List.length_drop] at this
                  simp only [List.length_cons] at this ho1
                  omega
                cases hsg : sg s with
                | none =>
                  rw [hsg] at hR
                  simp only [dFrom] at hR
                  have n1 : ¬ ([s] : List Str) = [Str.ofString "->"] := fun q => by
                    rw [List.cons.inj q |>.1] at hsg; exact absurd hsg (by decide +kernel)
                  have n2 : ¬ ([s] : List Str) = [Str.ofString "*"] := fun q => by
                    rw [List.cons.inj q |>.1] at hsg; exact absurd hsg (by decide +kernel)
                  simp only [n1, n2, decide_false, Bool.or_self, Bool.xor_false]
                  walk_at "kf1"
                  exact hR
                | some f =>
                  rw [hsg] at hR
                  simp only at hR
                  have hin : (decide (([s] : List Str) = [Str.ofString "->"]) || decide (([s] : List Str) = [Str.ofString "*"])) = true := by
                    unfold sg at hsg
                    split at hsg
                    · rename_i q; subst q; decide
                    · split at hsg
                      · rename_i q; subst q; decide
                      · cases hsg
                  rw [hin]
                  walk_at "kf1"
                  refine gSeq_step ?_
                  walk_at "kf1"
                  refine ⟨ws, o1 + 1, rfl, hl, hws, by omega, ?_⟩
                  rw [hr2]
                  cases e2 : kpw r2 with
                  | none =>
                    rw [e2] at hR
                    simp only [dFrom] at hR ⊢
                    refine gSeq_step ?_
                    walk_at "kf1"
                    exact hR
                  | some p2 =>
                    obtain ⟨b, r3⟩ := p2
                    rw [e2] at hR
                    obtain ⟨w2, m2⟩ := kpw_words e2
                    simp only [dFrom]
                    have hr3 : ws.drop (ws.length - r3.length) = r3 := drop_suf (j := o1 + 1) (by rw [hr2]; exact w2)
                    have hr3l : r3.length ≤ ws.length := by
                      have := congrArg List.length w2
                      have h2 := congrArg List.length hr2
                      rw [List.length_append] at this
                      rw [List.length_drop] at h2; omega
                    generalize ho2 : ws.length - r3.length = o2 at hr3
                    have ho2l : o2 ≤ ws.length := by omega
                    refine gSeq_step ?_
                    walk_at "kf1"
                    rw [cut1 _ _ (by rw [List.length_map]; exact ho2l), ← List.map_drop, hr3, ← List.map_take]
                    have hr3w : ∀ u ∈ r3.take 1, PyData.strOk u = true := fun u hu => by
                      have := List.mem_of_mem_take hu
                      rw [← hr3] at this
                      exact (hws u (List.mem_of_mem_drop this)).1
                    refine ⟨sz_small (by decide), ?_⟩
                    rw [show D.lst [D.str (Str.ofString ")")] = .lst ([Str.ofString ")"].map .str) from rfl, rEq_ss hr3w (by decide +kernel)]
                    cases r3 with
                    | nil =>
                      simp only [dFrom] at hR
                      walk_at "kf1"
                      exact hR
                    | cons c r4 =>
                      rw [show List.take 1 (c :: r4) = [c] from rfl]
                      simp only at hR
                      by_cases c5 : c = Str.ofString ")"
                      · subst c5
                        simp only [if_true, dFrom] at hR
                        simp only [decide_true, Bool.xor_self]
                        walk_at "kf1"
                        refine gSeq_step ?_
                        walk_at "kf1"
                        rw [hix o1 s hs1]
                        refine ⟨sz_small (by decide), ?_⟩
                        rw [rEq_s hso so_st]
                        have hint : ((ws.length - r4.length : Nat) : Int) = (o2 : Int) + 1 := by
                          simp only [List.length_cons] at ho2 hr3l; omega
                        rw [hint] at hR
                        have hmax : ∀ x y : Nat, (1 : Int) + (if (y : Int) > (x : Int) then (y : Int) else (x : Int)) = ((max x y + 1 : Nat) : Int) := fun x y => by split <;> omega
                        unfold sg at hsg
                        split at hsg
                        · rename_i q
                          subst q
                          cases hsg
                          simp only [show ¬ Str.ofString "->" = Str.ofString "*" by decide +kernel, decide_false, Bool.false_xor]
                          walk_at "kf1"
                          refine ⟨sz_small (by decide), ?_⟩
                          rw [rIx_l (d := .int (a.depth : Int)) rfl, rIx_l (d := .int (b.depth : Int)) rfl]
                          simp only [rMax2]
                          walk_at "kf1"
                          rw [hmax]
                          refine ⟨sz_small (by decide), ?_⟩
                          rw [show (((Kd.to a b).leaves : Nat) : Int) = (a.leaves : Int) + (b.leaves : Int) by simp only [Kd.leaves]; omega] at hR
                          exact hR
                        · split at hsg
                          · rename_i q
                            subst q
                            cases hsg
                            simp only [decide_true, Bool.false_xor]
                            walk_at "kf1"
                            refine ⟨sz_small (by decide), ?_⟩
                            rw [rIx_l (d := .int (a.depth : Int)) rfl, rIx_l (d := .int (b.depth : Int)) rfl]
                            simp only [rMax2]
                            walk_at "kf1"
                            rw [hmax]
                            refine ⟨sz_small (by decide), ?_⟩
                            rw [show (((Kd.both a b).leaves : Nat) : Int) = (a.leaves : Int) + (b.leaves : Int) by simp only [Kd.leaves]; omega] at hR
                            exact hR
                          · cases hsg
                      · rw [if_neg c5] at hR
                        simp only [dFrom] at hR
                        have n1 : ¬ ([c] : List Str) = [Str.ofString ")"] := fun q => c5 (List.cons.inj q).1
                        simp only [n1, decide_false, Bool.true_xor, Bool.not_false]
                        walk_at "kf1"
                        exact hR
          · have hlf : lfw z = if isMarkB z = true then some (.mk z) else none := by unfold lfw; rw [if_neg c2]
            simp only [c3, decide_false, Bool.true_xor, Bool.not_false]
            walk_at "kf1"
            have fin0 : isMarkB z = false → R .non O := fun h => by
              rw [kpw_no (by rw [hlf, h]; rfl) c3] at hR
              exact hR
            refine gSeq_step ?_
            walk_at "kf1"
            refine ⟨sz_21 (by omega), ?_⟩
            have hmk : isMarkB z = (decide (z.length ≤ 6) && ((z.cps.toList.filter (fun c : Nat => !decide (c ∈ abc.cps.toList))).map fun c => D.str ⟨#[c]⟩).isEmpty) := by
              have hne : 1 ≤ z.length := by
                by_cases q : 1 ≤ z.length
                · exact q
                · exfalso
                  have : z = Str.ofString "" := by
                    have h0 : z.cps.size = 0 := by
                      have : z.length = z.cps.size := rfl
                      omega
                    have : z.cps = #[] := Array.size_eq_zero_iff.mp h0
                    cases z; simp only at this; subst this; rfl
                  exact c1 (by rw [this]; decide)
              unfold isMarkB
              rw [show decide (1 ≤ z.length) = true from decide_eq_true hne, Bool.true_and, Bool.and_comm]
              congr 1
              simp only [List.isEmpty_map]
              rw [Bool.eq_iff_iff, List.all_eq_true, List.isEmpty_iff, List.filter_eq_nil_iff]
              constructor
              · intro h c hc
                have := h c hc
                unfold letB at this
                simpa using this
              · intro h c hc
                have := h c hc
                unfold letB
                simpa using this
            by_cases c4 : z.length ≤ 6
            · rw [if_neg (by omega)]
              refine lcA_filter (fun c : Nat => !decide (c ∈ abc.cps.toList)) (fun c => D.str ⟨#[c]⟩) (fun c => D.str ⟨#[c]⟩) z.cps.toList _ _ (sz_21 (by simp only [List.length_nil, len_tl]; omega)) ?_ ?_
              · intro c hc Q1 Q2 g1 g2
                walk_at "kf1"
                refine ⟨c, rfl, ?_⟩
                by_cases e : c ∈ abc.cps.toList
                · simp only [e, decide_true, Bool.not_true] at g2
                  simp only [show c ∈ (Str.ofString "abcdefghijklmnopqrstuvwxyz").cps.toList from e, decide_true, Bool.xor_self]
                  walk_at "kf1"
                  exact g2 trivial
                · simp only [e, decide_false, Bool.not_false] at g1
                  simp only [show ¬ c ∈ (Str.ofString "abcdefghijklmnopqrstuvwxyz").cps.toList from e, decide_false, Bool.xor_false]
                  walk_at "kf1"
                  exact g1 trivial
              rw [List.nil_append]
              have hpy : isPys ((z.cps.toList.filter (fun c : Nat => !decide (c ∈ abc.cps.toList))).map fun c => D.str ⟨#[c]⟩) = true := by
                rw [isPys_all, List.all_eq_true]
                intro d hd
                obtain ⟨c, hc, rfl⟩ := List.mem_map.mp hd
                simp only [isPy]
                exact ok_one ((strOk_iff z).mp hzo c (List.mem_filter.mp hc).1)
              refine ⟨by decide, ?_⟩
              rw [rEq_nilA rfl hpy]
              rw [show decide (z.length ≤ 6) = true from decide_eq_true c4, Bool.true_and] at hmk
              rw [← hmk]
              cases hb : isMarkB z with
              | true =>
                rw [kpw_lf (k := .mk z) (by rw [hlf, hb]; rfl)] at hR
                simp only [dFrom, List.length_drop] at hR
                rw [show ((ws.length - (ws.length - (j + 1)) : Nat) : Int) = (j : Int) + 1 by omega] at hR
                walk_at "kf1"
                exact ⟨sz_small (by decide), sz_small (by decide), hR⟩
              | false =>
                walk_at "kf1"
                exact fin0 hb
            · rw [if_pos (by omega)]
              exact fin0 (by rw [hmk, decide_eq_false c4]; rfl)
def dOpt : Option Kd → D
  | some k => dK k
  | none => .non
def txOk5 (t : Str) : Prop := t.length ≤ 5000 ∧ wsOk (Txt.split t bl1) ∧ (Txt.split t bl1).length ≤ 200
def spDue5 : DSp := fun ds O R _ => ∃ t : Str, ds = [.str t] ∧ txOk5 t ∧ R (dOpt (rk t)) O
theorem ok_due5 (T : TxW w K mg) : FO__law_due P w base T 203 spDue5 := by
  refine fnd__law_due T (ok_from T 201) (by walk_at "len") ?_
  rintro ds O R RE ⟨t, rfl, ⟨hl, hws, hw2⟩, hR⟩
  unfold g__law_due
  refine gSeq_step ?_
  walk_at "kf1"
  refine ⟨by decide +kernel, sz_21 (by omega), ?_⟩
  refine gSeq_step ?_
  walk_at "kf1"
  rw [show Txt.split t (Str.ofString " ") = Txt.split t bl1 from rfl]
  refine ⟨Txt.split t bl1, 0, rfl, hw2, hws, by omega, ?_⟩
  rw [List.drop_zero]
  refine gSeq_step ?_
  cases e : kpw (Txt.split t bl1) with
  | none =>
    rw [rk_none e] at hR
    simp only [dFrom]
    walk_at "kf1"
    exact hR
  | some p =>
    obtain ⟨k, r⟩ := p
    simp only [dFrom]
    walk_at "kf1"
    have hw := kpw_words e
    have hlen := congrArg List.length hw.1
    rw [List.length_append] at hlen
    have hpos : 0 < (kwords k).length := List.length_pos_iff.mpr (kwords_ne k)
    rw [List.length_map]
    cases r with
    | cons c r =>
      rw [rk_cons e] at hR
      rw [if_pos (by simp only [List.length_cons] at hlen ⊢; omega)]
      exact hR
    | nil =>
      rw [rk_nil e] at hR
      rw [if_neg (by simp)]
      by_cases c2 : k.leaves ≤ 24
      · rw [if_neg (by omega), rIx_l (d := .int (k.depth : Int)) rfl]
        walk_at "kf1"
        by_cases c1 : k.depth ≤ 12
        · rw [if_pos ⟨c2, c1⟩] at hR
          rw [if_neg (by omega)]
          exact hR
        · rw [if_neg fun q => c1 q.2] at hR
          rw [if_pos (by omega)]
          exact hR
      · rw [if_neg fun q => c2 q.1] at hR
        rw [if_pos (by omega)]
        exact hR
theorem rIsXD_t {O : Ow} {Q : VD} {a C : Addr} {fs : Option (List (Str × D))} {cs : List D} {us : List Value} {b : Bool} (h : O a = some (.exc (.ref C) fs)) (hC : ExcC K C) (p : Paired clsD cs us) (e : PySem.W.kitAny K (.ref C) us = some b) (q : Q (.bl b) O) : rIsXD K [.ref a, .tup cs] O Q := ⟨C, fs, us, b, h, hC, p, e, q⟩
theorem rIsXD_r {O : Ow} {Q : VD} {a C c : Addr} {fs : Option (List (Str × D))} {b : Bool} (h : O a = some (.exc (.ref C) fs)) (hC : ExcC K C) (e : PySem.W.kitOne K (.ref C) (.ref c) = some b) (q : Q (.bl b) O) : rIsXD K [.ref a, .ref c] O Q := ⟨C, fs, .ref c, b, h, hC, rfl, e, q⟩
theorem rIsXD_y {O : Ow} {Q : VD} {a C : Addr} {c : String} {fs : Option (List (Str × D))} {b : Bool} (h : O a = some (.exc (.ref C) fs)) (hC : ExcC K C) (e : PySem.W.kitOne K (.ref C) (.type c) = some b) (q : Q (.bl b) O) : rIsXD K [.ref a, .ty c] O Q := ⟨C, fs, .type c, b, h, hC, rfl, e, q⟩
theorem odd05 (T : TxW w K mg) : PySem.W.kitAny K (.ref T.C_NoKind) [.ref T.C_NoText, .ref T.C_NoFit, .ref T.C_NoName, .ref T.C_NoNumber, .ref T.C_NoRow, .ref T.C_TooLong, .ref T.C_TooMany] = some false := by
  refine kitAny_no fun c hc => ?_
  simp only [List.mem_cons, List.not_mem_nil, or_false] at hc
  rcases hc with rfl | rfl | rfl | rfl | rfl | rfl | rfl
  · exact T.k_NoText.kit T.sb_NoKind_NoText
  · exact T.k_NoFit.kit T.sb_NoKind_NoFit
  · exact T.k_NoName.kit T.sb_NoKind_NoName
  · exact T.k_NoNumber.kit T.sb_NoKind_NoNumber
  · exact T.k_NoRow.kit T.sb_NoKind_NoRow
  · exact T.k_TooLong.kit T.sb_NoKind_TooLong
  · exact T.k_TooMany.kit T.sb_NoKind_TooMany
def dTold5 : Option Kd → D
  | some k => .tup [.str "told", dK k]
  | none => .non
def spRead5 : DSp := fun ds O R _ => ∃ t : Str, ds = [.str t] ∧ txOk5 t ∧ ∀ O', Sub O O' → R (dTold5 (rk t)) O'
theorem ok_read5 (T : TxW w K mg) : FO__law_read P w base T 21 spRead5 := by
  refine fnd__law_read T (ok_read T) (by walk_at "len") ?_
  rintro ds O R RE ⟨t, rfl, ⟨h1, h2, h3⟩, hR⟩
  unfold g__law_read
  refine gSeq_step ?_
  walk_at "kf1"
  refine gSeq_step ?_
  walk_at "kf1"
  refine gSeq_step ?_
  walk_at "kf1"
  refine ⟨t, rfl, by omega, h2, fun k e m d l => ?_, fun e => ⟨true, T.k_KindError.exm T.sb_NoKind_KindError, fun _ a ha => ?_, fun h => nomatch h⟩⟩
  · rw [e] at hR
    walk_at "kf1"
    refine gSeq_step ?_
    walk_at "kf1"
    exact ⟨sz_small (by decide), hR _ (Sub.refl _)⟩
  · rw [e] at hR
    walk_at "kf1"
    simp only [endsKeep]
    intro ha'
    refine gSeq_step ?_
    walk_at "kf1"
    rw [if_neg (by simp [isNon])]
    refine gSeq_step ?_
    walk_at "kf1"
    refine rIsXD_r updO_same T.ec_NoKind (T.k_NoKind.kit T.k_NoKind.sf) ?_
    walk_at "kf1"
    refine rIsXD_y updO_same T.ec_NoKind (kit_VE T.sb_NoKind_ValueError) ?_
    walk_at "kf1"
    refine gSeq_step ?_
    walk_at "kf1"
    refine ⟨sz_small (by decide), ?_⟩
    refine rIsXD_t updO_same T.ec_NoKind (.cons rfl (.cons rfl (.cons rfl (.cons rfl (.cons rfl (.cons rfl (.cons rfl .nil))))))) (odd05 T) ?_
    walk_at "kf1"
    exact hR _ (sub_upd ha')
end
end Kf
/-! Kbl5: how many words a text has; texts with a part replaced. -/
namespace Kf
open PySem PySem.Spec L2
open PyProof.Rows hiding St
def wsOk5 (ws : List Str) : Prop := ∀ w ∈ ws, PyData.strOk w = true ∧ w.length ≤ 1000
def bls (t : Str) : Int := PyProof.Rows.cnt 32 t.cps.toList
theorem bl_eq : bl1 = (⟨#[32]⟩ : Str) := by decide +kernel
theorem bls_app (a b : Str) : bls (a ++ b) = bls a + bls b := by
  unfold bls; rw [Str.cps_append, Array.toList_append, cnt_append]
theorem cnt_ge (c : Nat) : ∀ l : List Nat, 0 ≤ PyProof.Rows.cnt c l
  | [] => Int.le_refl _
  | x :: l => by rw [cnt_cons]; have := cnt_ge c l; split <;> omega
theorem bls_sub (x : Str) (i j : Nat) : bls (PySem.Builtin.Str.strSub x 0 i) + bls (PySem.Builtin.Str.strSub x (i + 1) j) ≤ bls x := by
  unfold bls
  rw [StrLaws.strSub_toList, StrLaws.strSub_toList, List.drop_zero, Nat.sub_zero]
  have h1 : ∀ (l : List Nat) (n : Nat), PyProof.Rows.cnt 32 (l.take n) ≤ PyProof.Rows.cnt 32 l := fun l n => by
    have := cnt_append 32 (l.take n) (l.drop n)
    rw [List.take_append_drop] at this
    have := cnt_ge 32 (l.drop n)
    omega
  have h2 := cnt_append 32 (x.cps.toList.take (i + 1)) (x.cps.toList.drop (i + 1))
  rw [List.take_append_drop] at h2
  have h3 := h1 (x.cps.toList.drop (i + 1)) (j - (i + 1))
  have h4 : PyProof.Rows.cnt 32 (x.cps.toList.take i) ≤ PyProof.Rows.cnt 32 (x.cps.toList.take (i + 1)) := by
    have := h1 (x.cps.toList.take (i + 1)) i
    rwa [List.take_take, show min i (i + 1) = i by omega] at this
  omega
theorem bls_rep1 (x : Str) (z : Str) : bls (rep1 x bl1 z) ≤ bls x + bls z := by
  have hz := cnt_ge 32 z.cps.toList
  have hx := cnt_ge 32 x.cps.toList
  unfold rep1
  split
  · unfold bls; omega
  · rename_i h
    rw [StrLaws.glued_eq_join, StrLaws.partsBetween_eq]
    have hl := StrLaws.occ_length_le x bl1 0 x.length 1
    cases e : PySem.Builtin.Str.occurrences x bl1 0 x.length 1 with
    | nil => rw [e] at h; simp at h
    | cons c r =>
      rw [e] at hl
      have hr : r = [] := List.eq_nil_of_length_eq_zero (by simp only [List.length_cons] at hl; omega)
      subst hr
      rw [show StrLaws.partsFrom x bl1.length 0 [c] = [PySem.Builtin.Str.strSub x 0 c, PySem.Builtin.Str.strSub x (c + bl1.length) x.length] from rfl]
      rw [show Str.join z [PySem.Builtin.Str.strSub x 0 c, PySem.Builtin.Str.strSub x (c + bl1.length) x.length] = PySem.Builtin.Str.strSub x 0 c ++ z ++ PySem.Builtin.Str.strSub x (c + bl1.length) x.length from rfl, bls_app, bls_app]
      have := bls_sub x c x.length
      rw [show bl1.length = 1 by decide +kernel]
      omega
theorem join_has {s : Str} {c : Nat} : ∀ {ws : List Str} {w : Str}, w ∈ ws → c ∈ w.cps.toList → c ∈ (Str.join s ws).cps.toList
  | [t], w, h, hc => by rw [List.mem_singleton.mp h] at hc; exact hc
  | t :: u :: r, w, h, hc => by
    rw [show Str.join s (t :: u :: r) = t ++ s ++ Str.join s (u :: r) from rfl, Str.cps_append, Array.toList_append, Str.cps_append, Array.toList_append]
    rcases List.mem_cons.mp h with rfl | h
    · exact List.mem_append_left _ (List.mem_append_left _ hc)
    · exact List.mem_append_right _ (join_has h hc)
theorem join_len_le {s : Str} : ∀ {ws : List Str} {w : Str}, w ∈ ws → w.length ≤ (Str.join s ws).length
  | [t], w, h => by rw [List.mem_singleton.mp h]; exact Nat.le_refl _
  | t :: u :: r, w, h => by
    rw [show Str.join s (t :: u :: r) = t ++ s ++ Str.join s (u :: r) from rfl, Str.length_append, Str.length_append]
    rcases List.mem_cons.mp h with rfl | h
    · omega
    · have := join_len_le (s := s) h; omega
theorem words_ok {t : Str} (hl : t.length ≤ 1000) (ho : PyData.strOk t = true) : wsOk5 (Txt.split t bl1) := fun w hw => by
  have e := StrLaws.join_split t bl1
  refine ⟨(okIff w).mpr fun c hc => ?_, ?_⟩
  · have := join_has (s := bl1) hw hc
    rw [e] at this
    exact (okIff t).mp ho c this
  · have := join_len_le (s := bl1) hw
    rw [e] at this; omega
theorem words_n {t : Str} {n : Nat} (h : bls t < n) : (Txt.split t bl1).length ≤ n := by
  have := split_len t 32
  rw [← bl_eq] at this
  unfold bls at h
  omega
theorem bls_free {t : Str} (h : 32 ∉ t.cps.toList) : bls t = 0 := cnt_none 32 _ h
theorem split_fr {t : Str} : ∀ p ∈ Txt.split t bl1, 32 ∉ p.cps.toList := by
  rw [bl_eq]; exact StrLaws.split_free t 32
theorem bls_join {ws : List Str} (h : ∀ w ∈ ws, 32 ∉ w.cps.toList) : bls (Str.join bl1 ws) = ((ws.length - 1 : Nat) : Int) := cnt_join bl1 32 (by decide +kernel) ws h
theorem join0_free : ∀ {ws : List Str}, (∀ w ∈ ws, 32 ∉ w.cps.toList) → 32 ∉ (Str.join (Str.ofString "") ws).cps.toList
  | [], _ => by decide +kernel
  | [t], h => h t List.mem_cons_self
  | t :: u :: r, h => by
    rw [show Str.join (Str.ofString "") (t :: u :: r) = t ++ Str.ofString "" ++ Str.join (Str.ofString "") (u :: r) from rfl, Str.cps_append, Array.toList_append, Str.cps_append, Array.toList_append]
    intro hc
    rcases List.mem_append.mp hc with hc | hc
    · rcases List.mem_append.mp hc with hc | hc
      · exact h t List.mem_cons_self hc
      · exact absurd hc (by decide +kernel)
    · exact join0_free (fun w hw => h w (List.mem_cons_of_mem _ hw)) hc
theorem bls_rep0 (x : Str) : bls (Txt.replace x bl1 (Str.ofString "")) = 0 := by
  refine bls_free ?_
  have hf := split_fr (t := x)
  by_cases c0 : x.length = 0
  · have h1 : x.cps = #[] := Array.size_eq_zero_iff.mp c0
    have : x = Str.ofString "" := by cases x; simp only at h1; subst h1; rfl
    subst this
    decide +kernel
  unfold Txt.split at hf
  unfold Txt.replace
  rw [if_neg (by
    have h1 : ¬ x.length < bl1.length := by rw [show bl1.length = 1 by decide +kernel]; omega
    have h2 : ¬ PySem.Builtin.Str.strKind x < PySem.Builtin.Str.strKind bl1 := by
      rw [show PySem.Builtin.Str.strKind bl1 = 1 by decide +kernel]
      unfold PySem.Builtin.Str.strKind
      repeat' split
      all_goals omega
    simp [h1, h2])] at hf
  split at hf
  · rename_i h
    rw [if_pos (by simp [h])]
    exact hf x List.mem_cons_self
  · rename_i h
    rw [if_neg (by simp only [Bool.not_eq_true] at h; rw [h]; decide +kernel), StrLaws.glued_eq_join]
    exact join0_free hf
theorem len_rep0 (x : Str) : (Txt.replace x bl1 (Str.ofString "")).length ≤ x.length := by
  unfold Txt.replace
  split
  · omega
  · have hy : (PySem.Builtin.Str.glued bl1 (PySem.Builtin.Str.partsBetween x (PySem.Builtin.Str.occurrences x bl1 0 x.length (x.length + 1)) bl1.length)).length = x.length := by rw [StrLaws.glued_between_self]
    rw [size_glued, length_partsBetween, Nat.add_sub_cancel] at hy
    rw [size_glued, length_partsBetween, Nat.add_sub_cancel, show (Str.ofString "").length = 0 by decide +kernel, Nat.mul_zero]
    omega
end Kf
/-! Kbt: things that may be trees of worlds. -/
namespace Kf
open PySem PySem.Spec L2
open PyProof.Rows hiding St
/-! ### things that can be looked at -/
mutual
def okE : D → Bool
  | .non => true
  | .bl _ => true
  | .int _ => true
  | .str s => PyData.strOk s && decide (s.length ≤ 1000)
  | .tup ds => okEs ds
  | .lst ds => okEs ds
  | .edic => true
  | _ => false
def okEs : List D → Bool
  | [] => true
  | d :: ds => okE d && okEs ds
end
mutual
def wt : D → Nat
  | .tup ds => wts ds + 1
  | .lst ds => wts ds + 1
  | _ => 1
def wts : List D → Nat
  | [] => 0
  | d :: ds => wt d + wts ds
end
theorem okEs_all : ∀ ds : List D, okEs ds = ds.all okE
  | [] => rfl
  | d :: ds => by rw [okEs, okEs_all ds, List.all_cons]
theorem okEs_mem {ds : List D} {d : D} (h : okEs ds = true) (hd : d ∈ ds) : okE d = true := by
  rw [okEs_all, List.all_eq_true] at h; exact h d hd
theorem wt_pos (d : D) : 1 ≤ wt d := by cases d <;> simp [wt]
theorem wts_len : ∀ ds : List D, ds.length ≤ wts ds
  | [] => Nat.le_refl _
  | d :: ds => by have := wts_len ds; have := wt_pos d; rw [wts, List.length_cons]; omega
theorem wts_mem : ∀ {ds : List D} {d : D}, d ∈ ds → wt d ≤ wts ds
  | x :: xs, d, h => by
    rw [wts]
    rcases List.mem_cons.mp h with rfl | h
    · omega
    · have := wts_mem h; omega
theorem wts_app : ∀ a b : List D, wts (a ++ b) = wts a + wts b
  | [], b => by simp [wts]
  | d :: a, b => by rw [List.cons_append, wts, wts, wts_app a b]; omega
theorem dpEs_mem : ∀ {ds : List D} {d : D}, d ∈ ds → dpE d ≤ dpEs ds
  | x :: xs, d, h => by
    rw [dpEs]
    rcases List.mem_cons.mp h with rfl | h
    · omega
    · have := dpEs_mem h; omega
theorem dpEs_le : ∀ {ds : List D} {n : Nat}, (∀ d ∈ ds, dpE d ≤ n) → dpEs ds ≤ n
  | [], n, _ => by simp [dpEs]
  | x :: xs, n, h => by
    rw [dpEs]
    have := h x List.mem_cons_self
    have := dpEs_le fun d hd => h d (List.mem_cons_of_mem _ hd)
    omega
mutual
theorem okE_py : ∀ d : D, okE d = true → isPyE d = true
  | .non, _ => rfl
  | .bl _, _ => rfl
  | .int _, _ => rfl
  | .str _, _ => rfl
  | .tup ds, h => by rw [okE] at h; rw [isPyE]; exact okEs_py ds h
  | .lst ds, h => by rw [okE] at h; rw [isPyE]; exact okEs_py ds h
  | .edic, _ => rfl
  | .ref _, h => by simp [okE] at h
  | .ty _, h => by simp [okE] at h
  | .scr _, h => by simp [okE] at h
theorem okEs_py : ∀ ds : List D, okEs ds = true → isPyEs ds = true
  | [], _ => rfl
  | d :: ds, h => by rw [okEs, Bool.and_eq_true] at h; rw [isPyEs, okE_py d h.1, okEs_py ds h.2]; rfl
end
/-! ### the looks -/
/-- a row of marks that rise -/
def msB : Str → List D → Bool
  | _, [] => true
  | last, .str m :: r => (isMarkB m && decide (last.cps.toList < m.cps.toList)) && msB m r
  | _, _ :: _ => false
/-- all marks of the first stand in the tree's own row -/
def inB (ms : List D) : D → Bool
  | .tup [.lst ns, _] => ms.all fun m => match m with
    | .str x => ns.any fun n => match n with
      | .str y => decide (x = y)
      | _ => false
    | _ => false
  | _ => false
def isTr : Nat → D → Bool
  | 0, _ => false
  | n + 1, .tup [.lst ms, .lst ts] => msB "" ms && ts.all fun t => isTr n t && inB ms t
  | _ + 1, _ => false
def mkB : D → Bool
  | .lst ms => msB "" ms
  | _ => false
theorem msB_strs : ∀ {ms : List D} {last : Str}, msB last ms = true → ∃ xs : List Str, ms = xs.map .str ∧ (∀ x ∈ xs, isMarkB x = true) ∧ (last :: xs).Pairwise fun a b => a.cps.toList < b.cps.toList
  | [], last, _ => ⟨[], rfl, (fun _ h => nomatch h), by simp⟩
  | .str m :: r, last, h => by
    simp only [msB, Bool.and_eq_true, decide_eq_true_eq] at h
    obtain ⟨xs, rfl, h1, h2⟩ := msB_strs h.2
    refine ⟨m :: xs, rfl, fun x hx => ?_, List.pairwise_cons.mpr ⟨fun y hy => ?_, h2⟩⟩
    · rcases List.mem_cons.mp hx with rfl | hx
      · exact h.1.1
      · exact h1 x hx
    · rcases List.mem_cons.mp hy with rfl | hy
      · exact h.1.2
      · exact List.lt_trans h.1.2 ((List.pairwise_cons.mp h2).1 y hy)
  | .non :: _, _, h => by simp [msB] at h
  | .bl _ :: _, _, h => by simp [msB] at h
  | .int _ :: _, _, h => by simp [msB] at h
  | .tup _ :: _, _, h => by simp [msB] at h
  | .lst _ :: _, _, h => by simp [msB] at h
  | .ref _ :: _, _, h => by simp [msB] at h
  | .ty _ :: _, _, h => by simp [msB] at h
  | .scr _ :: _, _, h => by simp [msB] at h
  | .edic :: _, _, h => by simp [msB] at h
theorem msB_of : ∀ {xs : List Str} {last : Str}, (∀ x ∈ xs, isMarkB x = true) → ((last :: xs).Pairwise fun a b => a.cps.toList < b.cps.toList) → msB last (xs.map .str) = true
  | [], last, _, _ => rfl
  | x :: xs, last, h, hp => by
    obtain ⟨h1, h2⟩ := List.pairwise_cons.mp hp
    rw [List.map_cons, msB, h x List.mem_cons_self, decide_eq_true (h1 x List.mem_cons_self), msB_of (fun y hy => h y (List.mem_cons_of_mem _ hy)) h2]; rfl
theorem mark_ne {x : Str} (h : isMarkB x = true) : (Str.ofString "").cps.toList < x.cps.toList := by
  rw [tl_e]
  unfold isMarkB at h
  simp only [Bool.and_eq_true, decide_eq_true_eq] at h
  have : x.cps.toList.length = x.length := len_tl x
  cases e : x.cps.toList with
  | nil => rw [e, List.length_nil] at this; omega
  | cons a r => exact List.nil_lt_cons a r
/-- marks, and rising -/
theorem msB_up {xs : List Str} : msB "" (xs.map .str) = true ↔ (∀ x ∈ xs, isMarkB x = true) ∧ Up xs := by
  constructor
  · intro h
    obtain ⟨ys, e, h1, h2⟩ := msB_strs h
    have e : xs = ys := by
      have := congrArg (List.map fun d => match d with | D.str s => s | _ => ("" : Str)) e
      simpa [List.map_map, Function.comp_def] using this
    subst e
    exact ⟨h1, (List.pairwise_cons.mp h2).2⟩
  · rintro ⟨h1, h2⟩
    exact msB_of h1 (List.pairwise_cons.mpr ⟨fun x hx => mark_ne (h1 x hx), h2⟩)
theorem inB_strs {xs ys : List Str} {d : D} : inB (xs.map .str) (.tup [.lst (ys.map .str), d]) = true ↔ ∀ x ∈ xs, x ∈ ys := by
  simp only [inB, List.all_map, List.any_map, List.all_eq_true, Function.comp_def, List.any_eq_true, decide_eq_true_eq]
  exact ⟨fun h x hx => let ⟨y, hy, e⟩ := h x hx; e ▸ hy, fun h x hx => ⟨x, h x hx, rfl⟩⟩
theorem isTr_inv {n : Nat} {d : D} (h : isTr (n + 1) d = true) : ∃ ms ts, d = .tup [.lst ms, .lst ts] ∧ msB "" ms = true ∧ (ts.all fun t => isTr n t && inB ms t) = true := by
  unfold isTr at h
  split at h
  · rename_i e; cases e
  · rename_i e; cases e; rw [Bool.and_eq_true] at h; exact ⟨_, _, rfl, h⟩
  · cases h
/-- what is a tree is one -/
theorem isTr_tr : ∀ (n : Nat) (d : D), isTr n d = true → ∃ t : Tr, d = dT t ∧ t.dep ≤ n ∧ MonoT t ∧ ∀ s ∈ subs t, Up s.ms ∧ ∀ m ∈ s.ms, isMarkB m = true
  | 0, d, h => by simp [isTr] at h
  | n + 1, d, h => by
    obtain ⟨ms, ts, rfl, h2a, h2b⟩ := isTr_inv h
    clear h
    have h := And.intro h2a h2b
    obtain ⟨xs, rfl, h1, h2⟩ := msB_strs h.1
    have hup : Up xs := (List.pairwise_cons.mp h2).2
    have key : ∀ ts : List D, (ts.all fun t => isTr n t && inB (xs.map .str) t) = true → ∃ us : List Tr, ts = us.map dT ∧ deps us ≤ n ∧ MonoTs xs us ∧ ∀ s ∈ subss us, Up s.ms ∧ ∀ m ∈ s.ms, isMarkB m = true := by
      intro ts
      induction ts with
      | nil => intro _; exact ⟨[], rfl, by simp [deps], by rw [MonoTs]; trivial, fun s hs => by rw [subss] at hs; cases hs⟩
      | cons t ts ih =>
        intro h
        rw [List.all_cons, Bool.and_eq_true, Bool.and_eq_true] at h
        obtain ⟨u, rfl, u1, u2, u3⟩ := isTr_tr n t h.1.1
        obtain ⟨us, rfl, v1, v2, v3⟩ := ih h.2
        refine ⟨u :: us, rfl, by rw [deps]; omega, ?_, fun s hs => ?_⟩
        · rw [MonoTs]
          refine ⟨?_, u2, v2⟩
          have := h.1.2
          obtain ⟨zs, vs⟩ := u
          rw [dT] at this
          exact inB_strs.mp this
        · rw [subss] at hs
          rcases List.mem_append.mp hs with hs | hs
          · exact u3 s hs
          · exact v3 s hs
    obtain ⟨us, rfl, u1, u2, u3⟩ := key ts h.2
    refine ⟨.nd xs us, by rw [dT, dTs_map], by rw [Tr.dep]; omega, by rw [MonoT]; exact u2, fun s hs => ?_⟩
    rw [subs] at hs
    rcases List.mem_cons.mp hs with rfl | hs
    · exact ⟨hup, h1⟩
    · exact u3 s hs
theorem tr_isTr : ∀ (n : Nat) (t : Tr), t.dep ≤ n → MonoT t → (∀ s ∈ subs t, Up s.ms ∧ ∀ m ∈ s.ms, isMarkB m = true) → isTr n (dT t) = true
  | 0, t, h, _, _ => by obtain ⟨ms, ts⟩ := t; rw [Tr.dep] at h; omega
  | n + 1, .nd ms ts, h, hm, hs => by
    rw [Tr.dep] at h
    rw [MonoT] at hm
    have h0 := hs (.nd ms ts) (by rw [subs]; exact List.mem_cons_self)
    have key : ∀ us : List Tr, deps us ≤ n → MonoTs ms us → (∀ s ∈ subss us, Up s.ms ∧ ∀ m ∈ s.ms, isMarkB m = true) → ((us.map dT).all fun t => isTr n t && inB (ms.map .str) t) = true := by
      intro us
      induction us with
      | nil => intros; rfl
      | cons u us ih =>
        intro h1 h2 h3
        rw [deps] at h1
        rw [MonoTs] at h2
        rw [List.map_cons, List.all_cons, ih (by omega) h2.2.2 (fun s hs => h3 s (by rw [subss]; exact List.mem_append_right _ hs)),
          tr_isTr n u (by omega) h2.2.1 (fun s hs => h3 s (by rw [subss]; exact List.mem_append_left _ hs))]
        obtain ⟨zs, vs⟩ := u
        have : inB (ms.map .str) (dT (.nd zs vs)) = true := by rw [dT]; exact inB_strs.mpr h2.1
        rw [this]; rfl
    rw [dT, dTs_map, isTr, Bool.and_eq_true]
    exact ⟨msB_up.mpr ⟨h0.2, h0.1⟩, key ts (by omega) hm fun s hs' => hs s (by rw [subs]; exact List.mem_cons_of_mem _ hs')⟩
theorem isTr_deep : ∀ (n : Nat) (t : Tr), isTr n (dT t) = true → t.dep ≤ n
  | 0, t, h => by simp [isTr] at h
  | n + 1, .nd ms ts, h => by
    rw [dT, dTs_map, isTr, Bool.and_eq_true] at h
    have key : ∀ us : List Tr, ((us.map dT).all fun t => isTr n t && inB (ms.map .str) t) = true → deps us ≤ n := by
      intro us
      induction us with
      | nil => intro _; simp [deps]
      | cons u us ih =>
        intro h
        rw [List.map_cons, List.all_cons, Bool.and_eq_true, Bool.and_eq_true] at h
        have := isTr_deep n u h.1.1
        have := ih h.2
        rw [deps]; omega
    have := key ts h.2
    rw [Tr.dep]; omega
/-! sizes -/
mutual
theorem subs_wt : ∀ t : Tr, (subs t).length ≤ wt (dT t)
  | .nd ms ts => by
    have := subss_wt ts
    rw [subs, List.length_cons, dT, wt, wts, wts, wt, wt, wts]
    omega
theorem subss_wt : ∀ ts : List Tr, (subss ts).length ≤ wts (dTs ts)
  | [] => by rw [subss]; exact Nat.zero_le _
  | t :: ts => by
    have := subs_wt t
    have := subss_wt ts
    rw [subss, List.length_append, dTs, wts]; omega
end
theorem isMk_B {t : Str} (h : IsMk t) : isMarkB t = true := by
  obtain ⟨ps, rfl, h1, h2, h3⟩ := h
  unfold isMarkB
  have hl : (txt ps).length = ps.length := by simp [txt, Str.length]
  rw [hl, decide_eq_true h1, decide_eq_true h2, Bool.and_true, Bool.and_true, List.all_eq_true]
  intro c hc
  simp only [txt, List.mem_map] at hc
  obtain ⟨n, hn, rfl⟩ := hc
  have := h3 n hn
  unfold letB
  rw [decide_eq_true_eq, abc_l, List.mem_map]
  exact ⟨n.toNat, List.mem_range.mpr (by omega), rfl⟩
theorem isMk_len {t : Str} (h : IsMk t) : t.length ≤ 6 := by
  obtain ⟨ps, rfl, h1, h2, h3⟩ := h
  have hl : (txt ps).length = ps.length := by simp [txt, Str.length]
  omega
def spBtm (n : Nat) : DSp := fun ds O R _ => ∃ (d : D) (r : Nat), ds = [d, .int r] ∧ r < n ∧ okE d = true ∧ wt d ≤ 1000 ∧ R (.bl (isTr r d)) O
def spAreMk : DSp := fun ds O R _ => ∃ d : D, ds = [d] ∧ okE d = true ∧ wt d ≤ 1000 ∧ R (.bl (mkB d)) O
def spIsTree : DSp := fun ds O R _ => ∃ d : D, ds = [d] ∧ okE d = true ∧ wt d ≤ 1000 ∧ R (.bl (isTr 40 d)) O
def spWorldsOf (n : Nat) : DSp := fun ds O R _ => ∃ t : Tr, ds = [dT t] ∧ t.dep < n ∧ (subs t).length ≤ 1000 ∧ R (.int (subs t).length) O
def spCopied (n : Nat) : DSp := fun ds O R _ => ∃ d : D, ds = [d] ∧ okE d = true ∧ wt d ≤ 1000 ∧ dpE d < n ∧ R d O
end Kf
/-! Kbu: trees as things, small things, chains. -/
namespace Kf
open PySem PySem.Spec L2
open PyProof.Rows hiding St
theorem dpEs_strs : ∀ ms : List Str, dpEs (ms.map .str) = 0
  | [] => rfl
  | m :: ms => by simp only [List.map_cons, dpEs, dpEs_strs ms, dpE]; rfl
theorem wts_strs : ∀ ms : List Str, wts (ms.map .str) = ms.length
  | [] => rfl
  | m :: ms => by simp only [List.map_cons, wts, wts_strs ms, wt, List.length_cons]; omega
mutual
theorem dpE_dT : ∀ t : Tr, dpE (dT t) ≤ 2 * t.dep
  | .nd ms ts => by
    have := dpEs_dT ts
    simp only [dT, dpE, dpEs, dpEs_strs, Tr.dep]
    omega
theorem dpEs_dT : ∀ ts : List Tr, dpEs (dTs ts) ≤ 2 * deps ts
  | [] => by simp [dTs, dpEs]
  | t :: ts => by
    have := dpE_dT t
    have := dpEs_dT ts
    simp only [dTs, dpEs, deps]
    omega
end
mutual
theorem wt_dT : ∀ t : Tr, (∀ s ∈ subs t, s.ms.length ≤ 4) → wt (dT t) ≤ 7 * (subs t).length
  | .nd ms ts, h => by
    have h0 := h (.nd ms ts) (by rw [subs]; exact List.mem_cons_self)
    have := wts_dT ts fun s hs => h s (by rw [subs]; exact List.mem_cons_of_mem _ hs)
    simp only [Tr.ms] at h0
    simp only [dT, wt, wts, wts_strs, subs, List.length_cons]
    omega
theorem wts_dT : ∀ ts : List Tr, (∀ s ∈ subss ts, s.ms.length ≤ 4) → wts (dTs ts) ≤ 7 * (subss ts).length
  | [], _ => by simp [dTs, wts]
  | t :: ts, h => by
    have := wt_dT t fun s hs => h s (by rw [subss]; exact List.mem_append_left _ hs)
    have := wts_dT ts fun s hs => h s (by rw [subss]; exact List.mem_append_right _ hs)
    simp only [dTs, wts, subss, List.length_append]
    omega
end
/-- all marks are texts that are short -/
def MsS (t : Tr) : Prop := ∀ s ∈ subs t, s.ms.length ≤ 4 ∧ ∀ m ∈ s.ms, PyData.strOk m = true ∧ m.length ≤ 1000
theorem okEs_strs {ms : List Str} (h : ∀ m ∈ ms, PyData.strOk m = true ∧ m.length ≤ 1000) : okEs (ms.map .str) = true := by
  rw [okEs_all, List.all_eq_true]
  intro x hx
  obtain ⟨m, hm, rfl⟩ := List.mem_map.mp hx
  rw [okE, (h m hm).1, decide_eq_true (h m hm).2]; rfl
mutual
theorem okE_dT : ∀ t : Tr, (∀ s ∈ subs t, ∀ m ∈ s.ms, PyData.strOk m = true ∧ m.length ≤ 1000) → okE (dT t) = true
  | .nd ms ts, h => by
    have h0 := h (.nd ms ts) (by rw [subs]; exact List.mem_cons_self)
    simp only [Tr.ms] at h0
    simp only [dT, okE, okEs, okEs_strs h0, okEs_dT ts fun s hs => h s (by rw [subs]; exact List.mem_cons_of_mem _ hs), Bool.and_true]
theorem okEs_dT : ∀ ts : List Tr, (∀ s ∈ subss ts, ∀ m ∈ s.ms, PyData.strOk m = true ∧ m.length ≤ 1000) → okEs (dTs ts) = true
  | [], _ => rfl
  | t :: ts, h => by
    simp only [dTs, okEs, okE_dT t fun s hs => h s (by rw [subss]; exact List.mem_append_left _ hs), okEs_dT ts fun s hs => h s (by rw [subss]; exact List.mem_append_right _ hs), Bool.and_true]
end
mutual
theorem isPy_dT : ∀ t : Tr, (∀ s ∈ subs t, ∀ m ∈ s.ms, PyData.strOk m = true) → isPy (dT t) = true
  | .nd ms ts, h => by
    have h0 := h (.nd ms ts) (by rw [subs]; exact List.mem_cons_self)
    simp only [Tr.ms] at h0
    simp only [dT, isPy, isPys, isPys_strs h0, isPys_dT ts fun s hs => h s (by rw [subs]; exact List.mem_cons_of_mem _ hs), Bool.and_true]
theorem isPys_dT : ∀ ts : List Tr, (∀ s ∈ subss ts, ∀ m ∈ s.ms, PyData.strOk m = true) → isPys (dTs ts) = true
  | [], _ => rfl
  | t :: ts, h => by
    simp only [dTs, isPys, isPy_dT t fun s hs => h s (by rw [subss]; exact List.mem_append_left _ hs), isPys_dT ts fun s hs => h s (by rw [subss]; exact List.mem_append_right _ hs), Bool.and_true]
end
/-- a small thing -/
def Sm (y : D) : Prop := okE y = true ∧ wt y ≤ 2 ∧ dpE y ≤ 1
theorem sm_row {ys : List D} (h : ∀ y ∈ ys, Sm y) : okEs ys = true ∧ wts ys ≤ 2 * ys.length ∧ dpEs ys ≤ 1 := by
  refine ⟨by rw [okEs_all, List.all_eq_true]; exact fun y hy => (h y hy).1, ?_, dpEs_le fun y hy => (h y hy).2.2⟩
  induction ys with
  | nil => simp [wts]
  | cons y ys ih =>
    have := ih fun z hz => h z (List.mem_cons_of_mem _ hz)
    have := (h y List.mem_cons_self).2.1
    rw [wts, List.length_cons]; omega
theorem sm_str {m : Str} (h : PyData.strOk m = true) (h2 : m.length ≤ 1000) : Sm (.str m) := ⟨by rw [okE, h, decide_eq_true h2]; rfl, by simp only [wt]; omega, by simp only [dpE]; omega⟩
theorem cut_tk {α : Type} (xs : List α) (i : Nat) (h : i ≤ xs.length) : cut xs none (some (i : Int)) = xs.take i := by
  have e : HT.sIx xs.length xs.length (some (i : Int)) = i := by
    simp only [HT.sIx]; split <;> omega
  have e0 : HT.sIx xs.length 0 none = 0 := rfl
  unfold cut
  rw [e, e0, List.drop_zero, Nat.sub_zero]
theorem cut_dr {α : Type} (xs : List α) (i : Nat) (h : i ≤ xs.length) : cut xs (some (i : Int)) none = xs.drop i := by
  have e : HT.sIx xs.length 0 (some (i : Int)) = i := by
    simp only [HT.sIx]; split <;> omega
  have e0 : HT.sIx xs.length xs.length none = xs.length := rfl
  unfold cut
  rw [e, e0, List.take_of_length_le (by rw [List.length_drop]; omega)]
/-- a thing of a row exchanged for another one -/
theorem row_at {xs : List D} {k : Nat} {v : D} (h : xs[k]? = some v) : wts (xs.take k) + wt v + wts (xs.drop (k + 1)) = wts xs := by
  have hk := (List.getElem?_eq_some_iff.mp h).1
  have e : xs = xs.take k ++ v :: xs.drop (k + 1) := by
    conv => lhs; rw [← List.take_append_drop k xs]
    rw [List.drop_eq_getElem_cons hk, (List.getElem?_eq_some_iff.mp h).2]
  conv => rhs; rw [e, wts_app, wts]
  omega
theorem row_put {xs : List D} {k n m : Nat} {v d : D} (h : xs[k]? = some v) (ho : okEs xs = true) (hd : okE d = true) (hw : wt d ≤ wt v + n) (hp : dpEs xs ≤ m) (hp2 : dpE d ≤ m) :
    okEs (xs.take k ++ [d] ++ xs.drop (k + 1)) = true ∧ wts (xs.take k ++ [d] ++ xs.drop (k + 1)) ≤ wts xs + n ∧ dpEs (xs.take k ++ [d] ++ xs.drop (k + 1)) ≤ m := by
  have hm : ∀ y ∈ xs.take k ++ [d] ++ xs.drop (k + 1), y = d ∨ y ∈ xs := fun y hy => by
    rcases List.mem_append.mp hy with hy | hy
    · rcases List.mem_append.mp hy with hy | hy
      · exact .inr (List.mem_of_mem_take hy)
      · exact .inl (List.mem_singleton.mp hy)
    · exact .inr (List.mem_of_mem_drop hy)
  refine ⟨?_, ?_, ?_⟩
  · rw [okEs_all, List.all_eq_true]
    intro y hy
    rcases hm y hy with rfl | hy
    · exact hd
    · exact okEs_mem ho hy
  · have := row_at h
    rw [wts_app, wts_app, wts, wts]
    omega
  · refine dpEs_le fun y hy => ?_
    rcases hm y hy with rfl | hy
    · exact hp2
    · have := dpEs_mem hy; omega
/-- a chain of trees -/
def chainT (ms : List Str) : Nat → Tr
  | 0 => .nd ms []
  | n + 1 => .nd ms [chainT ms n]
theorem chain_subs {ms : List Str} : ∀ (n : Nat), (subs (chainT ms n)).length = n + 1 ∧ (∀ s ∈ subs (chainT ms n), s.ms = ms) ∧ (chainT ms n).dep = n + 1 ∧ (chainT ms n).ms = ms ∧ MonoT (chainT ms n)
  | 0 => by
    refine ⟨by simp [chainT, subs, subss], fun s hs => ?_, by simp [chainT, Tr.dep, deps], rfl, by simp [chainT, MonoT, MonoTs]⟩
    simp only [chainT, subs, subss, List.mem_singleton] at hs
    rw [hs]; rfl
  | n + 1 => by
    obtain ⟨h1, h2, h3, h4, h5⟩ := chain_subs (ms := ms) n
    refine ⟨by simp [chainT, subs, subss, h1], fun s hs => ?_, by simp [chainT, Tr.dep, deps, h3], rfl, by simp [chainT, MonoT, MonoTs, h4, h5]⟩
    simp only [chainT, subs, subss, List.append_nil] at hs
    rcases List.mem_cons.mp hs with rfl | hs
    · rfl
    · exact h2 s hs
end Kf
namespace Kf
open PySem PySem.Spec L2
open PyProof.Rows hiding St
local macro_rules | `(tactic| walk_at "kf") => `(tactic| simp (config := { failIfUnchanged := false }) only [startD, ap_fiEnumT, asT1_t, ap_fKGet, asStr_s, ap_fKIn, ap_fKIx, ap_gAsgL, rUnl_l, ap_fiRng3, asR3_i, rSplitO_s, ap_fOrL, rOrL_l, ap_fLcK, ap_gForK, ap_fMaxD, rMaxD_l, rMaxL_l, ap_fCallXD, ap_gForE, asLE_l, ap_fFrz, ap_fDicO, ap_fDGet, ap_fDGet1, ap_fDGet2, ap_gDPut, ap_fIsiT, ap_gForR, rRep_l, isT_i, isT_s, isT_b, isT_n, isT_t, isT_l, ap_gSeq, ap_gIf, ap_gRet, ap_gNext, ap_gSet, ap_gAsg, ap_gDrop, ap_gRetF, ap_gRetN, ap_gFor, ap_gSetIx, ap_gBreak, ap_fRev, ap_fiRevR, asIR_i, rRev_l, ap_fCallX, ap_gRaise, ap_gTry, ap_gTryAs, ap_gNever, ap_fEdic, ap_fTest, ap_fOp, ap_fVar, envGet_s, patGet_s, ap_fC, ap_fCB, ap_fCons, ap_fNil, ap_fCall, ap_fAnd, ap_fOr, ap_fNot, ap_fAndV, ap_fOrV, ap_fNotV, ap_fIf, ap_fTup, ap_fLst, ap_fLstO, ap_fChain, ap_fUn, ap_fBM, ap_fBM0, ap_fPool, rPool_i, ap_fSl, ap_fPart, ap_fNoPart, asI_i, rSl_l, ap_fiRng1, ap_fiRng2, ap_fiList, ap_fiTup, ap_fiStr, ap_fiEnum, ap_fiZip, ap_fiRev, asL_l, asT_t, asSg_s, asR1_i, asR2_i, asL1_l, asL2_l, ap_fLc, ap_fLcO, ap_fYes, wipeD, lcD, isi_i_int, isi_i_bool, isi_i_str, isi_i_tuple, isi_i_list, isi_i_dict, isi_b_int, isi_b_bool, isi_b_str, isi_b_tuple, isi_b_list, isi_b_dict, isi_s_int, isi_s_bool, isi_s_str, isi_s_tuple, isi_s_list, isi_s_dict, isi_t_int, isi_t_bool, isi_t_str, isi_t_tuple, isi_t_list, isi_t_dict, isi_l_int, isi_l_bool, isi_l_str, isi_l_tuple, isi_l_list, isi_l_dict, isi_n_int, isi_n_bool, isi_n_str, isi_n_tuple, isi_n_list, isi_n_dict, isi_d_int, isi_d_bool, isi_d_str, isi_d_tuple, isi_d_list, isi_d_dict,
  deref_tup, deref_lst, deref_int, deref_str, deref_bl, deref_non, deref_scr, rLt_i, rLt_s, rLe_i, rLe_s, rInts_i, rInts0_i, rAdd_i, rAdd_s, rAdd_l, rAdd_t, rCatO_l, rNeg_i, rLen_t, rLen_l, rLen_c, rLen_s, rMax_i, rMin_i, rInt_i, rInt_b, rDivmod_i, ap_gAug, rStr_i, rList_l, rList_t, rListO_l, rListO_t, rTup_l, rTup_t,
  rIx_t0, rIx_t1, rIx_t2, rIx_t3, rIx_l0, rIx_l1, rIx_l2, rIsN_x, isNon_t, isNon_n, isNon_i, isNon_s, isNon_l, rEq_i, rEq_b, rEq_i2, rEq_b2, rJoin_m, rSplit_s, tyOk_l, tyOk_s, patD_nm, patD_tp, patDs_nil, patDs_cons, Option.bind_some, notX, notX',
  List.map_cons, List.map_nil, List.length_cons, List.length_nil, List.cons_append, List.nil_append, List.append_nil, List.replicate, List.getElem?_cons_zero, List.getElem?_cons_succ, List.set_cons_zero, List.set_cons_succ, updO_same, updO_updO,
  Nat.reduceSub, Nat.reduceAdd, Nat.reduceLeDiff, Nat.zero_add, Int.cast_ofNat_Int, Int.natCast_zero, Int.natCast_one, Int.reduceLT, Int.reduceLE, Int.reduceEq, Int.reduceAdd, Int.reduceSub, Int.reduceNeg, decide_true, decide_false, if_true, if_false, Bool.false_eq_true, eq_self, reduceIte, Bool.true_eq_false, decide_eq_true_eq, Bool.not_true, Bool.not_false, Bool.not_eq_true', decide_eq_false_iff_not, exists_eq_left', exists_eq_left, D.bl.injEq, true_and, and_true, not_true_eq_false, not_false_eq_true])
local macro_rules | `(tactic| walk_at "len") => `(tactic| (intro ds O R RE h; first | (obtain ⟨e, _⟩ := h; subst e; rfl) | (obtain ⟨_, e, _⟩ := h; subst e; rfl) | (obtain ⟨_, _, e, _⟩ := h; subst e; rfl) | (obtain ⟨_, _, _, e, _⟩ := h; subst e; rfl) | (obtain ⟨_, _, _, _, e, _⟩ := h; subst e; rfl) | (obtain ⟨_, _, _, _, _, e, _⟩ := h; subst e; rfl) | (obtain ⟨_, _, _, _, _, _, e, _⟩ := h; subst e; rfl) | (obtain ⟨_, _, _, _, _, _, _, e, _⟩ := h; subst e; rfl) | (obtain ⟨_, _, _, _, _, _, _, _, e, _⟩ := h; subst e; rfl) | (obtain ⟨_, _, _, _, _, _, _, _, _, e, _⟩ := h; subst e; rfl)))
local macro_rules | `(tactic| walk_at "kf1") => `(tactic| simp (config := { failIfUnchanged := false }) only [startD, ap_fiEnumT, asT1_t, ap_fKGet, asStr_s, ap_fKIn, ap_fKIx, ap_gAsgL, rUnl_l, ap_fiRng3, asR3_i, rSplitO_s, ap_fOrL, rOrL_l, ap_fLcK, ap_gForK, ap_fMaxD, rMaxD_l, rMaxL_l, ap_fCallXD, ap_gForE, asLE_l, ap_fFrz, ap_fDicO, ap_fDGet, ap_fDGet1, ap_fDGet2, ap_gDPut, ap_fIsiT, ap_gForR, rRep_l, isT_i, isT_s, isT_b, isT_n, isT_t, isT_l, ap_gIf, ap_gRet, ap_gNext, ap_gSet, ap_gAsg, ap_gDrop, ap_gRetF, ap_gRetN, ap_gFor, ap_gSetIx, ap_gBreak, ap_fRev, ap_fiRevR, asIR_i, rRev_l, ap_fCallX, ap_gRaise, ap_gTry, ap_gTryAs, ap_gNever, ap_fEdic, ap_fTest, ap_fOp, ap_fVar, envGet_s, patGet_s, ap_fC, ap_fCB, ap_fCons, ap_fNil, ap_fCall, ap_fAnd, ap_fOr, ap_fNot, ap_fAndV, ap_fOrV, ap_fNotV, ap_fIf, ap_fTup, ap_fLst, ap_fLstO, ap_fChain, ap_fUn, ap_fBM, ap_fBM0, ap_fPool, rPool_i, ap_fSl, ap_fPart, ap_fNoPart, asI_i, rSl_l, ap_fiRng1, ap_fiRng2, ap_fiList, ap_fiTup, ap_fiStr, ap_fiEnum, ap_fiZip, ap_fiRev, asL_l, asT_t, asSg_s, asR1_i, asR2_i, asL1_l, asL2_l, ap_fLc, ap_fLcO, ap_fYes, wipeD, lcD, isi_i_int, isi_i_bool, isi_i_str, isi_i_tuple, isi_i_list, isi_i_dict, isi_b_int, isi_b_bool, isi_b_str, isi_b_tuple, isi_b_list, isi_b_dict, isi_s_int, isi_s_bool, isi_s_str, isi_s_tuple, isi_s_list, isi_s_dict, isi_t_int, isi_t_bool, isi_t_str, isi_t_tuple, isi_t_list, isi_t_dict, isi_l_int, isi_l_bool, isi_l_str, isi_l_tuple, isi_l_list, isi_l_dict, isi_n_int, isi_n_bool, isi_n_str, isi_n_tuple, isi_n_list, isi_n_dict, isi_d_int, isi_d_bool, isi_d_str, isi_d_tuple, isi_d_list, isi_d_dict,
  deref_tup, deref_lst, deref_int, deref_str, deref_bl, deref_non, deref_scr, rLt_i, rLt_s, rLe_i, rLe_s, rInts_i, rInts0_i, rAdd_i, rAdd_s, rAdd_l, rAdd_t, rCatO_l, rNeg_i, rLen_t, rLen_l, rLen_c, rLen_s, rMax_i, rMin_i, rInt_i, rInt_b, rDivmod_i, ap_gAug, rStr_i, rList_l, rList_t, rListO_l, rListO_t, rTup_l, rTup_t,
  rIx_t0, rIx_t1, rIx_t2, rIx_t3, rIx_l0, rIx_l1, rIx_l2, rIsN_x, isNon_t, isNon_n, isNon_i, isNon_s, isNon_l, rEq_i, rEq_b, rEq_i2, rEq_b2, rJoin_m, rSplit_s, tyOk_l, tyOk_s, patD_nm, patD_tp, patDs_nil, patDs_cons, Option.bind_some, notX, notX',
  List.map_cons, List.map_nil, List.length_cons, List.length_nil, List.cons_append, List.nil_append, List.append_nil, List.replicate, List.getElem?_cons_zero, List.getElem?_cons_succ, List.set_cons_zero, List.set_cons_succ, updO_same, updO_updO,
  Nat.reduceSub, Nat.reduceAdd, Nat.reduceLeDiff, Nat.zero_add, Int.cast_ofNat_Int, Int.natCast_zero, Int.natCast_one, Int.reduceLT, Int.reduceLE, Int.reduceEq, Int.reduceAdd, Int.reduceSub, Int.reduceNeg, decide_true, decide_false, if_true, if_false, Bool.false_eq_true, eq_self, reduceIte, Bool.true_eq_false, decide_eq_true_eq, Bool.not_true, Bool.not_false, Bool.not_eq_true', decide_eq_false_iff_not, exists_eq_left', exists_eq_left, D.bl.injEq, true_and, and_true, not_true_eq_false, not_false_eq_true])
section
variable {P : Program} {w : World} {K : PySem.W.Frag} {mg : Str → Option Value} {base : Heap}
local macro_rules | `(tactic| walk_at "tg") => `(tactic| simp (config := { failIfUnchanged := false }) only [te_name_take, te_name_give, te_name_pair, te_name_first, te_name_second, te_name_to, te_name_both, te_name_one, te_name_mark, te_name_name, te_name_thing, te_name_at, te_thing_take, te_thing_give, te_thing_pair, te_thing_first, te_thing_second, te_thing_to, te_thing_both, te_thing_one, te_thing_mark, te_thing_name, te_thing_thing, te_thing_at, te_take_take, te_take_give, te_take_pair, te_take_first, te_take_second, te_take_to, te_take_both, te_take_one, te_take_mark, te_take_name, te_take_thing, te_take_at, te_give_take, te_give_give, te_give_pair, te_give_first, te_give_second, te_give_to, te_give_both, te_give_one, te_give_mark, te_give_name, te_give_thing, te_give_at, te_pair_take, te_pair_give, te_pair_pair, te_pair_first, te_pair_second, te_pair_to, te_pair_both, te_pair_one, te_pair_mark, te_pair_name, te_pair_thing, te_pair_at, te_first_take, te_first_give, te_first_pair, te_first_first, te_first_second, te_first_to, te_first_both, te_first_one, te_first_mark, te_first_name, te_first_thing, te_first_at, te_second_take, te_second_give, te_second_pair, te_second_first, te_second_second, te_second_to, te_second_both, te_second_one, te_second_mark, te_second_name, te_second_thing, te_second_at, te_mark_take, te_mark_give, te_mark_pair, te_mark_first, te_mark_second, te_mark_to, te_mark_both, te_mark_one, te_mark_mark, te_mark_name, te_mark_thing, te_mark_at, te_one_take, te_one_give, te_one_pair, te_one_first, te_one_second, te_one_to, te_one_both, te_one_one, te_one_mark, te_one_name, te_one_thing, te_one_at, te_to_take, te_to_give, te_to_pair, te_to_first, te_to_second, te_to_to, te_to_both, te_to_one, te_to_mark, te_to_name, te_to_thing, te_to_at, te_both_take, te_both_give, te_both_pair, te_both_first, te_both_second, te_both_to, te_both_both, te_both_one, te_both_mark, te_both_name, te_both_thing, te_both_at, te_at_take, te_at_give, te_at_pair, te_at_first, te_at_second, te_at_to, te_at_both, te_at_one, te_at_mark, te_at_name, te_at_thing, te_at_at, ti4_name, ti4_thing, ti4_take, ti4_give, ti4_pair, ti4_first, ti4_second, ti2_name, ti2_thing, ti2_take, ti2_give, ti2_pair, ti2_first, ti2_second, szT_0, szT_1, szT_2, szT_3, szT_4, szT_5, szT_6, szT_7, szT_8, szT_9, szT_10, szT_11, szT_12, Bool.not_true, Bool.not_false, true_and])
local macro_rules | `(tactic| walk_at "jj") => `(tactic| simp (config := { failIfUnchanged := false }) only [ap_fjList, ap_fjEnum, ap_fjZip, ap_gForJ, ap_fLcJ, ap_fLcJO, asLJ_l, asLJ1_1, asLJ2_2, rIsB_b, ap_fSortSet, List.nil_append, List.append_nil])
local macro_rules | `(tactic| walk_at "kj") => `(tactic| (walk_at "kf"; walk_at "jj"; walk_at "kf"; walk_at "jj"; walk_at "kf"))
local macro_rules | `(tactic| walk_at "kj1") => `(tactic| (walk_at "kf1"; walk_at "jj"; walk_at "kf1"; walk_at "jj"; walk_at "kf1"))
theorem gIf_rest {c : FT} {g u : GS} {R : DEnds} {N : DEnv → Ow → Prop} {ρ : DEnv} {O : Ow} (I : DEnv → Ow → Prop) (hI : ∀ ρ O, I ρ O → N ρ O) (q : (∀ ρ O, I ρ O → N ρ O) → gIf c g u { R with nx := N } ρ O) : gIf c g u { R with nx := N } ρ O := q hI
def wOk5 (w : Str) : Prop := PyData.strOk w = true ∧ w.length ≤ 7 ∧ 32 ∉ w.cps.toList
theorem tx5 {t : Str} (h1 : t.length ≤ 1000) (h2 : PyData.strOk t = true) (h3 : bls t < 200) : txOk5 t := ⟨by omega, words_ok h1 h2, words_n (n := 200) h3⟩
theorem join_le5 : ∀ {ws : List Str}, (∀ w ∈ ws, wOk5 w) → (Str.join bl1 ws).length ≤ 8 * ws.length
  | [], _ => by decide +kernel
  | [t], h => by have := (h t List.mem_cons_self).2.1; simp only [Str.join, List.length_singleton]; omega
  | t :: u :: r, h => by
    have h1 := (h t List.mem_cons_self).2.1
    have ih := join_le5 (ws := u :: r) fun w hw => h w (List.mem_cons_of_mem _ hw)
    rw [show Str.join bl1 (t :: u :: r) = t ++ bl1 ++ Str.join bl1 (u :: r) from rfl, Str.length_append, Str.length_append, show bl1.length = 1 by decide +kernel]
    simp only [List.length_cons] at ih ⊢
    omega
theorem tx5_join {ws : List Str} (hl : ws.length ≤ 120) (h : ∀ w ∈ ws, wOk5 w) : txOk5 (Str.join bl1 ws) := by
  have h1 := join_le5 h
  refine tx5 (by omega) (okJoin (by decide +kernel) fun w hw => (h w hw).1) ?_
  rw [bls_join fun w hw => (h w hw).2.2]
  omega
def SM14 : List Str := ["(", ")", "->", "*", "1", "a", "bb", "", "A", "abcdefg", "=>", "0", "11", "a1"]
theorem sm14_ok : ∀ w ∈ SM14, wOk5 w := by unfold wOk5; decide +kernel
structure BentOk (t : Str) : Prop where
  len : t.length ≤ 400
  ok : PyData.strOk t = true
  bl : bls t ≤ 106
  ws : ∀ w ∈ Txt.split t bl1, wOk5 w
  n1 : 1 ≤ (Txt.split t bl1).length
  n2 : (Txt.split t bl1).length ≤ 110
theorem cut_map {α β : Type} (f : α → β) (xs : List α) (lo hi : Option Int) : cut (xs.map f) lo hi = (cut xs lo hi).map f := by
  unfold cut; rw [List.length_map, ← List.map_drop, ← List.map_take]
theorem mem_cut {α : Type} {xs : List α} {lo hi : Option Int} {x : α} (h : x ∈ cut xs lo hi) : x ∈ xs := List.mem_of_mem_drop (List.mem_of_mem_take h)
theorem cut_le {α : Type} (xs : List α) (lo hi : Option Int) : (cut xs lo hi).length ≤ xs.length := by
  unfold cut; rw [List.length_take, List.length_drop]; omega
def IB (p : Addr) (t : Str) (ws : List Str) (i : Nat) (one : Str) (r3 : Int) (O : Ow) (j : Int) : DEnv → Ow → Prop := fun ρ O' => ∃ ws' : List Str, ρ = [some (.ref p), some (.str t), some (.lst (ws'.map .str)), some (.lst (SM14.map .str)), some (.int i), some (.str one), some (.int r3)] ∧ O' = O ∧ ws'.length ≤ 112 ∧ (∀ w ∈ ws', wOk5 w) ∧ (j ≤ r3 → ws' = ws)
def spBent : DSp := fun ds O R _ => ∃ (p : Addr) (t : Str), ds = [.ref p, .str t] ∧ O p = some .pool ∧ BentOk t ∧ ∀ t', txOk5 t' → R (.str t') O
theorem ok_bent5 (T : TxW w K mg) {k : Nat} : FO__law_bent P w base T (k + 2) spBent := by
  refine fnd__law_bent T (ok_take T.n__law_take) (by walk_at "len") ?_
  rintro ds O R RE ⟨p, t, rfl, hp, hb, hR⟩
  have hl := hb.len
  unfold g__law_bent
  refine gSeq_step ?_
  walk_at "kf1"
  refine ⟨by decide +kernel, sz_21 (by omega), ?_⟩
  rw [show Txt.split t (Str.ofString " ") = Txt.split t bl1 from rfl]
  have hws := hb.ws
  have hn1 := hb.n1
  have hn2 := hb.n2
  generalize hw0 : Txt.split t bl1 = ws at hws hn1 hn2
  refine gSeq_step ?_
  walk_at "kf1"
  refine ⟨sz_small (by decide), ?_⟩
  refine gSeq_step ?_
  walk_at "kf1"
  rw [List.length_map]
  refine take_of hp (by omega) (by omega) fun at0 h0 h1 => ?_
  obtain ⟨i, rfl⟩ : ∃ i : Nat, at0 = (i : Int) := ⟨at0.toNat, by omega⟩
  walk_at "kf1"
  refine gSeq_step ?_
  walk_at "kf1"
  refine take_of hp (by decide) (by decide) fun r2 h20 h21 => ?_
  refine rIx_any (xs := SM14.map .str) h20 h21 fun v hv => ?_
  obtain ⟨one, hone, rfl⟩ := List.mem_map.mp hv
  have hone5 := sm14_ok one hone
  walk_at "kf1"
  refine gSeq_step ?_
  walk_at "kf1"
  refine take_of hp (by decide) (by decide) fun r3 h30 h31 => ?_
  walk_at "kf1"
  have e1 : cut (ws.map D.str) none (some (i : Int)) = (ws.take i).map D.str := by rw [cut_map, cut_tk _ _ (by omega)]
  have e2 : cut (ws.map D.str) (some ((i : Int) + 1)) none = (ws.drop (i + 1)).map D.str := by rw [cut_map, show (i : Int) + 1 = ((i + 1 : Nat) : Int) by omega, cut_dr _ _ (by omega)]
  have e3 : cut (ws.map D.str) (some (i : Int)) none = (ws.drop i).map D.str := by rw [cut_map, cut_dr _ _ (by omega)]
  have gt : ∀ w ∈ ws.take i, wOk5 w := fun w h => hws w (List.mem_of_mem_take h)
  have gd : ∀ n, ∀ w ∈ ws.drop n, wOk5 w := fun n w h => hws w (List.mem_of_mem_drop h)
  have ht : (ws.take i).length = i := by rw [List.length_take]; omega
  have hd : ∀ n, (ws.drop n).length = ws.length - n := fun n => List.length_drop
  obtain ⟨z, hz⟩ : ∃ z, ws[i]? = some z := ⟨_, List.getElem?_eq_getElem (by omega)⟩
  have hz5 := hws z (List.mem_of_getElem? hz)
  refine gSeq_step ?_
  refine gIf_rest (IB p t ws i one r3 O 1) ?_ ?_
  rotate_left
  · intro hI
    walk_at "kf1"
    split
    · rename_i hr3
      rw [e1, e2, ← List.map_append]
      refine ⟨sz_small (by simp only [List.length_map, ht, hd]; omega), ?_⟩
      refine hI _ _ ⟨ws.take i ++ ws.drop (i + 1), rfl, rfl, by rw [List.length_append, ht, hd]; omega, fun w h => (List.mem_append.mp h).elim (gt w) (gd _ w), fun h => by omega⟩
    · exact hI _ _ ⟨ws, rfl, rfl, by omega, hws, fun h => rfl⟩
  rintro _ O ⟨ws', rfl, rfl, hl', hg', hs'⟩
  refine gSeq_step ?_
  refine gIf_rest (IB p t ws i one r3 O 2) ?_ ?_
  rotate_left
  · intro hI
    walk_at "kf1"
    split
    · rename_i hr3
      have hws' : ws = ws' := (hs' (by omega)).symm
      subst hws'
      rw [rIx_l (atI_nat (show (ws.map D.str)[i]? = some (.str z) by rw [List.getElem?_map, hz]; rfl)), e1, e3]
      refine ⟨sz_small (by decide), sz_small (by simp only [List.length_append, List.length_map, List.length_cons, List.length_nil, List.length_reverse, ht, hd]; omega), sz_small (by simp only [List.length_append, List.length_map, List.length_cons, List.length_nil, List.length_reverse, ht, hd]; omega), ?_⟩
      refine hI _ _ ⟨ws.take i ++ [z] ++ ws.drop i, by simp only [List.map_append, List.map_cons, List.map_nil, List.map_reverse], rfl, by simp only [List.length_append, List.length_cons, List.length_nil, List.length_reverse, ht, hd]; omega, ?_, fun h => by omega⟩
      intro w h
      simp only [List.mem_append, List.mem_cons, List.not_mem_nil, or_false, List.mem_reverse] at h
      rcases h with (h | rfl) | h
      · exact gt w h
      · exact hz5
      · exact gd _ w h
    · exact hI _ _ ⟨ws', rfl, rfl, hl', hg', fun h => hs' (by omega)⟩
  rintro _ O ⟨ws', rfl, rfl, hl', hg', hs'⟩
  refine gSeq_step ?_
  refine gIf_rest (IB p t ws i one r3 O 3) ?_ ?_
  rotate_left
  · intro hI
    walk_at "kf1"
    split
    · rename_i hr3
      have hws' : ws = ws' := (hs' (by omega)).symm
      subst hws'
      rw [e1, e2]
      refine ⟨sz_small (by decide), sz_small (by simp only [List.length_append, List.length_map, List.length_cons, List.length_nil, List.length_reverse, ht, hd]; omega), sz_small (by simp only [List.length_append, List.length_map, List.length_cons, List.length_nil, List.length_reverse, ht, hd]; omega), ?_⟩
      refine hI _ _ ⟨ws.take i ++ [one] ++ ws.drop (i + 1), by simp only [List.map_append, List.map_cons, List.map_nil, List.map_reverse], rfl, by simp only [List.length_append, List.length_cons, List.length_nil, List.length_reverse, ht, hd]; omega, ?_, fun h => by omega⟩
      intro w h
      simp only [List.mem_append, List.mem_cons, List.not_mem_nil, or_false, List.mem_reverse] at h
      rcases h with (h | rfl) | h
      · exact gt w h
      · exact hone5
      · exact gd _ w h
    · exact hI _ _ ⟨ws', rfl, rfl, hl', hg', fun h => hs' (by omega)⟩
  rintro _ O ⟨ws', rfl, rfl, hl', hg', hs'⟩
  refine gSeq_step ?_
  refine gIf_rest (IB p t ws i one r3 O 4) ?_ ?_
  rotate_left
  · intro hI
    walk_at "kf1"
    split
    · rename_i hr3
      have hws' : ws = ws' := (hs' (by omega)).symm
      subst hws'
      rw [e1, e3]
      refine ⟨sz_small (by decide), sz_small (by simp only [List.length_append, List.length_map, List.length_cons, List.length_nil, List.length_reverse, ht, hd]; omega), sz_small (by simp only [List.length_append, List.length_map, List.length_cons, List.length_nil, List.length_reverse, ht, hd]; omega), ?_⟩
      refine hI _ _ ⟨ws.take i ++ [one] ++ ws.drop i, by simp only [List.map_append, List.map_cons, List.map_nil, List.map_reverse], rfl, by simp only [List.length_append, List.length_cons, List.length_nil, List.length_reverse, ht, hd]; omega, ?_, fun h => by omega⟩
      intro w h
      simp only [List.mem_append, List.mem_cons, List.not_mem_nil, or_false, List.mem_reverse] at h
      rcases h with (h | rfl) | h
      · exact gt w h
      · exact hone5
      · exact gd _ w h
    · exact hI _ _ ⟨ws', rfl, rfl, hl', hg', fun h => hs' (by omega)⟩
  rintro _ O ⟨ws', rfl, rfl, hl', hg', hs'⟩
  refine gSeq_step ?_
  refine gIf_rest (IB p t ws i one r3 O 5) ?_ ?_
  rotate_left
  · intro hI
    walk_at "kf1"
    split
    · rename_i hr3
      have hws' : ws = ws' := (hs' (by omega)).symm
      subst hws'
      rw [e1, e3]
      refine ⟨sz_small (by simp only [List.length_append, List.length_map, List.length_cons, List.length_nil, List.length_reverse, ht, hd]; omega), ?_⟩
      refine hI _ _ ⟨ws.take i ++ (ws.drop i).reverse, by simp only [List.map_append, List.map_cons, List.map_nil, List.map_reverse], rfl, by simp only [List.length_append, List.length_cons, List.length_nil, List.length_reverse, ht, hd]; omega, ?_, fun h => by omega⟩
      intro w h
      simp only [List.mem_append, List.mem_cons, List.not_mem_nil, or_false, List.mem_reverse] at h
      rcases h with h | h
      · exact gt w h
      · exact gd _ w h
    · exact hI _ _ ⟨ws', rfl, rfl, hl', hg', fun h => hs' (by omega)⟩
  rintro _ O ⟨ws', rfl, rfl, hl', hg', hs'⟩
  refine gSeq_step ?_
  refine gIf_rest (IB p t ws i one r3 O 6) ?_ ?_
  rotate_left
  · intro hI
    walk_at "kf1"
    split
    · rename_i hr3
      have hws' : ws = ws' := (hs' (by omega)).symm
      subst hws'
      rw [cut_map]
      exact hI _ _ ⟨cut ws (some 1) (some (-1)), rfl, rfl, by have := cut_le ws (some 1) (some (-1)); omega, fun w h => hws w (mem_cut h), fun h => by omega⟩
    · exact hI _ _ ⟨ws', rfl, rfl, hl', hg', fun h => hs' (by omega)⟩
  rintro _ O ⟨ws', rfl, rfl, hl', hg', hs'⟩
  refine gSeq_step ?_
  refine gIf_rest (IB p t ws i one r3 O 7) ?_ ?_
  rotate_left
  · intro hI
    walk_at "kf1"
    split
    · rename_i hr3
      have hws' : ws = ws' := (hs' (by omega)).symm
      subst hws'
      refine ⟨sz_small (by decide), sz_small (by simp only [List.length_append, List.length_map, List.length_cons, List.length_nil, List.length_reverse, ht, hd]; omega), sz_small (by decide), sz_small (by simp only [List.length_append, List.length_map, List.length_cons, List.length_nil, List.length_reverse, ht, hd]; omega), ?_⟩
      refine hI _ _ ⟨[Str.ofString "("] ++ ws ++ [Str.ofString ")"], by rw [List.map_append, List.map_append]; rfl, rfl, by simp only [List.length_append, List.length_cons, List.length_nil, List.length_reverse, ht, hd]; omega, ?_, fun h => by omega⟩
      intro w h
      simp only [List.mem_append, List.mem_cons, List.not_mem_nil, or_false, List.mem_reverse] at h
      rcases h with (rfl | h) | rfl
      · exact sm14_ok _ (by decide +kernel)
      · exact hws w h
      · exact sm14_ok _ (by decide +kernel)
    · exact hI _ _ ⟨ws', rfl, rfl, hl', hg', fun h => hs' (by omega)⟩
  rintro _ O ⟨ws', rfl, rfl, hl', hg', hs'⟩
  have o1 : (Str.ofString " ").length = 1 := by decide +kernel
  have o2 : (Str.ofString "  ").length = 2 := by decide +kernel
  have o3 : (Str.ofString "\n").length = 1 := by decide +kernel
  have o4 : (Str.ofString "\t").length = 1 := by decide +kernel
  have b1 : bls (Str.ofString " ") = 1 := by decide +kernel
  have b2 : bls (Str.ofString "  ") = 2 := by decide +kernel
  have b3 : bls (Str.ofString "\n") = 0 := by decide +kernel
  have b4 : bls (Str.ofString "\t") = 0 := by decide +kernel
  have hbl := hb.bl
  have hok := hb.ok
  refine gSeq_step ?_
  walk_at "kf1"
  split
  · rename_i hr3
    refine (show (t.length + (Str.ofString "  ").length ≤ 16777216 ∧ R (.str (rep1 t (Str.ofString " ") (Str.ofString "  "))) O) from ?_)
    refine ⟨by omega, hR _ (tx5 ?_ (rep1_ok hok (by decide +kernel)) ?_)⟩
    · have := rep1_len t (Str.ofString " ") (Str.ofString "  "); omega
    · have := bls_rep1 t (Str.ofString "  "); rw [b2] at this; show bls (rep1 t bl1 (Str.ofString "  ")) < 200; omega
  refine gSeq_step ?_
  walk_at "kf1"
  split
  · rename_i hr3
    refine ⟨sz_21 (by omega), sz_21 (by omega), ?_⟩
    refine (show (t.length + (t.length + 1) * (Str.ofString "").length ≤ 16777216 ∧ _) from ?_)
    refine ⟨by rw [show (Str.ofString "").length = 0 by decide +kernel, Nat.mul_zero]; omega, ?_⟩
    dsimp only
    refine ⟨sz_21 (by omega), ?_⟩
    refine (show (t.length + (Str.ofString "\t").length ≤ 16777216 ∧ _) from ?_)
    refine ⟨by omega, ?_⟩
    dsimp only
    refine ⟨sz_small (by decide), ?_⟩
    refine rIx_any (by omega) (by simp only [List.length_cons, List.length_nil]; omega) fun v hv => ?_
    simp only [List.mem_cons, List.not_mem_nil, or_false] at hv
    rcases hv with rfl | rfl | rfl | rfl | rfl
    · exact hR _ (tx5 (by rw [Str.length_append]; omega) (okApp (by decide +kernel) hok) (by rw [bls_app]; omega))
    · exact hR _ (tx5 (by rw [Str.length_append]; omega) (okApp hok (by decide +kernel)) (by rw [bls_app]; omega))
    · have h1 := len_rep0 t
      exact hR _ (tx5 (show (Txt.replace t bl1 (Str.ofString "")).length ≤ 1000 by omega) (repA_ok hok (by decide +kernel)) (show bls (Txt.replace t bl1 (Str.ofString "")) < 200 by rw [bls_rep0]; decide))
    · exact hR _ (tx5 (by rw [Str.length_append]; omega) (okApp hok (by decide +kernel)) (by rw [bls_app]; omega))
    · have h1 := rep1_len t (Str.ofString " ") (Str.ofString "\t")
      have h2 := bls_rep1 t (Str.ofString "\t")
      exact hR _ (tx5 (by omega) (rep1_ok hok (by decide +kernel)) (show bls (rep1 t bl1 (Str.ofString "\t")) < 200 by omega))
  walk_at "kf1"
  have hsum : ∀ us : List Str, (∀ w ∈ us, wOk5 w) → (us.map (·.length)).sum ≤ 7 * us.length := fun us => by
    induction us with
    | nil => intro _; exact Nat.le_refl _
    | cons u us ih =>
      intro h
      have h1 := (h u List.mem_cons_self).2.1
      have h2 := ih fun w hw => h w (List.mem_cons_of_mem _ hw)
      simp only [List.map_cons, List.sum_cons, List.length_cons]; omega
  have := hsum ws' hg'
  exact ⟨by rw [o1]; omega, hR _ (tx5_join (by omega) hg')⟩
end
end Kf
namespace Kf
open PySem PySem.Spec L2
open PyProof.Rows hiding St
local macro_rules | `(tactic| walk_at "kf") => `(tactic| simp (config := { failIfUnchanged := false }) only [startD, ap_fiEnumT, asT1_t, ap_fKGet, asStr_s, ap_fKIn, ap_fKIx, ap_gAsgL, rUnl_l, ap_fiRng3, asR3_i, rSplitO_s, ap_fOrL, rOrL_l, ap_fLcK, ap_gForK, ap_fMaxD, rMaxD_l, rMaxL_l, ap_fCallXD, ap_gForE, asLE_l, ap_fFrz, ap_fDicO, ap_fDGet, ap_fDGet1, ap_fDGet2, ap_gDPut, ap_fIsiT, ap_gForR, rRep_l, isT_i, isT_s, isT_b, isT_n, isT_t, isT_l, ap_gSeq, ap_gIf, ap_gRet, ap_gNext, ap_gSet, ap_gAsg, ap_gDrop, ap_gRetF, ap_gRetN, ap_gFor, ap_gSetIx, ap_gBreak, ap_fRev, ap_fiRevR, asIR_i, rRev_l, ap_fCallX, ap_gRaise, ap_gTry, ap_gTryAs, ap_gNever, ap_fEdic, ap_fTest, ap_fOp, ap_fVar, envGet_s, patGet_s, ap_fC, ap_fCB, ap_fCons, ap_fNil, ap_fCall, ap_fAnd, ap_fOr, ap_fNot, ap_fAndV, ap_fOrV, ap_fNotV, ap_fIf, ap_fTup, ap_fLst, ap_fLstO, ap_fChain, ap_fUn, ap_fBM, ap_fBM0, ap_fPool, rPool_i, ap_fSl, ap_fPart, ap_fNoPart, asI_i, rSl_l, ap_fiRng1, ap_fiRng2, ap_fiList, ap_fiTup, ap_fiStr, ap_fiEnum, ap_fiZip, ap_fiRev, asL_l, asT_t, asSg_s, asR1_i, asR2_i, asL1_l, asL2_l, ap_fLc, ap_fLcO, ap_fYes, wipeD, lcD, isi_i_int, isi_i_bool, isi_i_str, isi_i_tuple, isi_i_list, isi_i_dict, isi_b_int, isi_b_bool, isi_b_str, isi_b_tuple, isi_b_list, isi_b_dict, isi_s_int, isi_s_bool, isi_s_str, isi_s_tuple, isi_s_list, isi_s_dict, isi_t_int, isi_t_bool, isi_t_str, isi_t_tuple, isi_t_list, isi_t_dict, isi_l_int, isi_l_bool, isi_l_str, isi_l_tuple, isi_l_list, isi_l_dict, isi_n_int, isi_n_bool, isi_n_str, isi_n_tuple, isi_n_list, isi_n_dict, isi_d_int, isi_d_bool, isi_d_str, isi_d_tuple, isi_d_list, isi_d_dict,
  deref_tup, deref_lst, deref_int, deref_str, deref_bl, deref_non, deref_scr, rLt_i, rLt_s, rLe_i, rLe_s, rInts_i, rInts0_i, rAdd_i, rAdd_s, rAdd_l, rAdd_t, rCatO_l, rNeg_i, rLen_t, rLen_l, rLen_c, rLen_s, rMax_i, rMin_i, rInt_i, rInt_b, rDivmod_i, ap_gAug, rStr_i, rList_l, rList_t, rListO_l, rListO_t, rTup_l, rTup_t,
  rIx_t0, rIx_t1, rIx_t2, rIx_t3, rIx_l0, rIx_l1, rIx_l2, rIsN_x, isNon_t, isNon_n, isNon_i, isNon_s, isNon_l, rEq_i, rEq_b, rEq_i2, rEq_b2, rJoin_m, rSplit_s, tyOk_l, tyOk_s, patD_nm, patD_tp, patDs_nil, patDs_cons, Option.bind_some, notX, notX',
  List.map_cons, List.map_nil, List.length_cons, List.length_nil, List.cons_append, List.nil_append, List.append_nil, List.replicate, List.getElem?_cons_zero, List.getElem?_cons_succ, List.set_cons_zero, List.set_cons_succ, updO_same, updO_updO,
  Nat.reduceSub, Nat.reduceAdd, Nat.reduceLeDiff, Nat.zero_add, Int.cast_ofNat_Int, Int.natCast_zero, Int.natCast_one, Int.reduceLT, Int.reduceLE, Int.reduceEq, Int.reduceAdd, Int.reduceSub, Int.reduceNeg, decide_true, decide_false, if_true, if_false, Bool.false_eq_true, eq_self, reduceIte, Bool.true_eq_false, decide_eq_true_eq, Bool.not_true, Bool.not_false, Bool.not_eq_true', decide_eq_false_iff_not, exists_eq_left', exists_eq_left, D.bl.injEq, true_and, and_true, not_true_eq_false, not_false_eq_true])
local macro_rules | `(tactic| walk_at "len") => `(tactic| (intro ds O R RE h; first | (obtain ⟨e, _⟩ := h; subst e; rfl) | (obtain ⟨_, e, _⟩ := h; subst e; rfl) | (obtain ⟨_, _, e, _⟩ := h; subst e; rfl) | (obtain ⟨_, _, _, e, _⟩ := h; subst e; rfl) | (obtain ⟨_, _, _, _, e, _⟩ := h; subst e; rfl) | (obtain ⟨_, _, _, _, _, e, _⟩ := h; subst e; rfl) | (obtain ⟨_, _, _, _, _, _, e, _⟩ := h; subst e; rfl) | (obtain ⟨_, _, _, _, _, _, _, e, _⟩ := h; subst e; rfl) | (obtain ⟨_, _, _, _, _, _, _, _, e, _⟩ := h; subst e; rfl) | (obtain ⟨_, _, _, _, _, _, _, _, _, e, _⟩ := h; subst e; rfl)))
local macro_rules | `(tactic| walk_at "kf1") => `(tactic| simp (config := { failIfUnchanged := false }) only [startD, ap_fiEnumT, asT1_t, ap_fKGet, asStr_s, ap_fKIn, ap_fKIx, ap_gAsgL, rUnl_l, ap_fiRng3, asR3_i, rSplitO_s, ap_fOrL, rOrL_l, ap_fLcK, ap_gForK, ap_fMaxD, rMaxD_l, rMaxL_l, ap_fCallXD, ap_gForE, asLE_l, ap_fFrz, ap_fDicO, ap_fDGet, ap_fDGet1, ap_fDGet2, ap_gDPut, ap_fIsiT, ap_gForR, rRep_l, isT_i, isT_s, isT_b, isT_n, isT_t, isT_l, ap_gIf, ap_gRet, ap_gNext, ap_gSet, ap_gAsg, ap_gDrop, ap_gRetF, ap_gRetN, ap_gFor, ap_gSetIx, ap_gBreak, ap_fRev, ap_fiRevR, asIR_i, rRev_l, ap_fCallX, ap_gRaise, ap_gTry, ap_gTryAs, ap_gNever, ap_fEdic, ap_fTest, ap_fOp, ap_fVar, envGet_s, patGet_s, ap_fC, ap_fCB, ap_fCons, ap_fNil, ap_fCall, ap_fAnd, ap_fOr, ap_fNot, ap_fAndV, ap_fOrV, ap_fNotV, ap_fIf, ap_fTup, ap_fLst, ap_fLstO, ap_fChain, ap_fUn, ap_fBM, ap_fBM0, ap_fPool, rPool_i, ap_fSl, ap_fPart, ap_fNoPart, asI_i, rSl_l, ap_fiRng1, ap_fiRng2, ap_fiList, ap_fiTup, ap_fiStr, ap_fiEnum, ap_fiZip, ap_fiRev, asL_l, asT_t, asSg_s, asR1_i, asR2_i, asL1_l, asL2_l, ap_fLc, ap_fLcO, ap_fYes, wipeD, lcD, isi_i_int, isi_i_bool, isi_i_str, isi_i_tuple, isi_i_list, isi_i_dict, isi_b_int, isi_b_bool, isi_b_str, isi_b_tuple, isi_b_list, isi_b_dict, isi_s_int, isi_s_bool, isi_s_str, isi_s_tuple, isi_s_list, isi_s_dict, isi_t_int, isi_t_bool, isi_t_str, isi_t_tuple, isi_t_list, isi_t_dict, isi_l_int, isi_l_bool, isi_l_str, isi_l_tuple, isi_l_list, isi_l_dict, isi_n_int, isi_n_bool, isi_n_str, isi_n_tuple, isi_n_list, isi_n_dict, isi_d_int, isi_d_bool, isi_d_str, isi_d_tuple, isi_d_list, isi_d_dict,
  deref_tup, deref_lst, deref_int, deref_str, deref_bl, deref_non, deref_scr, rLt_i, rLt_s, rLe_i, rLe_s, rInts_i, rInts0_i, rAdd_i, rAdd_s, rAdd_l, rAdd_t, rCatO_l, rNeg_i, rLen_t, rLen_l, rLen_c, rLen_s, rMax_i, rMin_i, rInt_i, rInt_b, rDivmod_i, ap_gAug, rStr_i, rList_l, rList_t, rListO_l, rListO_t, rTup_l, rTup_t,
  rIx_t0, rIx_t1, rIx_t2, rIx_t3, rIx_l0, rIx_l1, rIx_l2, rIsN_x, isNon_t, isNon_n, isNon_i, isNon_s, isNon_l, rEq_i, rEq_b, rEq_i2, rEq_b2, rJoin_m, rSplit_s, tyOk_l, tyOk_s, patD_nm, patD_tp, patDs_nil, patDs_cons, Option.bind_some, notX, notX',
  List.map_cons, List.map_nil, List.length_cons, List.length_nil, List.cons_append, List.nil_append, List.append_nil, List.replicate, List.getElem?_cons_zero, List.getElem?_cons_succ, List.set_cons_zero, List.set_cons_succ, updO_same, updO_updO,
  Nat.reduceSub, Nat.reduceAdd, Nat.reduceLeDiff, Nat.zero_add, Int.cast_ofNat_Int, Int.natCast_zero, Int.natCast_one, Int.reduceLT, Int.reduceLE, Int.reduceEq, Int.reduceAdd, Int.reduceSub, Int.reduceNeg, decide_true, decide_false, if_true, if_false, Bool.false_eq_true, eq_self, reduceIte, Bool.true_eq_false, decide_eq_true_eq, Bool.not_true, Bool.not_false, Bool.not_eq_true', decide_eq_false_iff_not, exists_eq_left', exists_eq_left, D.bl.injEq, true_and, and_true, not_true_eq_false, not_false_eq_true])
section
variable {P : Program} {w : World} {K : PySem.W.Frag} {mg : Str → Option Value} {base : Heap}
local macro_rules | `(tactic| walk_at "tg") => `(tactic| simp (config := { failIfUnchanged := false }) only [te_name_take, te_name_give, te_name_pair, te_name_first, te_name_second, te_name_to, te_name_both, te_name_one, te_name_mark, te_name_name, te_name_thing, te_name_at, te_thing_take, te_thing_give, te_thing_pair, te_thing_first, te_thing_second, te_thing_to, te_thing_both, te_thing_one, te_thing_mark, te_thing_name, te_thing_thing, te_thing_at, te_take_take, te_take_give, te_take_pair, te_take_first, te_take_second, te_take_to, te_take_both, te_take_one, te_take_mark, te_take_name, te_take_thing, te_take_at, te_give_take, te_give_give, te_give_pair, te_give_first, te_give_second, te_give_to, te_give_both, te_give_one, te_give_mark, te_give_name, te_give_thing, te_give_at, te_pair_take, te_pair_give, te_pair_pair, te_pair_first, te_pair_second, te_pair_to, te_pair_both, te_pair_one, te_pair_mark, te_pair_name, te_pair_thing, te_pair_at, te_first_take, te_first_give, te_first_pair, te_first_first, te_first_second, te_first_to, te_first_both, te_first_one, te_first_mark, te_first_name, te_first_thing, te_first_at, te_second_take, te_second_give, te_second_pair, te_second_first, te_second_second, te_second_to, te_second_both, te_second_one, te_second_mark, te_second_name, te_second_thing, te_second_at, te_mark_take, te_mark_give, te_mark_pair, te_mark_first, te_mark_second, te_mark_to, te_mark_both, te_mark_one, te_mark_mark, te_mark_name, te_mark_thing, te_mark_at, te_one_take, te_one_give, te_one_pair, te_one_first, te_one_second, te_one_to, te_one_both, te_one_one, te_one_mark, te_one_name, te_one_thing, te_one_at, te_to_take, te_to_give, te_to_pair, te_to_first, te_to_second, te_to_to, te_to_both, te_to_one, te_to_mark, te_to_name, te_to_thing, te_to_at, te_both_take, te_both_give, te_both_pair, te_both_first, te_both_second, te_both_to, te_both_both, te_both_one, te_both_mark, te_both_name, te_both_thing, te_both_at, te_at_take, te_at_give, te_at_pair, te_at_first, te_at_second, te_at_to, te_at_both, te_at_one, te_at_mark, te_at_name, te_at_thing, te_at_at, ti4_name, ti4_thing, ti4_take, ti4_give, ti4_pair, ti4_first, ti4_second, ti2_name, ti2_thing, ti2_take, ti2_give, ti2_pair, ti2_first, ti2_second, szT_0, szT_1, szT_2, szT_3, szT_4, szT_5, szT_6, szT_7, szT_8, szT_9, szT_10, szT_11, szT_12, Bool.not_true, Bool.not_false, true_and])
local macro_rules | `(tactic| walk_at "jj") => `(tactic| simp (config := { failIfUnchanged := false }) only [ap_fjList, ap_fjEnum, ap_fjZip, ap_gForJ, ap_fLcJ, ap_fLcJO, asLJ_l, asLJ1_1, asLJ2_2, rIsB_b, ap_fSortSet, List.nil_append, List.append_nil])
local macro_rules | `(tactic| walk_at "kj") => `(tactic| (walk_at "kf"; walk_at "jj"; walk_at "kf"; walk_at "jj"; walk_at "kf"))
local macro_rules | `(tactic| walk_at "kj1") => `(tactic| (walk_at "kf1"; walk_at "jj"; walk_at "kf1"; walk_at "jj"; walk_at "kf1"))
/-- the law's own kinds: three words -/
def spLKind (n : Nat) : DSp := fun ds O R _ => ∃ (p : Addr) (l : Nat) (ms : List Str), ds = [.ref p, .int l, .lst (ms.map .str)] ∧ O p = some .pool ∧ 1 ≤ l ∧ l ≤ n ∧ l ≤ 1000 ∧ 1 ≤ ms.length ∧ ms.length ≤ 1000 ∧ ∀ k : Kd, k.leaves = l → k.over ms → R (dK k) O
theorem ok_lkind (T : TxW w K mg) : ∀ n, FO__law_kind P w base T (n + 1) (spLKind n)
  | 0 => fnUp (none_left fun ds O R RE ⟨p, l, ms, _, _, h1, h2, _⟩ => by omega) (Nat.zero_le _)
  | n + 1 => by
    refine fnd__law_kind T (ok_take T.n__law_take) (ok_lkind T n) (by walk_at "len") ?_
    rintro ds O R RE ⟨p, l, ms, rfl, hp, h1, hn, h1000, hm1, hm2, hR⟩
    unfold g__law_kind
    walk_at "kf"
    by_cases hl : l = 1
    · subst hl
      walk_at "kf"
      refine take_of hp (by decide) (by decide) fun r hr0 hr1 => ?_
      walk_at "kf"
      split
      · exact ⟨sz_small (by decide), hR .one rfl trivial⟩
      · rw [List.length_map]
        refine take_of hp (by omega) (by omega) fun r hr0 hr1 => ?_
        obtain ⟨v, e1, e2⟩ := atI_some (xs := ms) hr0 hr1
        rw [rIx_l (by rw [atI_map, e1]; rfl)]
        exact ⟨sz_small (by decide), hR (.mk v) rfl e2⟩
    · rw [if_neg (by omega)]
      refine take_of hp (by omega) (by omega) fun r hr0 hr1 => ?_
      walk_at "kf"
      obtain ⟨f, hf⟩ : ∃ f : Nat, 1 + r = (f : Int) := ⟨(1 + r).toNat, by omega⟩
      rw [hf]
      refine ⟨sz_small (by decide), ?_⟩
      refine take_of hp (by decide) (by decide) fun r hr0 hr1 => ?_
      have h3 : r = 0 ∨ r = 1 ∨ r = 2 := by omega
      have fin : ∀ z : Str, (∀ k1 k2 : Kd, k1.leaves + k2.leaves = l → k1.over ms → k2.over ms → R (.tup [.str z, dK k1, dK k2]) O) →
          spLKind n [.ref p, .int f, .lst (ms.map .str)] O (fun x O1 => spLKind n [.ref p, .int ((l : Int) - f), .lst (ms.map .str)] O1 (fun x_1 O1 => 3 ≤ sizeLine ∧ R (.tup [.str z, x, x_1]) O1) X0) X0 := by
        intro z hz
        refine ⟨p, f, ms, rfl, hp, by omega, by omega, by omega, hm1, hm2, fun k1 hk1 ho1 => ?_⟩
        dsimp only
        rw [show (l : Int) - (f : Int) = ((l - f : Nat) : Int) by omega]
        refine ⟨p, l - f, ms, rfl, hp, by omega, by omega, by omega, hm1, hm2, fun k2 hk2 ho2 => ?_⟩
        exact ⟨sz_small (by decide), hz k1 k2 (by omega) ho1 ho2⟩
      have hto := fin "to" fun k1 k2 h o1 o2 => hR (.to k1 k2) (by simp only [Kd.leaves]; omega) ⟨o1, o2⟩
      have hbo := fin "both" fun k1 k2 h o1 o2 => hR (.both k1 k2) (by simp only [Kd.leaves]; omega) ⟨o1, o2⟩
      rcases h3 with rfl | rfl | rfl <;> walk_at "kf" <;> first | exact hto | exact hbo
theorem over_mks {ms : List Str} (hm : ∀ m ∈ ms, isMarkB m = true) : ∀ k : Kd, k.over ms → k.mks
  | .mk m, h => by intro x hx; simp only [Kd.marks, List.mem_singleton] at hx; subst hx; exact hm _ h
  | .one, _ => by intro x hx; simp [Kd.marks] at hx
  | .to a b, h => by
    intro x hx
    simp only [Kd.marks, List.mem_append] at hx
    exact hx.elim (over_mks hm a h.1 x) (over_mks hm b h.2 x)
  | .both a b, h => by
    intro x hx
    simp only [Kd.marks, List.mem_append] at hx
    exact hx.elim (over_mks hm a h.1 x) (over_mks hm b h.2 x)
def spLText (n : Nat) : DSp := fun ds O R _ => ∃ k : Kd, ds = [dK k] ∧ k.depth < n ∧ k.mks ∧ k.leaves ≤ 1000 ∧ R (.str (kshow k)) O
theorem ok_ltext (T : TxW w K mg) : ∀ n, FO__law_text P w base T (n + 1) (spLText n)
  | 0 => none_left fun ds O R RE ⟨k, _, h, _⟩ => by omega
  | n + 1 => by
    refine fnd__law_text T (ok_ltext T n) (by walk_at "len") ?_
    rintro ds O R RE ⟨k, rfl, hd, hm, hl, hR⟩
    unfold g__law_text
    have e1 : (Str.ofString "( ").length = 2 := by decide +kernel
    have e2 : (Str.ofString " ").length = 1 := by decide +kernel
    have e3 : (Str.ofString "->").length = 2 := by decide +kernel
    have e3' : (Str.ofString "*").length = 1 := by decide +kernel
    have e4 : (Str.ofString " )").length = 2 := by decide +kernel
    cases k with
    | mk m => simp only [dK, kshow] at hR ⊢; walk_at "kf"; exact hR
    | one => simp only [dK, kshow] at hR ⊢; walk_at "kf"; exact hR
    | to a b =>
      simp only [Kd.depth, Kd.leaves] at hd hl
      have ma : a.mks := fun m h => hm m (by simp [Kd.marks, h])
      have mb : b.mks := fun m h => hm m (by simp [Kd.marks, h])
      have la := kshow_len a ma
      have lb := kshow_len b mb
      simp only [dK, kshow] at hR ⊢
      walk_at "kf"
      walk_at "tg"
      walk_at "kf"
      refine ⟨a, rfl, by omega, ma, by omega, ?_⟩
      walk_at "kf"
      refine ⟨sz_21 (by omega), sz_21 (by simp only [len_app]; omega), sz_21 (by simp only [len_app]; omega), sz_21 (by simp only [len_app]; omega), ?_⟩
      refine ⟨b, rfl, by omega, mb, by omega, ?_⟩
      walk_at "kf"
      refine ⟨sz_21 (by simp only [len_app]; omega), sz_21 (by simp only [len_app]; omega), ?_⟩
      exact hR
    | both a b =>
      simp only [Kd.depth, Kd.leaves] at hd hl
      have ma : a.mks := fun m h => hm m (by simp [Kd.marks, h])
      have mb : b.mks := fun m h => hm m (by simp [Kd.marks, h])
      have la := kshow_len a ma
      have lb := kshow_len b mb
      simp only [dK, kshow] at hR ⊢
      walk_at "kf"
      walk_at "tg"
      walk_at "kf"
      refine ⟨a, rfl, by omega, ma, by omega, ?_⟩
      walk_at "kf"
      refine ⟨sz_21 (by omega), sz_21 (by simp only [len_app]; omega), sz_21 (by simp only [len_app]; omega), sz_21 (by simp only [len_app]; omega), ?_⟩
      refine ⟨b, rfl, by omega, mb, by omega, ?_⟩
      walk_at "kf"
      refine ⟨sz_21 (by simp only [len_app]; omega), sz_21 (by simp only [len_app]; omega), ?_⟩
      exact hR
def spShowK (n : Nat) : DSp := fun ds O R _ => ∃ k : Kd, ds = [dK k] ∧ k.depth < n ∧ k.depth ≤ 100 ∧ k.mks ∧ k.leaves ≤ 1000 ∧ R (.str (kshow k)) O
theorem ok_showK (T : TxW w K mg) : ∀ n, FO_shown_kind P w base T (n + 1) (spShowK n)
  | 0 => none_left fun ds O R RE ⟨k, _, h, _⟩ => by omega
  | n + 1 => by
    refine fnd_shown_kind T (ok_showK T n) (by walk_at "len") ?_
    rintro ds O R RE ⟨k, rfl, hd, hd2, hm, hl, hR⟩
    unfold g_shown_kind
    have e1 : (Str.ofString "( ").length = 2 := by decide +kernel
    have e2 : (Str.ofString " ").length = 1 := by decide +kernel
    have e3 : (Str.ofString "->").length = 2 := by decide +kernel
    have e3' : (Str.ofString "*").length = 1 := by decide +kernel
    have e4 : (Str.ofString " )").length = 2 := by decide +kernel
    refine gSeq_step ?_
    walk_at "kf1"
    rw [show D.tup [.str (Str.ofString "one")] = dK .one from rfl, rEq_K (mks_ok k hm) rfl (by omega)]
    cases k with
    | mk m =>
      simp only [reduceCtorEq, decide_false, Bool.false_xor]
      simp only [dK, kshow] at hR ⊢; walk_at "kf"; walk_at "tg"; walk_at "kf"; exact hR
    | one =>
      simp only [decide_true, Bool.false_xor]
      walk_at "kf"; exact hR
    | to a b =>
      simp only [Kd.depth, Kd.leaves] at hd hl hd2
      have ma : a.mks := fun m h => hm m (by simp [Kd.marks, h])
      have mb : b.mks := fun m h => hm m (by simp [Kd.marks, h])
      have la := kshow_len a ma
      have lb := kshow_len b mb
      simp only [reduceCtorEq, decide_false, Bool.false_xor]
      simp only [dK, kshow] at hR ⊢
      walk_at "kf"
      walk_at "tg"
      walk_at "kf"
      walk_at "tg"
      walk_at "kf"
      refine ⟨a, rfl, by omega, by omega, ma, by omega, ?_⟩
      walk_at "kf"
      refine ⟨sz_21 (by omega), sz_21 (by simp only [len_app]; omega), sz_21 (by simp only [len_app]; omega), sz_21 (by simp only [len_app]; omega), ?_⟩
      refine ⟨b, rfl, by omega, by omega, mb, by omega, ?_⟩
      walk_at "kf"
      refine ⟨sz_21 (by simp only [len_app]; omega), sz_21 (by simp only [len_app]; omega), ?_⟩
      exact hR
    | both a b =>
      simp only [Kd.depth, Kd.leaves] at hd hl hd2
      have ma : a.mks := fun m h => hm m (by simp [Kd.marks, h])
      have mb : b.mks := fun m h => hm m (by simp [Kd.marks, h])
      have la := kshow_len a ma
      have lb := kshow_len b mb
      simp only [reduceCtorEq, decide_false, Bool.false_xor]
      simp only [dK, kshow] at hR ⊢
      walk_at "kf"
      walk_at "tg"
      walk_at "kf"
      walk_at "tg"
      walk_at "kf"
      refine ⟨a, rfl, by omega, by omega, ma, by omega, ?_⟩
      walk_at "kf"
      refine ⟨sz_21 (by omega), sz_21 (by simp only [len_app]; omega), sz_21 (by simp only [len_app]; omega), sz_21 (by simp only [len_app]; omega), ?_⟩
      refine ⟨b, rfl, by omega, by omega, mb, by omega, ?_⟩
      walk_at "kf"
      refine ⟨sz_21 (by simp only [len_app]; omega), sz_21 (by simp only [len_app]; omega), ?_⟩
      exact hR
theorem rk_inv {t : Str} {k : Kd} (h : rk t = some k) : kshow k = t ∧ k.mks ∧ k.depth ≤ 12 ∧ k.leaves ≤ 24 := by
  cases e : kpw (Txt.split t bl1) with
  | none => rw [rk_none e] at h; cases h
  | some p =>
    obtain ⟨k', r⟩ := p
    cases r with
    | cons c r => rw [rk_cons e] at h; cases h
    | nil =>
      rw [rk_nil e] at h
      split at h
      · rename_i c
        cases h
        obtain ⟨h1, h2⟩ := kpw_words e
        rw [List.append_nil] at h1
        exact ⟨by rw [kshow_eq, ← h1]; exact StrLaws.join_split t bl1, h2, c.2, c.1⟩
      · cases h
theorem kwords_ok : ∀ k : Kd, k.mks → ∀ w ∈ kwords k, PyData.strOk w = true ∧ w.length ≤ 6 ∧ 32 ∉ w.cps.toList
  | .mk m, h, w, hw => by
    simp only [kwords, List.mem_singleton] at hw
    subst hw
    have := h w (by simp [Kd.marks])
    exact ⟨mark_so this, mark_len this, mark_sp this⟩
  | .one, h, w, hw => by
    simp only [kwords, List.mem_singleton] at hw
    subst hw
    decide +kernel
  | .to a b, h, w, hw => by
    simp only [kwords, List.mem_append, List.mem_singleton] at hw
    rcases hw with (((rfl | hw) | rfl) | hw) | rfl
    · decide +kernel
    · exact kwords_ok a (fun m hm => h m (by simp [Kd.marks, hm])) w hw
    · decide +kernel
    · exact kwords_ok b (fun m hm => h m (by simp [Kd.marks, hm])) w hw
    · decide +kernel
  | .both a b, h, w, hw => by
    simp only [kwords, List.mem_append, List.mem_singleton] at hw
    rcases hw with (((rfl | hw) | rfl) | hw) | rfl
    · decide +kernel
    · exact kwords_ok a (fun m hm => h m (by simp [Kd.marks, hm])) w hw
    · decide +kernel
    · exact kwords_ok b (fun m hm => h m (by simp [Kd.marks, hm])) w hw
    · decide +kernel
theorem kw5 {k : Kd} (h : k.mks) : ∀ w ∈ kwords k, wOk5 w := fun w hw => by
  obtain ⟨h1, h2, h3⟩ := kwords_ok k h w hw
  exact ⟨h1, by omega, h3⟩
theorem kshow_ok5 {k : Kd} (h : k.mks) : PyData.strOk (kshow k) = true := by
  rw [kshow_eq]; exact okJoin (by decide +kernel) fun w hw => (kw5 h w hw).1
theorem bent_k {k : Kd} (h : k.mks) (hl : k.leaves ≤ 27) : BentOk (kshow k) := by
  have h1 := kshow_len k h
  have h2 := kwords_len k
  have h3 : 0 < (kwords k).length := List.length_pos_iff.mpr (kwords_ne k)
  refine ⟨by omega, kshow_ok5 h, ?_, by rw [split_kshow h]; exact kw5 h, by rw [split_kshow h]; omega, by rw [split_kshow h]; omega⟩
  rw [kshow_eq, bls_join fun w hw => (kw5 h w hw).2.2]; omega
theorem tx_k {k : Kd} (h : k.mks) (hl : k.leaves ≤ 27) : txOk5 (kshow k) := by
  rw [kshow_eq]
  have h2 := kwords_len k
  exact tx5_join (by omega) (kw5 h)
theorem so_told : PyData.strOk (Str.ofString "told") = true := by decide +kernel
theorem rEq_told5 {k : Kd} (hk : k.ok = true) (hd : k.depth ≤ 100) {neg : Bool} {O : Ow} {Q : VD} : rEqD neg (.tup [.str (Str.ofString "told"), dK k]) (.tup [.str (Str.ofString "told"), dK k]) O Q = Q (.bl !neg) O := by
  have h1 : isPy (.tup [.str (Str.ofString "told"), dK k]) = true := by simp [isPy, isPys, isPy_dK, hk, so_told]
  rw [rEq_d (by rw [deref_tup]; exact h1) (by rw [deref_tup]; exact h1) (by rw [deref_tup, dpT, dpC, dpC, dpN, dp_dK, dpS]; omega), deref_tup, deq_t, deqs_cc, deqs_cc, deqs_nn, deq_s, deq_K]
  cases neg <;> simp
theorem rEq_non5 {neg : Bool} {O : Ow} {Q : VD} : rEqD neg .non .non O Q = Q (.bl !neg) O := by
  rw [rEq_d (by simp [deref, isPy]) (by simp [deref, isPy]) (by simp [deref, dpO]), deref_non, deq_nn]
  cases neg <;> rfl
def M7 : List Str := ["a", "x", "one", "to", "both", "mark", "dddddd"]
theorem dK_non (k : Kd) : isNon (dK k) = false := by cases k <;> rfl
theorem ok_law (T : TxW w K mg) : FO_law P w base T 210 (lawSp 63) := by
  refine fndG_law T (ok_pool T.n__law_pool T.m_len) (ok_take T.n__law_take) (fnUp (ok_lkind T 30) (by decide)) (fnUp (ok_ltext T 30) (by decide)) (fnUp (ok_due5 T) (by decide)) (fnUp (ok_showK T 30) (by decide)) (ok_bent5 T) (fnUp (ok_read5 T) (by decide)) (fnUp (ok_read T) (by decide)) (by walk_at "len") ?_
  rintro ds O R RE ⟨ns, rfl, hl, hR⟩
  unfold g_law
  walk_at "kf"
  obtain ⟨b1, b2, b3⟩ := rngBound ns.length 20 (by decide) (by decide)
  refine ⟨b1, b2, forD_inv (fun ρ O => ∃ x1 x2 x3 x4 x5 x6, ρ = [some (.scr ns), x1, x2, x3, x4, x5, x6]) _ _ _ ⟨_, _, _, _, _, _, rfl⟩ (fun ρ O _ => ?_) ?_⟩
  · exact ⟨_, Sub.refl _, hR _⟩
  rintro d hd ρ O' ⟨x1, x2, x3, x4, x5, x6, rfl⟩ Nx hN
  obtain ⟨i, hi, rfl⟩ := mem_rangeD hd
  walk_at "kf1"
  refine gSeq_step ?_
  walk_at "kf1"
  refine ⟨ns, _, rfl, by omega, by omega, fun p hp => ?_⟩
  refine gSeq_step ?_
  walk_at "kf1"
  refine take_of updO_same (by decide) (by decide) fun r1 h10 h11 => ?_
  walk_at "kf1"
  refine take_of updO_same (by decide) (by decide) fun r2 h20 h21 => ?_
  walk_at "kf1"
  refine ⟨sz_small (by decide), ?_⟩
  refine take_of updO_same (by decide) (by decide) fun r3 h30 h31 => ?_
  walk_at "kf1"
  refine rIx_any (by split <;> omega) (by simp only [List.length_cons, List.length_nil]; split <;> omega) fun v hv => ?_
  obtain ⟨l, rfl, hl1, hl2⟩ : ∃ l : Nat, v = .int (l : Int) ∧ 1 ≤ l ∧ l ≤ 27 := by
    simp only [List.mem_cons, List.not_mem_nil, or_false] at hv
    rcases hv with rfl | rfl
    · exact ⟨(1 + r1).toNat, by rw [show (((1 + r1).toNat : Nat) : Int) = 1 + r1 by omega], by omega, by omega⟩
    · exact ⟨(22 + r2).toNat, by rw [show (((22 + r2).toNat : Nat) : Int) = 22 + r2 by omega], by omega, by omega⟩
  refine gSeq_step ?_
  walk_at "kf1"
  refine ⟨sz_small (by decide), ?_⟩
  refine ⟨p, l, M7, rfl, updO_same, by omega, by omega, by omega, by decide, by decide, fun k hk ho => ?_⟩
  have hkm : k.mks := over_mks (by decide +kernel) k ho
  have hkd := k.depth_lt
  refine gSeq_step ?_
  walk_at "kf1"
  refine ⟨k, rfl, by omega, hkm, by omega, ?_⟩
  have htx := tx_k hkm (by omega)
  have hp1 : updO O' p .pool p = some .pool := updO_same
  generalize updO O' p .pool = O1 at hp1 ⊢
  refine gSeq_step ?_
  refine gIf_rest (fun ρ O2 => ρ = [some (.scr ns), some (.int (0 + (i : Nat))), some (.ref p), some (.int l), some (dK k), some (.str (kshow k)), x6] ∧ O2 = O1) ?_ ?_
  rotate_left
  · intro hI
    walk_at "kf1"
    refine ⟨kshow k, rfl, htx, ?_⟩
    dsimp only
    cases e : rk (kshow k) with
    | none =>
      split
      · rename_i h; exact absurd h (by simp [dOpt, isNon])
      · exact hI _ _ ⟨rfl, rfl⟩
    | some k' =>
      split
      rotate_left
      · rename_i h; exact absurd (dK_non k') h
      refine ⟨k, rfl, by omega, by omega, hkm, by omega, ?_⟩
      dsimp only
      rw [rEq_s (kshow_ok5 hkm) (kshow_ok5 hkm)]
      simp only [decide_true, Bool.xor_self]
      walk_at "kf1"
      exact hI _ _ ⟨rfl, rfl⟩
  rintro _ O1 ⟨rfl, rfl⟩
  refine gSeq_step ?_
  refine gIf_rest (fun ρ O2 => ∃ t, ρ = [some (.scr ns), some (.int (0 + (i : Nat))), some (.ref p), some (.int l), some (dK k), some (.str t), x6] ∧ O2 = O1 ∧ txOk5 t) ?_ ?_
  rotate_left
  · intro hI
    walk_at "kf1"
    refine take_of hp1 (by decide) (by decide) fun r4 h40 h41 => ?_
    walk_at "kf1"
    split
    · refine ⟨p, kshow k, rfl, hp1, bent_k hkm (by omega), fun t ht => ?_⟩
      walk_at "kf1"
      exact hI _ _ ⟨t, rfl, rfl, ht⟩
    · exact hI _ _ ⟨_, rfl, rfl, htx⟩
  rintro _ O1 ⟨t, rfl, rfl, ht⟩
  obtain ⟨t1, t2, t3⟩ := id ht
  refine gSeq_step ?_
  walk_at "kf1"
  refine ⟨t, rfl, ht, ?_⟩
  refine gSeq_step ?_
  walk_at "kf1"
  refine ⟨t, rfl, ht, fun O2 s2 => ?_⟩
  cases e : rk t with
  | none =>
    simp only [dOpt, dTold5]
    walk_at "kf1"
    refine ⟨sz_small (by decide), sz_small (by decide), ?_⟩
    rw [rEq_non5]
    walk_at "kf1"
    exact hN _ _ ⟨_, _, _, _, _, _, rfl⟩
  | some k' =>
    obtain ⟨g1, g2, g3, g4⟩ := rk_inv e
    simp only [dOpt, dTold5]
    walk_at "kf1"
    refine ⟨sz_small (by decide), sz_small (by decide), ?_⟩
    simp only [dK_non, eq_self, if_true]
    rw [rIx_l1, rEq_told5 (mks_ok k' g2) (by omega)]
    walk_at "kf1"
    refine ⟨t, rfl, by omega, t2, fun k2 e2 m2 d2 l2 => ?_, fun h => by rw [e] at h; cases h⟩
    rw [e] at e2
    cases e2
    refine ⟨k', rfl, by omega, by omega, m2, by omega, ?_⟩
    try dsimp only
    rw [g1, rEq_s (by rw [← g1]; exact kshow_ok5 g2) (by rw [← g1]; exact kshow_ok5 g2)]
    simp only [decide_true, Bool.xor_self]
    walk_at "kf1"
    exact hN _ _ ⟨_, _, _, _, _, _, rfl⟩
end
theorem fn_mk {K : PySem.W.Frag} {h : Heap} {mg : Str → Option Value} {x : Str} {st : Stmt} {ps : List Str} {f : Addr} {oc : Value} {od an : Option Addr} {osl : Array (Option Value)} {kV doc pm cdv ct : Value} (X : K.In h) (G : h.Ns mainGlobals mg)
    (a : PySem.W.nsIn K mainGlobals x = some (some (.ref f))) (l : K.lookup f = some ⟨oc, od, .func (PySem.W.fnOf x x (defArgs st) (defBody st) (defScope st) .none kV doc pm an cdv ct), osl⟩) (c : PySem.W.codeIn K cdv x = true) (k : PySem.W.keepIn K (.ref f) = true)
    (b : ∀ (kV doc pm : Value) (an : Option Addr) (cdv ct : Value) (us : List Value), us.length = ps.length → bindArgs (PySem.W.fnOf x x (defArgs st) (defBody st) (defScope st) .none kV doc pm an cdv ct) ⟨us, []⟩ = pure (ps.zip us)) :
    Fn K mg x st ps f (PySem.W.fnOf x x (defArgs st) (defBody st) (defScope st) .none kV doc pm an cdv ct) := ⟨fun_mk l c k, PySem.W.mg_of X G a, (fun_mk l c k).binds b⟩
set_option maxHeartbeats 0 in
theorem all_mk {l : PySem.W.OpenLaw} {w : World} {K : PySem.W.Frag} {h : Heap} {mg : Str → Option Value} {fa : Addr} (X : K.In h) (G : h.Ns mainGlobals mg) (hfa : mg "law" = some (.ref fa))
    {f_is_mark : Addr} {oc_is_mark kV_is_mark dc_is_mark pm_is_mark cd_is_mark ct_is_mark : Value} {od_is_mark an_is_mark : Option Addr} {sl_is_mark : Array (Option Value)}
    (a_is_mark : PySem.W.nsIn K mainGlobals "is_mark" = some (some (.ref f_is_mark)))
    (l_is_mark : K.lookup f_is_mark = some ⟨oc_is_mark, od_is_mark, .func (PySem.W.fnOf "is_mark" "is_mark" (defArgs s_is_mark) (defBody s_is_mark) (defScope s_is_mark) .none kV_is_mark dc_is_mark pm_is_mark an_is_mark cd_is_mark ct_is_mark), sl_is_mark⟩)
    (c_is_mark : PySem.W.codeIn K cd_is_mark "is_mark" = true) (k_is_mark : PySem.W.keepIn K (.ref f_is_mark) = true)
    {f_has_form : Addr} {oc_has_form kV_has_form dc_has_form pm_has_form cd_has_form ct_has_form : Value} {od_has_form an_has_form : Option Addr} {sl_has_form : Array (Option Value)}
    (a_has_form : PySem.W.nsIn K mainGlobals "has_form" = some (some (.ref f_has_form)))
    (l_has_form : K.lookup f_has_form = some ⟨oc_has_form, od_has_form, .func (PySem.W.fnOf "has_form" "has_form" (defArgs s_has_form) (defBody s_has_form) (defScope s_has_form) .none kV_has_form dc_has_form pm_has_form an_has_form cd_has_form ct_has_form), sl_has_form⟩)
    (c_has_form : PySem.W.codeIn K cd_has_form "has_form" = true) (k_has_form : PySem.W.keepIn K (.ref f_has_form) = true)
    {f_is_kind : Addr} {oc_is_kind kV_is_kind dc_is_kind pm_is_kind cd_is_kind ct_is_kind : Value} {od_is_kind an_is_kind : Option Addr} {sl_is_kind : Array (Option Value)}
    (a_is_kind : PySem.W.nsIn K mainGlobals "is_kind" = some (some (.ref f_is_kind)))
    (l_is_kind : K.lookup f_is_kind = some ⟨oc_is_kind, od_is_kind, .func (PySem.W.fnOf "is_kind" "is_kind" (defArgs s_is_kind) (defBody s_is_kind) (defScope s_is_kind) .none kV_is_kind dc_is_kind pm_is_kind an_is_kind cd_is_kind ct_is_kind), sl_is_kind⟩)
    (c_is_kind : PySem.W.codeIn K cd_is_kind "is_kind" = true) (k_is_kind : PySem.W.keepIn K (.ref f_is_kind) = true)
    {f_leaves_of : Addr} {oc_leaves_of kV_leaves_of dc_leaves_of pm_leaves_of cd_leaves_of ct_leaves_of : Value} {od_leaves_of an_leaves_of : Option Addr} {sl_leaves_of : Array (Option Value)}
    (a_leaves_of : PySem.W.nsIn K mainGlobals "leaves_of" = some (some (.ref f_leaves_of)))
    (l_leaves_of : K.lookup f_leaves_of = some ⟨oc_leaves_of, od_leaves_of, .func (PySem.W.fnOf "leaves_of" "leaves_of" (defArgs s_leaves_of) (defBody s_leaves_of) (defScope s_leaves_of) .none kV_leaves_of dc_leaves_of pm_leaves_of an_leaves_of cd_leaves_of ct_leaves_of), sl_leaves_of⟩)
    (c_leaves_of : PySem.W.codeIn K cd_leaves_of "leaves_of" = true) (k_leaves_of : PySem.W.keepIn K (.ref f_leaves_of) = true)
    {f_shown_kind : Addr} {oc_shown_kind kV_shown_kind dc_shown_kind pm_shown_kind cd_shown_kind ct_shown_kind : Value} {od_shown_kind an_shown_kind : Option Addr} {sl_shown_kind : Array (Option Value)}
    (a_shown_kind : PySem.W.nsIn K mainGlobals "shown_kind" = some (some (.ref f_shown_kind)))
    (l_shown_kind : K.lookup f_shown_kind = some ⟨oc_shown_kind, od_shown_kind, .func (PySem.W.fnOf "shown_kind" "shown_kind" (defArgs s_shown_kind) (defBody s_shown_kind) (defScope s_shown_kind) .none kV_shown_kind dc_shown_kind pm_shown_kind an_shown_kind cd_shown_kind ct_shown_kind), sl_shown_kind⟩)
    (c_shown_kind : PySem.W.codeIn K cd_shown_kind "shown_kind" = true) (k_shown_kind : PySem.W.keepIn K (.ref f_shown_kind) = true)
    {f_word_at : Addr} {oc_word_at kV_word_at dc_word_at pm_word_at cd_word_at ct_word_at : Value} {od_word_at an_word_at : Option Addr} {sl_word_at : Array (Option Value)}
    (a_word_at : PySem.W.nsIn K mainGlobals "word_at" = some (some (.ref f_word_at)))
    (l_word_at : K.lookup f_word_at = some ⟨oc_word_at, od_word_at, .func (PySem.W.fnOf "word_at" "word_at" (defArgs s_word_at) (defBody s_word_at) (defScope s_word_at) .none kV_word_at dc_word_at pm_word_at an_word_at cd_word_at ct_word_at), sl_word_at⟩)
    (c_word_at : PySem.W.codeIn K cd_word_at "word_at" = true) (k_word_at : PySem.W.keepIn K (.ref f_word_at) = true)
    {f_kind_from : Addr} {oc_kind_from kV_kind_from dc_kind_from pm_kind_from cd_kind_from ct_kind_from : Value} {od_kind_from an_kind_from : Option Addr} {sl_kind_from : Array (Option Value)}
    (a_kind_from : PySem.W.nsIn K mainGlobals "kind_from" = some (some (.ref f_kind_from)))
    (l_kind_from : K.lookup f_kind_from = some ⟨oc_kind_from, od_kind_from, .func (PySem.W.fnOf "kind_from" "kind_from" (defArgs s_kind_from) (defBody s_kind_from) (defScope s_kind_from) .none kV_kind_from dc_kind_from pm_kind_from an_kind_from cd_kind_from ct_kind_from), sl_kind_from⟩)
    (c_kind_from : PySem.W.codeIn K cd_kind_from "kind_from" = true) (k_kind_from : PySem.W.keepIn K (.ref f_kind_from) = true)
    {f_read_kind : Addr} {oc_read_kind kV_read_kind dc_read_kind pm_read_kind cd_read_kind ct_read_kind : Value} {od_read_kind an_read_kind : Option Addr} {sl_read_kind : Array (Option Value)}
    (a_read_kind : PySem.W.nsIn K mainGlobals "read_kind" = some (some (.ref f_read_kind)))
    (l_read_kind : K.lookup f_read_kind = some ⟨oc_read_kind, od_read_kind, .func (PySem.W.fnOf "read_kind" "read_kind" (defArgs s_read_kind) (defBody s_read_kind) (defScope s_read_kind) .none kV_read_kind dc_read_kind pm_read_kind an_read_kind cd_read_kind ct_read_kind), sl_read_kind⟩)
    (c_read_kind : PySem.W.codeIn K cd_read_kind "read_kind" = true) (k_read_kind : PySem.W.keepIn K (.ref f_read_kind) = true)
    {f__law_pool : Addr} {oc__law_pool kV__law_pool dc__law_pool pm__law_pool cd__law_pool ct__law_pool : Value} {od__law_pool an__law_pool : Option Addr} {sl__law_pool : Array (Option Value)}
    (a__law_pool : PySem.W.nsIn K mainGlobals "_law_pool" = some (some (.ref f__law_pool)))
    (l__law_pool : K.lookup f__law_pool = some ⟨oc__law_pool, od__law_pool, .func (PySem.W.fnOf "_law_pool" "_law_pool" (defArgs s__law_pool) (defBody s__law_pool) (defScope s__law_pool) .none kV__law_pool dc__law_pool pm__law_pool an__law_pool cd__law_pool ct__law_pool), sl__law_pool⟩)
    (c__law_pool : PySem.W.codeIn K cd__law_pool "_law_pool" = true) (k__law_pool : PySem.W.keepIn K (.ref f__law_pool) = true)
    {f__law_take : Addr} {oc__law_take kV__law_take dc__law_take pm__law_take cd__law_take ct__law_take : Value} {od__law_take an__law_take : Option Addr} {sl__law_take : Array (Option Value)}
    (a__law_take : PySem.W.nsIn K mainGlobals "_law_take" = some (some (.ref f__law_take)))
    (l__law_take : K.lookup f__law_take = some ⟨oc__law_take, od__law_take, .func (PySem.W.fnOf "_law_take" "_law_take" (defArgs s__law_take) (defBody s__law_take) (defScope s__law_take) .none kV__law_take dc__law_take pm__law_take an__law_take cd__law_take ct__law_take), sl__law_take⟩)
    (c__law_take : PySem.W.codeIn K cd__law_take "_law_take" = true) (k__law_take : PySem.W.keepIn K (.ref f__law_take) = true)
    {f__law_kind : Addr} {oc__law_kind kV__law_kind dc__law_kind pm__law_kind cd__law_kind ct__law_kind : Value} {od__law_kind an__law_kind : Option Addr} {sl__law_kind : Array (Option Value)}
    (a__law_kind : PySem.W.nsIn K mainGlobals "_law_kind" = some (some (.ref f__law_kind)))
    (l__law_kind : K.lookup f__law_kind = some ⟨oc__law_kind, od__law_kind, .func (PySem.W.fnOf "_law_kind" "_law_kind" (defArgs s__law_kind) (defBody s__law_kind) (defScope s__law_kind) .none kV__law_kind dc__law_kind pm__law_kind an__law_kind cd__law_kind ct__law_kind), sl__law_kind⟩)
    (c__law_kind : PySem.W.codeIn K cd__law_kind "_law_kind" = true) (k__law_kind : PySem.W.keepIn K (.ref f__law_kind) = true)
    {f__law_text : Addr} {oc__law_text kV__law_text dc__law_text pm__law_text cd__law_text ct__law_text : Value} {od__law_text an__law_text : Option Addr} {sl__law_text : Array (Option Value)}
    (a__law_text : PySem.W.nsIn K mainGlobals "_law_text" = some (some (.ref f__law_text)))
    (l__law_text : K.lookup f__law_text = some ⟨oc__law_text, od__law_text, .func (PySem.W.fnOf "_law_text" "_law_text" (defArgs s__law_text) (defBody s__law_text) (defScope s__law_text) .none kV__law_text dc__law_text pm__law_text an__law_text cd__law_text ct__law_text), sl__law_text⟩)
    (c__law_text : PySem.W.codeIn K cd__law_text "_law_text" = true) (k__law_text : PySem.W.keepIn K (.ref f__law_text) = true)
    {f__law_bent : Addr} {oc__law_bent kV__law_bent dc__law_bent pm__law_bent cd__law_bent ct__law_bent : Value} {od__law_bent an__law_bent : Option Addr} {sl__law_bent : Array (Option Value)}
    (a__law_bent : PySem.W.nsIn K mainGlobals "_law_bent" = some (some (.ref f__law_bent)))
    (l__law_bent : K.lookup f__law_bent = some ⟨oc__law_bent, od__law_bent, .func (PySem.W.fnOf "_law_bent" "_law_bent" (defArgs s__law_bent) (defBody s__law_bent) (defScope s__law_bent) .none kV__law_bent dc__law_bent pm__law_bent an__law_bent cd__law_bent ct__law_bent), sl__law_bent⟩)
    (c__law_bent : PySem.W.codeIn K cd__law_bent "_law_bent" = true) (k__law_bent : PySem.W.keepIn K (.ref f__law_bent) = true)
    {f__law_from : Addr} {oc__law_from kV__law_from dc__law_from pm__law_from cd__law_from ct__law_from : Value} {od__law_from an__law_from : Option Addr} {sl__law_from : Array (Option Value)}
    (a__law_from : PySem.W.nsIn K mainGlobals "_law_from" = some (some (.ref f__law_from)))
    (l__law_from : K.lookup f__law_from = some ⟨oc__law_from, od__law_from, .func (PySem.W.fnOf "_law_from" "_law_from" (defArgs s__law_from) (defBody s__law_from) (defScope s__law_from) .none kV__law_from dc__law_from pm__law_from an__law_from cd__law_from ct__law_from), sl__law_from⟩)
    (c__law_from : PySem.W.codeIn K cd__law_from "_law_from" = true) (k__law_from : PySem.W.keepIn K (.ref f__law_from) = true)
    {f__law_due : Addr} {oc__law_due kV__law_due dc__law_due pm__law_due cd__law_due ct__law_due : Value} {od__law_due an__law_due : Option Addr} {sl__law_due : Array (Option Value)}
    (a__law_due : PySem.W.nsIn K mainGlobals "_law_due" = some (some (.ref f__law_due)))
    (l__law_due : K.lookup f__law_due = some ⟨oc__law_due, od__law_due, .func (PySem.W.fnOf "_law_due" "_law_due" (defArgs s__law_due) (defBody s__law_due) (defScope s__law_due) .none kV__law_due dc__law_due pm__law_due an__law_due cd__law_due ct__law_due), sl__law_due⟩)
    (c__law_due : PySem.W.codeIn K cd__law_due "_law_due" = true) (k__law_due : PySem.W.keepIn K (.ref f__law_due) = true)
    {f__law_read : Addr} {oc__law_read kV__law_read dc__law_read pm__law_read cd__law_read ct__law_read : Value} {od__law_read an__law_read : Option Addr} {sl__law_read : Array (Option Value)}
    (a__law_read : PySem.W.nsIn K mainGlobals "_law_read" = some (some (.ref f__law_read)))
    (l__law_read : K.lookup f__law_read = some ⟨oc__law_read, od__law_read, .func (PySem.W.fnOf "_law_read" "_law_read" (defArgs s__law_read) (defBody s__law_read) (defScope s__law_read) .none kV__law_read dc__law_read pm__law_read an__law_read cd__law_read ct__law_read), sl__law_read⟩)
    (c__law_read : PySem.W.codeIn K cd__law_read "_law_read" = true) (k__law_read : PySem.W.keepIn K (.ref f__law_read) = true)
    {f_law : Addr} {oc_law kV_law dc_law pm_law cd_law ct_law : Value} {od_law an_law : Option Addr} {sl_law : Array (Option Value)}
    (a_law : PySem.W.nsIn K mainGlobals "law" = some (some (.ref f_law)))
    (l_law : K.lookup f_law = some ⟨oc_law, od_law, .func (PySem.W.fnOf "law" "law" (defArgs s_law) (defBody s_law) (defScope s_law) .none kV_law dc_law pm_law an_law cd_law ct_law), sl_law⟩)
    (c_law : PySem.W.codeIn K cd_law "law" = true) (k_law : PySem.W.keepIn K (.ref f_law) = true)
    (z_len : PySem.W.nsIn K mainGlobals "len" = some none)
    (z_tuple : PySem.W.nsIn K mainGlobals "tuple" = some none)
    (z_isinstance : PySem.W.nsIn K mainGlobals "isinstance" = some none)
    (z_str : PySem.W.nsIn K mainGlobals "str" = some none)
    (z_int : PySem.W.nsIn K mainGlobals "int" = some none)
    (z_max : PySem.W.nsIn K mainGlobals "max" = some none)
    (z_ValueError : PySem.W.nsIn K mainGlobals "ValueError" = some none)
    (z_range : PySem.W.nsIn K mainGlobals "range" = some none)
    (z_min : PySem.W.nsIn K mainGlobals "min" = some none)
    {t_LETTERS : Tok} (e_LETTERS : PySem.W.nsIn K mainGlobals "LETTERS" = some (some (.str "abcdefghijklmnopqrstuvwxyz" t_LETTERS)))
    {t_LONGEST : Tok} (e_LONGEST : PySem.W.nsIn K mainGlobals "LONGEST" = some (some (.int 6 t_LONGEST)))
    {p_ONE : Addr} {dd_ONE : Option Addr} {n_ONE : Nat} {sl_ONE : Array (Option Value)} {t_ONE : Tok} (e_ONE : PySem.W.nsIn K mainGlobals "ONE" = some (some (.ref p_ONE))) (q_ONE : K.lookup p_ONE = some ⟨.type "tuple", dd_ONE, .seq #[.str "one" t_ONE] n_ONE, sl_ONE⟩)
    {t_MOST_DEPTH : Tok} (e_MOST_DEPTH : PySem.W.nsIn K mainGlobals "MOST_DEPTH" = some (some (.int 12 t_MOST_DEPTH)))
    {t_MOST_LEAVES : Tok} (e_MOST_LEAVES : PySem.W.nsIn K mainGlobals "MOST_LEAVES" = some (some (.int 24 t_MOST_LEAVES)))
    {t_DEEPEST : Tok} (e_DEEPEST : PySem.W.nsIn K mainGlobals "DEEPEST" = some (some (.int 12 t_DEEPEST)))
    {p_SIGNS : Addr} {n_SIGNS : Nat} {h0_SIGNS : Int} {t0_SIGNS u0_SIGNS : Tok} {h1_SIGNS : Int} {t1_SIGNS u1_SIGNS : Tok} (e_SIGNS : PySem.W.nsIn K mainGlobals "SIGNS" = some (some (.ref p_SIGNS))) (q_SIGNS : K.lookup p_SIGNS = some ⟨.type "dict", none, .dict #[⟨h0_SIGNS, .str "->" t0_SIGNS, .str "to" u0_SIGNS⟩, ⟨h1_SIGNS, .str "*" t1_SIGNS, .str "both" u1_SIGNS⟩] n_SIGNS, #[]⟩) (low_SIGNS : (p_SIGNS == sysModules) = false)
    (hh0_SIGNS : h0_SIGNS = PyData.keyHash w.params "->")
    (hh1_SIGNS : h1_SIGNS = PyData.keyHash w.params "*")
    {C_KindError : Addr} (ka_KindError : PySem.W.nsIn K mainGlobals "KindError" = some (some (.ref C_KindError))) (kb_KindError : PySem.W.subIn K (.ref C_KindError) (.type "BaseException") = some true) (kt_KindError : PySem.W.typeIn K (.ref C_KindError) = some (.type "type"))
    {C_NoKind : Addr} (ka_NoKind : PySem.W.nsIn K mainGlobals "NoKind" = some (some (.ref C_NoKind))) (kb_NoKind : PySem.W.subIn K (.ref C_NoKind) (.type "BaseException") = some true) (kt_NoKind : PySem.W.typeIn K (.ref C_NoKind) = some (.type "type"))
    {C_NoText : Addr} (ka_NoText : PySem.W.nsIn K mainGlobals "NoText" = some (some (.ref C_NoText))) (kb_NoText : PySem.W.subIn K (.ref C_NoText) (.type "BaseException") = some true) (kt_NoText : PySem.W.typeIn K (.ref C_NoText) = some (.type "type"))
    {C_NoFit : Addr} (ka_NoFit : PySem.W.nsIn K mainGlobals "NoFit" = some (some (.ref C_NoFit))) (kb_NoFit : PySem.W.subIn K (.ref C_NoFit) (.type "BaseException") = some true) (kt_NoFit : PySem.W.typeIn K (.ref C_NoFit) = some (.type "type"))
    {C_NoName : Addr} (ka_NoName : PySem.W.nsIn K mainGlobals "NoName" = some (some (.ref C_NoName))) (kb_NoName : PySem.W.subIn K (.ref C_NoName) (.type "BaseException") = some true) (kt_NoName : PySem.W.typeIn K (.ref C_NoName) = some (.type "type"))
    {C_NoNumber : Addr} (ka_NoNumber : PySem.W.nsIn K mainGlobals "NoNumber" = some (some (.ref C_NoNumber))) (kb_NoNumber : PySem.W.subIn K (.ref C_NoNumber) (.type "BaseException") = some true) (kt_NoNumber : PySem.W.typeIn K (.ref C_NoNumber) = some (.type "type"))
    {C_NoRow : Addr} (ka_NoRow : PySem.W.nsIn K mainGlobals "NoRow" = some (some (.ref C_NoRow))) (kb_NoRow : PySem.W.subIn K (.ref C_NoRow) (.type "BaseException") = some true) (kt_NoRow : PySem.W.typeIn K (.ref C_NoRow) = some (.type "type"))
    {C_TooLong : Addr} (ka_TooLong : PySem.W.nsIn K mainGlobals "TooLong" = some (some (.ref C_TooLong))) (kb_TooLong : PySem.W.subIn K (.ref C_TooLong) (.type "BaseException") = some true) (kt_TooLong : PySem.W.typeIn K (.ref C_TooLong) = some (.type "type"))
    {C_TooMany : Addr} (ka_TooMany : PySem.W.nsIn K mainGlobals "TooMany" = some (some (.ref C_TooMany))) (kb_TooMany : PySem.W.subIn K (.ref C_TooMany) (.type "BaseException") = some true) (kt_TooMany : PySem.W.typeIn K (.ref C_TooMany) = some (.type "type"))
    (kd_KindError : PySem.W.hasDictIn K C_KindError = true) (kf_KindError : PySem.W.subIn K (.ref C_KindError) (.ref C_KindError) = some true)
    (kd_NoKind : PySem.W.hasDictIn K C_NoKind = true) (kf_NoKind : PySem.W.subIn K (.ref C_NoKind) (.ref C_NoKind) = some true)
    (kd_NoText : PySem.W.hasDictIn K C_NoText = true) (kf_NoText : PySem.W.subIn K (.ref C_NoText) (.ref C_NoText) = some true)
    (kd_NoFit : PySem.W.hasDictIn K C_NoFit = true) (kf_NoFit : PySem.W.subIn K (.ref C_NoFit) (.ref C_NoFit) = some true)
    (kd_NoName : PySem.W.hasDictIn K C_NoName = true) (kf_NoName : PySem.W.subIn K (.ref C_NoName) (.ref C_NoName) = some true)
    (kd_NoNumber : PySem.W.hasDictIn K C_NoNumber = true) (kf_NoNumber : PySem.W.subIn K (.ref C_NoNumber) (.ref C_NoNumber) = some true)
    (kd_NoRow : PySem.W.hasDictIn K C_NoRow = true) (kf_NoRow : PySem.W.subIn K (.ref C_NoRow) (.ref C_NoRow) = some true)
    (kd_TooLong : PySem.W.hasDictIn K C_TooLong = true) (kf_TooLong : PySem.W.subIn K (.ref C_TooLong) (.ref C_TooLong) = some true)
    (kd_TooMany : PySem.W.hasDictIn K C_TooMany = true) (kf_TooMany : PySem.W.subIn K (.ref C_TooMany) (.ref C_TooMany) = some true)
    (kk_NoKind : PySem.W.keepIn K (.ref C_NoKind) = true) (kx_NoKind : PySem.W.excIn K C_NoKind [.type "ValueError", .type "Exception", .type "BaseException", .type "object"] "ValueError.__new__" = true)
    (ega_NoKind : PySem.W.findIn K (.ref C_NoKind) "__getattribute__" = some (some (.builtin "BaseException.__getattribute__")))
    (egt_NoKind : PySem.W.findIn K (.ref C_NoKind) "__getattr__" = some none)
    (edc_NoKind : PySem.W.hasDictIn K C_NoKind = true)
    (ecc_NoKind : PySem.W.findIn K (.ref C_NoKind) "__class__" = some (some (.builtin "object.__class__")))
    (emo_NoKind : PySem.W.mroIn K C_NoKind (.type "object") = some true)
    (spc : PySem.W.specialIn K (.builtin "object.__class__") "__get__" = some (some (.builtin "getset_descriptor.__get__"))) (tkc : PySem.W.takesIn K (.builtin "object.__class__") = some true)
    (sb_NoKind_KindError : PySem.W.subIn K (.ref C_NoKind) (.ref C_KindError) = some true)
    (sb_NoKind_ValueError : PySem.W.subIn K (.ref C_NoKind) (.type "ValueError") = some true)
    (sb_NoKind_NoText : PySem.W.subIn K (.ref C_NoKind) (.ref C_NoText) = some false)
    (sb_NoKind_NoFit : PySem.W.subIn K (.ref C_NoKind) (.ref C_NoFit) = some false)
    (sb_NoKind_NoName : PySem.W.subIn K (.ref C_NoKind) (.ref C_NoName) = some false)
    (sb_NoKind_NoNumber : PySem.W.subIn K (.ref C_NoKind) (.ref C_NoNumber) = some false)
    (sb_NoKind_NoRow : PySem.W.subIn K (.ref C_NoKind) (.ref C_NoRow) = some false)
    (sb_NoKind_TooLong : PySem.W.subIn K (.ref C_NoKind) (.ref C_TooLong) = some false)
    (sb_NoKind_TooMany : PySem.W.subIn K (.ref C_NoKind) (.ref C_TooMany) = some false) :
    ∃ fd : FuncData, (∀ (s : Shared) (v : Value), BindsTo s fd ⟨[v], []⟩ [("_law_script", v)]) ∧ ∀ base : Heap, K.In base → base.Ns mainGlobals mg → FnOk l.prog w K mg base CX0 210 fa fd ["_law_script"] (liftSp K (lawSp 63)) := by
  have e := hfa.symm.trans (PySem.W.mg_of X G a_law)
  cases e
  have N_is_mark' := fn_mk (ps := P_is_mark) X G a_is_mark l_is_mark c_is_mark k_is_mark fun _ _ _ _ _ _ us hl => match us, hl with | [_], _ => rfl
  have N_has_form' := fn_mk (ps := P_has_form) X G a_has_form l_has_form c_has_form k_has_form fun _ _ _ _ _ _ us hl => match us, hl with | [_, _], _ => rfl
  have N_is_kind' := fn_mk (ps := P_is_kind) X G a_is_kind l_is_kind c_is_kind k_is_kind fun _ _ _ _ _ _ us hl => match us, hl with | [_], _ => rfl
  have N_leaves_of' := fn_mk (ps := P_leaves_of) X G a_leaves_of l_leaves_of c_leaves_of k_leaves_of fun _ _ _ _ _ _ us hl => match us, hl with | [_], _ => rfl
  have N_shown_kind' := fn_mk (ps := P_shown_kind) X G a_shown_kind l_shown_kind c_shown_kind k_shown_kind fun _ _ _ _ _ _ us hl => match us, hl with | [_], _ => rfl
  have N_word_at' := fn_mk (ps := P_word_at) X G a_word_at l_word_at c_word_at k_word_at fun _ _ _ _ _ _ us hl => match us, hl with | [_, _], _ => rfl
  have N_kind_from' := fn_mk (ps := P_kind_from) X G a_kind_from l_kind_from c_kind_from k_kind_from fun _ _ _ _ _ _ us hl => match us, hl with | [_, _, _], _ => rfl
  have N_read_kind' := fn_mk (ps := P_read_kind) X G a_read_kind l_read_kind c_read_kind k_read_kind fun _ _ _ _ _ _ us hl => match us, hl with | [_], _ => rfl
  have N__law_pool' := fn_mk (ps := P__law_pool) X G a__law_pool l__law_pool c__law_pool k__law_pool fun _ _ _ _ _ _ us hl => match us, hl with | [_, _], _ => rfl
  have N__law_take' := fn_mk (ps := P__law_take) X G a__law_take l__law_take c__law_take k__law_take fun _ _ _ _ _ _ us hl => match us, hl with | [_, _], _ => rfl
  have N__law_kind' := fn_mk (ps := P__law_kind) X G a__law_kind l__law_kind c__law_kind k__law_kind fun _ _ _ _ _ _ us hl => match us, hl with | [_, _, _], _ => rfl
  have N__law_text' := fn_mk (ps := P__law_text) X G a__law_text l__law_text c__law_text k__law_text fun _ _ _ _ _ _ us hl => match us, hl with | [_], _ => rfl
  have N__law_bent' := fn_mk (ps := P__law_bent) X G a__law_bent l__law_bent c__law_bent k__law_bent fun _ _ _ _ _ _ us hl => match us, hl with | [_, _], _ => rfl
  have N__law_from' := fn_mk (ps := P__law_from) X G a__law_from l__law_from c__law_from k__law_from fun _ _ _ _ _ _ us hl => match us, hl with | [_, _], _ => rfl
  have N__law_due' := fn_mk (ps := P__law_due) X G a__law_due l__law_due c__law_due k__law_due fun _ _ _ _ _ _ us hl => match us, hl with | [_], _ => rfl
  have N__law_read' := fn_mk (ps := P__law_read) X G a__law_read l__law_read c__law_read k__law_read fun _ _ _ _ _ _ us hl => match us, hl with | [_], _ => rfl
  have N_law' := fn_mk (ps := P_law) X G a_law l_law c_law k_law fun _ _ _ _ _ _ us hl => match us, hl with | [_], _ => rfl
  have m_len : mg "len" = none := PySem.W.mg_none_of X G z_len
  have m_tuple : mg "tuple" = none := PySem.W.mg_none_of X G z_tuple
  have m_isinstance : mg "isinstance" = none := PySem.W.mg_none_of X G z_isinstance
  have m_str : mg "str" = none := PySem.W.mg_none_of X G z_str
  have m_int : mg "int" = none := PySem.W.mg_none_of X G z_int
  have m_max : mg "max" = none := PySem.W.mg_none_of X G z_max
  have m_ValueError : mg "ValueError" = none := PySem.W.mg_none_of X G z_ValueError
  have m_range : mg "range" = none := PySem.W.mg_none_of X G z_range
  have m_min : mg "min" = none := PySem.W.mg_none_of X G z_min
  have c_LETTERS : Cst K mg "LETTERS" (.str "abcdefghijklmnopqrstuvwxyz") := cst_str (PySem.W.mg_of X G e_LETTERS)
  have c_LONGEST : Cst K mg "LONGEST" (.int 6) := cst_int (PySem.W.mg_of X G e_LONGEST)
  have c_ONE : Cst K mg "ONE" (.tup [.str "one"]) := cst_strs (ys := ["one"]) (PySem.W.mg_of X G e_ONE) q_ONE rfl rfl (.cons ⟨_, rfl⟩ .nil) (by decide)
  have c_MOST_DEPTH : Cst K mg "MOST_DEPTH" (.int 12) := cst_int (PySem.W.mg_of X G e_MOST_DEPTH)
  have c_MOST_LEAVES : Cst K mg "MOST_LEAVES" (.int 24) := cst_int (PySem.W.mg_of X G e_MOST_LEAVES)
  have c_DEEPEST : Cst K mg "DEEPEST" (.int 12) := cst_int (PySem.W.mg_of X G e_DEEPEST)
  have t_SIGNS : CDic K w mg "SIGNS" tab_SIGNS := ⟨p_SIGNS, _, _, PySem.W.mg_of X G e_SIGNS, ⟨q_SIGNS, ⟨⟨_, _, rfl, hh0_SIGNS⟩, ⟨⟨_, _, rfl, hh1_SIGNS⟩, trivial⟩⟩, low_SIGNS⟩, (.cons ⟨⟨_, rfl⟩, _, rfl⟩ (.cons ⟨⟨_, rfl⟩, _, rfl⟩ .nil))⟩
  have k_KindError : Cl K mg "KindError" C_KindError := ⟨PySem.W.mg_of X G ka_KindError, kb_KindError, kd_KindError, kt_KindError, kf_KindError⟩
  have k_NoKind : Cl K mg "NoKind" C_NoKind := ⟨PySem.W.mg_of X G ka_NoKind, kb_NoKind, kd_NoKind, kt_NoKind, kf_NoKind⟩
  have k_NoText : Cl K mg "NoText" C_NoText := ⟨PySem.W.mg_of X G ka_NoText, kb_NoText, kd_NoText, kt_NoText, kf_NoText⟩
  have k_NoFit : Cl K mg "NoFit" C_NoFit := ⟨PySem.W.mg_of X G ka_NoFit, kb_NoFit, kd_NoFit, kt_NoFit, kf_NoFit⟩
  have k_NoName : Cl K mg "NoName" C_NoName := ⟨PySem.W.mg_of X G ka_NoName, kb_NoName, kd_NoName, kt_NoName, kf_NoName⟩
  have k_NoNumber : Cl K mg "NoNumber" C_NoNumber := ⟨PySem.W.mg_of X G ka_NoNumber, kb_NoNumber, kd_NoNumber, kt_NoNumber, kf_NoNumber⟩
  have k_NoRow : Cl K mg "NoRow" C_NoRow := ⟨PySem.W.mg_of X G ka_NoRow, kb_NoRow, kd_NoRow, kt_NoRow, kf_NoRow⟩
  have k_TooLong : Cl K mg "TooLong" C_TooLong := ⟨PySem.W.mg_of X G ka_TooLong, kb_TooLong, kd_TooLong, kt_TooLong, kf_TooLong⟩
  have k_TooMany : Cl K mg "TooMany" C_TooMany := ⟨PySem.W.mg_of X G ka_TooMany, kb_TooMany, kd_TooMany, kt_TooMany, kf_TooMany⟩
  have x_NoKind : ExN K mg "NoKind" C_NoKind := ⟨PySem.W.mg_of X G ka_NoKind, kx_NoKind, kk_NoKind, kb_NoKind, kt_NoKind⟩
  have ec_NoKind : ExcC K C_NoKind := ⟨ega_NoKind, egt_NoKind, kb_NoKind, edc_NoKind, ecc_NoKind, spc, tkc, emo_NoKind⟩
  let T : TxW w K mg := { a_is_mark := _, fd_is_mark := _, n_is_mark := N_is_mark', a_has_form := _, fd_has_form := _, n_has_form := N_has_form', a_is_kind := _, fd_is_kind := _, n_is_kind := N_is_kind', a_leaves_of := _, fd_leaves_of := _, n_leaves_of := N_leaves_of', a_shown_kind := _, fd_shown_kind := _, n_shown_kind := N_shown_kind', a_word_at := _, fd_word_at := _, n_word_at := N_word_at', a_kind_from := _, fd_kind_from := _, n_kind_from := N_kind_from', a_read_kind := _, fd_read_kind := _, n_read_kind := N_read_kind', a__law_pool := _, fd__law_pool := _, n__law_pool := N__law_pool', a__law_take := _, fd__law_take := _, n__law_take := N__law_take', a__law_kind := _, fd__law_kind := _, n__law_kind := N__law_kind', a__law_text := _, fd__law_text := _, n__law_text := N__law_text', a__law_bent := _, fd__law_bent := _, n__law_bent := N__law_bent', a__law_from := _, fd__law_from := _, n__law_from := N__law_from', a__law_due := _, fd__law_due := _, n__law_due := N__law_due', a__law_read := _, fd__law_read := _, n__law_read := N__law_read', a_law := _, fd_law := _, n_law := N_law', m_len := m_len, m_tuple := m_tuple, m_isinstance := m_isinstance, m_str := m_str, m_int := m_int, m_max := m_max, m_ValueError := m_ValueError, m_range := m_range, m_min := m_min, c_LETTERS := c_LETTERS, c_LONGEST := c_LONGEST, c_ONE := c_ONE, c_MOST_DEPTH := c_MOST_DEPTH, c_MOST_LEAVES := c_MOST_LEAVES, c_DEEPEST := c_DEEPEST, t_SIGNS := t_SIGNS, C_NoKind := C_NoKind, C_KindError := C_KindError, C_NoText := C_NoText, C_NoFit := C_NoFit, C_NoName := C_NoName, C_NoNumber := C_NoNumber, C_NoRow := C_NoRow, C_TooLong := C_TooLong, C_TooMany := C_TooMany, x_NoKind := x_NoKind, k_KindError := k_KindError, k_NoKind := k_NoKind, k_NoText := k_NoText, k_NoFit := k_NoFit, k_NoName := k_NoName, k_NoNumber := k_NoNumber, k_NoRow := k_NoRow, k_TooLong := k_TooLong, k_TooMany := k_TooMany, ec_NoKind := ec_NoKind, sb_NoKind_KindError := sb_NoKind_KindError, sb_NoKind_ValueError := sb_NoKind_ValueError, sb_NoKind_NoText := sb_NoKind_NoText, sb_NoKind_NoFit := sb_NoKind_NoFit, sb_NoKind_NoName := sb_NoKind_NoName, sb_NoKind_NoNumber := sb_NoKind_NoNumber, sb_NoKind_NoRow := sb_NoKind_NoRow, sb_NoKind_TooLong := sb_NoKind_TooLong, sb_NoKind_TooMany := sb_NoKind_TooMany }
  exact ⟨_, fun s v => .of_eq rfl, fun base _ _ => ok_law T⟩
end Kf
open PySem PySem.W PyProof.Rows
set_option maxHeartbeats 0 in
theorem PySem.Challenge.cw_kindfill_k05_kind_texts_holds : PySem.Challenge.rw_kindfill_k05_kind_texts.Holds := by
  w_on; o_law; k_head; (case hw => w_witness2)
  k_fill
  refine L2.walk_of (l := PySem.Challenge.rw_kindfill_k05_kind_texts) (n := 63) (k := 210) (x := "_law_script") (CX := fun _ => L2.CX0) (sp := fun w => Kf.liftSp _ (Kf.lawSp 63)) rfl (by decide) rfl ⟨rfl, by decide, by decide⟩ (fun w h Y => PySem.W.kIn_of Y) ?F (fun _ _ a ns hl _ hS => Kf.law_start hl hS) (fun _ _ _ _ _ h => h)
  case F =>
    intro w mg fa h KX G hmg
    refine' Kf.all_mk KX G hmg ?a_is_mark ?l_is_mark ?c_is_mark ?k_is_mark ?a_has_form ?l_has_form ?c_has_form ?k_has_form ?a_is_kind ?l_is_kind ?c_is_kind ?k_is_kind ?a_leaves_of ?l_leaves_of ?c_leaves_of ?k_leaves_of ?a_shown_kind ?l_shown_kind ?c_shown_kind ?k_shown_kind ?a_word_at ?l_word_at ?c_word_at ?k_word_at ?a_kind_from ?l_kind_from ?c_kind_from ?k_kind_from ?a_read_kind ?l_read_kind ?c_read_kind ?k_read_kind ?a__law_pool ?l__law_pool ?c__law_pool ?k__law_pool ?a__law_take ?l__law_take ?c__law_take ?k__law_take ?a__law_kind ?l__law_kind ?c__law_kind ?k__law_kind ?a__law_text ?l__law_text ?c__law_text ?k__law_text ?a__law_bent ?l__law_bent ?c__law_bent ?k__law_bent ?a__law_from ?l__law_from ?c__law_from ?k__law_from ?a__law_due ?l__law_due ?c__law_due ?k__law_due ?a__law_read ?l__law_read ?c__law_read ?k__law_read ?a_law ?l_law ?c_law ?k_law ?z_len ?z_tuple ?z_isinstance ?z_str ?z_int ?z_max ?z_ValueError ?z_range ?z_min ?e_LETTERS ?e_LONGEST ?e_ONE ?q_ONE ?e_MOST_DEPTH ?e_MOST_LEAVES ?e_DEEPEST ?e_SIGNS ?q_SIGNS ?low_SIGNS ?hh0_SIGNS ?hh1_SIGNS ?ka_KindError ?kb_KindError ?kt_KindError ?ka_NoKind ?kb_NoKind ?kt_NoKind ?ka_NoText ?kb_NoText ?kt_NoText ?ka_NoFit ?kb_NoFit ?kt_NoFit ?ka_NoName ?kb_NoName ?kt_NoName ?ka_NoNumber ?kb_NoNumber ?kt_NoNumber ?ka_NoRow ?kb_NoRow ?kt_NoRow ?ka_TooLong ?kb_TooLong ?kt_TooLong ?ka_TooMany ?kb_TooMany ?kt_TooMany ?kd_KindError ?kf_KindError ?kd_NoKind ?kf_NoKind ?kd_NoText ?kf_NoText ?kd_NoFit ?kf_NoFit ?kd_NoName ?kf_NoName ?kd_NoNumber ?kf_NoNumber ?kd_NoRow ?kf_NoRow ?kd_TooLong ?kf_TooLong ?kd_TooMany ?kf_TooMany ?kk_NoKind ?kx_NoKind ?ega_NoKind ?egt_NoKind ?edc_NoKind ?ecc_NoKind ?emo_NoKind ?spc ?tkc ?sb_NoKind_KindError ?sb_NoKind_ValueError ?sb_NoKind_NoText ?sb_NoKind_NoFit ?sb_NoKind_NoName ?sb_NoKind_NoNumber ?sb_NoKind_NoRow ?sb_NoKind_TooLong ?sb_NoKind_TooMany
    (case a_is_mark => k_is)
    (case l_is_mark => k_is)
    (case c_is_mark => k_is)
    (case k_is_mark => k_is)
    (case a_has_form => k_is)
    (case l_has_form => k_is)
    (case c_has_form => k_is)
    (case k_has_form => k_is)
    (case a_is_kind => k_is)
    (case l_is_kind => k_is)
    (case c_is_kind => k_is)
    (case k_is_kind => k_is)
    (case a_leaves_of => k_is)
    (case l_leaves_of => k_is)
    (case c_leaves_of => k_is)
    (case k_leaves_of => k_is)
    (case a_shown_kind => k_is)
    (case l_shown_kind => k_is)
    (case c_shown_kind => k_is)
    (case k_shown_kind => k_is)
    (case a_word_at => k_is)
    (case l_word_at => k_is)
    (case c_word_at => k_is)
    (case k_word_at => k_is)
    (case a_kind_from => k_is)
    (case l_kind_from => k_is)
    (case c_kind_from => k_is)
    (case k_kind_from => k_is)
    (case a_read_kind => k_is)
    (case l_read_kind => k_is)
    (case c_read_kind => k_is)
    (case k_read_kind => k_is)
    (case a__law_pool => k_is)
    (case l__law_pool => k_is)
    (case c__law_pool => k_is)
    (case k__law_pool => k_is)
    (case a__law_take => k_is)
    (case l__law_take => k_is)
    (case c__law_take => k_is)
    (case k__law_take => k_is)
    (case a__law_kind => k_is)
    (case l__law_kind => k_is)
    (case c__law_kind => k_is)
    (case k__law_kind => k_is)
    (case a__law_text => k_is)
    (case l__law_text => k_is)
    (case c__law_text => k_is)
    (case k__law_text => k_is)
    (case a__law_bent => k_is)
    (case l__law_bent => k_is)
    (case c__law_bent => k_is)
    (case k__law_bent => k_is)
    (case a__law_from => k_is)
    (case l__law_from => k_is)
    (case c__law_from => k_is)
    (case k__law_from => k_is)
    (case a__law_due => k_is)
    (case l__law_due => k_is)
    (case c__law_due => k_is)
    (case k__law_due => k_is)
    (case a__law_read => k_is)
    (case l__law_read => k_is)
    (case c__law_read => k_is)
    (case k__law_read => k_is)
    (case a_law => k_is)
    (case l_law => k_is)
    (case c_law => k_is)
    (case k_law => k_is)
    (case z_len => k_is)
    (case z_tuple => k_is)
    (case z_isinstance => k_is)
    (case z_str => k_is)
    (case z_int => k_is)
    (case z_max => k_is)
    (case z_ValueError => k_is)
    (case z_range => k_is)
    (case z_min => k_is)
    (case e_LETTERS => k_is)
    (case e_LONGEST => k_is)
    (case e_ONE => k_is)
    (case q_ONE => k_is)
    (case e_MOST_DEPTH => k_is)
    (case e_MOST_LEAVES => k_is)
    (case e_DEEPEST => k_is)
    (case e_SIGNS => k_is)
    (case q_SIGNS => k_is)
    (case low_SIGNS => decide)
    (case hh0_SIGNS => rfl)
    (case hh1_SIGNS => rfl)
    (case ka_KindError => k_is)
    (case kb_KindError => k_is)
    (case kt_KindError => k_is)
    (case ka_NoKind => k_is)
    (case kb_NoKind => k_is)
    (case kt_NoKind => k_is)
    (case ka_NoText => k_is)
    (case kb_NoText => k_is)
    (case kt_NoText => k_is)
    (case ka_NoFit => k_is)
    (case kb_NoFit => k_is)
    (case kt_NoFit => k_is)
    (case ka_NoName => k_is)
    (case kb_NoName => k_is)
    (case kt_NoName => k_is)
    (case ka_NoNumber => k_is)
    (case kb_NoNumber => k_is)
    (case kt_NoNumber => k_is)
    (case ka_NoRow => k_is)
    (case kb_NoRow => k_is)
    (case kt_NoRow => k_is)
    (case ka_TooLong => k_is)
    (case kb_TooLong => k_is)
    (case kt_TooLong => k_is)
    (case ka_TooMany => k_is)
    (case kb_TooMany => k_is)
    (case kt_TooMany => k_is)
    (case kd_KindError => k_is)
    (case kf_KindError => k_is)
    (case kd_NoKind => k_is)
    (case kf_NoKind => k_is)
    (case kd_NoText => k_is)
    (case kf_NoText => k_is)
    (case kd_NoFit => k_is)
    (case kf_NoFit => k_is)
    (case kd_NoName => k_is)
    (case kf_NoName => k_is)
    (case kd_NoNumber => k_is)
    (case kf_NoNumber => k_is)
    (case kd_NoRow => k_is)
    (case kf_NoRow => k_is)
    (case kd_TooLong => k_is)
    (case kf_TooLong => k_is)
    (case kd_TooMany => k_is)
    (case kf_TooMany => k_is)
    (case kk_NoKind => k_is)
    (case kx_NoKind => k_exc)
    (case ega_NoKind => k_is)
    (case egt_NoKind => k_is)
    (case edc_NoKind => k_is)
    (case ecc_NoKind => k_is)
    (case emo_NoKind => k_is)
    (case spc => k_is)
    (case tkc => k_is)
    (case sb_NoKind_KindError => k_is)
    (case sb_NoKind_ValueError => k_is)
    (case sb_NoKind_NoText => k_is)
    (case sb_NoKind_NoFit => k_is)
    (case sb_NoKind_NoName => k_is)
    (case sb_NoKind_NoNumber => k_is)
    (case sb_NoKind_NoRow => k_is)
    (case sb_NoKind_TooLong => k_is)
    (case sb_NoKind_TooMany => k_is)
