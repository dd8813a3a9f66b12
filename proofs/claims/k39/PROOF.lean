import PyProof.Rows.All
import Wide.All
import OpenK.AllK
import Wide.FinOn
import HandS.ForMost
import HandS.ForExc
import HandS.IsInst
import HandS.Deep
import HandS.Wide
import HandS.RevRange
import HandS.More
import HandS.TupLe
import HandS.ExcIs
import HandS.RaiseMore
import KE.KRevSl
import HandS.SortKw
import KE.KMinKey
import HandS.CallSlots
import HandS.Defaults
import HandS.Flow
import HandS.NoneIn
import KE.GoesMore
import KE.KExcIs
import HandS.Finally
import HandS.DictComp
import KE.DataMinMax
import KE.KEqDict
import HandS.ExcInit
import HandS.ExcValue
import KE.SortData
import HandS.Replace
import HandS.ReplaceLit
import HandS.SetFor
import HandS.SetTxt0
import HandS.TupAny
import KE.DataMinKey
import KE.KDictCopyH
import HandS.WordsDict
import HandS.Text
import PySem.Challenge.RW_kindfill_k39_whole_nothing_bars_programs
set_option Elab.async false
set_option maxRecDepth 100000
set_option linter.all false
/-! Kf: a layer of readings over plain data. -/
namespace Kf
open PySem PySem.Spec L2
open PyProof.Rows hiding St

/-- plain data; scr is the script, ref an owned cell -/
inductive D where
  | non | bl (b : Bool) | int (i : Int) | str (x : Str) | tup (ds : List D) | lst (ds : List D) | ref (a : Addr) | ty (n : String) | scr (ns : List Int) | edic | tupK (ks : List Key)
  deriving Inhabited

/-- what an owned address holds -/
inductive Cell where
  | lst (ds : List D)
  | pool
  | dic (kvs : List (Key × D))
  | dicL (kvs : List (Key × D)) (o : HO)
  | exc (cls : Value) (fs : Option (List (Str × D)))
  | ins (C : Addr) (fs : List (Str × D))
  | dicT (kvs : List (List Key × D))

abbrev Ow := Addr → Option Cell
def updO (O : Ow) (a : Addr) (c : Cell) : Ow := fun b => if b = a then some c else O b
theorem updO_same {O : Ow} {a : Addr} {c : Cell} : updO O a c a = some c := if_pos rfl
theorem updO_ne {O : Ow} {a b : Addr} {c : Cell} (h : b ≠ a) : updO O a c b = O b := if_neg h
theorem updO_updO {O : Ow} {a : Addr} {c d : Cell} : updO (updO O a c) a d = updO O a d := by
  funext b; unfold updO; split <;> rfl
theorem updO_self {O : Ow} {a : Addr} {c : Cell} (h : O a = some c) : updO O a c = O := by
  funext b; unfold updO; split
  · rename_i e; rw [e, h]
  · rfl
/-- without a cell -/
def delO (O : Ow) (a : Addr) : Ow := fun b => if b = a then none else O b
theorem delO_updO {O : Ow} {a : Addr} {c : Cell} (h : O a = none) : delO (updO O a c) a = O := by
  funext b; unfold delO updO; split
  · rename_i e; rw [e, h]
  · rfl

abbrev DEnv := List (Option D)
abbrev VD := D → Ow → Prop
abbrev FE := DEnv → Ow → VD → Prop
abbrev FT := DEnv → Ow → (Bool → Ow → Prop) → Prop
abbrev FA := DEnv → Ow → (List D → Ow → Prop) → Prop

section
variable (K : PySem.W.Frag) (F : Hp)
mutual
def Rep : D → V → Prop
  | .non, v => v = .non
  | .bl b, v => v = .bl b
  | .int i, v => v = .int i
  | .str x, v => v = .str x
  | .tup ds, v => ∃ a xs, v = .ref a ∧ SqT K F a xs ∧ RepAll ds xs
  | .lst ds, v => ∃ a xs, v = .ref a ∧ F a = some (.lst xs) ∧ RepAll ds xs
  | .ref a, v => v = .ref a
  | .ty n, v => v = .ty n
  | .scr ns, v => ∃ a, v = .ref a ∧ SqL K F a (ns.map V.int)
  | .edic, v => ∃ a, v = .ref a ∧ F a = some (.dK [])
  | .tupK ks, v => ∃ a, v = .ref a ∧ F a = some (.tup (ks.map kV))
def RepAll : List D → List V → Prop
  | [], vs => vs = []
  | d :: ds, vs => ∃ v r, vs = v :: r ∧ Rep d v ∧ RepAll ds r
end
end

theorem Same.seqT {K : PySem.W.Frag} {H H' : Hp} {a : Addr} {xs : List V} (e : Same H H') (h : SqT K H a xs) : SqT K H' a xs := by
  rcases h with (h | ⟨o, h⟩) | h
  · exact .inl (.inl (e _ _ h))
  · exact .inl (.inr ⟨o, e _ _ h⟩)
  · exact .inr h

section
variable {K : PySem.W.Frag} {F F' : Hp}
mutual
theorem Rep.mono (s : Same F F') : ∀ (d : D) (v : V), Rep K F d v → Rep K F' d v
  | .non, _, h => by simpa only [Rep] using h
  | .bl _, _, h => by simpa only [Rep] using h
  | .int _, _, h => by simpa only [Rep] using h
  | .str _, _, h => by simpa only [Rep] using h
  | .ref _, _, h => by simpa only [Rep] using h
  | .ty _, _, h => by simpa only [Rep] using h
  | .tup ds, _, h => by
    simp only [Rep] at h ⊢
    obtain ⟨a, xs, e, h1, h2⟩ := h
    exact ⟨a, xs, e, Same.seqT s h1, RepAll.mono s ds xs h2⟩
  | .lst ds, _, h => by
    simp only [Rep] at h ⊢
    obtain ⟨a, xs, e, h1, h2⟩ := h
    exact ⟨a, xs, e, s _ _ h1, RepAll.mono s ds xs h2⟩
  | .scr ns, _, h => by
    simp only [Rep] at h ⊢
    obtain ⟨a, e, h1⟩ := h
    exact ⟨a, e, s.seq h1⟩
  | .edic, _, h => by
    simp only [Rep] at h ⊢
    obtain ⟨a, e, h1⟩ := h
    exact ⟨a, e, s _ _ h1⟩
  | .tupK _, _, h => by
    simp only [Rep] at h ⊢
    obtain ⟨a, e, h1⟩ := h
    exact ⟨a, e, s _ _ h1⟩
theorem RepAll.mono (s : Same F F') : ∀ (ds : List D) (vs : List V), RepAll K F ds vs → RepAll K F' ds vs
  | [], _, h => by simpa only [RepAll] using h
  | d :: ds, _, h => by
    simp only [RepAll] at h ⊢
    obtain ⟨v, r, e, h1, h2⟩ := h
    exact ⟨v, r, e, Rep.mono s d v h1, RepAll.mono s ds r h2⟩
end
theorem RepAll.length : ∀ {ds : List D} {vs : List V}, RepAll K F ds vs → ds.length = vs.length
  | [], _, h => by simp only [RepAll] at h; rw [h]; rfl
  | d :: ds, _, h => by
    simp only [RepAll] at h
    obtain ⟨v, r, rfl, _, h2⟩ := h
    rw [List.length_cons, List.length_cons, RepAll.length h2]
theorem RepAll.get : ∀ {ds : List D} {vs : List V} {i : Nat} {d : D}, RepAll K F ds vs → ds[i]? = some d → ∃ v, vs[i]? = some v ∧ Rep K F d v
  | [], _, _, _, h, e => by simp at e
  | d :: ds, _, i, _, h, e => by
    simp only [RepAll] at h
    obtain ⟨v, r, rfl, h1, h2⟩ := h
    cases i with
    | zero => simp at e; subst e; exact ⟨v, rfl, h1⟩
    | succ i => simp at e ⊢; exact RepAll.get h2 e
theorem RepAll.append : ∀ {ds es : List D} {vs ws : List V}, RepAll K F ds vs → RepAll K F es ws → RepAll K F (ds ++ es) (vs ++ ws)
  | [], _, _, _, h, q => by simp only [RepAll] at h; subst h; exact q
  | d :: ds, es, _, ws, h, q => by
    simp only [RepAll] at h
    obtain ⟨v, r, rfl, h1, h2⟩ := h
    rw [List.cons_append, List.cons_append]
    simp only [RepAll]
    exact ⟨v, r ++ ws, rfl, h1, RepAll.append h2 q⟩
theorem RepAll.nil : RepAll K F [] [] := by simp only [RepAll]
theorem RepAll.cons {d : D} {ds : List D} {v : V} {vs : List V} (h : Rep K F d v) (q : RepAll K F ds vs) : RepAll K F (d :: ds) (v :: vs) := by
  simp only [RepAll]; exact ⟨v, vs, rfl, h, q⟩
theorem RepAll.one {d : D} {v : V} (h : Rep K F d v) : RepAll K F [d] [v] := .cons h .nil
theorem RepAll.set {x : D} {y : V} (hx : Rep K F x y) : ∀ {ds : List D} {vs : List V} (i : Nat), RepAll K F ds vs → RepAll K F (ds.set i x) (vs.set i y)
  | [], _, _, h => by simp only [RepAll] at h; subst h; exact .nil
  | d :: ds, _, i, h => by
    simp only [RepAll] at h
    obtain ⟨v, r, rfl, h1, h2⟩ := h
    cases i with
    | zero => exact .cons hx h2
    | succ i => exact .cons h1 (RepAll.set hx i h2)
theorem RepAll.drop : ∀ {ds : List D} {vs : List V} (n : Nat), RepAll K F ds vs → RepAll K F (ds.drop n) (vs.drop n)
  | _, _, 0, h => h
  | [], _, n + 1, h => by simp only [RepAll] at h; subst h; exact .nil
  | d :: ds, _, n + 1, h => by
    simp only [RepAll] at h
    obtain ⟨v, r, rfl, h1, h2⟩ := h
    exact RepAll.drop n h2
theorem RepAll.take : ∀ {ds : List D} {vs : List V} (n : Nat), RepAll K F ds vs → RepAll K F (ds.take n) (vs.take n)
  | _, _, 0, h => .nil
  | [], _, n + 1, h => by simp only [RepAll] at h; subst h; exact .nil
  | d :: ds, _, n + 1, h => by
    simp only [RepAll] at h
    obtain ⟨v, r, rfl, h1, h2⟩ := h
    exact .cons h1 (RepAll.take n h2)
theorem RepAll.reverse {ds : List D} {vs : List V} (h : RepAll K F ds vs) : RepAll K F ds.reverse vs.reverse := by
  induction ds generalizing vs with
  | nil => simp only [RepAll] at h; subst h; exact .nil
  | cons d ds ih =>
    simp only [RepAll] at h
    obtain ⟨v, r, rfl, h1, h2⟩ := h
    rw [List.reverse_cons, List.reverse_cons]
    exact .append (ih h2) (.one h1)
theorem RepAll.ints {vs : List V} : ∀ {ns : List Int}, RepAll K F (ns.map D.int) vs → vs = ns.map V.int := by
  intro ns h
  induction ns generalizing vs with
  | nil => rw [List.map_nil] at h; simpa only [RepAll, List.map_nil] using h
  | cons n ns ih =>
    rw [List.map_cons] at h
    simp only [RepAll, Rep] at h
    obtain ⟨v, r, rfl, rfl, h2⟩ := h
    rw [ih h2]; rfl
theorem RepAll.strs {vs : List V} : ∀ {ns : List Str}, RepAll K F (ns.map D.str) vs → vs = ns.map V.str := by
  intro ns h
  induction ns generalizing vs with
  | nil => rw [List.map_nil] at h; simpa only [RepAll, List.map_nil] using h
  | cons n ns ih =>
    rw [List.map_cons] at h
    simp only [RepAll, Rep] at h
    obtain ⟨v, r, rfl, rfl, h2⟩ := h
    rw [ih h2]; rfl
theorem RepAll.of_strs : ∀ {ns : List Str}, RepAll K F (ns.map D.str) (ns.map V.str)
  | [] => .nil
  | n :: ns => .cons (by simp only [Rep]) RepAll.of_strs
end

/-! ### the ghost state -/
/-- the entries of a dict -/
def KvOk {κ : Type} (K : PySem.W.Frag) (F : Hp) : List (κ × D) → List (κ × V) → Prop := Paired fun p q => p.1 = q.1 ∧ Rep K F p.2 q.2
theorem KvOk.mono {κ : Type} {K : PySem.W.Frag} {F F' : Hp} (s : Same F F') {kvs : List (κ × D)} {vs : List (κ × V)} (h : KvOk K F kvs vs) : KvOk K F' kvs vs := Paired.mapP h fun _ _ z => ⟨z.1, z.2.mono s⟩
/-- the fields of an instance -/
def FsOk (K : PySem.W.Frag) (F : Hp) : List (Str × D) → List (Str × V) → Prop := Paired fun p q => p.1 = q.1 ∧ Rep K F p.2 q.2
theorem FsOk.mono {K : PySem.W.Frag} {F F' : Hp} (s : Same F F') {fs : List (Str × D)} {fv : List (Str × V)} (h : FsOk K F fs fv) : FsOk K F' fs fv := Paired.mapP h fun _ _ z => ⟨z.1, z.2.mono s⟩
/-- an exception's object, held as a value -/
def IsX (a : Addr) (cls : Value) (d : Option Addr) (o : HO) : Prop := ∃ φ, o = .ext φ ∧ ∀ h, φ h → ∃ oe vs, h.get? a = some oe ∧ Zc cls d oe ∧ oe.data = .fields vs
def XdR (K : PySem.W.Frag) (F : Hp) : Option (List (Str × D)) → Option Addr → Prop
  | none, dd => dd = none
  | some fs, dd => ∃ dx fv, dd = some dx ∧ F dx = some (.xd fv) ∧ FsOk K F fs fv
theorem XdR.mono {K : PySem.W.Frag} {F F' : Hp} (s : Same F F') {fs : Option (List (Str × D))} {dd : Option Addr} (h : XdR K F fs dd) : XdR K F' fs dd := by
  cases fs with
  | none => exact h
  | some fs => obtain ⟨dx, fv, e, h1, h2⟩ := h; exact ⟨dx, fv, e, s _ _ h1, h2.mono s⟩
def CellOk (K : PySem.W.Frag) (F H : Hp) (a : Addr) : Cell → Prop
  | .lst ds => ∃ vs, H a = some (.lst vs) ∧ RepAll K F ds vs
  | .pool => ∃ x y : Int, H a = some (.lst [.int x, .int y]) ∧ 0 ≤ x ∧ 0 ≤ y ∧ y < 2147483647
  | .dic kvs => ∃ vs : List (Key × V), H a = some (.dK vs) ∧ KvOk K F kvs vs
  | .dicL kvs o => H a = some o ∧ ∃ (od : Obj) (vs : List (Key × V)), o = .frz od (.dK vs) ∧ KvOk K F kvs vs
  | .exc cls fs => ∃ o d, H a = some o ∧ IsX a cls d o ∧ XdR K F fs d
  | .ins C fs => ∃ dx vs, H a = some (.ins C dx vs) ∧ FsOk K F fs vs
  | .dicT kvs => ∃ vs : List (List Key × V), H a = some (.dT vs) ∧ KvOk K F kvs vs
/-- what is known of F and P all the while: it bears more of both -/
structure MX where
  rel : Hp → Hp → Prop
  mono : ∀ {F F' P P' : Hp}, rel F P → Same F F' → Same P P' → rel F' P'
def MT : MX := ⟨fun _ _ => True, fun _ _ _ => trivial⟩
variable {M : MX}
/-- F: what never changes; O: what is owned; P: what stands aside -/
def NT (o : HO) : Prop := ∀ xs, o ≠ .tup xs
structure Gd (M : MX) (K : PySem.W.Frag) (F : Hp) (O : Ow) (P : Hp) (H : Hp) : Prop where
  fz : Same F H
  ow : ∀ a c, O a = some c → F a = none ∧ P a = none ∧ CellOk K F H a c
  as : ∀ a o, P a = some o → F a = none ∧ H a = some o
  rl : M.rel F P
  nt : ∀ a o, P a = some o → NT o

theorem CellOk.some {K : PySem.W.Frag} {F H : Hp} {a : Addr} {c : Cell} (h : CellOk K F H a c) : ∃ o, H a = some o := by
  cases c with
  | lst ds => obtain ⟨vs, h, _⟩ := h; exact ⟨_, h⟩
  | pool => obtain ⟨x, y, h, _⟩ := h; exact ⟨_, h⟩
  | dic kvs => obtain ⟨vs, h, _⟩ := h; exact ⟨_, h⟩
  | dicL kvs o => exact ⟨_, h.1⟩
  | exc cls fs => obtain ⟨o, d, h, _⟩ := h; exact ⟨_, h⟩
  | ins C fs => obtain ⟨dx, vs, h, _⟩ := h; exact ⟨_, h⟩
  | dicT kvs => obtain ⟨vs, h, _⟩ := h; exact ⟨_, h⟩
theorem CellOk.mono {K : PySem.W.Frag} {F F' H H' : Hp} {a : Addr} {c : Cell} (h : CellOk K F H a c) (s : Same F F') (e : H' a = H a) : CellOk K F' H' a c := by
  cases c with
  | lst ds => obtain ⟨vs, h, r⟩ := h; exact ⟨vs, e.trans h, r.mono s⟩
  | pool => obtain ⟨x, y, h, r⟩ := h; exact ⟨x, y, e.trans h, r⟩
  | dic kvs => obtain ⟨vs, h, r⟩ := h; exact ⟨vs, e.trans h, r.mono s⟩
  | dicL kvs o => obtain ⟨h, od, vs, r1, r2⟩ := h; exact ⟨e.trans h, od, vs, r1, r2.mono s⟩
  | exc cls fs => obtain ⟨o, d, h, r1, r2⟩ := h; exact ⟨o, d, e.trans h, r1, r2.mono s⟩
  | ins C fs => obtain ⟨dx, vs, h, r⟩ := h; exact ⟨dx, vs, e.trans h, r.mono s⟩
  | dicT kvs => obtain ⟨vs, h, r⟩ := h; exact ⟨vs, e.trans h, r.mono s⟩

section
variable {K : PySem.W.Frag} {F P H : Hp} {O : Ow} {p : Addr} {o : HO}
theorem Gd.freeF (g : Gd M K F O P H) (h : H p = none) : F p = none := g.fz.free h
theorem Gd.freeO (g : Gd M K F O P H) (h : H p = none) : O p = none := by
  cases e : O p with
  | none => rfl
  | some c =>
    obtain ⟨u, q⟩ := (g.ow p c e).2.2.some
    rw [h] at q; cases q
theorem Gd.freeP (g : Gd M K F O P H) (h : H p = none) : P p = none := by
  cases e : P p with
  | none => rfl
  | some c =>
    have q := (g.as p c e).2
    rw [h] at q; cases q
theorem same_upd {H : Hp} {p : Addr} {o : HO} (h : H p = none) : Same H (upd H p o) := fun b x e => by
  rw [upd_ne (ne_of_none e h)]; exact e
theorem Same.upd2 {F H : Hp} {p : Addr} {o : HO} (s : Same F H) : Same (upd F p o) (upd H p o) := fun b x e => by
  unfold upd at e ⊢
  split
  · rename_i q; rw [if_pos q] at e; exact e
  · rename_i q; rw [if_neg q] at e; exact s b x e
/-- a new thing that never changes -/
theorem Gd.new (g : Gd M K F O P H) (h : H p = none) : Gd M K (upd F p o) O P (upd H p o) := by
  have hF := g.freeF h
  have hO := g.freeO h
  have hP := g.freeP h
  refine ⟨Same.upd2 g.fz, fun a c e => ?_, fun a u e => ?_, M.mono g.rl (same_upd hF) (Same.refl _), g.nt⟩
  · have ne : a ≠ p := fun q => by rw [q, hO] at e; cases e
    obtain ⟨h1, h2, h3⟩ := g.ow a c e
    exact ⟨(upd_ne ne).trans h1, h2, h3.mono (same_upd hF) (upd_ne ne)⟩
  · have ne : a ≠ p := fun q => by rw [q, hP] at e; cases e
    obtain ⟨h1, h2⟩ := g.as a u e
    exact ⟨(upd_ne ne).trans h1, (upd_ne ne).trans h2⟩
/-- a thing of the heap that nothing speaks of -/
theorem Gd.skip (g : Gd M K F O P H) (h : H p = none) : Gd M K F O P (upd H p o) := by
  have hO := g.freeO h
  have hP := g.freeP h
  refine ⟨fun b x e => (same_upd h) b x (g.fz b x e), fun a c e => ?_, fun a u e => ?_, g.rl, g.nt⟩
  · have ne : a ≠ p := fun q => by rw [q, hO] at e; cases e
    obtain ⟨h1, h2, h3⟩ := g.ow a c e
    exact ⟨h1, h2, h3.mono (Same.refl _) (upd_ne ne)⟩
  · have ne : a ≠ p := fun q => by rw [q, hP] at e; cases e
    obtain ⟨h1, h2⟩ := g.as a u e
    exact ⟨h1, (upd_ne ne).trans h2⟩
/-- a new owned cell -/
theorem Gd.newO (g : Gd M K F O P H) (h : H p = none) {c : Cell} (hc : CellOk K F (upd H p o) p c) : Gd M K F (updO O p c) P (upd H p o) := by
  have hF := g.freeF h
  have g' := g.skip (o := o) h
  refine ⟨g'.fz, fun a d e => ?_, g'.as, g'.rl, g'.nt⟩
  by_cases q : a = p
  · subst q
    rw [updO_same] at e; cases e
    exact ⟨hF, g.freeP h, hc⟩
  · rw [updO_ne q] at e
    exact g'.ow a d e
/-- an owned cell changes -/
theorem Gd.setO (g : Gd M K F O P H) {c0 : Cell} (h : O p = some c0) {c : Cell} (hc : CellOk K F (upd H p o) p c) : Gd M K F (updO O p c) P (upd H p o) := by
  obtain ⟨hF, hP, _⟩ := g.ow p c0 h
  refine ⟨fun b x e => ?_, fun a d e => ?_, fun a u e => ?_, g.rl, g.nt⟩
  · have ne : b ≠ p := fun q => by rw [q, hF] at e; cases e
    rw [upd_ne ne]; exact g.fz b x e
  · by_cases q : a = p
    · subst q
      rw [updO_same] at e; cases e
      exact ⟨hF, hP, hc⟩
    · rw [updO_ne q] at e
      obtain ⟨h1, h2, h3⟩ := g.ow a d e
      exact ⟨h1, h2, h3.mono (Same.refl _) (upd_ne q)⟩
  · have ne : a ≠ p := fun q => by rw [q, hP] at e; cases e
    obtain ⟨h1, h2⟩ := g.as a u e
    exact ⟨h1, (upd_ne ne).trans h2⟩
/-- an owned list is owned no more: it never changes from now on -/
theorem Gd.freeze (g : Gd M K F O P H) {ds : List D} (h : O p = some (.lst ds)) : ∃ F', Same F F' ∧ Gd M K F' (delO O p) P H ∧ Rep K F' (.lst ds) (.ref p) := by
  obtain ⟨hF, hP, vs, hH, hr⟩ := g.ow p _ h
  have s : Same F (upd F p (.lst vs)) := same_upd hF
  refine ⟨upd F p (.lst vs), s, ⟨fun b x e => ?_, fun a c e => ?_, fun a u e => ?_, M.mono g.rl s (Same.refl _), g.nt⟩, ?_⟩
  · by_cases q : b = p
    · subst q; rw [upd_same] at e; cases e; exact hH
    · rw [upd_ne q] at e; exact g.fz b x e
  · unfold delO at e
    by_cases q : a = p
    · rw [if_pos q] at e; cases e
    · rw [if_neg q] at e
      obtain ⟨h1, h2, h3⟩ := g.ow a c e
      exact ⟨(upd_ne q).trans h1, h2, h3.mono s rfl⟩
  · have q : a ≠ p := fun z => by rw [z, hP] at e; cases e
    obtain ⟨h1, h2⟩ := g.as a u e
    exact ⟨(upd_ne q).trans h1, h2⟩
  · simp only [Rep]
    exact ⟨p, vs, rfl, upd_same, hr.mono s⟩
/-- an owned cell is forgotten -/
theorem Gd.drop (g : Gd M K F O P H) : Gd M K F (delO O p) P H := by
  refine ⟨g.fz, fun a c e => ?_, g.as, g.rl, g.nt⟩
  unfold delO at e
  by_cases q : a = p
  · rw [if_pos q] at e; cases e
  · rw [if_neg q] at e; exact g.ow a c e
end

/-! ### environments -/
def EnvOk (K : PySem.W.Frag) (F : Hp) (ρ : DEnv) (σ : St) : Prop := ρ.length = σ.length ∧ ∀ (i : Nat) (d : D), ρ[i]? = some (some d) → ∃ v, σ[i]? = some (some v) ∧ Rep K F d v
section
variable {K : PySem.W.Frag} {F F' : Hp} {ρ : DEnv} {σ : St}
theorem EnvOk.mono (h : EnvOk K F ρ σ) (s : Same F F') : EnvOk K F' ρ σ := ⟨h.1, fun i d e => let ⟨v, q, r⟩ := h.2 i d e; ⟨v, q, r.mono s⟩⟩
theorem EnvOk.set (h : EnvOk K F ρ σ) {d : D} {v : V} (r : Rep K F d v) (i : Nat) : EnvOk K F (ρ.set i (some d)) (σ.set i (some v)) := by
  refine ⟨by rw [List.length_set, List.length_set, h.1], fun j e q => ?_⟩
  by_cases c : i = j
  · subst c
    by_cases hl : i < ρ.length
    · rw [List.getElem?_set_self hl] at q
      cases q
      exact ⟨v, by rw [List.getElem?_set_self (h.1 ▸ hl)], r⟩
    · rw [List.getElem?_eq_none (by rw [List.length_set]; omega)] at q; cases q
  · rw [List.getElem?_set_ne c] at q ⊢
    exact h.2 j e q
theorem EnvOk.wipe (h : EnvOk K F ρ σ) (i : Nat) : EnvOk K F (ρ.set i none) (σ.set i none) := by
  refine ⟨by rw [List.length_set, List.length_set, h.1], fun j e q => ?_⟩
  by_cases c : i = j
  · subst c
    by_cases hl : i < ρ.length
    · rw [List.getElem?_set_self hl] at q; cases q
    · rw [List.getElem?_eq_none (by rw [List.length_set]; omega)] at q; cases q
  · rw [List.getElem?_set_ne c] at q ⊢
    exact h.2 j e q
theorem envOk_start : ∀ {ds : List D} {vs : List V} (n : Nat), RepAll K F ds vs → EnvOk K F (ds.map some ++ List.replicate n none) (vs.map some ++ List.replicate n none) := by
  intro ds vs n h
  have hl := h.length
  refine ⟨by simp [hl], fun i d e => ?_⟩
  by_cases c : i < ds.length
  · rw [List.getElem?_append_left (by simpa using c), List.getElem?_map] at e
    obtain ⟨d', e1, e2⟩ := Option.map_eq_some_iff.mp e
    cases e2
    obtain ⟨v, h1, h2⟩ := h.get e1
    refine ⟨v, ?_, h2⟩
    rw [List.getElem?_append_left (by simpa [← hl] using c), List.getElem?_map, h1]; rfl
  · rw [List.getElem?_append_right (by simpa using c)] at e
    rw [List.getElem?_replicate] at e
    split at e <;> cases e
end

/-! ### readings over data, lifted -/
def PostE (M : MX) (K : PySem.W.Frag) (F P : Hp) (R : VD) (Q : VK) : Prop := ∀ d O' F' H' v, R d O' → Same F F' → Gd M K F' O' P H' → Rep K F' d v → Q v H'
def PostT (M : MX) (K : PySem.W.Frag) (F P : Hp) (R : Bool → Ow → Prop) (Q : Bool → Hp → Prop) : Prop := ∀ b O' F' H', R b O' → Same F F' → Gd M K F' O' P H' → Q b H'
def PostA (M : MX) (K : PySem.W.Frag) (F P : Hp) (R : List D → Ow → Prop) (Q : List V → Hp → Prop) : Prop := ∀ ds O' F' H' vs, R ds O' → Same F F' → Gd M K F' O' P H' → RepAll K F' ds vs → Q vs H'
def liftE (M : MX) (K : PySem.W.Frag) (f : FE) : TE := fun σ H Q => ∃ F O P ρ R, Gd M K F O P H ∧ EnvOk K F ρ σ ∧ f ρ O R ∧ PostE M K F P R Q
def liftT (M : MX) (K : PySem.W.Frag) (f : FT) : TT := fun σ H Q => ∃ F O P ρ R, Gd M K F O P H ∧ EnvOk K F ρ σ ∧ f ρ O R ∧ PostT M K F P R Q
def liftA (M : MX) (K : PySem.W.Frag) (f : FA) : TA := fun σ H Q => ∃ F O P ρ R, Gd M K F O P H ∧ EnvOk K F ρ σ ∧ f ρ O R ∧ PostA M K F P R Q
abbrev DE (M : MX) (X : Cx) (e : Expr) (f : FE) : Prop := PE X e (liftE M X.K f)
abbrev DT (M : MX) (X : Cx) (e : Expr) (f : FT) : Prop := PT X e (liftT M X.K f)
abbrev DA (M : MX) (X : Cx) (es : List Expr) (f : FA) : Prop := PA X es (liftA M X.K f)

theorem peMono {X : Cx} {e : Expr} {t t' : TE} (h : PE X e t) (imp : ∀ σ H Q, t' σ H Q → t σ H Q) : PE X e t' := ⟨fun pins s σ H Q I q => h.run pins s σ H Q I (imp σ H Q q)⟩
theorem ptMono {X : Cx} {e : Expr} {t t' : TT} (h : PT X e t) (imp : ∀ σ H Q, t' σ H Q → t σ H Q) : PT X e t' := ⟨fun pins s σ H Q I q => h.run pins s σ H Q I (imp σ H Q q)⟩
theorem pwMono {X : Cx} {e : Expr} {t t' : TT} (h : PW X e t) (imp : ∀ σ H Q, t' σ H Q → t σ H Q) : PW X e t' := ⟨fun whole pins s σ H Q I q => h.run whole pins s σ H Q I (imp σ H Q q)⟩
theorem paMono {X : Cx} {es : List Expr} {t t' : TA} (h : PA X es t) (imp : ∀ σ H Q, t' σ H Q → t σ H Q) : PA X es t' := ⟨fun pos pins s σ H Q I q => h.run pos pins s σ H Q I (imp σ H Q q)⟩
theorem psMono {X : Cx} {st : Stmt} {t t' : TS} (h : PS X st t) (imp : ∀ D σ H, t' D σ H → t D σ H) : PS X st t' := ⟨fun pins s σ H D I q => h.run pins s σ H D I (imp D σ H q)⟩
theorem pssMono {X : Cx} {st : List Stmt} {t t' : TS} (h : PSs X st t) (imp : ∀ D σ H, t' D σ H → t D σ H) : PSs X st t' := ⟨fun pins s σ H D I q => h.run pins s σ H D I (imp D σ H q)⟩

section
variable {X : Cx} {a b c e : Expr} {es : List Expr} {fa fb fc : FE} {pos : Pos}

/-! ### names and constants -/
def envGet (o : Option (Option D)) (O : Ow) (Q : VD) : Prop := match o with
  | some (some d) => Q d O
  | _ => False
theorem envGet_s {d : D} {O : Ow} {Q : VD} : envGet (some (some d)) O Q = Q d O := rfl
def fVar (i : Nat) : FE := fun ρ O Q => envGet ρ[i]? O Q
def fC (d : D) : FE := fun _ O Q => Q d O
theorem de_var (i : Nat) {x : Str} (hN : X.N[i]? = some x := by rfl) (hv : Vis X.env.scope x := by first | exact Or.inl rfl | exact Or.inr (Or.inl rfl) | exact Or.inr (Or.inr rfl)) (hd : (x == ("__debug__" : Str)) = false := by decide)
    (hcd : (x == ("__classdict__" : Str)) = false := by decide) : DE M X (.Name x pos) (fVar i) := by
  refine peMono (pe_var hN hv hd hcd) fun σ H Q h => ?_
  obtain ⟨F, O, P, ρ, R, g, en, q, po⟩ := h
  unfold fVar envGet at q
  split at q
  · rename_i d e
    obtain ⟨v, e', r⟩ := en.2 i d e
    exact ⟨v, e', po d O F H v q (Same.refl _) g r⟩
  · exact q.elim
/-- a constant: what is the same everywhere -/
theorem de_const {t : TE} {d : D} {v : V} (h : PE X e t) (ht : ∀ σ H Q, Q v H → t σ H Q) (hr : ∀ F, Rep X.K F d v) : DE M X e (fC d) := by
  refine peMono h fun σ H Q h => ?_
  obtain ⟨F, O, P, ρ, R, g, en, q, po⟩ := h
  exact ht σ H Q (po d O F H v q (Same.refl _) g (hr F))
theorem de_int {i : Int} {j : Nat} : DE M X (.Constant (.int i) j pos) (fC (.int i)) := de_const pe_int (fun _ _ _ q => q) fun _ => by simp only [Rep]
theorem de_bl {i : Bool} {j : Nat} : DE M X (.Constant (.bool i) j pos) (fC (.bl i)) := de_const pe_bl (fun _ _ _ q => q) fun _ => by simp only [Rep]
theorem de_non {j : Nat} : DE M X (.Constant .none j pos) (fC .non) := de_const pe_non (fun _ _ _ q => q) fun _ => by simp only [Rep]
theorem de_str {x : Str} {j : Nat} : DE M X (.Constant (.str x) j pos) (fC (.str x)) := de_const pe_str (fun _ _ _ q => q) fun _ => by simp only [Rep]
theorem de_glob {x : Str} {d : D} {v : V} {u : Value} (hg : Gl X x) (hm : X.mg x = some u) (r : RelV v u) (hr : ∀ F, Rep X.K F d v) (hd : (x == ("__debug__" : Str)) = false := by decide) : DE M X (.Name x pos) (fC d) :=
  de_const (pe_glob hg hm r hd) (fun _ _ _ q => q) hr
theorem de_bltn {x : Str} {d : D} {v : V} {u : Value} (hg : Gl X x) (hm : X.mg x = none) (hv : bootBuiltins x = some u) (r : RelV v u) (hr : ∀ F, Rep X.K F d v) (hn : x ≠ "__name__" := by decide) (hd : (x == ("__debug__" : Str)) = false := by decide) : DE M X (.Name x pos) (fC d) :=
  de_const (pe_bltn hg hm hv r hn hd) (fun _ _ _ q => q) hr

/-! ### operators -/
abbrev R2D := D → D → Ow → VD → Prop
abbrev R1D := D → Ow → VD → Prop
def liftR2 (M : MX) (K : PySem.W.Frag) (r : R2D) : R2 := fun x y H Q => ∃ F O P dx dy R, Gd M K F O P H ∧ Rep K F dx x ∧ Rep K F dy y ∧ r dx dy O R ∧ PostE M K F P R Q
def liftRA (M : MX) (K : PySem.W.Frag) (r : List D → Ow → VD → Prop) : List V → Hp → VK → Prop := fun xs H Q => ∃ F O P ds R, Gd M K F O P H ∧ RepAll K F ds xs ∧ r ds O R ∧ PostE M K F P R Q
def fOp (r : R2D) (fa fb : FE) : FE := fun ρ O Q => fa ρ O fun x O1 => fb ρ O1 fun y O2 => r x y O2 Q
theorem fOp_lift {r : R2D} : ∀ σ H Q, liftE M X.K (fOp r fa fb) σ H Q → tOp (liftR2 M X.K r) (liftE M X.K fa) (liftE M X.K fb) σ H Q := by
  intro σ H Q h
  obtain ⟨F, O, P, ρ, R, g, en, q, po⟩ := h
  refine ⟨F, O, P, ρ, _, g, en, q, fun x O1 F1 H1 v q1 s1 g1 r1 => ?_⟩
  refine ⟨F1, O1, P, ρ, _, g1, en.mono s1, q1, fun y O2 F2 H2 w q2 s2 g2 r2 => ?_⟩
  exact ⟨F2, O2, P, x, y, R, g2, r1.mono s2, r2, q2, fun d O' F' H' z q3 s3 g3 r3 => po d O' F' H' z q3 (s1.trans (s2.trans s3)) g3 r3⟩
abbrev OpD (M : MX) (X : Cx) (f : Value → Value → Sem Value) (r : R2D) : Prop := OpR X f (liftR2 M X.K r)
theorem de_op {op : Operator} {r : R2D} (ho : OpD M X (binaryOp op) r) (ha : DE M X a fa) (hb : DE M X b fb) : DE M X (.BinOp a op b pos) (fOp r fa fb) := peMono (pe_op ho ha hb) fOp_lift
theorem de_cmp {op : CmpOp} {r : R2D} (ho : OpD M X (compareOp op) r) (ha : DE M X a fa) (hb : DE M X b fb) (hm : behindInMarks op b = false) : DE M X (.Compare a [op] [b] pos) (fOp r fa fb) := peMono (pe_cmpR ho ha hb hm) fOp_lift
/-- a value as a test: it must be a bool -/
def fTest (f : FE) : FT := fun ρ O Q => f ρ O fun d O1 => ∃ k, d = .bl k ∧ Q k O1
theorem tTest_lift {f : FE} {t : TE} (hl : ∀ σ H Q, liftE M X.K f σ H Q → t σ H Q) : ∀ σ H Q, liftT M X.K (fTest f) σ H Q → tTest t σ H Q := by
  intro σ H Q h
  obtain ⟨F, O, P, ρ, R, g, en, q, po⟩ := h
  refine hl σ H _ ⟨F, O, P, ρ, _, g, en, q, fun d O' F' H' v q1 s1 g1 r1 => ?_⟩
  obtain ⟨k, rfl, q2⟩ := q1
  simp only [Rep] at r1
  exact ⟨k, r1, po k O' F' H' q2 s1 g1⟩
theorem dt_cmp {op : CmpOp} {r : R2D} (ho : OpD M X (compareOp op) r) (ha : DE M X a fa) (hb : DE M X b fb) (hm : behindInMarks op b = false) : DT M X (.Compare a [op] [b] pos) (fTest (fOp r fa fb)) :=
  ptMono (pt_cmpR ho ha hb hm) (tTest_lift fOp_lift)
theorem dt_val (h : DE M X e fa) (he : ∀ whole, isTrue e X.env whole = (do let v ← whole; standAt e.pos; holding [v] (truthy v)) := by intro _; rfl) : DT M X e (fTest fa) :=
  ptMono (pt_val h he) (tTest_lift fun _ _ _ q => q)
/-- a op1 b op2 c -/
def fChain (r r' : R2D) (fa fb fc : FE) : FE := fun ρ O Q => fa ρ O fun x O1 => fb ρ O1 fun y O2 => r x y O2 fun z O3 => ∃ k, z = .bl k ∧ (if k = true then fc ρ O3 fun w O4 => r' y w O4 Q else Q (.bl false) O3)
theorem fChain_lift {r r' : R2D} : ∀ σ H Q, liftE M X.K (fChain r r' fa fb fc) σ H Q → tChain (liftR2 M X.K r) (liftR2 M X.K r') (liftE M X.K fa) (liftE M X.K fb) (liftE M X.K fc) σ H Q := by
  intro σ H Q h
  obtain ⟨F, O, P, ρ, R, g, en, q, po⟩ := h
  refine ⟨F, O, P, ρ, _, g, en, q, fun x O1 F1 H1 v q1 s1 g1 r1 => ?_⟩
  refine ⟨F1, O1, P, ρ, _, g1, en.mono s1, q1, fun y O2 F2 H2 w q2 s2 g2 r2 => ?_⟩
  refine ⟨F2, O2, P, x, y, _, g2, r1.mono s2, r2, q2, fun d O3 F3 H3 z q3 s3 g3 r3 => ?_⟩
  obtain ⟨k, rfl, q4⟩ := q3
  simp only [Rep] at r3
  refine ⟨k, r3, ?_⟩
  cases k with
  | true =>
    rw [if_pos rfl] at q4 ⊢
    refine ⟨F3, O3, P, ρ, _, g3, en.mono (s1.trans (s2.trans s3)), q4, fun w2 O4 F4 H4 z q5 s4 g4 r4 => ?_⟩
    exact ⟨F4, O4, P, y, w2, R, g4, r2.mono (s3.trans s4), r4, q5, fun d O' F' H' z q6 s5 g5 r5 => po d O' F' H' z q6 (s1.trans (s2.trans (s3.trans (s4.trans s5)))) g5 r5⟩
  | false =>
    rw [if_neg Bool.false_ne_true] at q4 ⊢
    exact po _ O3 F3 H3 _ q4 (s1.trans (s2.trans s3)) g3 (by simp only [Rep])
theorem de_chain {op op' : CmpOp} {r r' : R2D} (ho : OpD M X (compareOp op) r) (ho' : OpD M X (compareOp op') r') (ha : DE M X a fa) (hb : DE M X b fb) (hc : DE M X c fc)
    (hm : lastMarks [op, op'] [b, c] = false := by with_unfolding_all rfl) : DE M X (.Compare a [op, op'] [b, c] pos) (fChain r r' fa fb fc) := peMono (pe_chain ho ho' ha hb hc hm) fChain_lift
/-! ### and, or, not -/
variable {tA tB' : FT} {rest : List Expr}
def fAnd (t u : FT) : FT := fun ρ O Q => t ρ O fun c O1 => if c = true then u ρ O1 Q else Q false O1
def fOr (t u : FT) : FT := fun ρ O Q => t ρ O fun c O1 => if c = true then Q true O1 else u ρ O1 Q
def fNot (t : FT) : FT := fun ρ O Q => t ρ O fun c O1 => Q (!c) O1
abbrev DW (M : MX) (X : Cx) (e : Expr) (f : FT) : Prop := PW X e (liftT M X.K f)
theorem fAnd_lift : ∀ σ H Q, liftT M X.K (fAnd tA tB') σ H Q → tAnd (liftT M X.K tA) (liftT M X.K tB') σ H Q := by
  intro σ H Q h
  obtain ⟨F, O, P, ρ, R, g, en, q, po⟩ := h
  refine ⟨F, O, P, ρ, _, g, en, q, fun k O1 F1 H1 q1 s1 g1 => ?_⟩
  cases k with
  | true =>
    rw [if_pos rfl] at q1 ⊢
    exact ⟨F1, O1, P, ρ, R, g1, en.mono s1, q1, fun b O' F' H' q2 s2 g2 => po b O' F' H' q2 (s1.trans s2) g2⟩
  | false =>
    rw [if_neg Bool.false_ne_true] at q1 ⊢
    exact po _ O1 F1 H1 q1 s1 g1
theorem fOr_lift : ∀ σ H Q, liftT M X.K (fOr tA tB') σ H Q → tOr (liftT M X.K tA) (liftT M X.K tB') σ H Q := by
  intro σ H Q h
  obtain ⟨F, O, P, ρ, R, g, en, q, po⟩ := h
  refine ⟨F, O, P, ρ, _, g, en, q, fun k O1 F1 H1 q1 s1 g1 => ?_⟩
  cases k with
  | false =>
    rw [if_neg Bool.false_ne_true] at q1 ⊢
    exact ⟨F1, O1, P, ρ, R, g1, en.mono s1, q1, fun b O' F' H' q2 s2 g2 => po b O' F' H' q2 (s1.trans s2) g2⟩
  | true =>
    rw [if_pos rfl] at q1 ⊢
    exact po _ O1 F1 H1 q1 s1 g1
theorem dw_and1 (ha : DT M X a tA) : DW M X (.BoolOp .And [a] pos) tA := pw_and1 ha
theorem dw_or1 (ha : DT M X a tA) : DW M X (.BoolOp .Or [a] pos) tA := pw_or1 ha
theorem dw_and (ha : DT M X a tA) (hb : DW M X (.BoolOp .And (b :: rest) pos) tB') : DW M X (.BoolOp .And (a :: b :: rest) pos) (fAnd tA tB') := pwMono (pw_and ha hb) fAnd_lift
theorem dw_or (ha : DT M X a tA) (hb : DW M X (.BoolOp .Or (b :: rest) pos) tB') : DW M X (.BoolOp .Or (a :: b :: rest) pos) (fOr tA tB') := pwMono (pw_or ha hb) fOr_lift
theorem dt_of (h : DW M X e tA) : DT M X e tA := h.pt
theorem dt_not (ha : DT M X a tA) : DT M X (.UnaryOp .Not a pos) (fNot tA) := by
  refine ptMono (pt_not ha) fun σ H Q h => ?_
  obtain ⟨F, O, P, ρ, R, g, en, q, po⟩ := h
  exact ⟨F, O, P, ρ, _, g, en, q, fun k O1 F1 H1 q1 s1 g1 => po _ O1 F1 H1 q1 s1 g1⟩
/-- .. as values (bools) -/
def fAndV (fa fb : FE) : FE := fun ρ O Q => fa ρ O fun x O1 => ∃ c, x = .bl c ∧ if c = true then fb ρ O1 Q else Q (.bl false) O1
def fOrV (fa fb : FE) : FE := fun ρ O Q => fa ρ O fun x O1 => ∃ c, x = .bl c ∧ if c = true then Q (.bl true) O1 else fb ρ O1 Q
def fNotV (fa : FE) : FE := fun ρ O Q => fa ρ O fun x O1 => ∃ c, x = .bl c ∧ Q (.bl (!c)) O1
theorem de_one {op} (h : DE M X a fa) : DE M X (.BoolOp op [a] pos) fa := pe_one h
theorem de_and (ha : DE M X a fa) (hb : DE M X (.BoolOp .And (b :: rest) pos) fb) : DE M X (.BoolOp .And (a :: b :: rest) pos) (fAndV fa fb) := by
  refine peMono (pe_and ha hb) fun σ H Q h => ?_
  obtain ⟨F, O, P, ρ, R, g, en, q, po⟩ := h
  refine ⟨F, O, P, ρ, _, g, en, q, fun k O1 F1 H1 v q1 s1 g1 r1 => ?_⟩
  obtain ⟨c, rfl, q1⟩ := q1
  simp only [Rep] at r1
  refine ⟨c, r1, ?_⟩
  cases c with
  | true =>
    rw [if_pos rfl] at q1 ⊢
    exact ⟨F1, O1, P, ρ, R, g1, en.mono s1, q1, fun b O' F' H' v q2 s2 g2 => po b O' F' H' v q2 (s1.trans s2) g2⟩
  | false =>
    rw [if_neg Bool.false_ne_true] at q1 ⊢
    exact po _ O1 F1 H1 _ q1 s1 g1 (by simp only [Rep])
theorem de_not (ha : DE M X a fa) : DE M X (.UnaryOp .Not a pos) (fNotV fa) := by
  refine peMono (pe_not ha) fun σ H Q h => ?_
  obtain ⟨F, O, P, ρ, R, g, en, q, po⟩ := h
  refine ⟨F, O, P, ρ, _, g, en, q, fun k O1 F1 H1 v q1 s1 g1 r1 => ?_⟩
  obtain ⟨c, rfl, q1⟩ := q1
  simp only [Rep] at r1
  exact ⟨c, r1, po _ O1 F1 H1 _ q1 s1 g1 (by simp only [Rep])⟩
/-- a if t else b -/
def fIf (t : FT) (fa fb : FE) : FE := fun ρ O Q => t ρ O fun c O1 => if c = true then fa ρ O1 Q else fb ρ O1 Q
/-! ### argument lists, displays -/
def fNil : FA := fun _ O Q => Q [] O
def fCons (fa : FE) (fr : FA) : FA := fun ρ O Q => fa ρ O fun x O1 => fr ρ O1 fun xs O2 => Q (x :: xs) O2
variable {fr : FA}
theorem da_nil : DA M X [] fNil := paMono pa_nil fun σ H Q h => by
  obtain ⟨F, O, P, ρ, R, g, en, q, po⟩ := h
  exact po [] O F H [] q (Same.refl _) g .nil
theorem da_cons (ha : DE M X e fa) (hr : DA M X es fr) (hs : starEach (e :: es) X.env = (false, eval e X.env) :: starEach es X.env := by rfl) : DA M X (e :: es) (fCons fa fr) := by
  refine paMono (pa_cons ha hr hs) fun σ H Q h => ?_
  obtain ⟨F, O, P, ρ, R, g, en, q, po⟩ := h
  refine ⟨F, O, P, ρ, _, g, en, q, fun x O1 F1 H1 v q1 s1 g1 r1 => ?_⟩
  exact ⟨F1, O1, P, ρ, _, g1, en.mono s1, q1, fun xs O2 F2 H2 vs q2 s2 g2 r2 => po _ O2 F2 H2 _ q2 (s1.trans s2) g2 (.cons (r1.mono s2) r2)⟩
def fTup (fr : FA) : FE := fun ρ O Q => fr ρ O fun xs O1 => xs.length ≤ sizeLine ∧ Q (.tup xs) O1
theorem de_tup {x1} (h : DA M X es fr) : DE M X (.Tuple es x1 pos) (fTup fr) := by
  refine peMono (pe_tup h) fun σ H Q h => ?_
  obtain ⟨F, O, P, ρ, R, g, en, q, po⟩ := h
  refine ⟨F, O, P, ρ, _, g, en, q, fun xs O1 F1 H1 vs q1 s1 g1 r1 => ?_⟩
  refine ⟨by rw [← r1.length]; exact q1.1, fun p hp => ?_⟩
  have hF := g1.freeF hp
  refine po (.tup xs) O1 (upd F1 p (.tup vs)) _ _ q1.2 (s1.trans (same_upd hF)) (g1.new hp) ?_
  simp only [Rep]
  exact ⟨p, vs, rfl, .inl (.inl upd_same), r1.mono (same_upd hF)⟩
/-- a list that never changes -/
def fLst (fr : FA) : FE := fun ρ O Q => fr ρ O fun xs O1 => xs.length ≤ sizeLine ∧ Q (.lst xs) O1
theorem de_lst (h : DA M X es fr) : DE M X (.List es pos) (fLst fr) := by
  refine peMono (pe_lst h) fun σ H Q h => ?_
  obtain ⟨F, O, P, ρ, R, g, en, q, po⟩ := h
  refine ⟨F, O, P, ρ, _, g, en, q, fun xs O1 F1 H1 vs q1 s1 g1 r1 => ?_⟩
  refine ⟨by rw [← r1.length]; exact q1.1, fun p hp => ?_⟩
  have hF := g1.freeF hp
  refine po (.lst xs) O1 (upd F1 p (.lst vs)) _ _ q1.2 (s1.trans (same_upd hF)) (g1.new hp) ?_
  simp only [Rep]
  exact ⟨p, vs, rfl, upd_same, r1.mono (same_upd hF)⟩
/-- a list that is owned -/
def fLstO (fr : FA) : FE := fun ρ O Q => fr ρ O fun xs O1 => xs.length ≤ sizeLine ∧ ∀ p, O1 p = none → Q (.ref p) (updO O1 p (.lst xs))
theorem de_lstO (h : DA M X es fr) : DE M X (.List es pos) (fLstO fr) := by
  refine peMono (pe_lst h) fun σ H Q h => ?_
  obtain ⟨F, O, P, ρ, R, g, en, q, po⟩ := h
  refine ⟨F, O, P, ρ, _, g, en, q, fun xs O1 F1 H1 vs q1 s1 g1 r1 => ?_⟩
  refine ⟨by rw [← r1.length]; exact q1.1, fun p hp => ?_⟩
  exact po (.ref p) _ F1 _ _ (q1.2 p (g1.freeO hp)) s1 (g1.newO hp ⟨vs, upd_same, r1⟩) (by simp only [Rep])
/-- the law's pool: two numbers that are not negative -/
def rPool (xs : List D) (O : Ow) (Q : VD) : Prop := match xs with
  | [.int x, .int y] => 0 ≤ x ∧ 0 ≤ y ∧ y < 2147483647 ∧ ∀ p, O p = none → Q (.ref p) (updO O p .pool)
  | _ => False
def fPool (fr : FA) : FE := fun ρ O Q => fr ρ O fun xs O1 => rPool xs O1 Q
theorem de_pool (h : DA M X es fr) : DE M X (.List es pos) (fPool fr) := by
  refine peMono (pe_lst h) fun σ H Q h => ?_
  obtain ⟨F, O, P, ρ, R, g, en, q, po⟩ := h
  refine ⟨F, O, P, ρ, _, g, en, q, fun xs O1 F1 H1 vs q1 s1 g1 r1 => ?_⟩
  unfold rPool at q1
  split at q1
  · simp only [RepAll, Rep] at r1
    obtain ⟨_, _, rfl, rfl, _, _, rfl, rfl, rfl⟩ := r1
    refine ⟨show 2 ≤ sizeLine by decide, fun p hp => ?_⟩
    exact po (.ref p) _ F1 _ _ (q1.2.2.2 p (g1.freeO hp)) s1 (g1.newO hp ⟨_, _, upd_same, q1.1, q1.2.1, q1.2.2.1⟩) (by simp only [Rep])
  · exact q1.elim
end
end Kf
namespace Kf
open PySem PySem.Spec L2
open PyProof.Rows hiding St
variable {M : MX}

/-! ### data that is told apart by == -/
mutual
def toPy : D → PyData
  | .non => .none
  | .bl b => .bool b
  | .int i => .int i
  | .str x => .str x
  | .tup ds => .tuple (toPys ds)
  | .lst ds => .list (toPys ds)
  | .ref _ => .dict []
  | .ty _ => .dict []
  | .scr ns => .list (ns.map .int)
  | .edic => .dict []
  | .tupK _ => .dict []
def toPys : List D → List PyData
  | [] => []
  | d :: ds => toPy d :: toPys ds
end
mutual
def isPy : D → Bool
  | .non => true
  | .bl _ => true
  | .int _ => true
  | .str x => PyData.strOk x
  | .tup ds => isPys ds
  | .lst ds => isPys ds
  | .ref _ => false
  | .ty _ => false
  | .scr _ => false
  | .edic => false
  | .tupK _ => false
def isPys : List D → Bool
  | [] => true
  | d :: ds => isPy d && isPys ds
end
theorem toPys_map : ∀ ds : List D, toPys ds = ds.map toPy
  | [] => rfl
  | d :: ds => by rw [toPys, toPys_map ds, List.map_cons]
theorem isPys_all : ∀ ds : List D, isPys ds = ds.all isPy
  | [] => rfl
  | d :: ds => by rw [isPys, isPys_all ds, List.all_cons]
mutual
theorem isPy_lay : ∀ d : D, isPy d = true → (toPy d).canLay0 = true
  | .non, _ => by simp only [toPy, PyData.canLay0]
  | .bl _, _ => by simp only [toPy, PyData.canLay0]
  | .int _, _ => by simp only [toPy, PyData.canLay0]
  | .str x, h => by simp only [isPy] at h; simp only [toPy, PyData.canLay0]; exact h
  | .tup ds, h => by simp only [isPy] at h; simp only [toPy, PyData.canLay0]; exact isPys_lay ds h
  | .lst ds, h => by simp only [isPy] at h; simp only [toPy, PyData.canLay0]; exact isPys_lay ds h
  | .ref _, h => by simp only [isPy] at h; cases h
  | .ty _, h => by simp only [isPy] at h; cases h
  | .scr _, h => by simp only [isPy] at h; cases h
  | .edic, h => by simp only [isPy] at h; cases h
  | .tupK _, h => by simp only [isPy] at h; cases h
theorem isPys_lay : ∀ ds : List D, isPys ds = true → PyData.canLayAll0 (toPys ds) = true
  | [], _ => by simp only [toPys, PyData.canLayAll0]
  | d :: ds, h => by
    simp only [isPys, Bool.and_eq_true] at h
    simp only [toPys, PyData.canLayAll0, Bool.and_eq_true]
    exact ⟨isPy_lay d h.1, isPys_lay ds h.2⟩
end
/-- how deep a datum is -/
def dp (d : D) : Nat := (toPy d).depth
section
variable {K : PySem.W.Frag} {F H : Hp}
mutual
theorem Rep.dp (s : Same F H) : ∀ (d : D) (v : V), isPy d = true → Rep K F d v → Dp K H v (toPy d)
  | .non, v, _, r => by simp only [Rep] at r; subst r; simp only [toPy]; exact .non
  | .bl b, v, _, r => by simp only [Rep] at r; subst r; simp only [toPy]; exact .bl b
  | .int b, v, _, r => by simp only [Rep] at r; subst r; simp only [toPy]; exact .int b
  | .str b, v, _, r => by simp only [Rep] at r; subst r; simp only [toPy]; exact .str b
  | .tup ds, v, h, r => by
    simp only [isPy] at h
    simp only [Rep] at r
    obtain ⟨a, xs, rfl, r1, r2⟩ := r
    simp only [toPy]
    exact .tup (Same.seqT s r1) (RepAll.dp s ds xs h r2)
  | .lst ds, v, h, r => by
    simp only [isPy] at h
    simp only [Rep] at r
    obtain ⟨a, xs, rfl, r1, r2⟩ := r
    simp only [toPy]
    exact .lst (SqL.of (s _ _ r1)) (RepAll.dp s ds xs h r2)
  | .ref _, _, h, _ => by simp only [isPy] at h; cases h
  | .ty _, _, h, _ => by simp only [isPy] at h; cases h
  | .scr _, _, h, _ => by simp only [isPy] at h; cases h
  | .edic, _, h, _ => by simp only [isPy] at h; cases h
  | .tupK _, _, h, _ => by simp only [isPy] at h; cases h
theorem RepAll.dp (s : Same F H) : ∀ (ds : List D) (vs : List V), isPys ds = true → RepAll K F ds vs → DpAll K H vs (toPys ds)
  | [], vs, _, r => by simp only [RepAll] at r; subst r; simp only [toPys]; exact .nil
  | d :: ds, vs, h, r => by
    simp only [isPys, Bool.and_eq_true] at h
    simp only [RepAll] at r
    obtain ⟨v, q, rfl, r1, r2⟩ := r
    simp only [toPys]
    exact .cons (Rep.dp s d v h.1 r1) (RepAll.dp s ds q h.2 r2)
end
end

/-! ### an owned list read -/
def deref (O : Ow) : D → D
  | .ref a => match O a with
    | some (.lst ds) => .lst ds
    | _ => .ref a
  | d => d
/-- as Rep, but a list may be owned -/
def RepH (K : PySem.W.Frag) (F H : Hp) (d : D) (v : V) : Prop := match d with
  | .lst ds => ∃ a xs, v = .ref a ∧ H a = some (.lst xs) ∧ RepAll K F ds xs
  | d => Rep K F d v
section
variable {K : PySem.W.Frag} {F P H : Hp} {O : Ow}
theorem Gd.deref (g : Gd M K F O P H) {d : D} {v : V} (r : Rep K F d v) : RepH K F H (deref O d) v := by
  cases d with
  | lst ds =>
    simp only [Rep] at r
    obtain ⟨a, xs, e, h1, h2⟩ := r
    exact ⟨a, xs, e, g.fz _ _ h1, h2⟩
  | ref a =>
    cases e : O a with
    | none =>
      have z : Kf.deref O (.ref a) = .ref a := by simp only [Kf.deref, e]
      rw [z]; exact r
    | some c =>
      cases c with
      | pool =>
        have z : Kf.deref O (.ref a) = .ref a := by simp only [Kf.deref, e]
        rw [z]; exact r
      | dic kvs =>
        have z : Kf.deref O (.ref a) = .ref a := by simp only [Kf.deref, e]
        rw [z]; exact r
      | dicL kvs o =>
        have z : Kf.deref O (.ref a) = .ref a := by simp only [Kf.deref, e]
        rw [z]; exact r
      | exc _ _ =>
        have z : Kf.deref O (.ref a) = .ref a := by simp only [Kf.deref, e]
        rw [z]; exact r
      | ins _ _ =>
        have z : Kf.deref O (.ref a) = .ref a := by simp only [Kf.deref, e]
        rw [z]; exact r
      | dicT _ =>
        have z : Kf.deref O (.ref a) = .ref a := by simp only [Kf.deref, e]
        rw [z]; exact r
      | lst ds =>
        have z : Kf.deref O (.ref a) = .lst ds := by simp only [Kf.deref, e]
        rw [z]
        obtain ⟨_, _, vs, h1, h2⟩ := g.ow a _ e
        simp only [Rep] at r
        exact ⟨a, vs, r, h1, h2⟩
  | _ => exact r
theorem RepH.dp (s : Same F H) {d : D} {v : V} (h : isPy d = true) (r : RepH K F H d v) : Dp K H v (toPy d) := by
  cases d with
  | lst ds =>
    obtain ⟨a, xs, rfl, h1, h2⟩ := r
    simp only [isPy] at h
    simp only [toPy]
    exact .lst (SqL.of h1) (RepAll.dp s ds xs h h2)
  | _ => exact Rep.dp s _ v h r

/-- read through owned lists at any depth -/
def ddf (O : Ow) : Nat → D → D
  | 0, d => d
  | n + 1, .ref a => match O a with
    | some (.lst ds) => .lst (ds.map (ddf O n))
    | _ => .ref a
  | n + 1, .tup ds => .tup (ds.map (ddf O n))
  | n + 1, .lst ds => .lst (ds.map (ddf O n))
  | _ + 1, d => d
theorem repAll_map {f : D → D} {F' : Hp} (h : ∀ d v, Rep K F d v → Rep K F' (f d) v) : ∀ {ds : List D} {vs : List V}, RepAll K F ds vs → RepAll K F' (ds.map f) vs
  | [], _, r => by simp only [RepAll] at r; subst r; exact .nil
  | d :: ds, _, r => by
    simp only [RepAll] at r
    obtain ⟨v, w, rfl, r1, r2⟩ := r
    rw [List.map_cons]
    exact .cons (h d v r1) (repAll_map h r2)
theorem Gd.ddf (g : Gd M K F O P H) : ∀ (n : Nat) (d : D) (v : V), Rep K F d v → Rep K H (ddf O n d) v
  | 0, d, v, r => r.mono g.fz
  | n + 1, d, v, r => by
    cases d with
    | tup ds =>
      simp only [Rep] at r
      obtain ⟨a, xs, e, h1, h2⟩ := r
      simp only [Kf.ddf, Rep]
      exact ⟨a, xs, e, Same.seqT g.fz h1, repAll_map (Gd.ddf g n) h2⟩
    | lst ds =>
      simp only [Rep] at r
      obtain ⟨a, xs, e, h1, h2⟩ := r
      simp only [Kf.ddf, Rep]
      exact ⟨a, xs, e, g.fz _ _ h1, repAll_map (Gd.ddf g n) h2⟩
    | ref a =>
      cases e : O a with
      | none =>
        have z : Kf.ddf O (n + 1) (.ref a) = .ref a := by simp only [Kf.ddf, e]
        rw [z]; exact r.mono g.fz
      | some c =>
        cases c with
        | lst ds =>
          have z : Kf.ddf O (n + 1) (.ref a) = .lst (ds.map (Kf.ddf O n)) := by simp only [Kf.ddf, e]
          rw [z]
          obtain ⟨_, _, vs, h1, h2⟩ := g.ow a _ e
          simp only [Rep] at r ⊢
          exact ⟨a, vs, r, h1, repAll_map (Gd.ddf g n) h2⟩
        | _ =>
          have z : Kf.ddf O (n + 1) (.ref a) = .ref a := by simp only [Kf.ddf, e]
          rw [z]; exact r.mono g.fz
    | _ => simp only [Kf.ddf]; exact r.mono g.fz
/-! what holds no owned list is read as it is -/
theorem ddf_py {O : Ow} : ∀ (n : Nat) (d : D), isPy d = true → ddf O n d = d
  | 0, d, h => rfl
  | n + 1, d, h => by
    have hm : ∀ ds : List D, isPys ds = true → ds.map (ddf O n) = ds := fun ds hd => by
      rw [isPys_all, List.all_eq_true] at hd
      exact (List.map_congr_left fun x hx => ddf_py n x (hd x hx)).trans (List.map_id' ds)
    cases d with
    | tup ds => simp only [isPy] at h; simp only [ddf, hm ds h]
    | lst ds => simp only [isPy] at h; simp only [ddf, hm ds h]
    | ref a => simp [isPy] at h
    | _ => rfl
theorem ddf_deref {O : Ow} {n : Nat} {d : D} (h : isPy (deref O d) = true) : ddf O (n + 1) d = deref O d := by
  cases d with
  | ref a =>
    cases e : O a with
    | none =>
      have z : deref O (.ref a) = .ref a := by simp only [deref, e]
      rw [z] at h; simp [isPy] at h
    | some c =>
      cases c with
      | lst ds =>
        have z : deref O (.ref a) = .lst ds := by simp only [deref, e]
        have z2 : ddf O (n + 1) (.ref a) = .lst (ds.map (ddf O n)) := by simp only [ddf, e]
        rw [z] at h ⊢
        rw [z2]
        simp only [isPy] at h
        rw [isPys_all, List.all_eq_true] at h
        rw [(List.map_congr_left fun x hx => ddf_py n x (h x hx)).trans (List.map_id' ds)]
      | _ =>
        have z : deref O (.ref a) = .ref a := by simp only [deref, e]
        rw [z] at h; simp [isPy] at h
  | _ => exact ddf_py (n + 1) _ h
/-! ### ends -/
theorem PostE.at {R : VD} {Q : VK} {d : D} {v : V} (po : PostE M K F P R Q) (g : Gd M K F O P H) (h : R d O) (r : Rep K F d v) : Q v H := po d O F H v h (Same.refl _) g r
theorem PostE.lst {R : VD} {Q : VK} {ds : List D} {vs : List V} {p : Addr} (po : PostE M K F P R Q) (g : Gd M K F O P H) (h : R (.lst ds) O) (r : RepAll K F ds vs) (hp : H p = none) : Q (.ref p) (upd H p (.lst vs)) := by
  have hF := g.freeF hp
  refine po (.lst ds) O (upd F p (.lst vs)) _ _ h (same_upd hF) (g.new hp) ?_
  simp only [Rep]
  exact ⟨p, vs, rfl, upd_same, r.mono (same_upd hF)⟩
theorem PostE.tup {R : VD} {Q : VK} {ds : List D} {vs : List V} {p : Addr} (po : PostE M K F P R Q) (g : Gd M K F O P H) (h : R (.tup ds) O) (r : RepAll K F ds vs) (hp : H p = none) : Q (.ref p) (upd H p (.tup vs)) := by
  have hF := g.freeF hp
  refine po (.tup ds) O (upd F p (.tup vs)) _ _ h (same_upd hF) (g.new hp) ?_
  simp only [Rep]
  exact ⟨p, vs, rfl, .inl (.inl upd_same), r.mono (same_upd hF)⟩
theorem PostE.lstO {R : VD} {Q : VK} {ds : List D} {vs : List V} {p : Addr} (po : PostE M K F P R Q) (g : Gd M K F O P H) (h : ∀ p, O p = none → R (.ref p) (updO O p (.lst ds))) (r : RepAll K F ds vs) (hp : H p = none) : Q (.ref p) (upd H p (.lst vs)) :=
  po (.ref p) _ F _ _ (h p (g.freeO hp)) (Same.refl _) (g.newO hp ⟨vs, upd_same, r⟩) (by simp only [Rep])
theorem PostE.more {R : VD} {Q : VK} {F' : Hp} (po : PostE M K F P R Q) (s : Same F F') : PostE M K F' P R Q := fun d O' F2 H' v q s2 g r => po d O' F2 H' v q (s.trans s2) g r
end

section
variable {X : Cx}
theorem opD_of {f : Value → Value → Sem Value} {r : R2D}
    (h : ∀ (pins : List (Addr × Obj)) (s : Shared) (σ : St) (F P H : Hp) (O : Ow) (x y : V) (dx dy : D) (v u : Value) (R : VD) (Q : VK), Inv X pins σ H s → RelV x v → RelV y u → Gd M X.K F O P H → Rep X.K F dx x → Rep X.K F dy y → r dx dy O R → PostE M X.K F P R Q →
      ∃ r0, OpR X f r0 ∧ r0 x y H Q) : OpD M X f r := by
  intro pins s σ H x y v u Q I rx ry q
  obtain ⟨F, O, P, dx, dy, R, g, r1, r2, q, po⟩ := q
  obtain ⟨r0, o, z⟩ := h pins s σ F P H O x y dx dy v u R Q I rx ry g r1 r2 q po
  exact o pins s σ H x y v u Q I rx ry z

/-! ### + - * // % ** -/
def rAddD : R2D := fun x y O Q => match deref O x, deref O y with
  | .int i, .int j => Q (.int (i + j)) O
  | .int i, .bl k => Q (.int (i + b2i k)) O
  | .str i, .str j => i.length + j.length ≤ sizeLine ∧ Q (.str (i ++ j)) O
  | .lst xs, .lst ys => xs.length + ys.length ≤ sizeLine ∧ Q (.lst (xs ++ ys)) O
  | .tup xs, .tup ys => xs ≠ [] ∧ xs.length + ys.length ≤ sizeLine ∧ Q (.tup (xs ++ ys)) O
  | _, _ => False
/-- .. of two lists, the new one owned -/
def rCatO : R2D := fun x y O Q => match deref O x, deref O y with
  | .lst xs, .lst ys => xs.length + ys.length ≤ sizeLine ∧ ∀ p, O p = none → Q (.ref p) (updO O p (.lst (xs ++ ys)))
  | _, _ => False
theorem od_add : OpD M X (binaryOp .Add) rAddD := by
  refine opD_of fun pins s σ F P H O x y dx dy v u R Q I rx ry g r1 r2 q po => ?_
  have h1 := g.deref r1
  have h2 := g.deref r2
  unfold rAddD at q
  revert q h1 h2
  generalize Kf.deref O dx = ex
  generalize Kf.deref O dy = ey
  intro q h1 h2
  cases ex <;> cases ey <;> first | exact q.elim | skip
  · simp only [RepH, Rep] at h1 h2
    exact ⟨_, op_add_ib, _, _, h1, h2, po.at g q (by simp only [Rep])⟩
  · simp only [RepH, Rep] at h1 h2
    exact ⟨_, op_add, _, _, h1, h2, po.at g q (by simp only [Rep])⟩
  · simp only [RepH, Rep] at h1 h2
    exact ⟨_, op_add_str, _, _, h1, h2, q.1, po.at g q.2 (by simp only [Rep])⟩
  · simp only [RepH, Rep] at h1 h2
    obtain ⟨a, xs, rfl, a1, a2⟩ := h1
    obtain ⟨b, ys, rfl, b1, b2⟩ := h2
    obtain ⟨q1, q2, q3⟩ := q
    refine ⟨_, op_catT, a, b, xs, ys, rfl, rfl, Same.seqT g.fz a1, Same.seqT g.fz b1, ?_, by rw [← a2.length, ← b2.length]; exact q2, fun e => ?_, fun e p hp => ?_⟩
    · intro e; rw [e] at a2; have := a2.length; exact q1 (List.eq_nil_of_length_eq_zero (by simpa using this))
    · rw [e] at b2
      have l0 := b2.length
      rename_i ex ey
      have e0 : ey = [] := List.eq_nil_of_length_eq_zero (by simpa using l0)
      rw [e0, List.append_nil] at q3
      refine po.at g q3 ?_
      simp only [Rep]
      exact ⟨a, xs, rfl, a1, a2⟩
    · exact po.tup g q3 (a2.append b2) hp
  · obtain ⟨a, xs, rfl, a1, a2⟩ := h1
    obtain ⟨b, ys, rfl, b1, b2⟩ := h2
    exact ⟨_, op_cat, a, b, xs, ys, rfl, rfl, a1, b1, by rw [← a2.length, ← b2.length]; exact q.1, fun p hp => po.lst g q.2 (a2.append b2) hp⟩
theorem od_catO : OpD M X (binaryOp .Add) rCatO := by
  refine opD_of fun pins s σ F P H O x y dx dy v u R Q I rx ry g r1 r2 q po => ?_
  have h1 := g.deref r1
  have h2 := g.deref r2
  unfold rCatO at q
  revert q h1 h2
  generalize Kf.deref O dx = ex
  generalize Kf.deref O dy = ey
  intro q h1 h2
  cases ex <;> cases ey <;> first | exact q.elim | skip
  obtain ⟨a, xs, rfl, a1, a2⟩ := h1
  obtain ⟨b, ys, rfl, b1, b2⟩ := h2
  exact ⟨_, op_cat, a, b, xs, ys, rfl, rfl, a1, b1, by rw [← a2.length, ← b2.length]; exact q.1, fun p hp => po.lstO g q.2 (a2.append b2) hp⟩
def rInts (C : Int → Int → Prop) (f : Int → Int → D) : R2D := fun x y O Q => match x, y with
  | .int i, .int j => C i j ∧ Q (f i j) O
  | _, _ => False
theorem od_ints {f : Value → Value → Sem Value} {C : Int → Int → Prop} {g : Int → Int → V} {k : Int → Int → D} (h : OpR X f (rI C g)) (hk : ∀ F i j, Rep X.K F (k i j) (g i j)) : OpD M X f (rInts C k) := by
  refine opD_of fun pins s σ F P H O x y dx dy v u R Q I rx ry gd r1 r2 q po => ?_
  unfold rInts at q
  cases dx <;> first | exact q.elim | skip
  cases dy <;> first | exact q.elim | skip
  simp only [Rep] at r1 r2
  exact ⟨_, h, _, _, r1, r2, q.1, po.at gd q.2 (hk F _ _)⟩
def rInts0 (f : Int → Int → D) : R2D := fun x y O Q => match x, y with
  | .int i, .int j => Q (f i j) O
  | _, _ => False
theorem od_ints0 {f : Value → Value → Sem Value} {g : Int → Int → V} {k : Int → Int → D} (h : OpR X f (rI0 g)) (hk : ∀ F i j, Rep X.K F (k i j) (g i j)) : OpD M X f (rInts0 k) := by
  refine opD_of fun pins s σ F P H O x y dx dy v u R Q I rx ry gd r1 r2 q po => ?_
  unfold rInts0 at q
  cases dx <;> first | exact q.elim | skip
  cases dy <;> first | exact q.elim | skip
  simp only [Rep] at r1 r2
  exact ⟨_, h, _, _, r1, r2, po.at gd q (hk F _ _)⟩
theorem od_sub : OpD M X (binaryOp .Sub) (rInts0 fun i j => .int (i - j)) := od_ints0 op_sub fun _ _ _ => by simp only [Rep]
theorem od_mul : OpD M X (binaryOp .Mult) (rInts CMul fun i j => .int (i * j)) := od_ints op_mul fun _ _ _ => by simp only [Rep]
/-- // and divmod by a positive divisor below 2 ^ 60 -/
def CDv (i j : Int) : Prop := 0 < j ∧ j < 1329227995784915872903807060280344576
theorem CDv.w {i j : Int} (h : CDv i j) : CDivW i j := by
  obtain ⟨h1, h2⟩ := h
  exact wide_div h1 (b := 120) (by omega) (by decide) (by decide)
theorem op_fdivV : OpR X (binaryOp .FloorDiv) (rI CDv fun i j => .int (i / j)) := fun pins s σ H x y v u Q I rx ry ⟨i, j, e1, e2, c, q⟩ => op_fdivW pins s σ H x y v u Q I rx ry ⟨i, j, e1, e2, c.w, q⟩
theorem od_div : OpD M X (binaryOp .FloorDiv) (rInts CDv fun i j => .int (i / j)) := od_ints op_fdivV fun _ _ _ => by simp only [Rep]
theorem od_mod : OpD M X (binaryOp .Mod) (rInts (fun _ j => 0 < j) fun i j => .int (i % j)) := od_ints op_mod fun _ _ _ => by simp only [Rep]
theorem od_pow : OpD M X (binaryOp .Pow) (rInts CPow fun i j => .int (i ^ j.toNat)) := od_ints op_pow fun _ _ _ => by simp only [Rep]
/-! ### comparisons -/
/-- < of ints, of texts -/
def rLtD : R2D := fun x y O Q => match x, y with
  | .int i, .int j => Q (.bl (decide (i < j))) O
  | .str i, .str j => Q (.bl (decide (i.cps.toList < j.cps.toList))) O
  | _, _ => False
theorem od_lt : OpD M X (compareOp .Lt) rLtD := by
  refine opD_of fun pins s σ F P H O x y dx dy v u R Q I rx ry gd r1 r2 q po => ?_
  unfold rLtD at q
  cases dx <;> first | exact q.elim | skip
  all_goals cases dy <;> first | exact q.elim | skip
  · simp only [Rep] at r1 r2
    exact ⟨_, op_lt, _, _, r1, r2, po.at gd q (by simp only [Rep])⟩
  · simp only [Rep] at r1 r2
    exact ⟨_, op_lt_str, _, _, r1, r2, po.at gd q (by simp only [Rep])⟩
def rLeD : R2D := fun x y O Q => match x, y with
  | .int i, .int j => Q (.bl (decide (i ≤ j))) O
  | .str i, .str j => Q (.bl (!decide (j.cps.toList < i.cps.toList))) O
  | _, _ => False
theorem od_le : OpD M X (compareOp .LtE) rLeD := by
  refine opD_of fun pins s σ F P H O x y dx dy v u R Q I rx ry gd r1 r2 q po => ?_
  unfold rLeD at q
  cases dx <;> first | exact q.elim | skip
  all_goals cases dy <;> first | exact q.elim | skip
  · simp only [Rep] at r1 r2
    exact ⟨_, op_le, _, _, r1, r2, po.at gd q (by simp only [Rep])⟩
  · simp only [Rep] at r1 r2
    exact ⟨_, op_le_str, _, _, r1, r2, po.at gd q (by simp only [Rep])⟩
theorem od_gt : OpD M X (compareOp .Gt) (rInts0 fun i j => .bl (decide (j < i))) := od_ints0 op_gt fun _ _ _ => by simp only [Rep]
theorem od_ge : OpD M X (compareOp .GtE) (rInts0 fun i j => .bl (decide (j ≤ i))) := od_ints0 op_ge fun _ _ _ => by simp only [Rep]
/-- == of data; the answer by eqv -/
def rEqD (neg : Bool) : R2D := fun x y O Q => isPy (ddf O 192 x) = true ∧ isPy (ddf O 192 y) = true ∧ min (dp (ddf O 192 x)) (dp (ddf O 192 y)) ≤ 190 ∧ Q (.bl (neg ^^ PyData.eqv (toPy (ddf O 192 x)) (toPy (ddf O 192 y)))) O
theorem od_eq (hu : X.A.units + 200 < cLine) : OpD M X (compareOp .Eq) (rEqD false) := by
  intro pins s σ H x y v u Q I rx ry q
  obtain ⟨F, O, P, dx, dy, R, g, r1, r2, ⟨q1, q2, q3, q4⟩, po⟩ := q
  obtain ⟨as, w1⟩ := Dp.reads I _ x v (Rep.dp (Same.refl _) _ _ q1 (g.ddf 192 _ _ r1)) rx
  obtain ⟨bs, w2⟩ := Dp.reads I _ y u (Rep.dp (Same.refl _) _ _ q2 (g.ddf 192 _ _ r2)) ry
  have hroom : X.A.units + min (toPy (ddf O 192 dx)).depth (toPy (ddf O 192 dy)).depth < cLine := by
    have : min (toPy (ddf O 192 dx)).depth (toPy (ddf O 192 dy)).depth ≤ 190 := q3
    omega
  refine SeqAt.compareEq_reads w1 w2 (isPy_lay _ q1) (isPy_lay _ q2) hroom ⟨.bl _, H, I, rfl, ?_⟩
  rw [Bool.false_xor] at q4
  exact po.at g q4 (by simp only [Rep])
theorem od_ne (hu : X.A.units + 200 < cLine) : OpD M X (compareOp .NotEq) (rEqD true) := by
  intro pins s σ H x y v u Q I rx ry q
  obtain ⟨F, O, P, dx, dy, R, g, r1, r2, ⟨q1, q2, q3, q4⟩, po⟩ := q
  obtain ⟨as, w1⟩ := Dp.reads I _ x v (Rep.dp (Same.refl _) _ _ q1 (g.ddf 192 _ _ r1)) rx
  obtain ⟨bs, w2⟩ := Dp.reads I _ y u (Rep.dp (Same.refl _) _ _ q2 (g.ddf 192 _ _ r2)) ry
  have hroom : X.A.units + min (toPy (ddf O 192 dx)).depth (toPy (ddf O 192 dy)).depth < cLine := by
    have : min (toPy (ddf O 192 dx)).depth (toPy (ddf O 192 dy)).depth ≤ 190 := q3
    omega
  refine SeqAt.compareNe_reads w1 w2 (isPy_lay _ q1) (isPy_lay _ q2) hroom ⟨.bl _, H, I, rfl, ?_⟩
  rw [Bool.true_xor] at q4
  exact po.at g q4 (by simp only [Rep])
/-- is None, is not None -/
def isNon : D → Bool
  | .non => true
  | _ => false
theorem Rep.isNon {K : PySem.W.Frag} {F : Hp} {d : D} {v : V} (r : Rep K F d v) : decide (v = .non) = isNon d := by
  cases d <;> simp only [Rep] at r <;> first | (subst r; rfl) | (obtain ⟨a, xs, rfl, _⟩ := r; rfl) | (obtain ⟨a, rfl, _⟩ := r; rfl)
def rIsN (neg : Bool) : R2D := fun x y O Q => match y with
  | .non => Q (.bl (neg ^^ isNon x)) O
  | _ => False
theorem od_is : OpD M X (compareOp .Is) (rIsN false) := by
  refine opD_of fun pins s σ F P H O x y dx dy v u R Q I rx ry g r1 r2 q po => ?_
  unfold rIsN at q
  cases dy <;> first | exact q.elim | skip
  simp only [Rep] at r2
  refine ⟨_, op_isN, r2, ?_⟩
  rw [Bool.false_xor] at q
  rw [r1.isNon]
  exact po.at g q (by simp only [Rep])
theorem od_isnot : OpD M X (compareOp .IsNot) (rIsN true) := by
  refine opD_of fun pins s σ F P H O x y dx dy v u R Q I rx ry g r1 r2 q po => ?_
  unfold rIsN at q
  cases dy <;> first | exact q.elim | skip
  simp only [Rep] at r2
  refine ⟨_, op_notN, r2, ?_⟩
  rw [Bool.true_xor] at q
  rw [r1.isNon]
  exact po.at g q (by simp only [Rep])
def rInD (neg : Bool) : R2D := fun x y O Q => match deref O y with
  | .str z => match x with
    | .str i => ∃ c, i = ⟨#[c]⟩ ∧ Q (.bl (neg ^^ decide (c ∈ z.cps.toList))) O
    | _ => False
  | .lst ds => isPy (deref O x) = true ∧ isPys ds = true ∧ dp (deref O x) ≤ 190 ∧ Q (.bl (neg ^^ ds.any fun z => PyData.eqv (toPy z) (toPy (deref O x)))) O
  | .tup ds => isPy (deref O x) = true ∧ isPys ds = true ∧ dp (deref O x) ≤ 190 ∧ Q (.bl (neg ^^ ds.any fun z => PyData.eqv (toPy z) (toPy (deref O x)))) O
  | _ => False
theorem any_toPys (d : PyData) : ∀ ds : List D, (toPys ds).any (fun z => PyData.eqv z d) = ds.any fun z => PyData.eqv (toPy z) d
  | [] => rfl
  | x :: ds => by rw [toPys, List.any_cons, List.any_cons, any_toPys d ds]
theorem od_in_gen {op : CmpOp} {neg : Bool} (hu : X.A.units + 200 < cLine)
    (h1 : OpR X (compareOp op) (fun x y H Q => ∃ (c : Nat) (z : Str), x = .str ⟨#[c]⟩ ∧ y = .str z ∧ Q (.bl (neg ^^ decide (c ∈ z.cps.toList))) H))
    (h2 : ∀ (pins : List (Addr × Obj)) (s : Shared) (σ : St) (H : Hp) (x y : V) (v u : Value) (Q : VK) (d : PyData) (ds : List PyData), Inv X pins σ H s → RelV x v → RelV y u → Dp X.K H x d → Dp X.K H y (.list ds) → d.canLay0 = true → PyData.canLayAll0 ds = true → d.depth ≤ 190 →
      Q (.bl (neg ^^ ds.any fun z => PyData.eqv z d)) H → wpAny (model X.prog X.w) X.A (compareOp op v u) (EP X pins σ Q) X.xe s)
    (h3 : ∀ (pins : List (Addr × Obj)) (s : Shared) (σ : St) (H : Hp) (x y : V) (v u : Value) (Q : VK) (d : PyData) (ds : List PyData), Inv X pins σ H s → RelV x v → RelV y u → Dp X.K H x d → Dp X.K H y (.tuple ds) → d.canLay0 = true → PyData.canLayAll0 ds = true → d.depth ≤ 190 →
      Q (.bl (neg ^^ ds.any fun z => PyData.eqv z d)) H → wpAny (model X.prog X.w) X.A (compareOp op v u) (EP X pins σ Q) X.xe s) : OpD M X (compareOp op) (rInD neg) := by
  intro pins s σ H x y v u Q I rx ry q
  obtain ⟨F, O, P, dx, dy, R, g, r1, r2, q, po⟩ := q
  have e2 := g.deref r2
  unfold rInD at q
  revert q e2
  generalize hey : Kf.deref O dy = ey
  intro q e2
  cases ey <;> first | exact q.elim | skip
  · cases dx <;> first | exact q.elim | skip
    simp only [RepH, Rep] at e2 r1
    obtain ⟨c, rfl, q⟩ := q
    exact h1 pins s σ H x y v u Q I rx ry ⟨c, _, r1, e2, po.at g q (by simp only [Rep])⟩
  · simp only [RepH, Rep] at e2
    obtain ⟨b, ys, rfl, b1, b2⟩ := e2
    obtain ⟨q1, q2, q3, q4⟩ := q
    refine h3 pins s σ H x _ v u Q _ _ I rx ry ((g.deref r1).dp g.fz q1) (.tup (Same.seqT g.fz b1) (RepAll.dp g.fz _ ys q2 b2)) (isPy_lay _ q1) (isPys_lay _ q2) q3 ?_
    rw [any_toPys]
    exact po.at g q4 (by simp only [Rep])
  · obtain ⟨q1, q2, q3, q4⟩ := q
    obtain ⟨b, ys, rfl, b1, b2⟩ := e2
    refine h2 pins s σ H x _ v u Q _ _ I rx ry ((g.deref r1).dp g.fz q1) (.lst (SqL.of b1) (RepAll.dp g.fz _ ys q2 b2)) (isPy_lay _ q1) (isPys_lay _ q2) q3 ?_
    rw [any_toPys]
    exact po.at g q4 (by simp only [Rep])
theorem od_in (hu : X.A.units + 200 < cLine) : OpD M X (compareOp .In) (rInD false) := by
  refine od_in_gen hu (fun pins s σ H x y v u Q I rx ry q => ?_) (fun pins s σ H x y v u Q d ds I rx ry hd he c1 c2 c3 q => ?_) (fun pins s σ H x y v u Q d ds I rx ry hd he c1 c2 c3 q => ?_)
  · obtain ⟨c, z, e1, e2, q⟩ := q
    rw [Bool.false_xor] at q
    exact op_in_sign pins s σ H x y v u Q I rx ry ⟨c, z, e1, e2, q⟩
  · obtain ⟨as, r1⟩ := Dp.reads I d x v hd rx
    obtain ⟨bs, r2⟩ := Dp.reads I (.list ds) y u he ry
    rw [Bool.false_xor] at q
    exact SeqAt.in_list_reads r2 r1 c2 c1 (by omega) ⟨.bl _, H, I, rfl, q⟩
  · obtain ⟨as, r1⟩ := Dp.reads I d x v hd rx
    obtain ⟨bs, r2⟩ := Dp.reads I (.tuple ds) y u he ry
    rw [Bool.false_xor] at q
    exact SeqAt.in_tuple_reads r2 r1 c2 c1 (by omega) ⟨.bl _, H, I, rfl, q⟩
theorem od_notin (hu : X.A.units + 200 < cLine) : OpD M X (compareOp .NotIn) (rInD true) := by
  refine od_in_gen hu (fun pins s σ H x y v u Q I rx ry q => ?_) (fun pins s σ H x y v u Q d ds I rx ry hd he c1 c2 c3 q => ?_) (fun pins s σ H x y v u Q d ds I rx ry hd he c1 c2 c3 q => ?_)
  · obtain ⟨c, z, e1, e2, q⟩ := q
    rw [Bool.true_xor] at q
    exact op_notIn_sign pins s σ H x y v u Q I rx ry ⟨c, z, e1, e2, q⟩
  · obtain ⟨as, r1⟩ := Dp.reads I d x v hd rx
    obtain ⟨bs, r2⟩ := Dp.reads I (.list ds) y u he ry
    rw [Bool.true_xor] at q
    exact SeqAt.notIn_list_reads r2 r1 c2 c1 (by omega) ⟨.bl _, H, I, rfl, q⟩
  · obtain ⟨as, r1⟩ := Dp.reads I d x v hd rx
    obtain ⟨bs, r2⟩ := Dp.reads I (.tuple ds) y u he ry
    rw [Bool.true_xor] at q
    exact SeqAt.notIn_tuple_reads r2 r1 c2 c1 (by omega) ⟨.bl _, H, I, rfl, q⟩
end
end Kf
namespace Kf
open PySem PySem.Spec L2
open PyProof.Rows hiding St
variable {M : MX}

section
variable {X : Cx} {a b e : Expr} {es : List Expr} {fa fb : FE} {fr : FA} {pos p2 : Pos}

/-! ### subscripts -/
def rIxD : R2D := fun x y O Q => match deref O x, y with
  | .lst ds, .int i => match atI ds i with
    | some d => Q d O
    | none => False
  | .tup ds, .int i => match atI ds i with
    | some d => Q d O
    | none => False
  | .str z, .int i => z.length ≤ sizeLine ∧ match atI z.cps.toList i with
    | some c => Q (.str ⟨#[c]⟩) O
    | none => False
  | .scr ns, .int i => match atI ns i with
    | some n => Q (.int n) O
    | none => False
  | .ref a, .int i => match O a with
    | some .pool => (i = 0 ∧ ∀ x : Int, 0 ≤ x → Q (.int x) O) ∨ (i = 1 ∧ ∀ x : Int, 0 ≤ x → x < 2147483647 → Q (.int x) O)
    | _ => False
  | _, _ => False
theorem RepAll.atI {K : PySem.W.Frag} {F : Hp} {ds : List D} {vs : List V} {i : Int} {d : D} (r : RepAll K F ds vs) (h : atI ds i = some d) : ∃ v, L2.atI vs i = some v ∧ Rep K F d v := by
  unfold L2.atI at h ⊢
  rw [← r.length]
  obtain ⟨j, h1, h2⟩ := Option.bind_eq_some_iff.mp h
  obtain ⟨v, e, q⟩ := r.get h2
  exact ⟨v, Option.bind_eq_some_iff.mpr ⟨j, h1, e⟩, q⟩
theorem atI_map {α β : Type} (f : α → β) (xs : List α) (i : Int) : L2.atI (xs.map f) i = (L2.atI xs i).map f := by
  unfold L2.atI
  rw [List.length_map]
  cases ixN xs.length i with
  | none => rfl
  | some j => simp
theorem id_ix : IxR X (liftR2 M X.K rIxD) := by
  intro value slice pins s σ H x y v u Q I rx ry q hp
  obtain ⟨F, O, P, dx, dy, R, g, r1, r2, q, po⟩ := q
  have h1 := g.deref r1
  unfold rIxD at q
  revert q h1
  generalize Kf.deref O dx = ex
  intro q h1
  cases ex <;> first | exact q.elim | skip
  all_goals cases dy <;> first | exact q.elim | skip
  all_goals simp only [Rep] at r2; subst r2
  · rename_i z i
    simp only [RepH, Rep] at h1; subst h1
    dsimp only at q
    obtain ⟨q0, q⟩ := q
    cases e : L2.atI z.cps.toList i with
    | none => rw [e] at q; exact q.elim
    | some c =>
      rw [e] at q
      exact ix_str value slice pins s σ H _ _ v u Q I rx ry ⟨z, i, c, rfl, rfl, q0, e, po.at g q (by simp only [Rep])⟩ hp
  · rename_i ds i
    simp only [RepH, Rep] at h1
    obtain ⟨c, xs, rfl, h1, h2⟩ := h1
    dsimp only at q
    cases e : L2.atI ds i with
    | none => rw [e] at q; exact q.elim
    | some d =>
      rw [e] at q
      obtain ⟨w, e2, rw'⟩ := h2.atI e
      exact ix_tup value slice pins s σ H _ _ v u Q I rx ry ⟨c, xs, i, w, rfl, rfl, Same.seqT g.fz h1, e2, po.at g q rw'⟩ hp
  · rename_i ds i
    obtain ⟨c, xs, rfl, h1, h2⟩ := h1
    dsimp only at q
    cases e : L2.atI ds i with
    | none => rw [e] at q; exact q.elim
    | some d =>
      rw [e] at q
      obtain ⟨w, e2, rw'⟩ := h2.atI e
      exact ix_list value slice pins s σ H _ _ v u Q I rx ry ⟨c, xs, i, w, rfl, rfl, SqL.of h1, e2, po.at g q rw'⟩ hp
  · rename_i c i
    simp only [RepH, Rep] at h1
    subst h1
    dsimp only at q
    cases e : O c with
    | none => rw [e] at q; exact q.elim
    | some cl =>
      rw [e] at q
      cases cl with
      | lst _ => exact q.elim
      | dic _ => exact q.elim
      | dicL _ _ => exact q.elim
      | exc _ _ => exact q.elim
      | ins _ _ => exact q.elim
      | dicT _ => exact q.elim
      | pool =>
        obtain ⟨_, _, z, y, hH, h2, h3, h4⟩ := g.ow c _ e
        rcases q with ⟨rfl, q⟩ | ⟨rfl, q⟩
        · exact ix_list value slice pins s σ H _ _ v u Q I rx ry ⟨c, _, 0, .int z, rfl, rfl, SqL.of hH, rfl, po.at g (q z h2) (by simp only [Rep])⟩ hp
        · exact ix_list value slice pins s σ H _ _ v u Q I rx ry ⟨c, _, 1, .int y, rfl, rfl, SqL.of hH, rfl, po.at g (q y h3 h4) (by simp only [Rep])⟩ hp
  · rename_i ns i
    simp only [RepH, Rep] at h1
    obtain ⟨c, rfl, h1⟩ := h1
    dsimp only at q
    cases e : L2.atI ns i with
    | none => rw [e] at q; exact q.elim
    | some n =>
      rw [e] at q
      have e2 : L2.atI (ns.map V.int) i = some (.int n) := by rw [atI_map, e]; rfl
      exact ix_list value slice pins s σ H _ _ v u Q I rx ry ⟨c, _, i, _, rfl, rfl, g.fz.seq h1, e2, po.at g q (by simp only [Rep])⟩ hp
theorem de_ix (ha : DE M X a fa) (hb : DE M X b fb) (hs : PlainIx b := by intro _ _; rfl) : DE M X (.Subscript a b pos) (fOp rIxD fa fb) := peMono (pe_ix id_ix ha hb hs) fOp_lift
/-! ### slices -/
abbrev FO := DEnv → Ow → (Option Int → Ow → Prop) → Prop
def liftO (M : MX) (K : PySem.W.Frag) (f : FO) : TO := fun σ H Q => ∃ F O P ρ R, Gd M K F O P H ∧ EnvOk K F ρ σ ∧ f ρ O R ∧ ∀ o O' F' H', R o O' → Same F F' → Gd M K F' O' P H' → Q o H'
abbrev DO (M : MX) (X : Cx) (e : Option Expr) (f : FO) : Prop := PO X e (liftO M X.K f)
theorem poMono {X : Cx} {e : Option Expr} {t t' : TO} (h : PO X e t) (imp : ∀ σ H Q, t' σ H Q → t σ H Q) : PO X e t' := ⟨fun pins s σ H Q I q => h.run pins s σ H Q I (imp σ H Q q)⟩
def fNoPart : FO := fun _ O Q => Q none O
def asI (d : D) (O : Ow) (Q : Option Int → Ow → Prop) : Prop := match d with
  | .int i => Q (some i) O
  | _ => False
theorem asI_i {i : Int} {O : Ow} {Q : Option Int → Ow → Prop} : asI (.int i) O Q = Q (some i) O := rfl
def fPart (f : FE) : FO := fun ρ O Q => f ρ O fun d O1 => asI d O1 Q
theorem do_none : DO M X none fNoPart := poMono po_none fun σ H Q h => by
  obtain ⟨F, O, P, ρ, R, g, en, q, po⟩ := h
  exact po none O F H q (Same.refl _) g
theorem do_some (h : DE M X e fa) : DO M X (some e) (fPart fa) := poMono (po_some h) fun σ H Q h => by
  obtain ⟨F, O, P, ρ, R, g, en, q, po⟩ := h
  refine ⟨F, O, P, ρ, _, g, en, q, fun d O' F' H' v q1 s1 g1 r1 => ?_⟩
  unfold asI at q1
  cases d <;> first | exact q1.elim | skip
  simp only [Rep] at r1
  exact ⟨_, r1, po _ O' F' H' q1 s1 g1⟩
def cut {α : Type} (xs : List α) (lo hi : Option Int) : List α := (xs.drop (HT.sIx xs.length 0 lo)).take (HT.sIx xs.length xs.length hi - HT.sIx xs.length 0 lo)
theorem RepAll.cut {K : PySem.W.Frag} {F : Hp} {ds : List D} {vs : List V} (r : RepAll K F ds vs) (lo hi : Option Int) : RepAll K F (Kf.cut ds lo hi) (cutV vs lo hi) := by
  unfold Kf.cut cutV
  rw [r.length]
  exact (r.drop _).take _
abbrev R3D := D → Option Int → Option Int → Ow → VD → Prop
def rSlD : R3D := fun x lo hi O Q => match deref O x with
  | .lst ds => Q (.lst (cut ds lo hi)) O
  | .tup ds => ¬ (HT.sIx ds.length 0 lo = 0 ∧ HT.sIx ds.length ds.length hi = ds.length) ∧ Q (.tup (cut ds lo hi)) O
  | .str z => z.length ≤ sizeLine ∧ Q (.str (cutS z lo hi)) O
  | _ => False
def liftR3 (M : MX) (K : PySem.W.Frag) (r : R3D) : V → Option Int → Option Int → Hp → VK → Prop := fun x lo hi H Q => ∃ F O P dx R, Gd M K F O P H ∧ Rep K F dx x ∧ r dx lo hi O R ∧ PostE M K F P R Q
theorem sd_sl : SlR X (liftR3 M X.K rSlD) := by
  intro pins s σ H x v vl vu lo hi sl Q I rx hs pl pu q
  obtain ⟨F, O, P, dx, R, g, r1, q, po⟩ := q
  have h1 := g.deref r1
  unfold rSlD at q
  revert q h1
  generalize Kf.deref O dx = ex
  intro q h1
  cases ex <;> first | exact q.elim | skip
  · simp only [RepH, Rep] at h1
    exact sl_str pins s σ H x v vl vu lo hi sl Q I rx hs pl pu ⟨_, h1, q.1, po.at g q.2 (by simp only [Rep])⟩
  · simp only [RepH, Rep] at h1
    obtain ⟨c, xs, rfl, h1, h2⟩ := h1
    refine sl_tup pins s σ H _ v vl vu lo hi sl Q I rx hs pl pu ⟨c, xs, rfl, Same.seqT g.fz h1, by rw [← h2.length]; exact q.1, fun p hp => po.tup g q.2 (h2.cut lo hi) hp⟩
  · obtain ⟨c, xs, rfl, h1, h2⟩ := h1
    exact sl_list pins s σ H _ v vl vu lo hi sl Q I rx hs pl pu ⟨c, xs, rfl, SqL.of h1, fun p hp => po.lst g q (h2.cut lo hi) hp⟩
def fSl (r : R3D) (fe : FE) (fl fh : FO) : FE := fun ρ O Q => fe ρ O fun x O1 => fl ρ O1 fun l O2 => fh ρ O2 fun u O3 => r x l u O3 Q
theorem de_sliceR {r : R3D} {lo hi : Option Expr} {fl fh : FO} (hr : SlR X (liftR3 M X.K r)) (he : DE M X e fa) (hl : DO M X lo fl) (hu : DO M X hi fh) : DE M X (.Subscript e (.Slice lo hi none p2) pos) (fSl r fa fl fh) := by
  refine peMono (pe_slice hr he hl hu) fun σ H Q h => ?_
  obtain ⟨F, O, P, ρ, R, g, en, q, po⟩ := h
  refine ⟨F, O, P, ρ, _, g, en, q, fun x O1 F1 H1 v q1 s1 g1 r1 => ?_⟩
  refine ⟨F1, O1, P, ρ, _, g1, en.mono s1, q1, fun l O2 F2 H2 q2 s2 g2 => ?_⟩
  refine ⟨F2, O2, P, ρ, _, g2, en.mono (s1.trans s2), q2, fun u O3 F3 H3 q3 s3 g3 => ?_⟩
  exact ⟨F3, O3, P, x, R, g3, r1.mono (s2.trans s3), q3, po.more (s1.trans (s2.trans s3))⟩
theorem de_slice {lo hi : Option Expr} {fl fh : FO} (he : DE M X e fa) (hl : DO M X lo fl) (hu : DO M X hi fh) : DE M X (.Subscript e (.Slice lo hi none p2) pos) (fSl rSlD fa fl fh) := de_sliceR sd_sl he hl hu
/-! ### -a -/
def rNeg : R1D := fun x O Q => match x with
  | .int i => Q (.int (-i)) O
  | _ => False
def fUn (r : R1D) (f : FE) : FE := fun ρ O Q => f ρ O fun x O1 => r x O1 Q
theorem de_neg (ha : DE M X a fa) : DE M X (.UnaryOp .USub a pos) (fUn rNeg fa) := by
  refine peMono (pe_un un_neg ha) fun σ H Q h => ?_
  obtain ⟨F, O, P, ρ, R, g, en, q, po⟩ := h
  refine ⟨F, O, P, ρ, _, g, en, q, fun x O1 F1 H1 v q1 s1 g1 r1 => ?_⟩
  cases x <;> first | exact q1.elim | skip
  simp only [Rep] at r1
  exact ⟨_, r1, (po.more s1).at g1 q1 (by simp only [Rep])⟩
/-! ### calls of built-ins -/
abbrev RAD := List D → Ow → VD → Prop
abbrev CallD (M : MX) (X : Cx) (f : Value) (r : RAD) : Prop := CallR X f (liftRA M X.K r)
def fCB (r : RAD) (fr : FA) : FE := fun ρ O Q => fr ρ O fun ds O1 => r ds O1 Q
theorem fCB_lift {r : RAD} : ∀ σ H Q, liftE M X.K (fCB r fr) σ H Q → tCB (liftRA M X.K r) (liftA M X.K fr) σ H Q := by
  intro σ H Q h
  obtain ⟨F, O, P, ρ, R, g, en, q, po⟩ := h
  refine ⟨F, O, P, ρ, _, g, en, q, fun ds O1 F1 H1 vs q1 s1 g1 r1 => ?_⟩
  exact ⟨F1, O1, P, ds, R, g1, r1, q1, po.more s1⟩
theorem de_callB {id : String} {r : RAD} {x : Str} {p : Pos} (hc : CallD M X (.builtin id) r) (hg : Gl X x) (hm : X.mg x = none) (hv : bootBuiltins x = some (.builtin id)) (ha : DA M X (e :: es) fr) (hn : x ≠ "__name__" := by decide) (hdb : (x == ("__debug__" : Str)) = false := by decide)
    (he : starEach (e :: es) X.env = (false, eval e X.env) :: starEach es X.env := by rfl) (hpl : (backTo pos (starEach es X.env)).any (·.1) = false := by rfl) : DE M X (.Call (.Name x p) (e :: es) [] pos) (fCB r fr) :=
  peMono (pe_callB hc hg hm hv ha hn hdb he hpl) fCB_lift
theorem de_callTy {T : String} {r : RAD} {x : Str} {p : Pos} (hc : CallD M X (.type T) r) (hg : Gl X x) (hm : X.mg x = none) (hv : bootBuiltins x = some (.type T)) (ha : DA M X (e :: es) fr) (hn : x ≠ "__name__" := by decide) (hdb : (x == ("__debug__" : Str)) = false := by decide)
    (he : starEach (e :: es) X.env = (false, eval e X.env) :: starEach es X.env := by rfl) (hpl : (backTo pos (starEach es X.env)).any (·.1) = false := by rfl) : DE M X (.Call (.Name x p) (e :: es) [] pos) (fCB r fr) :=
  peMono (pe_callTy hc hg hm hv ha hn hdb he hpl) fCB_lift
theorem callD_of {f : Value} {r : RAD}
    (h : ∀ (F P H : Hp) (O : Ow) (xs : List V) (ds : List D) (R : VD) (Q : VK), Gd M X.K F O P H → RepAll X.K F ds xs → r ds O R → PostE M X.K F P R Q → ∃ r0, CallR X f r0 ∧ r0 xs H Q) : CallD M X f r := by
  intro pins s σ H xs us Q I rx q
  obtain ⟨F, O, P, ds, R, g, r1, q, po⟩ := q
  obtain ⟨r0, o, z⟩ := h F P H O xs ds R Q g r1 q po
  exact o pins s σ H xs us Q I rx z
/-- len -/
def rLenD : RAD := fun ds O Q => match ds with
  | [x] => match deref O x with
    | .lst ds => Q (.int ds.length) O
    | .tup ds => Q (.int ds.length) O
    | .str z => z.length ≤ sizeLine ∧ Q (.int z.length) O
    | .scr ns => Q (.int ns.length) O
    | _ => False
  | _ => False
theorem RepAll.one' {K : PySem.W.Frag} {F : Hp} {d : D} {vs : List V} (h : RepAll K F [d] vs) : ∃ v, vs = [v] ∧ Rep K F d v := by
  simp only [RepAll] at h
  obtain ⟨v, r, rfl, h1, rfl⟩ := h
  exact ⟨v, rfl, h1⟩
theorem RepAll.two' {K : PySem.W.Frag} {F : Hp} {d e : D} {vs : List V} (h : RepAll K F [d, e] vs) : ∃ v w, vs = [v, w] ∧ Rep K F d v ∧ Rep K F e w := by
  simp only [RepAll] at h
  obtain ⟨v, r, rfl, h1, w, r2, rfl, h2, rfl⟩ := h
  exact ⟨v, w, rfl, h1, h2⟩
theorem cd_len : CallD M X (.builtin "len") rLenD := by
  refine callD_of fun F P H O xs ds R Q g r1 q po => ?_
  match ds, q with
  | [x], q =>
    obtain ⟨v, rfl, r1'⟩ := r1.one'
    have h1 := g.deref r1'
    unfold rLenD at q
    dsimp only at q
    revert q h1
    generalize Kf.deref O x = ex
    intro q h1
    cases ex <;> first | exact q.elim | skip
    · simp only [RepH, Rep] at h1
      exact ⟨_, call_len_str, _, by rw [h1], q.1, po.at g q.2 (by simp only [Rep])⟩
    · simp only [RepH, Rep] at h1
      obtain ⟨c, xs, rfl, h1, h2⟩ := h1
      exact ⟨_, call_len_seq, c, xs, rfl, .inr (Same.seqT g.fz h1), po.at g q (by simp only [Rep]; rw [h2.length])⟩
    · obtain ⟨c, xs, rfl, h1, h2⟩ := h1
      exact ⟨_, call_len_seq, c, xs, rfl, .inl (SqL.of h1), po.at g q (by simp only [Rep]; rw [h2.length])⟩
    · simp only [RepH, Rep] at h1
      obtain ⟨c, rfl, h1⟩ := h1
      exact ⟨_, call_len_seq, c, _, rfl, .inl (g.fz.seq h1), po.at g q (by simp only [Rep]; rw [List.length_map])⟩
/-- max, min of two ints -/
def rMax2 : RAD := fun ds O Q => match ds with
  | [.int i, .int j] => Q (.int (if j > i then j else i)) O
  | _ => False
def rMin2 : RAD := fun ds O Q => match ds with
  | [.int i, .int j] => Q (.int (if j < i then j else i)) O
  | _ => False
theorem cd_max2 (hc : X.calm = true) : CallD M X (.builtin "max") rMax2 := by
  refine callD_of fun F P H O xs ds R Q g r1 q po => ?_
  unfold rMax2 at q
  split at q
  · obtain ⟨v, w, rfl, h1, h2⟩ := r1.two'
    simp only [Rep] at h1 h2
    exact ⟨_, call_max2 hc, _, _, by rw [h1, h2], po.at g q (by simp only [Rep])⟩
  · exact q.elim
theorem cd_min2 (hc : X.calm = true) : CallD M X (.builtin "min") rMin2 := by
  refine callD_of fun F P H O xs ds R Q g r1 q po => ?_
  unfold rMin2 at q
  split at q
  · obtain ⟨v, w, rfl, h1, h2⟩ := r1.two'
    simp only [Rep] at h1 h2
    exact ⟨_, call_min2 hc, _, _, by rw [h1, h2], po.at g q (by simp only [Rep])⟩
  · exact q.elim
/-- int(i), int(b); str(i) -/
def rInt1 : RAD := fun ds O Q => match ds with
  | [.int i] => Q (.int i) O
  | [.bl k] => Q (.int (if k then 1 else 0)) O
  | _ => False
theorem cd_int1 : CallD M X (.type "int") rInt1 := by
  refine callD_of fun F P H O xs ds R Q g r1 q po => ?_
  unfold rInt1 at q
  split at q
  · obtain ⟨v, rfl, h1⟩ := r1.one'
    simp only [Rep] at h1
    exact ⟨_, call_int1, .inl ⟨_, by rw [h1], po.at g q (by simp only [Rep])⟩⟩
  · obtain ⟨v, rfl, h1⟩ := r1.one'
    simp only [Rep] at h1
    exact ⟨_, call_int1, .inr ⟨_, by rw [h1], po.at g q (by simp only [Rep])⟩⟩
  · exact q.elim
def rStr1 : RAD := fun ds O Q => match ds with
  | [.int i] => i.natAbs.log2 < 1920 ∧ Q (.str (toString i)) O
  | _ => False
/-- list(x): a new list; tuple(x) -/
def rList1 : RAD := fun ds O Q => match ds with
  | [x] => match deref O x with
    | .lst ds => Q (.lst ds) O
    | .tup ds => Q (.lst ds) O
    | _ => False
  | _ => False
def rList1O : RAD := fun ds O Q => match ds with
  | [x] => match deref O x with
    | .lst ds => ∀ p, O p = none → Q (.ref p) (updO O p (.lst ds))
    | .tup ds => ∀ p, O p = none → Q (.ref p) (updO O p (.lst ds))
    | _ => False
  | _ => False
def rTup1 : RAD := fun ds O Q => match ds with
  | [x] => match deref O x with
    | .lst ds => Q (.tup ds) O
    | .tup ds => Q (.tup ds) O
    | _ => False
  | _ => False
theorem cd_list1O : CallD M X (.type "list") rList1O := by
  refine callD_of fun F P H O xs ds R Q g r1 q po => ?_
  match ds, q with
  | [x], q =>
    obtain ⟨v, rfl, r1'⟩ := r1.one'
    have h1 := g.deref r1'
    unfold rList1O at q
    dsimp only at q
    revert q h1
    generalize Kf.deref O x = ex
    intro q h1
    cases ex <;> first | exact q.elim | skip
    · simp only [RepH, Rep] at h1
      obtain ⟨c, xs, rfl, h1, h2⟩ := h1
      exact ⟨_, call_list_of, c, xs, rfl, .inr (Same.seqT g.fz h1), fun p hp => po.lstO g q h2 hp⟩
    · obtain ⟨c, xs, rfl, h1, h2⟩ := h1
      exact ⟨_, call_list_of, c, xs, rfl, .inl (SqL.of h1), fun p hp => po.lstO g q h2 hp⟩
/-- sum of a list of ints -/
def asInts : List D → Option (List Int)
  | [] => some []
  | .int i :: ds => (asInts ds).map (i :: ·)
  | _ :: _ => none
theorem asInts_map (ns : List Int) : asInts (ns.map D.int) = some ns := by
  induction ns with
  | nil => rfl
  | cons n ns ih => rw [List.map_cons, asInts, ih]; rfl
theorem of_asInts : ∀ {ds : List D} {ns : List Int}, asInts ds = some ns → ds = ns.map D.int
  | [], ns, h => by cases h; rfl
  | d :: ds, ns, h => by
    cases d <;> simp only [asInts] at h <;> first | cases h | skip
    obtain ⟨m, h1, rfl⟩ := Option.map_eq_some_iff.mp h
    rw [of_asInts h1]; rfl
def rSumD : RAD := fun ds O Q => match ds with
  | [x] => match deref O x with
    | .lst ds => match asInts ds with
      | some ns => Q (.int ns.sum) O
      | none => False
    | _ => False
  | _ => False
theorem cd_sum (hc : X.calm = true) : CallD M X (.builtin "sum") rSumD := by
  refine callD_of fun F P H O xs ds R Q g r1 q po => ?_
  match ds, q with
  | [x], q =>
    obtain ⟨v, rfl, r1'⟩ := r1.one'
    have h1 := g.deref r1'
    unfold rSumD at q
    dsimp only at q
    revert q h1
    generalize Kf.deref O x = ex
    intro q h1
    cases ex <;> first | exact q.elim | skip
    rename_i ds
    obtain ⟨c, xs, rfl, h1, h2⟩ := h1
    dsimp only at q
    cases e : asInts ds with
    | none => rw [e] at q; exact q.elim
    | some ns =>
      rw [e] at q
      rw [of_asInts e] at h2
      have e3 := h2.ints
      subst e3
      exact ⟨_, cr_sum hc, c, ns, rfl, SqL.of h1, po.at g q (by simp only [Rep])⟩
/-- divmod: a new tuple -/
def rDivmod : RAD := fun ds O Q => match ds with
  | [.int i, .int j] => CDv i j ∧ Q (.tup [.int (i / j), .int (i % j)]) O
  | _ => False
/-! ### isinstance -/
def tyNm (O : Ow) : D → String
  | .non => "NoneType"
  | .bl _ => "bool"
  | .int _ => "int"
  | .str _ => "str"
  | .tup _ => "tuple"
  | .lst _ => "list"
  | .edic => "dict"
  | .ref a => match O a with
    | some (.lst _) => "list"
    | some .pool => "list"
    | some (.dic _) => "dict"
    | _ => ""
  | _ => ""
def insOf (t n : String) : Bool := t == n || (t == "bool" && n == "int")
def insTy : List String := ["NoneType", "bool", "int", "str", "tuple", "list", "dict"]
def insCl : List String := ["bool", "int", "str", "tuple", "list", "dict"]
theorem ins_kit : (insTy.all fun t => insCl.all fun n => decide (kitB t n = some (insOf t n))) = true := by decide +kernel
theorem ins_kit' {t n : String} (ht : t ∈ insTy) (hn : n ∈ insCl) : kitB t n = some (insOf t n) := by
  have h := List.all_eq_true.mp (List.all_eq_true.mp ins_kit t ht) n hn
  exact of_decide_eq_true h
def rIsiD : RAD := fun ds O Q => match ds with
  | [x, .ty n] => insCl.contains n = true ∧ insTy.contains (tyNm O x) = true ∧ Q (.bl (insOf (tyNm O x) n)) O
  | _ => False
theorem tyX_of {K : PySem.W.Frag} {F P H : Hp} {O : Ow} {d : D} {v : V} (g : Gd M K F O P H) (r : Rep K F d v) (h : insTy.contains (tyNm O d) = true) : TyX K H v (.type (tyNm O d)) := by
  cases d with
  | non => simp only [Rep] at r; subst r; exact .base .non
  | bl b => simp only [Rep] at r; subst r; exact .base (.bl b)
  | int i => simp only [Rep] at r; subst r; exact .base (.int i)
  | str x => simp only [Rep] at r; subst r; exact .base (.str x)
  | tup ds =>
    simp only [Rep] at r
    obtain ⟨a, xs, rfl, h1, _⟩ := r
    rcases h1 with (h1 | ⟨o, h1⟩) | ⟨o, its, n, h1, h2, _⟩
    · exact .base (.tup (g.fz _ _ h1))
    · exact .fTuple (g.fz _ _ h1)
    · exact .kTuple h1 h2
  | lst ds =>
    simp only [Rep] at r
    obtain ⟨a, xs, rfl, h1, _⟩ := r
    exact .base (.lst (g.fz _ _ h1))
  | tupK ks =>
    have z : tyNm O (.tupK ks) = "" := rfl
    rw [z] at h; exact absurd h (by decide)
  | edic =>
    simp only [Rep] at r
    obtain ⟨a, rfl, h1⟩ := r
    exact .base (.dK (g.fz _ _ h1))
  | ref a =>
    simp only [Rep] at r
    subst r
    cases e : O a with
    | none =>
      have z : tyNm O (.ref a) = "" := by simp only [tyNm, e]
      rw [z] at h; exact absurd h (by decide)
    | some c =>
      have q := (g.ow a c e).2.2
      cases c with
      | lst ds =>
        have z : tyNm O (.ref a) = "list" := by simp only [tyNm, e]
        rw [z]; obtain ⟨vs, q, _⟩ := q; exact .base (.lst q)
      | pool =>
        have z : tyNm O (.ref a) = "list" := by simp only [tyNm, e]
        rw [z]; obtain ⟨x, y, q, _⟩ := q; exact .base (.lst q)
      | dic kvs =>
        have z : tyNm O (.ref a) = "dict" := by simp only [tyNm, e]
        rw [z]; obtain ⟨vs, q, _⟩ := q; exact .base (.dK q)
      | dicL kvs o =>
        have z : tyNm O (.ref a) = "" := by simp only [tyNm, e]
        rw [z] at h; exact absurd h (by decide)
      | exc _ _ =>
        have z : tyNm O (.ref a) = "" := by simp only [tyNm, e]
        rw [z] at h; exact absurd h (by decide)
      | ins _ _ =>
        have z : tyNm O (.ref a) = "" := by simp only [tyNm, e]
        rw [z] at h; exact absurd h (by decide)
      | dicT _ =>
        have z : tyNm O (.ref a) = "" := by simp only [tyNm, e]
        rw [z] at h; exact absurd h (by decide)
  | ty n => simp [tyNm, insTy] at h
  | scr ns => simp [tyNm, insTy] at h
theorem cd_isi : CallD M X (.builtin "isinstance") rIsiD := by
  refine callD_of fun F P H O xs ds R Q g r1 q po => ?_
  unfold rIsiD at q
  split at q
  · obtain ⟨v, w, rfl, h1, h2⟩ := r1.two'
    simp only [Rep] at h2
    subst h2
    obtain ⟨q1, q2, q3⟩ := q
    exact ⟨_, call_isi, _, _, _, _, _, rfl, .ty _, tyX_of g h1 q2, kit_ty (ins_kit' (by simpa using q2) (by simpa using q1)), po.at g q3 (by simp only [Rep])⟩
  · exact q.elim
/-! ### methods of built-in types -/
abbrev RMD := D → List D → Ow → VD → Prop
def liftRM (M : MX) (K : PySem.W.Frag) (r : RMD) : V → List V → Hp → VK → Prop := fun x xs H Q => ∃ F O P dx ds R, Gd M K F O P H ∧ Rep K F dx x ∧ RepAll K F ds xs ∧ r dx ds O R ∧ PostE M K F P R Q
abbrev MtD (M : MX) (X : Cx) (id : String) (r : RMD) : Prop := MtR X id (liftRM M X.K r)
def tyOk (T : String) (O : Ow) (d : D) : Bool := T == "list" && tyNm O d == "list" || T == "str" && tyNm O d == "str"
theorem tyV_of {K : PySem.W.Frag} {F P H : Hp} {O : Ow} {d : D} {v : V} {T : String} (g : Gd M K F O P H) (r : Rep K F d v) (h : tyOk T O d = true) : tyV K T v H := by
  unfold tyOk at h
  rw [Bool.or_eq_true, Bool.and_eq_true, Bool.and_eq_true] at h
  rcases h with ⟨h1, h2⟩ | ⟨h1, h2⟩
  · have e1 : T = "list" := by simpa using h1
    have e2 : tyNm O d = "list" := by simpa using h2
    subst e1
    cases d <;> first | (simp [tyNm] at e2; done) | skip
    · simp only [Rep] at r
      obtain ⟨a, xs, rfl, q, _⟩ := r
      exact Or.inl ⟨rfl, xs, SqL.of (g.fz _ _ q)⟩
    · rename_i a
      simp only [Rep] at r
      subst r
      cases e : O a with
      | none => simp [tyNm, e] at e2
      | some c =>
        have q := (g.ow a c e).2.2
        cases c with
        | lst ds => obtain ⟨vs, q, _⟩ := q; exact Or.inl ⟨rfl, vs, SqL.of q⟩
        | pool => obtain ⟨x, y, q, _⟩ := q; exact Or.inl ⟨rfl, _, SqL.of q⟩
        | dic _ => simp [tyNm, e] at e2
        | dicL _ _ => simp [tyNm, e] at e2
        | exc _ _ => simp [tyNm, e] at e2
        | ins _ _ => simp [tyNm, e] at e2
        | dicT _ => simp [tyNm, e] at e2
  · have e1 : T = "str" := by simpa using h1
    have e2 : tyNm O d = "str" := by simpa using h2
    subst e1
    cases d <;> first | (simp [tyNm] at e2; done) | skip
    · simp only [Rep] at r; subst r; rfl
    · rename_i a
      cases e : O a with
      | none => simp [tyNm, e] at e2
      | some c => cases c <;> simp [tyNm, e] at e2
def fBM (T : String) (r : RMD) (fo : FE) (fr : FA) : FE := fun ρ O Q => fo ρ O fun x O1 => tyOk T O1 x = true ∧ fr ρ O1 fun ds O2 => r x ds O2 Q
def fBM0 (T : String) (r : RMD) (fo : FE) : FE := fun ρ O Q => fo ρ O fun x O1 => tyOk T O1 x = true ∧ r x [] O1 Q
variable {o : Expr} {fo : FE} {name : Str} {apos cpos : Pos} {T id : String} {r : RMD}
theorem de_bm (pa : PlainAttrs T) (slot : Slot T name id) (hty : typeOf (.builtin id) = pure (.type "method_descriptor")) (hm : MtD M X id r) (ho : DE M X o fo) (ha : DA M X (e :: es) fr)
    (hbase : attributeBase o name X.env (eval o X.env) = eval o X.env := by rfl)
    (hfew : ((backTo cpos (starEach (e :: es) X.env)).all (fun x => !x.1) && (backToKw cpos (keywordEach [] X.env)).all (fun x => x.1.isSome)
      && decide ((e :: es).length + ([] : List Keyword).length + (if ([] : List Keyword).isEmpty then 0 else 1) < 30)) = true := by rfl)
    (hline : (apos.endLine == cpos.line) = true := by rfl) (hs : starEach (e :: es) X.env = (false, eval e X.env) :: starEach es X.env := by rfl) (hplain : (backTo cpos (starEach es X.env)).any (·.1) = false := by rfl) :
    DE M X (.Call (.Attribute o name apos) (e :: es) [] cpos) (fBM T r fo fr) := by
  refine peMono (pe_bm pa slot hty hm ho ha hbase hfew hline hs hplain) fun σ H Q h => ?_
  obtain ⟨F, O, P, ρ, R, g, en, q, po⟩ := h
  refine ⟨F, O, P, ρ, _, g, en, q, fun x O1 F1 H1 v q1 s1 g1 r1 => ⟨tyV_of g1 r1 q1.1, ?_⟩⟩
  refine ⟨F1, O1, P, ρ, _, g1, en.mono s1, q1.2, fun ds O2 F2 H2 vs q2 s2 g2 r2 => ?_⟩
  exact ⟨F2, O2, P, x, ds, R, g2, r1.mono s2, r2, q2, po.more (s1.trans s2)⟩
theorem mtD_of {id : String} {r : RMD}
    (h : ∀ (F P H : Hp) (O : Ow) (x : V) (xs : List V) (dx : D) (ds : List D) (R : VD) (Q : VK), Gd M X.K F O P H → Rep X.K F dx x → RepAll X.K F ds xs → r dx ds O R → PostE M X.K F P R Q → ∃ r0, MtR X id r0 ∧ r0 x xs H Q) : MtD M X id r := by
  intro pins s σ H x xs v us Q I rx rxs q
  obtain ⟨F, O, P, dx, ds, R, g, r1, r2, q, po⟩ := q
  obtain ⟨r0, o, z⟩ := h F P H O x xs dx ds R Q g r1 r2 q po
  exact o pins s σ H x xs v us Q I rx rxs z
/-- xs.append(y), an owned list -/
def rAppendD : RMD := fun x ds O Q => match x, ds with
  | .ref a, [y] => match O a with
    | some (.lst xs) => xs.length < sizeLine ∧ Q .non (updO O a (.lst (xs ++ [y])))
    | _ => False
  | _, _ => False
theorem md_append : MtD M X "list.append" rAppendD := by
  refine mtD_of fun F P H O x xs dx ds R Q g r1 r2 q po => ?_
  unfold rAppendD at q
  split at q
  · rename_i a y
    obtain ⟨v, rfl, r2'⟩ := r2.one'
    simp only [Rep] at r1
    subst r1
    cases e : O a with
    | none => rw [e] at q; exact q.elim
    | some c =>
      rw [e] at q
      cases c with
      | pool => exact q.elim
      | dic _ => exact q.elim
      | dicL _ _ => exact q.elim
      | exc _ _ => exact q.elim
      | ins _ _ => exact q.elim
      | dicT _ => exact q.elim
      | lst zs =>
        obtain ⟨_, _, vs, h1, h2⟩ := g.ow a _ e
        refine ⟨_, mt_append, a, vs, v, rfl, rfl, h1, by rw [← h2.length]; exact q.1, ?_⟩
        exact po .non _ F _ _ q.2 (Same.refl _) (g.setO e ⟨_, upd_same, h2.append (.one r2')⟩) (by simp only [Rep])
  · exact q.elim
/-- sep.join(xs) -/
def asStrs : List D → Option (List Str)
  | [] => some []
  | .str i :: ds => (asStrs ds).map (i :: ·)
  | _ :: _ => none
theorem asStrs_map (ns : List Str) : asStrs (ns.map D.str) = some ns := by
  induction ns with
  | nil => rfl
  | cons n ns ih => rw [List.map_cons, asStrs, ih]; rfl
theorem of_asStrs : ∀ {ds : List D} {ns : List Str}, asStrs ds = some ns → ds = ns.map D.str
  | [], ns, h => by cases h; rfl
  | d :: ds, ns, h => by
    cases d <;> simp only [asStrs] at h <;> first | cases h | skip
    obtain ⟨m, h1, rfl⟩ := Option.map_eq_some_iff.mp h
    rw [of_asStrs h1]; rfl
end
end Kf
namespace Kf
open PySem PySem.Spec L2
open PyProof.Rows hiding St
variable {M : MX}

/-! ### statements -/
structure DEnds where
  nx : DEnv → Ow → Prop
  rt : VD
  bk : DEnv → Ow → Prop := fun _ _ => False
  ct : DEnv → Ow → Prop := fun _ _ => False
abbrev GS := DEnds → DEnv → Ow → Prop
def PostN (M : MX) (K : PySem.W.Frag) (F P : Hp) (R : DEnv → Ow → Prop) (Q : L2.St → Hp → Prop) : Prop := ∀ ρ O' F' H' σ, R ρ O' → Same F F' → Gd M K F' O' P H' → EnvOk K F' ρ σ → Q σ H'
structure PostS (M : MX) (K : PySem.W.Frag) (F P : Hp) (R : DEnds) (D : Ends) : Prop where
  nx : PostN M K F P R.nx D.nx
  rt : PostE M K F P R.rt D.rt
  bk : PostN M K F P R.bk D.bk
  ct : PostN M K F P R.ct D.ct
theorem PostN.more {K : PySem.W.Frag} {F F' P : Hp} {R : DEnv → Ow → Prop} {Q : L2.St → Hp → Prop} (po : PostN M K F P R Q) (s : Same F F') : PostN M K F' P R Q := fun ρ O' F2 H' σ q s2 g en => po ρ O' F2 H' σ q (s.trans s2) g en
theorem PostS.more {K : PySem.W.Frag} {F F' P : Hp} {R : DEnds} {D : Ends} (po : PostS M K F P R D) (s : Same F F') : PostS M K F' P R D := ⟨po.nx.more s, po.rt.more s, po.bk.more s, po.ct.more s⟩
def liftS (M : MX) (K : PySem.W.Frag) (g : GS) : TS := fun D σ H => ∃ F O P ρ R, Gd M K F O P H ∧ EnvOk K F ρ σ ∧ g R ρ O ∧ PostS M K F P R D
abbrev DS (M : MX) (X : Cx) (st : Stmt) (g : GS) : Prop := PS X st (liftS M X.K g)
abbrev DSs (M : MX) (X : Cx) (st : List Stmt) (g : GS) : Prop := PSs X st (liftS M X.K g)

section
variable {X : Cx} {st : Stmt} {rest : List Stmt} {g u : GS} {e c : Expr} {fe : FE} {ft : FT} {pos : Pos}
def gNext : GS := fun R ρ O => R.nx ρ O
def gSeq (g u : GS) : GS := fun R ρ O => g { R with nx := u R } ρ O
theorem dss_nil : DSs M X [] gNext := pssMono pss_nil fun D σ H h => by
  obtain ⟨F, O, P, ρ, R, g, en, q, po⟩ := h
  exact po.nx ρ O F H σ q (Same.refl _) g en
theorem dss_cons (h1 : DS M X st g) (h2 : DSs M X rest u) : DSs M X (st :: rest) (gSeq g u) := pssMono (pss_cons h1 h2) fun D σ H h => by
  obtain ⟨F, O, P, ρ, R, g, en, q, po⟩ := h
  exact ⟨F, O, P, ρ, { R with nx := u R }, g, en, q, fun ρ' O' F' H' σ' q' s g' en' => ⟨F', O', P, ρ', R, g', en', q', po.more s⟩, po.rt, po.bk, po.ct⟩
theorem dss_one (h1 : DS M X st g) : DSs M X [st] g := pss_one h1
/-- what is never come to -/
def gNever : GS := fun _ _ _ => False
def gBreak : GS := fun R ρ O => R.bk ρ O
def gDrop (fe : FE) : GS := fun R ρ O => fe ρ O fun _ O1 => R.nx ρ O1
theorem ds_expr (he : DE M X e fe) (hs : swapsWith e none pos.line X.env = pure false := by rfl) : DS M X (.Expr e pos) (gDrop fe) := psMono (ps_expr he hs) fun D σ H h => by
  obtain ⟨F, O, P, ρ, R, g, en, q, po⟩ := h
  exact ⟨F, O, P, ρ, _, g, en, q, fun d O1 F1 H1 v q1 s1 g1 _ => po.nx ρ O1 F1 H1 σ q1 s1 g1 (en.mono s1)⟩
def gRet (fe : FE) : GS := fun R ρ O => fe ρ O R.rt
theorem ds_ret (he : DE M X e fe) : DS M X (.Return (some e) pos) (gRet fe) := psMono (ps_ret he) fun D σ H h => by
  obtain ⟨F, O, P, ρ, R, g, en, q, po⟩ := h
  exact ⟨F, O, P, ρ, R.rt, g, en, q, po.rt⟩
/-- an owned list is handed back: from now on it never changes -/
def gRetF (fe : FE) : GS := fun R ρ O => fe ρ O fun d O1 => match d with
  | .ref a => match O1 a with
    | some (.lst ds) => R.rt (.lst ds) (delO O1 a)
    | _ => False
  | _ => False
theorem ds_retF (he : DE M X e fe) : DS M X (.Return (some e) pos) (gRetF fe) := psMono (ps_ret he) fun D σ H h => by
  obtain ⟨F, O, P, ρ, R, g, en, q, po⟩ := h
  refine ⟨F, O, P, ρ, _, g, en, q, fun d O1 F1 H1 v q1 s1 g1 r1 => ?_⟩
  split at q1 <;> first | exact q1.elim | skip
  rename_i a
  split at q1 <;> first | exact q1.elim | skip
  rename_i ds e1
  simp only [Rep] at r1
  subst r1
  obtain ⟨F2, s2, g2, r2⟩ := g1.freeze e1
  exact po.rt (.lst ds) (delO O1 a) F2 H1 (.ref a) q1 (s1.trans s2) g2 r2
def gRetN : GS := fun R _ O => R.rt .non O
def gIf (c : FT) (g u : GS) : GS := fun R ρ O => c ρ O fun b O1 => if b = true then g R ρ O1 else u R ρ O1
theorem ds_if {a b : List Stmt} (hc : DT M X c ft) (ha : DSs M X a g) (hb : DSs M X b u) : DS M X (.If c a b pos) (gIf ft g u) := psMono (ps_if hc ha hb) fun D σ H h => by
  obtain ⟨F, O, P, ρ, R, g, en, q, po⟩ := h
  refine ⟨F, O, P, ρ, _, g, en, q, fun k O1 F1 H1 q1 s1 g1 => ?_⟩
  cases k with
  | true => rw [if_pos rfl] at q1 ⊢; exact ⟨F1, O1, P, ρ, R, g1, en.mono s1, q1, po.more s1⟩
  | false => rw [if_neg Bool.false_ne_true] at q1 ⊢; exact ⟨F1, O1, P, ρ, R, g1, en.mono s1, q1, po.more s1⟩
theorem EnvOk.frz {K : PySem.W.Frag} {F F' : Hp} {ρ : DEnv} {σ : L2.St} {i : Nat} {a : Addr} {d : D} (h : EnvOk K F ρ σ) (s : Same F F') (e : ρ[i]? = some (some (.ref a))) (r : Rep K F' d (.ref a)) : EnvOk K F' (ρ.set i (some d)) σ := by
  obtain ⟨v, e1, r1⟩ := h.2 i _ e
  simp only [Rep] at r1
  subst r1
  refine ⟨by rw [List.length_set]; exact h.1, fun j d' q => ?_⟩
  by_cases c : i = j
  · subst c
    by_cases hl : i < ρ.length
    · rw [List.getElem?_set_self hl] at q
      cases q
      exact ⟨.ref a, e1, r⟩
    · rw [List.getElem?_eq_none (by rw [List.length_set]; omega)] at q; cases q
  · rw [List.getElem?_set_ne c] at q
    exact (h.mono s).2 j d' q
/-! ### targets -/
inductive Pat where
  | nm (i : Nat)
  | tp (ps : List Pat)
mutual
def patT (K : PySem.W.Frag) : Pat → TG
  | .nm i => gName i
  | .tp ps => gTup K ps.length (patTs K ps)
def patTs (K : PySem.W.Frag) : List Pat → TGs
  | [] => gNil
  | p :: ps => gCons (patT K p) (patTs K ps)
end
mutual
def patD : Pat → D → DEnv → Option DEnv
  | .nm i, d, ρ => some (ρ.set i (some d))
  | .tp ps, .tup ds, ρ => patDs ps ds ρ
  | .tp _, _, _ => none
def patDs : List Pat → List D → DEnv → Option DEnv
  | [], [], ρ => some ρ
  | p :: ps, d :: ds, ρ => (patD p d ρ).bind (patDs ps ds)
  | _, _, _ => none
end
mutual
def patI : Pat → List Nat
  | .nm i => [i]
  | .tp ps => patIs ps
def patIs : List Pat → List Nat
  | [] => []
  | p :: ps => patI p ++ patIs ps
end
/-- the two states are alike but at some slots -/
def Off (vs : List Nat) (σ σ' : L2.St) : Prop := σ.length = σ'.length ∧ ∀ i, i ∉ vs → σ'[i]? = σ[i]?
theorem patDs_length : ∀ {ps : List Pat} {ds : List D} {ρ ρ' : DEnv}, patDs ps ds ρ = some ρ' → ps.length = ds.length
  | [], [], _, _, _ => rfl
  | [], _ :: _, _, _, h => by simp only [patDs] at h; cases h
  | _ :: _, [], _, _, h => by simp only [patDs] at h; cases h
  | p :: ps, d :: ds, ρ, ρ', h => by
    simp only [patDs] at h
    obtain ⟨ρ1, h1, h2⟩ := Option.bind_eq_some_iff.mp h
    rw [List.length_cons, List.length_cons, patDs_length h2]
mutual
theorem pat_ok {K : PySem.W.Frag} {F P H : Hp} {O : Ow} (gd : Gd M K F O P H) : ∀ (p : Pat) (d : D) (v : V) (ρ ρ' : DEnv) (σ : L2.St) (Q : L2.St → Hp → Prop), patD p d ρ = some ρ' → Rep K F d v → EnvOk K F ρ σ →
    (∀ σ', EnvOk K F ρ' σ' → Off (patI p) σ σ' → Q σ' H) → patT K p v σ H Q
  | .nm i, d, v, ρ, ρ', σ, Q, h, r, en, q => by
    simp only [patD] at h
    cases h
    simp only [patT]
    refine q _ (en.set r i) ⟨by rw [List.length_set], fun j hj => ?_⟩
    simp only [patI, List.mem_singleton] at hj
    rw [List.getElem?_set_ne (fun e => hj e.symm)]
  | .tp ps, d, v, ρ, ρ', σ, Q, h, r, en, q => by
    cases d <;> simp only [patD] at h <;> first | cases h | skip
    simp only [Rep] at r
    obtain ⟨a, xs, rfl, r1, r2⟩ := r
    simp only [patT]
    refine ⟨a, xs, rfl, Same.seqT gd.fz r1, ?_, ?_⟩
    · rw [← r2.length, patDs_length h]
    · exact pats_ok gd ps _ xs ρ ρ' σ Q h r2 en fun σ' en' off => q σ' en' (by simpa only [patI] using off)
theorem pats_ok {K : PySem.W.Frag} {F P H : Hp} {O : Ow} (gd : Gd M K F O P H) : ∀ (ps : List Pat) (ds : List D) (vs : List V) (ρ ρ' : DEnv) (σ : L2.St) (Q : L2.St → Hp → Prop), patDs ps ds ρ = some ρ' → RepAll K F ds vs → EnvOk K F ρ σ →
    (∀ σ', EnvOk K F ρ' σ' → Off (patIs ps) σ σ' → Q σ' H) → patTs K ps vs σ H Q
  | [], [], vs, ρ, ρ', σ, Q, h, r, en, q => by
    simp only [patDs] at h
    cases h
    simp only [RepAll] at r
    subst r
    simp only [patTs]
    exact ⟨rfl, q σ en ⟨rfl, fun _ _ => rfl⟩⟩
  | [], _ :: _, _, _, _, _, _, h, _, _, _ => by simp only [patDs] at h; cases h
  | _ :: _, [], _, _, _, _, _, h, _, _, _ => by simp only [patDs] at h; cases h
  | p :: ps, d :: ds, vs, ρ, ρ', σ, Q, h, r, en, q => by
    simp only [patDs] at h
    obtain ⟨ρ1, h1, h2⟩ := Option.bind_eq_some_iff.mp h
    simp only [RepAll] at r
    obtain ⟨v, ws, rfl, r1, r2⟩ := r
    simp only [patTs]
    refine ⟨v, ws, rfl, ?_⟩
    refine pat_ok gd p d v ρ ρ1 σ _ h1 r1 en fun σ1 en1 off1 => ?_
    refine pats_ok gd ps ds ws ρ1 ρ' σ1 Q h2 r2 en1 fun σ2 en2 off2 => q σ2 en2 ⟨off1.1.trans off2.1, fun i hi => ?_⟩
    simp only [patIs, List.mem_append, not_or] at hi
    rw [off2.2 i hi.2, off1.2 i hi.1]
end
abbrev DP (X : Cx) (tg : Expr) (p : Pat) : Prop := PG X tg (patT X.K p)
abbrev DPs (X : Cx) (tgs : List Expr) (ps : List Pat) : Prop := PGs X tgs (patTs X.K ps)
theorem dp_name {i : Nat} {x : Str} (hN : X.N.Nodup) (hi : X.N[i]? = some x) (hx : Loc X.env.scope x) (hf : X.fn x = true ∨ X.env.scope.names.lookup x = some .local := by first | exact .inl rfl | exact .inr rfl | assumption) : DP X (.Name x pos) (.nm i) := by
  show PG X _ (patT X.K (.nm i))
  rw [show patT X.K (.nm i) = gName i by simp only [patT]]
  exact pg_name hN hi hx hf
theorem dps_nil : DPs X [] [] := by
  show PGs X _ (patTs X.K [])
  rw [show patTs X.K [] = gNil by simp only [patTs]]
  exact pgs_nil
theorem dps_cons {e : Expr} {es : List Expr} {p : Pat} {ps : List Pat} (h1 : DP X e p) (h2 : DPs X es ps)
    (hs : (assignEach (e :: es) X.env).map (·.2) = assign e X.env :: (assignEach es X.env).map (·.2) := by rfl) : DPs X (e :: es) (p :: ps) := by
  show PGs X _ (patTs X.K (p :: ps))
  rw [show patTs X.K (p :: ps) = gCons (patT X.K p) (patTs X.K ps) by simp only [patTs]]
  exact pgs_cons h1 h2 hs
theorem dp_tup {es : List Expr} {k : Nat} {ps : List Pat} (hc : X.calm = true) (h : DPs X es ps)
    (hn : (assignEach es X.env).length = ps.length := by rfl) (hst : (assignEach es X.env).findIdx? (·.1) = none := by rfl) : DP X (.Tuple es k pos) (.tp ps) := by
  show PG X _ (patT X.K (.tp ps))
  rw [show patT X.K (.tp ps) = gTup X.K ps.length (patTs X.K ps) by simp only [patT]]
  exact pg_tup hc h hn hst
def patGet (o : Option DEnv) (N : DEnv → Prop) : Prop := match o with
  | some ρ => N ρ
  | none => False
theorem patGet_s {ρ : DEnv} {N : DEnv → Prop} : patGet (some ρ) N = N ρ := rfl
/-- target = value -/
def gAsg (fe : FE) (p : Pat) : GS := fun R ρ O => fe ρ O fun d O1 => patGet (patD p d ρ) fun ρ' => R.nx ρ' O1
theorem ds_asg {tg e : Expr} {p : Pat} (he : DE M X e fe) (hg : DP X tg p) (hs : swapsWithSole [tg] e pos.line X.env = pure false := by rfl) (hw : swappedStores [tg] e X.env = pure none := by rfl) (h1 : (assignEach [tg] X.env).map (·.2) = [assign tg X.env] := by rfl) : DS M X (.Assign [tg] e pos) (gAsg fe p) :=
  psMono (ps_asg he hg hs hw h1) fun D σ H h => by
    obtain ⟨F, O, P, ρ, R, g, en, q, po⟩ := h
    refine ⟨F, O, P, ρ, _, g, en, q, fun d O1 F1 H1 v q1 s1 g1 r1 => ?_⟩
    cases e1 : patD p d ρ with
    | none => rw [e1] at q1; exact q1.elim
    | some ρ' =>
      rw [e1] at q1
      exact pat_ok g1 p d v ρ ρ' σ _ e1 r1 (en.mono s1) fun σ' en' _ => po.nx ρ' O1 F1 H1 σ' q1 s1 g1 en'
/-- name = value -/
def gSet (fe : FE) (i : Nat) : GS := fun R ρ O => fe ρ O fun d O1 => R.nx (ρ.set i (some d)) O1
theorem gSet_lift {te : TE} {i : Nat} (hl : ∀ σ H Q, liftE M X.K fe σ H Q → te σ H Q) : ∀ D σ H, liftS M X.K (gSet fe i) D σ H → tAsg te (gName i) D σ H := fun D σ H h => by
  obtain ⟨F, O, P, ρ, R, g, en, q, po⟩ := h
  exact hl _ _ _ ⟨F, O, P, ρ, _, g, en, q, fun d O1 F1 H1 v q1 s1 g1 r1 => po.nx _ O1 F1 H1 _ q1 s1 g1 ((en.mono s1).set r1 i)⟩
theorem ds_set {i : Nat} {x : Str} {e : Expr} {pos' : Pos} (hN : X.N.Nodup) (hi : X.N[i]? = some x) (hx : Loc X.env.scope x) (he : DE M X e fe) (hs : swapsWith e (some (.Name x pos')) pos.line X.env = pure false := by rfl) (hf : X.fn x = true ∨ X.env.scope.names.lookup x = some .local := by first | exact .inl rfl | exact .inr rfl | assumption) :
    DS M X (.Assign [.Name x pos'] e pos) (gSet fe i) := psMono (ps_set hN hi hx he hs hf) (gSet_lift fun _ _ _ q => q)
/-- name op= e -/
def gAug (i : Nat) (fe : FE) (r : R2D) : GS := fun R ρ O => match ρ[i]? with
  | some (some x) => fe ρ O fun y O1 => r x y O1 fun z O2 => R.nx (ρ.set i (some z)) O2
  | _ => False
/-- o[i] = v, an owned list -/
def rSetD (x y d : D) (O : Ow) (N : Ow → Prop) : Prop := match x, y with
  | .ref a, .int k => match O a with
    | some (.lst ds) => match ixN ds.length k with
      | some j => N (updO O a (.lst (ds.set j d)))
      | none => False
    | some .pool => match d with
      | .int z => ((k = 0 ∧ 0 ≤ z) ∨ (k = 1 ∧ 0 ≤ z ∧ z < 2147483647)) ∧ N O
      | _ => False
    | _ => False
  | _, _ => False
def gSetIx (fo fi fe : FE) : GS := fun R ρ O => fe ρ O fun d O1 => fo ρ O1 fun x O2 => fi ρ O2 fun y O3 => rSetD x y d O3 (R.nx ρ)
theorem ds_setIx {o i e : Expr} {fo fi : FE} {p1 : Pos} (ho : DE M X o fo) (hi : DE M X i fi) (he : DE M X e fe)
    (ha : ∀ v, assign (.Subscript o i p1) X.env v = (do
      let ov ← holding [v] (eval o X.env)
      let iv ← holding [v, ov] (eval i X.env)
      standAt p1
      holding [v, ov, iv] (setItem ov iv v)
      release [v, ov, iv] []) := by intro _; rfl)
    (hs : swapsWithSole [.Subscript o i p1] e pos.line X.env = pure false := by rfl) (hw : swappedStores [.Subscript o i p1] e X.env = pure none := by rfl) : DS M X (.Assign [.Subscript o i p1] e pos) (gSetIx fo fi fe) :=
  psMono (ps_asg he (pg_sub ho hi set_list ha) hs hw) fun D σ H h => by
    obtain ⟨F, O, P, ρ, R, g, en, q, po⟩ := h
    refine ⟨F, O, P, ρ, _, g, en, q, fun d O1 F1 H1 v q1 s1 g1 r1 => ?_⟩
    refine ⟨F1, O1, P, ρ, _, g1, en.mono s1, q1, fun x O2 F2 H2 w q2 s2 g2 r2 => ?_⟩
    refine ⟨F2, O2, P, ρ, _, g2, en.mono (s1.trans s2), q2, fun y O3 F3 H3 z q3 s3 g3 r3 => ?_⟩
    unfold rSetD at q3
    cases x <;> first | exact q3.elim | skip
    cases y <;> first | exact q3.elim | skip
    rename_i a k
    simp only [Rep] at r2 r3
    subst r2 r3
    dsimp only at q3
    cases e1 : O3 a with
    | none => rw [e1] at q3; exact q3.elim
    | some c =>
      rw [e1] at q3
      cases c with
      | dic kvs => exact q3.elim
      | dicL _ _ => exact q3.elim
      | exc _ _ => exact q3.elim
      | ins _ _ => exact q3.elim
      | dicT _ => exact q3.elim
      | pool =>
        dsimp only at q3
        cases d <;> first | exact q3.elim | skip
        simp only [Rep] at r1
        subst r1
        obtain ⟨_, _, z, y, hH, h2, h3, h4⟩ := g3.ow a _ e1
        obtain ⟨q4, q5⟩ := q3
        have s4 := s1.trans (s2.trans s3)
        rcases q4 with ⟨rfl, h5⟩ | ⟨rfl, h5, h6⟩
        · refine ⟨a, _, 0, 0, rfl, rfl, hH, rfl, ?_⟩
          have g4 := g3.setO e1 (o := .lst [.int _, .int y]) (c := .pool) ⟨_, y, upd_same, h5, h3, h4⟩
          rw [updO_self e1] at g4
          exact po.nx ρ _ F3 _ σ q5 s4 g4 (en.mono s4)
        · refine ⟨a, _, 1, 1, rfl, rfl, hH, rfl, ?_⟩
          have g4 := g3.setO e1 (o := .lst [.int z, .int _]) (c := .pool) ⟨z, _, upd_same, h2, h5, h6⟩
          rw [updO_self e1] at g4
          exact po.nx ρ _ F3 _ σ q5 s4 g4 (en.mono s4)
      | lst ds =>
        dsimp only at q3
        cases e2 : ixN ds.length k with
        | none => rw [e2] at q3; exact q3.elim
        | some j =>
          rw [e2] at q3
          obtain ⟨_, _, vs, h1, h2⟩ := g3.ow a _ e1
          refine ⟨a, vs, k, j, rfl, rfl, h1, by rw [← h2.length]; exact e2, ?_⟩
          exact po.nx ρ _ F3 _ σ q3 (s1.trans (s2.trans s3)) (g3.setO e1 ⟨_, upd_same, h2.set (r1.mono (s2.trans s3)) j⟩) (en.mono (s1.trans (s2.trans s3)))

/-! ### what is walked -/
/-- the walk yields just these, whatever comes meanwhile -/
def ItOk (M : MX) (K : PySem.W.Frag) (F : Hp) (J : It) (ds : List D) : Prop := ∀ F' O' P' H', Same F F' → Gd M K F' O' P' H' → ∀ i : Nat,
  (∀ d, ds[i]? = some d → J.go i H' ∧ ∀ x H'', J.yld i H' x H'' → ∃ F'', Same F' F'' ∧ Gd M K F'' O' P' H'' ∧ Rep K F'' d x) ∧ (ds.length ≤ i → J.stop i H')
abbrev FI := DEnv → Ow → (List D → Ow → Prop) → Prop
def liftI (M : MX) (K : PySem.W.Frag) (f : FI) : TI := fun σ H Q => ∃ F O P ρ R, Gd M K F O P H ∧ EnvOk K F ρ σ ∧ f ρ O R ∧ ∀ ds O' F' H' J, R ds O' → Same F F' → Gd M K F' O' P H' → ItOk M K F' J ds → Q J H'
abbrev DI (M : MX) (X : Cx) (tg iter : Expr) (f : FI) : Prop := PI X tg iter (liftI M X.K f)
theorem piMono {X : Cx} {tg iter : Expr} {t t' : TI} (h : PI X tg iter t) (imp : ∀ σ H Q, t' σ H Q → t σ H Q) : PI X tg iter t' := ⟨fun pins s σ H Q I q => h.run pins s σ H Q I (imp σ H Q q)⟩
variable {tg iter l : Expr} {fl : FE} {fr : FA}
def asL (d : D) (O : Ow) (Q : List D → Ow → Prop) : Prop := match d with
  | .lst ds => Q ds O
  | _ => False
def asT (d : D) (O : Ow) (Q : List D → Ow → Prop) : Prop := match d with
  | .tup ds => Q ds O
  | _ => False
def asSg (d : D) (O : Ow) (Q : List D → Ow → Prop) : Prop := match d with
  | .str x => Q (x.cps.toList.map fun c => .str ⟨#[c]⟩) O
  | _ => False
def asR1 (ds : List D) (O : Ow) (Q : Int → Nat → Ow → Prop) : Prop := match ds with
  | [.int j] => -(2 ^ 62) ≤ j ∧ j < 2 ^ 62 ∧ Q 0 j.toNat O
  | _ => False
def asR2 (ds : List D) (O : Ow) (Q : Int → Nat → Ow → Prop) : Prop := match ds with
  | [.int i, .int j] => (-(2 ^ 62) ≤ i ∧ i < 2 ^ 62 ∧ -(2 ^ 62) ≤ j ∧ j < 2 ^ 62) ∧ Q i (j - i).toNat O
  | _ => False
def asL1 (ds : List D) (O : Ow) (Q : List D → Ow → Prop) : Prop := match ds with
  | [.lst ds] => Q ds O
  | _ => False
def asL2 (ds : List D) (O : Ow) (Q : List D → List D → Ow → Prop) : Prop := match ds with
  | [.lst ds, .lst es] => Q ds es O
  | _ => False
section
variable {O : Ow} {xs ys : List D} {i j : Int}
theorem asL_l {Q : List D → Ow → Prop} : asL (.lst xs) O Q = Q xs O := rfl
theorem asT_t {Q : List D → Ow → Prop} : asT (.tup xs) O Q = Q xs O := rfl
theorem asSg_s {Q : List D → Ow → Prop} {x : Str} : asSg (.str x) O Q = Q (x.cps.toList.map fun c => .str ⟨#[c]⟩) O := rfl
theorem asR1_i {Q : Int → Nat → Ow → Prop} : asR1 [.int j] O Q = (-(2 ^ 62) ≤ j ∧ j < 2 ^ 62 ∧ Q 0 j.toNat O) := rfl
theorem asR2_i {Q : Int → Nat → Ow → Prop} : asR2 [.int i, .int j] O Q = ((-(2 ^ 62) ≤ i ∧ i < 2 ^ 62 ∧ -(2 ^ 62) ≤ j ∧ j < 2 ^ 62) ∧ Q i (j - i).toNat O) := rfl
theorem asL1_l {Q : List D → Ow → Prop} : asL1 [.lst xs] O Q = Q xs O := rfl
theorem asL2_l {Q : List D → List D → Ow → Prop} : asL2 [.lst xs, .lst ys] O Q = Q xs ys O := rfl
end
/-- a list -/
def fiList (fl : FE) : FI := fun ρ O Q => fl ρ O fun d O1 => asL d O1 Q
theorem di_list (hl : DE M X l fl) : DI M X tg l (fiList fl) := piMono (pi_list hl) fun σ H Q h => by
  obtain ⟨F, O, P, ρ, R, g, en, q, po⟩ := h
  refine ⟨F, O, P, ρ, _, g, en, q, fun d O1 F1 H1 v q1 s1 g1 r1 => ?_⟩
  unfold asL at q1
  cases d <;> first | exact q1.elim | skip
  rename_i ds
  simp only [Rep] at r1
  obtain ⟨a, xs, rfl, h1, h2⟩ := r1
  refine ⟨a, rfl, ⟨xs, SqL.of (g1.fz _ _ h1)⟩, po ds O1 F1 H1 _ q1 s1 g1 fun F2 O2 P2 H2 s2 g2 i => ⟨fun d e => ?_, fun hi => ?_⟩⟩
  · have sq : SqL X.K H2 a xs := SqL.of (g2.fz _ _ (s2 _ _ h1))
    obtain ⟨w, e1, r1⟩ := h2.get e
    refine ⟨⟨xs, w, sq, e1⟩, fun x H3 hy => ?_⟩
    obtain ⟨rfl, hx⟩ := hy
    have := hx xs sq
    rw [e1] at this
    cases this
    exact ⟨F2, Same.refl _, g2, r1.mono s2⟩
  · exact ⟨xs, SqL.of (g2.fz _ _ (s2 _ _ h1)), by rw [← h2.length]; exact hi⟩
/-- a tuple -/
def fiTup (fl : FE) : FI := fun ρ O Q => fl ρ O fun d O1 => asT d O1 Q
theorem di_tup (hl : DE M X l fl) : DI M X tg l (fiTup fl) := piMono (pi_tup hl) fun σ H Q h => by
  obtain ⟨F, O, P, ρ, R, g, en, q, po⟩ := h
  refine ⟨F, O, P, ρ, _, g, en, q, fun d O1 F1 H1 v q1 s1 g1 r1 => ?_⟩
  unfold asT at q1
  cases d <;> first | exact q1.elim | skip
  rename_i ds
  simp only [Rep] at r1
  obtain ⟨a, xs, rfl, h1, h2⟩ := r1
  refine ⟨a, rfl, ⟨xs, Same.seqT g1.fz h1⟩, po ds O1 F1 H1 _ q1 s1 g1 fun F2 O2 P2 H2 s2 g2 i => ⟨fun d e => ?_, fun hi => ?_⟩⟩
  · have sq : SqT X.K H2 a xs := Same.seqT g2.fz (Same.seqT s2 h1)
    obtain ⟨w, e1, r1⟩ := h2.get e
    refine ⟨⟨xs, w, sq, e1⟩, fun x H3 hy => ?_⟩
    obtain ⟨rfl, hx⟩ := hy
    have := hx xs sq
    rw [e1] at this
    cases this
    exact ⟨F2, Same.refl _, g2, r1.mono s2⟩
  · exact ⟨xs, Same.seqT g2.fz (Same.seqT s2 h1), by rw [← h2.length]; exact hi⟩
/-- range(n), range(a, b) -/
def rangeD (lo : Int) (n : Nat) : List D := (List.range n).map fun i => .int (lo + (i : Nat))
theorem itOk_range {K : PySem.W.Frag} {F : Hp} (lo : Int) (n : Nat) : ItOk M K F (Itr lo n) (rangeD lo n) := fun F2 O2 P2 H2 s2 g2 i => by
  refine ⟨fun d e => ?_, fun hi => ?_⟩
  · unfold rangeD at e
    rw [List.getElem?_map] at e
    obtain ⟨j, e1, e2⟩ := Option.map_eq_some_iff.mp e
    have hi : i < n := by
      have := List.getElem?_eq_some_iff.mp e1
      obtain ⟨h, _⟩ := this
      simpa using h
    have hj : j = i := by
      rw [List.getElem?_range hi] at e1
      exact (Option.some.inj e1).symm
    subst hj
    subst e2
    refine ⟨hi, fun x H3 hy => ?_⟩
    obtain ⟨rfl, rfl⟩ := hy
    exact ⟨F2, Same.refl _, g2, by simp only [Rep]⟩
  · unfold rangeD at hi
    rw [List.length_map, List.length_range] at hi
    exact hi
def fiRng1 (fr : FA) : FI := fun ρ O Q => fr ρ O fun ds O1 => asR1 ds O1 fun i n O2 => Q (rangeD i n) O2
theorem di_range1 {a : Expr} {p : Pos} (hg : Gl X "range") (hm : X.mg "range" = none) (ha : DA M X [a] fr) (hs : starEach [a] X.env = [(false, eval a X.env)] := by rfl) : DI M X tg (.Call (.Name "range" p) [a] [] pos) (fiRng1 fr) :=
  piMono (pi_range1 hg hm ha hs) fun σ H Q h => by
    obtain ⟨F, O, P, ρ, R, g, en, q, po⟩ := h
    refine ⟨F, O, P, ρ, _, g, en, q, fun ds O1 F1 H1 vs q1 s1 g1 r1 => ?_⟩
    unfold asR1 at q1
    split at q1
    · obtain ⟨v, rfl, r1'⟩ := r1.one'
      simp only [Rep] at r1'
      exact ⟨_, by rw [r1'], q1.1, q1.2.1, po _ O1 F1 H1 _ q1.2.2 s1 g1 (itOk_range 0 _)⟩
    · exact q1.elim
def fiRng2 (fr : FA) : FI := fun ρ O Q => fr ρ O fun ds O1 => asR2 ds O1 fun i n O2 => Q (rangeD i n) O2
/-- a text, sign by sign -/
def signsD (x : Str) : List D := x.cps.toList.map fun c => .str ⟨#[c]⟩
def fiStr (fl : FE) : FI := fun ρ O Q => fl ρ O fun d O1 => asSg d O1 Q
theorem di_str (hl : DE M X l fl) : DI M X tg l (fiStr fl) := piMono (pi_str hl) fun σ H Q h => by
  obtain ⟨F, O, P, ρ, R, g, en, q, po⟩ := h
  refine ⟨F, O, P, ρ, _, g, en, q, fun d O1 F1 H1 v q1 s1 g1 r1 => ?_⟩
  unfold asSg at q1
  cases d <;> first | exact q1.elim | skip
  rename_i x
  simp only [Rep] at r1
  refine ⟨x, r1, po _ O1 F1 H1 _ q1 s1 g1 fun F2 O2 P2 H2 s2 g2 i => ⟨fun d e => ?_, fun hi => ?_⟩⟩
  · unfold signsD at e
    rw [List.getElem?_map] at e
    obtain ⟨c, e1, rfl⟩ := Option.map_eq_some_iff.mp e
    have hi : i < x.cps.size := by
      obtain ⟨h, _⟩ := List.getElem?_eq_some_iff.mp e1
      simpa using h
    refine ⟨hi, fun y H3 hy => ?_⟩
    obtain ⟨rfl, c', e2, rfl⟩ := hy
    rw [Array.getElem?_toList] at e1
    rw [e1] at e2
    cases e2
    exact ⟨F2, Same.refl _, g2, by simp only [Rep]⟩
  · unfold signsD at hi
    rw [List.length_map, Array.length_toList] at hi
    exact hi
/-- enumerate(xs) -/
def enumD (ds : List D) : List D := ds.zipIdx.map fun p => .tup [.int (p.2 : Nat), p.1]
def fiEnum (fr : FA) : FI := fun ρ O Q => fr ρ O fun ds O1 => asL1 ds O1 fun ds O2 => Q (enumD ds) O2
/-- zip(xs, ys) -/
def zipD (ds es : List D) : List D := (ds.zip es).map fun p => .tup [p.1, p.2]
def fiZip (fr : FA) : FI := fun ρ O Q => fr ρ O fun ds O1 => asL2 ds O1 fun ds es O2 => Q (zipD ds es) O2
theorem di_zip {e e2 : Expr} {p tpos : Pos} {elts : List Expr} {kk : Nat} (hg : Gl X "zip") (hm : X.mg "zip" = none) (ha : DA M X [e, e2] fr)
    (hs : starEach [e, e2] X.env = (false, eval e X.env) :: starEach [e2] X.env := by rfl) (hpl : (backTo pos (starEach [e2] X.env)).any (·.1) = false := by rfl) :
    DI M X (.Tuple elts kk tpos) (.Call (.Name "zip" p) [e, e2] [] pos) (fiZip fr) := piMono (pi_zip hg hm ha hs hpl) fun σ H Q h => by
  obtain ⟨F, O, P, ρ, R, g, en, q, po⟩ := h
  refine ⟨F, O, P, ρ, _, g, en, q, fun ds O1 F1 H1 vs q1 s1 g1 r1 => ?_⟩
  unfold asL2 at q1
  split at q1
  · rename_i ds es
    obtain ⟨v, w, rfl, r1', r2'⟩ := r1.two'
    simp only [Rep] at r1' r2'
    obtain ⟨a, xs, rfl, h1, h2⟩ := r1'
    obtain ⟨b, ys, rfl, k1, k2⟩ := r2'
    refine ⟨a, b, xs, ys, rfl, SqL.of (g1.fz _ _ h1), SqL.of (g1.fz _ _ k1), po _ O1 F1 H1 _ q1 s1 g1 fun F2 O2 P2 H2 s2 g2 i => ⟨fun d e => ?_, fun hi => ?_⟩⟩
    · unfold zipD at e
      rw [List.getElem?_map] at e
      obtain ⟨pq, e0, rfl⟩ := Option.map_eq_some_iff.mp e
      obtain ⟨e0a, e0b⟩ := List.getElem?_zip_eq_some.mp e0
      have sq : SqL X.K H2 a xs := SqL.of (g2.fz _ _ (s2 _ _ h1))
      have sq2 : SqL X.K H2 b ys := SqL.of (g2.fz _ _ (s2 _ _ k1))
      obtain ⟨w, e1, r1⟩ := h2.get e0a
      obtain ⟨w2, e2, r2⟩ := k2.get e0b
      refine ⟨⟨xs, ys, w, w2, sq, sq2, e1, e2⟩, fun x H3 hy => ?_⟩
      obtain ⟨T, y, y2, rfl, hT, rfl, hx, hx2⟩ := hy
      have hxx := hx xs sq
      rw [e1] at hxx
      cases hxx
      have hxx2 := hx2 ys sq2
      rw [e2] at hxx2
      cases hxx2
      have hF := g2.freeF hT
      refine ⟨upd F2 T (.tup [w, w2]), same_upd hF, g2.new hT, ?_⟩
      simp only [Rep]
      refine ⟨T, _, rfl, .inl (.inl upd_same), .cons ((r1.mono s2).mono (same_upd hF)) (.one ((r2.mono s2).mono (same_upd hF)))⟩
    · unfold zipD at hi
      rw [List.length_map, List.length_zip] at hi
      refine ⟨xs, ys, SqL.of (g2.fz _ _ (s2 _ _ h1)), SqL.of (g2.fz _ _ (s2 _ _ k1)), ?_⟩
      rw [← h2.length, ← k2.length]
      omega
  · exact q1.elim
/-- reversed(xs) -/
def fiRev (fr : FA) : FI := fun ρ O Q => fr ρ O fun ds O1 => asL1 ds O1 fun ds O2 => Q ds.reverse O2
/-! ### for -/
def forD (p : Pat) (gb : GS) (R : DEnds) : List D → DEnv → Ow → Prop
  | [], ρ, O => R.nx ρ O
  | d :: ds, ρ, O => patGet (patD p d ρ) fun ρ1 => gb { R with nx := forD p gb R ds, ct := forD p gb R ds, bk := R.nx } ρ1 O
def gFor (fi : FI) (p : Pat) (gb : GS) : GS := fun R ρ O => fi ρ O fun ds O1 => forD p gb R ds ρ O1
theorem ds_for {body : List Stmt} {fi : FI} {p : Pat} {gb : GS} (hp : PassesOwn (model X.prog X.w) X.A X.env X.xe) (hc : X.calm = true) (hi : DI M X tg iter fi) (hg : DP X tg p) (hb : DSs M X body gb)
    (hs : ∀ x, foldedSetIterable iter X.env x = pure x := by intro _; rfl) : DS M X (.For tg iter body [] pos) (gFor fi p gb) := psMono (ps_for hp hc hi hg hb hs) fun D σ H h => by
  obtain ⟨F, O, P, ρ, R, g, en, q, po⟩ := h
  refine ⟨F, O, P, ρ, _, g, en, q, fun ds O1 F1 H1 J q1 s1 g1 it => ?_⟩
  refine ⟨fun i m σ H => ∃ F2 O2 ρ2, i + m = ds.length ∧ Same F1 F2 ∧ Gd M X.K F2 O2 P H ∧ EnvOk X.K F2 ρ2 σ ∧ forD p gb R (ds.drop i) ρ2 O2,
    ⟨ds.length, F1, O1, ρ, by omega, Same.refl _, g1, en.mono s1, by rw [List.drop_zero]; exact q1⟩, fun i m σ2 H2 hW => ?_⟩
  obtain ⟨F2, O2, ρ2, hm, s2, g2, en2, q2⟩ := hW
  obtain ⟨it1, it2⟩ := it F2 O2 P H2 s2 g2 i
  by_cases hi : i < ds.length
  · obtain ⟨hgo, hy⟩ := it1 ds[i] (List.getElem?_eq_getElem hi)
    rw [List.drop_eq_getElem_cons hi] at q2
    unfold forD at q2
    refine .inr ⟨hgo, fun σ' H' => ∃ F3 O3 ρ3, Same F1 F3 ∧ Gd M X.K F3 O3 P H' ∧ EnvOk X.K F3 ρ3 σ' ∧ forD p gb R (ds.drop (i + 1)) ρ3 O3, fun σ' H' hN => ?_, fun x H' hyy => ?_⟩
    · obtain ⟨F3, O3, ρ3, s3, g3, en3, q3⟩ := hN
      exact ⟨m - 1, by omega, F3, O3, ρ3, by omega, s3, g3, en3, q3⟩
    · obtain ⟨F3, s3, g3, r3⟩ := hy x H' hyy
      cases e1 : patD p ds[i] ρ2 with
      | none => rw [e1] at q2; exact q2.elim
      | some ρ3 =>
        rw [e1] at q2
        refine pat_ok g3 p ds[i] x ρ2 ρ3 σ2 _ e1 r3 (en2.mono s3) fun σ4 en4 _ => ?_
        refine ⟨F3, O2, P, ρ3, _, g3, en4, q2, ⟨fun ρ5 O5 F5 H5 σ5 q5 s5 g5 en5 => ?_, ?_, ?_, fun ρ5 O5 F5 H5 σ5 q5 s5 g5 en5 => ?_⟩⟩
        · exact ⟨F5, O5, ρ5, s2.trans (s3.trans s5), g5, en5, q5⟩
        · exact po.rt.more (s1.trans (s2.trans s3))
        · exact po.nx.more (s1.trans (s2.trans s3))
        · exact ⟨F5, O5, ρ5, s2.trans (s3.trans s5), g5, en5, q5⟩
  · refine .inl ⟨it2 (by omega), ?_⟩
    rw [List.drop_eq_nil_of_le (by omega)] at q2
    exact po.nx ρ2 O2 F2 H2 σ2 q2 (s1.trans s2) g2 en2
/-! ### while -/
def gWhile (ft : FT) (gb : GS) : GS := fun R ρ O => ∃ I : Nat → DEnv → Ow → Prop, (∃ m, I m ρ O) ∧ ∀ m ρ O, I m ρ O →
  ft ρ O fun b O1 => if b = true then gb { R with nx := fun ρ' O' => ∃ m', m' < m ∧ I m' ρ' O', ct := fun ρ' O' => ∃ m', m' < m ∧ I m' ρ' O', bk := R.nx } ρ O1 else R.nx ρ O1
theorem ds_while {body : List Stmt} {gb : GS} (hp : PassesOwn (model X.prog X.w) X.A X.env X.xe) (hc : DT M X c ft) (hb : DSs M X body gb) : DS M X (.While c body [] pos) (gWhile ft gb) := psMono (ps_while hp hc hb) fun D σ H h => by
  obtain ⟨F, O, P, ρ, R, g, en, ⟨I, ⟨m0, h0⟩, hI⟩, po⟩ := h
  refine ⟨fun m σ H => ∃ F2 O2 ρ2, Same F F2 ∧ Gd M X.K F2 O2 P H ∧ EnvOk X.K F2 ρ2 σ ∧ I m ρ2 O2, ⟨m0, F, O, ρ, Same.refl _, g, en, h0⟩, fun m σ2 H2 hW => ?_⟩
  obtain ⟨F2, O2, ρ2, s2, g2, en2, q2⟩ := hW
  refine ⟨F2, O2, P, ρ2, _, g2, en2, hI m ρ2 O2 q2, fun k O3 F3 H3 q3 s3 g3 => ?_⟩
  cases k with
  | false => rw [if_neg Bool.false_ne_true] at q3 ⊢; exact po.nx ρ2 O3 F3 H3 σ2 q3 (s2.trans s3) g3 (en2.mono s3)
  | true =>
    rw [if_pos rfl] at q3 ⊢
    refine ⟨fun σ' H' => ∃ F4 O4 ρ4, Same F F4 ∧ Gd M X.K F4 O4 P H' ∧ EnvOk X.K F4 ρ4 σ' ∧ ∃ m', m' < m ∧ I m' ρ4 O4, fun σ' H' hN => ?_, ?_⟩
    · obtain ⟨F4, O4, ρ4, s4, g4, en4, m', hm, q4⟩ := hN
      exact ⟨m', hm, F4, O4, ρ4, s4, g4, en4, q4⟩
    · refine ⟨F3, O3, P, ρ2, _, g3, en2.mono s3, q3, ⟨fun ρ5 O5 F5 H5 σ5 q5 s5 g5 en5 => ?_, ?_, ?_, fun ρ5 O5 F5 H5 σ5 q5 s5 g5 en5 => ?_⟩⟩
      · exact ⟨F5, O5, ρ5, s2.trans (s3.trans s5), g5, en5, q5⟩
      · exact po.rt.more (s2.trans s3)
      · exact po.nx.more (s2.trans s3)
      · exact ⟨F5, O5, ρ5, s2.trans (s3.trans s5), g5, en5, q5⟩
end
end Kf
namespace Kf
open PySem PySem.Spec L2
open PyProof.Rows hiding St
variable {M : MX}

/-! ### a thing that stands aside -/
section
variable {K : PySem.W.Frag} {F P H : Hp} {O : Ow} {p : Addr} {o o' : HO}
theorem Gd.aside (g : Gd M K F O P H) (h : H p = none) (nt : NT o := by intro _ e; cases e) : Gd M K F O (upd P p o) (upd H p o) := by
  have hF := g.freeF h
  have hO := g.freeO h
  have g' := g.skip (o := o) h
  refine ⟨g'.fz, fun a c e => ?_, fun a u e => ?_, M.mono g.rl (Same.refl _) (same_upd (g.freeP h)), fun a u e => by
    by_cases q : a = p
    · subst q; rw [upd_same] at e; cases e; exact nt
    · rw [upd_ne q] at e; exact g.nt a u e⟩
  · have ne : a ≠ p := fun q => by rw [q, hO] at e; cases e
    obtain ⟨h1, h2, h3⟩ := g'.ow a c e
    exact ⟨h1, (upd_ne ne).trans h2, h3⟩
  · by_cases q : a = p
    · subst q; rw [upd_same] at e; cases e; exact ⟨hF, upd_same⟩
    · rw [upd_ne q] at e; exact g'.as a u e
theorem Gd.asideSet (g : Gd M K F O (upd P p o) H) (mk : M.rel F (upd P p o')) (nt : NT o' := by intro _ e; cases e) : Gd M K F O (upd P p o') (upd H p o') := by
  obtain ⟨hF, hH⟩ := g.as p o upd_same
  refine ⟨fun b x e => ?_, fun a c e => ?_, fun a u e => ?_, mk, fun a u e => by
    by_cases q : a = p
    · subst q; rw [upd_same] at e; cases e; exact nt
    · rw [upd_ne q] at e; exact g.nt a u ((upd_ne q).trans e)⟩
  · have ne : b ≠ p := fun q => by rw [q, hF] at e; cases e
    rw [upd_ne ne]; exact g.fz b x e
  · obtain ⟨h1, h2, h3⟩ := g.ow a c e
    have ne : a ≠ p := fun q => by rw [q, upd_same] at h2; cases h2
    rw [upd_ne ne] at h2
    exact ⟨h1, (upd_ne ne).trans h2, h3.mono (Same.refl _) (upd_ne ne)⟩
  · by_cases q : a = p
    · subst q; rw [upd_same] at e; cases e; exact ⟨hF, upd_same⟩
    · rw [upd_ne q] at e
      obtain ⟨h1, h2⟩ := g.as a u ((upd_ne q).trans e)
      exact ⟨h1, (upd_ne q).trans h2⟩
theorem Gd.asideFz (g : Gd M K F O (upd P p o) H) (hP : P p = none) (mk : M.rel F P) : Same F (upd F p o) ∧ Gd M K (upd F p o) O P H := by
  obtain ⟨hF, hH⟩ := g.as p o upd_same
  have s : Same F (upd F p o) := same_upd hF
  refine ⟨s, fun b x e => ?_, fun a c e => ?_, fun a u e => ?_, M.mono mk s (Same.refl _), fun a u e => g.nt a u ((upd_ne (fun q => by rw [q, hP] at e; cases e)).trans e)⟩
  · by_cases q : b = p
    · subst q; rw [upd_same] at e; cases e; exact hH
    · rw [upd_ne q] at e; exact g.fz b x e
  · obtain ⟨h1, h2, h3⟩ := g.ow a c e
    have ne : a ≠ p := fun q => by rw [q, upd_same] at h2; cases h2
    rw [upd_ne ne] at h2
    exact ⟨(upd_ne ne).trans h1, h2, h3.mono s rfl⟩
  · have ne : a ≠ p := fun q => by rw [q, hP] at e; cases e
    obtain ⟨h1, h2⟩ := g.as a u ((upd_ne ne).trans e)
    exact ⟨(upd_ne ne).trans h1, h2⟩
end

/-! ### list comprehensions -/
def wipeD (ρ : DEnv) : List Nat → DEnv
  | [] => ρ
  | v :: vs => (wipeD ρ vs).set v none
theorem EnvOk.wipes {K : PySem.W.Frag} {F : Hp} {ρ : DEnv} {σ : L2.St} (h : EnvOk K F ρ σ) : ∀ vs : List Nat, EnvOk K F (wipeD ρ vs) (L2.wipe σ vs)
  | [] => h
  | v :: vs => by unfold wipeD L2.wipe; exact (EnvOk.wipes h vs).wipe v
theorem wipe_in {σ : L2.St} {i : Nat} : ∀ {vs : List Nat}, i ∈ vs → (wipe σ vs)[i]? = if i < σ.length then some none else none
  | [], h => by cases h
  | v :: vs, h => by
    unfold L2.wipe
    by_cases e : v = i
    · subst e
      by_cases c : v < σ.length
      · rw [if_pos c, List.getElem?_set_self (by rw [wipe_length]; exact c)]
      · rw [if_neg c, List.getElem?_eq_none (by rw [List.length_set, wipe_length]; omega)]
    · rw [List.getElem?_set_ne e]
      exact wipe_in ((List.mem_cons.mp h).resolve_left fun q => e q.symm)
theorem wipe_off {σ τ : L2.St} {vs ws : List Nat} (h : Off ws (wipe σ vs) τ) (hs : ∀ i ∈ ws, i ∈ vs) : wipe τ vs = wipe σ vs := by
  refine List.ext_getElem? fun i => ?_
  have hl : τ.length = σ.length := by rw [← h.1, wipe_length]
  by_cases c : i ∈ vs
  · rw [wipe_in c, wipe_in c, hl]
  · rw [wipe_out c]
    exact h.2 i fun q => c (hs i q)
def lcD (p : Pat) (ft : FT) (fe : FE) (ρ : DEnv) : List D → List D → Ow → (List D → Ow → Prop) → Prop
  | [], acc, O, Q => Q acc O
  | d :: ds, acc, O, Q => patGet (patD p d ρ) fun ρ1 => ft ρ1 O fun b O1 => if b = true then fe ρ1 O1 fun e O2 => acc.length < sizeLine ∧ lcD p ft fe ρ ds (acc ++ [e]) O2 Q else lcD p ft fe ρ ds acc O1 Q
def fLc (fi : FI) (p : Pat) (ft : FT) (fe : FE) (vs : List Nat) : FE := fun ρ O Q => fi ρ O fun ds O1 => lcD p ft fe (wipeD ρ vs) ds [] O1 fun acc O2 => Q (.lst acc) O2
def fLcO (fi : FI) (p : Pat) (ft : FT) (fe : FE) (vs : List Nat) : FE := fun ρ O Q => fi ρ O fun ds O1 => lcD p ft fe (wipeD ρ vs) ds [] O1 fun acc O2 => ∀ q, O2 q = none → Q (.ref q) (updO O2 q (.lst acc))
def fYes : FT := fun _ O Q => Q true O
section
variable {X : Cx} {elt tg iter : Expr} {ifs : List Expr} {scope : Scope} {own : List (Str × Nat)} {pos : Pos} {fi : FI} {p : Pat} {ft : FT} {fe : FE}
theorem dts_nil : PTs X [] (liftT M X.K fYes) := ⟨fun pins s σ H Q I h => by
  obtain ⟨F, O, P, ρ, R, g, en, q, po⟩ := h
  exact pts_nil.run pins s σ H Q I (po true O F H q (Same.refl _) g)⟩
theorem dts_one {c : Expr} (h : DT M X c ft) : PTs X [c] (liftT M X.K ft) := pts_one h
theorem fLc_core {vs : List Nat} {K : PySem.W.Frag} (hv : ∀ i ∈ patI p, i ∈ vs) {σ : L2.St} {H : Hp} {Q : VK} {F P : Hp} {O : Ow} {ρ : DEnv} {R : List D → Ow → Prop} (g : Gd M K F O P H) (en : EnvOk K F ρ σ)
    (q : fi ρ O fun ds O1 => lcD p ft fe (wipeD ρ vs) ds [] O1 R)
    (po : ∀ acc O' F' H' q vacc, R acc O' → Same F F' → P q = none → M.rel F' P → Gd M K F' O' (upd P q (.lst vacc)) H' → RepAll K F' acc vacc → Q (.ref q) H') :
    tLc (liftI M K fi) (patT K p) (liftT M K ft) (liftE M K fe) vs σ H Q := by
  refine ⟨F, O, P, ρ, _, g, en, q, fun ds O1 F1 H1 J q1 s1 g1 it D hD => ?_⟩
  have hP := g1.freeP hD
  refine ⟨fun i m H => ∃ F2 O2 acc vacc, i + m = ds.length ∧ Same F1 F2 ∧ Gd M K F2 O2 (upd P D (.lst vacc)) H ∧ RepAll K F2 acc vacc ∧ lcD p ft fe (wipeD ρ vs) (ds.drop i) acc O2 R,
    ⟨ds.length, F1, O1, [], [], by omega, Same.refl _, g1.aside hD, .nil, by rw [List.drop_zero]; exact q1⟩, fun i m H2 hW => ?_⟩
  obtain ⟨F2, O2, acc, vacc, hm, s2, g2, ra, q2⟩ := hW
  obtain ⟨it1, it2⟩ := it F2 O2 (upd P D (.lst vacc)) H2 s2 g2 i
  by_cases hi : i < ds.length
  · obtain ⟨hgo, hy⟩ := it1 ds[i] (List.getElem?_eq_getElem hi)
    rw [List.drop_eq_getElem_cons hi] at q2
    unfold lcD at q2
    refine .inr ⟨hgo, fun H' => ∃ F3 O3 acc vacc, Same F1 F3 ∧ Gd M K F3 O3 (upd P D (.lst vacc)) H' ∧ RepAll K F3 acc vacc ∧ lcD p ft fe (wipeD ρ vs) (ds.drop (i + 1)) acc O3 R, fun H' hN => ?_, fun x H' hyy => ?_⟩
    · obtain ⟨F3, O3, acc3, vacc3, s3, g3, r3, q3⟩ := hN
      exact ⟨m - 1, by omega, F3, O3, acc3, vacc3, by omega, s3, g3, r3, q3⟩
    · obtain ⟨F3, s3, g3, r3⟩ := hy x H' hyy
      cases e1 : patD p ds[i] (wipeD ρ vs) with
      | none => rw [e1] at q2; exact q2.elim
      | some ρ3 =>
        rw [e1] at q2
        refine pat_ok g3 p ds[i] x (wipeD ρ vs) ρ3 (wipe σ vs) _ e1 r3 ((en.mono (s1.trans (s2.trans s3))).wipes vs) fun σ4 en4 off => ?_
        refine ⟨wipe_off off hv, F3, O2, upd P D (.lst vacc), ρ3, _, g3, en4, q2, fun b O5 F5 H5 q5 s5 g5 => ?_⟩
        cases b with
        | true =>
          rw [if_pos rfl] at q5 ⊢
          refine ⟨F5, O5, upd P D (.lst vacc), ρ3, _, g5, en4.mono s5, q5, fun y O6 F6 H6 w q6 s6 g6 r6 => ?_⟩
          refine ⟨vacc, (g6.as D _ upd_same).2, by rw [← ra.length]; exact q6.1, F6, O6, acc ++ [y], vacc ++ [w], s2.trans (s3.trans (s5.trans s6)), g6.asideSet (M.mono g1.rl (s2.trans (s3.trans (s5.trans s6))) (same_upd hP)), (ra.mono (s3.trans (s5.trans s6))).append (.one r6), q6.2⟩
        | false =>
          rw [if_neg Bool.false_ne_true] at q5 ⊢
          exact ⟨F5, O5, acc, vacc, s2.trans (s3.trans s5), g5, ra.mono (s3.trans s5), q5⟩
  · rw [List.drop_eq_nil_of_le (by omega)] at q2
    exact .inl ⟨it2 (by omega), po acc O2 F2 H2 D vacc q2 (s1.trans s2) hP (M.mono g1.rl s2 (Same.refl _)) g2 ra⟩
theorem fLc_lift {vs : List Nat} {K : PySem.W.Frag} (hv : ∀ i ∈ patI p, i ∈ vs) : ∀ σ H Q, liftE M K (fLc fi p ft fe vs) σ H Q → tLc (liftI M K fi) (patT K p) (liftT M K ft) (liftE M K fe) vs σ H Q := fun σ H Q h => by
  obtain ⟨F, O, P, ρ, R, g, en, q, po⟩ := h
  refine fLc_core hv g en q fun acc O' F' H' a vacc q1 s1 hP mk g1 r1 => ?_
  obtain ⟨s2, g2⟩ := g1.asideFz hP mk
  refine po (.lst acc) O' _ H' _ q1 (s1.trans s2) g2 ?_
  simp only [Rep]
  exact ⟨a, vacc, rfl, upd_same, r1.mono s2⟩
theorem pat_in {vs : List Nat} (h : ((patI p).all fun i => vs.contains i) = true) : ∀ i ∈ patI p, i ∈ vs := fun i hi => by
  have := List.all_eq_true.mp h i hi
  simpa using this
theorem de_lc {vs : List Nat} (hc : X.calm = true) (hN : X.N.Nodup) (hi : DI M X tg iter fi) (ok : BlkOk X.N X.env.scope scope own)
    (hg : ∀ (s : Shared) (H : Hp) (C : Addr) (cl : List (Str × Addr)) (fp : List Addr), DP (X.blk s H scope (compEnvC scope cl C X.env) fp) tg p) (ht : ∀ (s : Shared) (H : Hp) (C : Addr) (cl : List (Str × Addr)) (fp : List Addr), PTs (X.blk s H scope (compEnvC scope cl C X.env) fp) ifs (liftT M X.K ft))
    (he : ∀ (s : Shared) (H : Hp) (C : Addr) (cl : List (Str × Addr)) (fp : List Addr), DE M (X.blk s H scope (compEnvC scope cl C X.env) fp) elt fe) (hvs : own.map (·.2) = vs := by rfl) (hv : ((patI p).all fun i => vs.contains i) = true := by decide) (hs : ∀ x, foldedSetIterable iter X.env x = pure x := by intro _; rfl) :
    DE M X (.ListComp elt [⟨tg, iter, ifs, 0⟩] scope pos) (fLc fi p ft fe vs) := by
  subst hvs
  exact peMono (pe_lc (te := liftE M X.K fe) (g := patT X.K p) hc hN hi ok hg ht he hs) (fLc_lift (pat_in hv))
/-- name = [..] on one line, the name a local -/
theorem ds_setLc {i : Nat} {vs : List Nat} {y : Str} {py spos : Pos} (hc : X.calm = true) (hN : X.N.Nodup) (hy : X.N[i]? = some y) (hyl : X.env.scope.names.lookup y = some .local)
    (hsw : swapsWith (.ListComp elt [⟨tg, iter, ifs, 0⟩] scope pos) (some (.Name y py)) spos.line X.env = pure true) (hi : DI M X tg iter fi) (ok : BlkOk X.N X.env.scope scope own)
    (hg : ∀ (s : Shared) (H : Hp) (C : Addr) (cl : List (Str × Addr)) (fp : List Addr), DP (X.blk s H scope (compEnvC scope cl C X.env) fp) tg p) (ht : ∀ (s : Shared) (H : Hp) (C : Addr) (cl : List (Str × Addr)) (fp : List Addr), PTs (X.blk s H scope (compEnvC scope cl C X.env) fp) ifs (liftT M X.K ft))
    (he : ∀ (s : Shared) (H : Hp) (C : Addr) (cl : List (Str × Addr)) (fp : List Addr), DE M (X.blk s H scope (compEnvC scope cl C X.env) fp) elt fe) (hvs : own.map (·.2) = vs := by rfl) (hv : ((patI p).all fun i => vs.contains i) = true := by decide) (hs : ∀ x, foldedSetIterable iter X.env x = pure x := by intro _; rfl) :
    DS M X (.Assign [.Name y py] (.ListComp elt [⟨tg, iter, ifs, 0⟩] scope pos) spos) (gSet (fLc fi p ft fe vs) i) := by
  subst hvs
  exact psMono (ps_setLc (te := liftE M X.K fe) (g := patT X.K p) hc hN hy hyl hsw hi ok hg ht he hs) (gSet_lift (fLc_lift (pat_in hv)))
end

/-! ### what a def promises, over data -/
theorem Gd.re {M' : MX} {K : PySem.W.Frag} {F P H : Hp} {O : Ow} (g : Gd M K F O P H) (mk : M'.rel F P) : Gd M' K F O P H := ⟨g.fz, g.ow, g.as, mk, g.nt⟩
theorem Gd.mt {K : PySem.W.Frag} {F P H : Hp} {O : Ow} (g : Gd M K F O P H) : Gd MT K F O P H := g.re trivial
theorem Gd.less {K : PySem.W.Frag} {F P P0 H : Hp} {O : Ow} (g : Gd MT K F O P H) (s : Same P0 P) : Gd MT K F O P0 H := by
  refine ⟨g.fz, fun a c e => ?_, fun a o e => g.as a o (s a o e), trivial, fun a o e => g.nt a o (s a o e)⟩
  obtain ⟨h1, h2, h3⟩ := g.ow a c e
  exact ⟨h1, s.free h2, h3⟩
theorem PostE.mt {K : PySem.W.Frag} {F F1 P H : Hp} {O : Ow} {R : VD} {Q : VK} (po : PostE M K F P R Q) (g : Gd M K F1 O P H) (s1 : Same F F1) : PostE MT K F1 P R Q := fun d O' F' H' v q s g' r => po d O' F' H' v q (s1.trans s) (g'.re (M.mono g.rl s (Same.refl _))) r
abbrev XD := Value → Option (List (Str × D)) → Ow → Prop
abbrev DSp := List D → Ow → VD → XD → Prop
def XdOk (K : PySem.W.Frag) (F _H : Hp) : Option (List (Str × D)) → Option Addr → Prop := XdR K F
def PostX (K : PySem.W.Frag) (F P : Hp) (RE : XD) (E : XK) : Prop := ∀ cls fs O' F' H' dd, RE cls fs O' → Same F F' → Gd MT K F' O' P H' → XdOk K F' H' fs dd → E cls dd H'
theorem PostX.more {K : PySem.W.Frag} {F F' P : Hp} {RE : XD} {E : XK} (po : PostX K F P RE E) (s : Same F F') : PostX K F' P RE E := fun cls fs O' F2 H' dd q s2 g x => po cls fs O' F2 H' dd q (s.trans s2) g x
def liftSp (K : PySem.W.Frag) (dsp : DSp) : Sp := fun vs H Q E => ∃ F O P ds R RE, Gd MT K F O P H ∧ RepAll K F ds vs ∧ dsp ds O R RE ∧ PostE MT K F P R Q ∧ PostX K F P RE E
abbrev X0 : XD := fun _ _ _ => False
section
variable {X : Cx} {e : Expr} {es : List Expr} {fr : FA} {CX : CXT} {k : Nat} {f : Addr} {fd : FuncData} {ps : List Str} {dsp : DSp} {x : Str} {p pos : Pos}
def fCall (dsp : DSp) (fr : FA) : FE := fun ρ O Q => fr ρ O fun ds O1 => dsp ds O1 Q X0
theorem de_call (G : FnOk X.prog X.w X.K X.mg X.base CX0 k f fd ps (liftSp X.K dsp)) (hr : Room k X.A) (hg : Gl X x) (hm : X.mg x = some (.ref f)) (hk : PySem.W.keepIn X.K (.ref f) = true) (hb : Binds X.K fd ps [])
    (ha : DA M X (e :: es) fr) (hdb : (x == ("__debug__" : Str)) = false := by decide) (he : starEach (e :: es) X.env = (false, eval e X.env) :: starEach es X.env := by rfl) (hpl : (backTo pos (starEach es X.env)).any (·.1) = false := by rfl) :
    DE M X (.Call (.Name x p) (e :: es) [] pos) (fCall dsp fr) := peMono (pe_call G hr hg hm hk hb .nil pass0 ha hdb he hpl) fun σ H Q h => by
  obtain ⟨F, O, P, ρ, R, g, en, q, po⟩ := h
  refine ⟨F, O, P, ρ, _, g, en, q, fun ds O1 F1 H1 vs q1 s1 g1 r1 => ?_⟩
  show liftSp X.K dsp (vs ++ []) H1 Q E0
  rw [List.append_nil]
  exact ⟨F1, O1, P, ds, R, X0, g1.mt, r1, q1, po.mt g1 s1, fun _ _ _ _ _ _ z => z.elim⟩
end
section
variable {P : Program} {w : World} {K : PySem.W.Frag} {mg : Str → Option Value} {base : Heap}
/-- the names' values at the entry -/
def startD (N : List Str) (ds : List D) : DEnv := ds.map some ++ List.replicate (N.length - ds.length) none
theorem fn_d {x qual : Str} {st : Stmt} {f : Addr} {fd : FuncData} {N ps : List Str} {k : Nat} {dsp : DSp} {g : GS} (F : Fun K x qual st f fd) (S : FnScope N ps (defScope st)) (len : ∀ ds O R RE, dsp ds O R RE → ds.length = ps.length)
    (hder : ∀ (cdv : Value) (A : Around) (outer : List Env) (s : Shared) (H : Hp) (E : XK), Room k (A.deeper (envOfC qual (defScope st) s.heap.objs.size f cdv)) →
      DSs MT (cxOf CX0 P w K mg base N qual (defScope st) f cdv A outer s H E).nox (defBody st) g)
    (hread : ∀ ds O R RE, dsp ds O R RE → g { nx := fun _ O' => R .non O', rt := R } (startD N ds) O) : FnOk P w K mg base CX0 (k + 1) f fd ps (liftSp K dsp) := by
  refine F.ok S (fun vs H Q E h => ?_) fun cdv A outer s H vs Q E hr h => ?_
  · obtain ⟨F, O, P, ds, R, RE, g, r, q, _⟩ := h
    rw [← r.length]; exact len ds O R RE q
  · obtain ⟨F, O, P, ds, R, RE, gd, r, q, po, _⟩ := h
    refine ⟨_, hder cdv A outer s H E hr, F, O, P, startD N ds, { nx := fun _ O' => R .non O', rt := R }, gd, ?_, hread ds O R RE q, ⟨fun ρ O' F' H' σ q1 s1 g1 _ => ?_, po, fun _ _ _ _ _ z => z.elim, fun _ _ _ _ _ z => z.elim⟩⟩
    · unfold startD L2.start
      rw [r.length]
      exact envOk_start _ r
    · exact po .non O' F' H' .non q1 s1 g1 (by simp only [Rep])
end
/-- no calls are left -/
theorem none_left {P : Program} {w : World} {K : PySem.W.Frag} {mg : Str → Option Value} {base : Heap} {CX : CXT} {f : Addr} {fd : FuncData} {ps : List Str} {dsp : DSp} {k : Nat} (no : ∀ ds O R RE, ¬ dsp ds O R RE) : FnOk P w K mg base CX k f fd ps (liftSp K dsp) := by
  have no' : ∀ vs H Q E, ¬ liftSp K dsp vs H Q E := fun vs H Q E h => by
    obtain ⟨F, O, P, ds, R, RE, g, r, q, _⟩ := h
    exact no ds O R RE q
  exact ⟨fun vs H Q E h => absurd h (no' vs H Q E), fun A outer s H args us vs Q E _ _ _ _ h => absurd h (no' vs H Q E)⟩
/-- the law's own promise -/
def lawSp (n : Nat) : DSp := fun ds _ R _ => ∃ ns : List Int, ds = [.scr ns] ∧ ns.length ≤ n ∧ ∀ O, R (.bl true) O
theorem law_start {K : PySem.W.Frag} {H : Hp} {a : Addr} {ns : List Int} {n : Nat} (hl : ns.length ≤ n) (h : SqL K H a (ns.map V.int)) : liftSp K (lawSp n) [.ref a] H (fun v _ => v = .bl true) fun _ _ _ => False := by
  refine ⟨fun b => if b = a then H b else none, fun _ => none, fun _ => none, [.scr ns], fun d _ => d = .bl true, X0, ⟨fun b o e => ?_, (fun _ _ e => nomatch e), (fun _ _ e => nomatch e), trivial, (fun _ _ e => nomatch e)⟩, ?_, ⟨ns, rfl, hl, fun _ => rfl⟩, fun d O' F' H' v q _ _ r => ?_, fun _ _ _ _ _ _ z => z.elim⟩
  · split at e
    · exact e
    · cases e
  · refine .one ?_
    simp only [Rep]
    refine ⟨a, rfl, ?_⟩
    rcases h with (h | ⟨o, h⟩) | h
    · exact .inl (.inl ((if_pos rfl).trans h))
    · exact .inl (.inr ⟨o, (if_pos rfl).trans h⟩)
    · exact .inr h
  · subst q
    simpa only [Rep] using r
end Kf
namespace Kf
open PySem PySem.Spec L2
open PyProof.Rows hiding St
variable {M : MX}

abbrev rSubD : R2D := rInts0 fun i j => .int (i - j)
abbrev rMulD : R2D := rInts CMul fun i j => .int (i * j)
abbrev rDivD : R2D := rInts CDv fun i j => .int (i / j)
abbrev rModD : R2D := rInts (fun _ j => 0 < j) fun i j => .int (i % j)
abbrev rPowD : R2D := rInts CPow fun i j => .int (i ^ j.toNat)
abbrev rGtD : R2D := rInts0 fun i j => .bl (decide (j < i))
abbrev rGeD : R2D := rInts0 fun i j => .bl (decide (j ≤ i))
theorem _root_.L2.Room.u200 {k : Nat} {A : Around} (r : Room k A) : A.units + 200 < cLine := by have := r.un; omega

/-- a def of the text: its place, its name, how it is called -/
structure Fn (K : PySem.W.Frag) (mg : Str → Option Value) (x : Str) (st : Stmt) (ps : List Str) (f : Addr) (fd : FuncData) : Prop where
  F : Fun K x x st f fd
  m : mg x = some (.ref f)
  b : Binds K fd ps []
section
variable {X : Cx} {e : Expr} {es : List Expr} {fr : FA} {k : Nat} {f : Addr} {fd : FuncData} {ps : List Str} {dsp : DSp} {x : Str} {st : Stmt} {p pos : Pos}
theorem de_callN (N : Fn X.K X.mg x st ps f fd) (G : FnOk X.prog X.w X.K X.mg X.base CX0 k f fd ps (liftSp X.K dsp)) (hr : Room k X.A) (hg : Gl X x)
    (ha : DA M X (e :: es) fr) (hdb : (x == ("__debug__" : Str)) = false := by decide) (he : starEach (e :: es) X.env = (false, eval e X.env) :: starEach es X.env := by rfl) (hpl : (backTo pos (starEach es X.env)).any (·.1) = false := by rfl) :
    DE M X (.Call (.Name x p) (e :: es) [] pos) (fCall dsp fr) := de_call G hr hg N.m N.F.kp N.b ha hdb he hpl
/-- a constant of the module -/
def Cst (K : PySem.W.Frag) (mg : Str → Option Value) (x : Str) (d : D) : Prop := ∃ u v, mg x = some u ∧ RelV v u ∧ ∀ F, Rep K F d v
theorem de_cst {d : D} (c : Cst X.K X.mg x d) (hg : Gl X x) (hd : (x == ("__debug__" : Str)) = false := by decide) : DE M X (.Name x pos) (fC d) := by
  obtain ⟨u, v, h1, h2, h3⟩ := c
  exact de_glob hg h1 h2 h3 hd
/-- a built-in class as a value -/
theorem de_ty {n : String} (hv : bootBuiltins x = some (.type n)) (hm : X.mg x = none) (hg : Gl X x) (hn : x ≠ "__name__" := by decide) (hd : (x == ("__debug__" : Str)) = false := by decide) : DE M X (.Name x pos) (fC (.ty n)) :=
  de_bltn (v := .ty n) hg hm hv rfl (fun _ => by simp only [Rep]) hn hd
end
theorem bb_len : bootBuiltins "len" = some (.builtin "len") := by decide +kernel
theorem bb_isinstance : bootBuiltins "isinstance" = some (.builtin "isinstance") := by decide +kernel
theorem bb_max : bootBuiltins "max" = some (.builtin "max") := by decide +kernel
theorem bb_min : bootBuiltins "min" = some (.builtin "min") := by decide +kernel
theorem bb_sum : bootBuiltins "sum" = some (.builtin "sum") := by decide +kernel
theorem bb_sorted : bootBuiltins "sorted" = some (.builtin "sorted") := by decide +kernel
theorem bb_int : bootBuiltins "int" = some (.type "int") := by decide +kernel
theorem bb_str : bootBuiltins "str" = some (.type "str") := by decide +kernel
theorem bb_tuple : bootBuiltins "tuple" = some (.type "tuple") := by decide +kernel
theorem bb_list : bootBuiltins "list" = some (.type "list") := by decide +kernel
/-! ### ends that are known -/
theorem cst_int {K : PySem.W.Frag} {mg : Str → Option Value} {x : Str} {i : Int} {t : Tok} (h : mg x = some (.int i t)) : Cst K mg x (.int i) := ⟨_, .int i, h, ⟨t, rfl⟩, fun _ => by simp only [Rep]⟩
theorem cst_str {K : PySem.W.Frag} {mg : Str → Option Value} {x y : Str} {t : Tok} (h : mg x = some (.str y t)) : Cst K mg x (.str y) := ⟨_, .str y, h, ⟨t, rfl⟩, fun _ => by simp only [Rep]⟩
/-- a tuple of texts that stands in the written part -/
theorem cst_strs {K : PySem.W.Frag} {mg : Str → Option Value} {x : Str} {a : Addr} {o : Obj} {its : Array Value} {n : Nat} {ys : List Str} (h : mg x = some (.ref a)) (h1 : K.lookup a = some o) (h2 : o.cls = .type "tuple") (h3 : o.data = .seq its n)
    (h4 : Vals (ys.map V.str) its.toList) (h5 : ys.length ≤ sizeLine) : Cst K mg x (.tup (ys.map .str)) := by
  refine ⟨_, .ref a, h, rfl, fun F => ?_⟩
  simp only [Rep]
  refine ⟨a, ys.map V.str, rfl, .inr ⟨o, its, n, h1, h2, h3, ?_, h4⟩, .of_strs⟩
  have h6 : ys.length = its.size := by
    have := h4.length
    rw [List.length_map] at this
    rw [this]; simp
  omega
end Kf
namespace Kf
open PySem PySem.Spec L2
open PyProof.Rows hiding St
variable {M : MX}

/-! ### the readings at known data -/
section
variable {O : Ow} {Q : VD} {i j : Int} {a b : Str} {xs ys : List D} {d e x y z u : D} {p : Addr} {neg : Bool} {ns : List Int}
theorem deref_tup : deref O (.tup xs) = .tup xs := rfl
theorem deref_lst : deref O (.lst xs) = .lst xs := rfl
theorem deref_int : deref O (.int i) = .int i := rfl
theorem deref_str : deref O (.str a) = .str a := rfl
theorem deref_bl {k : Bool} : deref O (.bl k) = .bl k := rfl
theorem deref_non : deref O .non = .non := rfl
theorem deref_scr : deref O (.scr ns) = .scr ns := rfl
theorem rLt_i : rLtD (.int i) (.int j) O Q = Q (.bl (decide (i < j))) O := rfl
theorem rLt_s : rLtD (.str a) (.str b) O Q = Q (.bl (decide (a.cps.toList < b.cps.toList))) O := rfl
theorem rLe_i : rLeD (.int i) (.int j) O Q = Q (.bl (decide (i ≤ j))) O := rfl
theorem rLe_s : rLeD (.str a) (.str b) O Q = Q (.bl (!decide (b.cps.toList < a.cps.toList))) O := rfl
theorem rInts_i {C : Int → Int → Prop} {f : Int → Int → D} : rInts C f (.int i) (.int j) O Q = (C i j ∧ Q (f i j) O) := rfl
theorem rInts0_i {f : Int → Int → D} : rInts0 f (.int i) (.int j) O Q = Q (f i j) O := rfl
theorem rAdd_i : rAddD (.int i) (.int j) O Q = Q (.int (i + j)) O := rfl
theorem rAdd_s : rAddD (.str a) (.str b) O Q = (a.length + b.length ≤ sizeLine ∧ Q (.str (a ++ b)) O) := rfl
theorem rAdd_l : rAddD (.lst xs) (.lst ys) O Q = (xs.length + ys.length ≤ sizeLine ∧ Q (.lst (xs ++ ys)) O) := rfl
theorem rAdd_t : rAddD (.tup xs) (.tup ys) O Q = (xs ≠ [] ∧ xs.length + ys.length ≤ sizeLine ∧ Q (.tup (xs ++ ys)) O) := rfl
theorem rCatO_l : rCatO (.lst xs) (.lst ys) O Q = (xs.length + ys.length ≤ sizeLine ∧ ∀ p, O p = none → Q (.ref p) (updO O p (.lst (xs ++ ys)))) := rfl
theorem rNeg_i : rNeg (.int i) O Q = Q (.int (-i)) O := rfl
theorem rLen_t : rLenD [.tup xs] O Q = Q (.int xs.length) O := rfl
theorem rLen_l : rLenD [.lst xs] O Q = Q (.int xs.length) O := rfl
theorem rLen_c : rLenD [.scr ns] O Q = Q (.int ns.length) O := rfl
theorem rLen_s : rLenD [.str a] O Q = (a.length ≤ sizeLine ∧ Q (.int a.length) O) := rfl
theorem rLen_r (h : O p = some (.lst xs)) : rLenD [.ref p] O Q = Q (.int xs.length) O := by simp only [rLenD, deref, h]
theorem rMax_i : rMax2 [.int i, .int j] O Q = Q (.int (if j > i then j else i)) O := rfl
theorem rMin_i : rMin2 [.int i, .int j] O Q = Q (.int (if j < i then j else i)) O := rfl
theorem rDivmod_i : rDivmod [.int i, .int j] O Q = (CDv i j ∧ Q (.tup [.int (i / j), .int (i % j)]) O) := rfl
theorem rInt_i : rInt1 [.int i] O Q = Q (.int i) O := rfl
theorem rInt_b {k : Bool} : rInt1 [.bl k] O Q = Q (.int (if k then 1 else 0)) O := rfl
theorem rStr_i : rStr1 [.int i] O Q = (i.natAbs.log2 < 1920 ∧ Q (.str (toString i)) O) := rfl
theorem rList_l : rList1 [.lst xs] O Q = Q (.lst xs) O := rfl
theorem rList_t : rList1 [.tup xs] O Q = Q (.lst xs) O := rfl
theorem rListO_l : rList1O [.lst xs] O Q = ∀ p, O p = none → Q (.ref p) (updO O p (.lst xs)) := rfl
theorem rListO_t : rList1O [.tup xs] O Q = ∀ p, O p = none → Q (.ref p) (updO O p (.lst xs)) := rfl
theorem rTup_l : rTup1 [.lst xs] O Q = Q (.tup xs) O := rfl
theorem rTup_t : rTup1 [.tup xs] O Q = Q (.tup xs) O := rfl
theorem ixC0 {α : Type} (x : α) (r : List α) : atI (x :: r) 0 = some x := by
  have := atI_nat (xs := x :: r) (j := 0) (v := x) rfl
  simpa using this
theorem ixC1 {α : Type} (x y : α) (r : List α) : atI (x :: y :: r) 1 = some y := by
  have := atI_nat (xs := x :: y :: r) (j := 1) (v := y) rfl
  simpa using this
theorem ixC2 {α : Type} (x y z : α) (r : List α) : atI (x :: y :: z :: r) 2 = some z := by
  have := atI_nat (xs := x :: y :: z :: r) (j := 2) (v := z) rfl
  simpa using this
theorem ixC3 {α : Type} (x y z u : α) (r : List α) : atI (x :: y :: z :: u :: r) 3 = some u := by
  have := atI_nat (xs := x :: y :: z :: u :: r) (j := 3) (v := u) rfl
  simpa using this
theorem rIx_t (h : atI xs i = some d) : rIxD (.tup xs) (.int i) O Q = Q d O := by simp only [rIxD, deref, h]
theorem rIx_l (h : atI xs i = some d) : rIxD (.lst xs) (.int i) O Q = Q d O := by simp only [rIxD, deref, h]
theorem rIx_c {n : Int} (h : atI ns i = some n) : rIxD (.scr ns) (.int i) O Q = Q (.int n) O := by simp only [rIxD, deref, h]
theorem rIx_s {c : Nat} (h : atI a.cps.toList i = some c) : rIxD (.str a) (.int i) O Q = (a.length ≤ sizeLine ∧ Q (.str ⟨#[c]⟩) O) := by simp only [rIxD, deref, h]
theorem rIx_t0 : rIxD (.tup (x :: xs)) (.int 0) O Q = Q x O := rIx_t (ixC0 _ _)
theorem rIx_t1 : rIxD (.tup (x :: y :: xs)) (.int 1) O Q = Q y O := rIx_t (ixC1 _ _ _)
theorem rIx_t2 : rIxD (.tup (x :: y :: z :: xs)) (.int 2) O Q = Q z O := rIx_t (ixC2 _ _ _ _)
theorem rIx_t3 : rIxD (.tup (x :: y :: z :: u :: xs)) (.int 3) O Q = Q u O := rIx_t (ixC3 _ _ _ _ _)
theorem rIx_l0 : rIxD (.lst (x :: xs)) (.int 0) O Q = Q x O := rIx_l (ixC0 _ _)
theorem rIx_l1 : rIxD (.lst (x :: y :: xs)) (.int 1) O Q = Q y O := rIx_l (ixC1 _ _ _)
theorem rIx_l2 : rIxD (.lst (x :: y :: z :: xs)) (.int 2) O Q = Q z O := rIx_l (ixC2 _ _ _ _)
theorem rIx_p0 (h : O p = some .pool) : rIxD (.ref p) (.int 0) O Q = ∀ x : Int, 0 ≤ x → Q (.int x) O := by
  simp only [rIxD, deref, h]; simp
theorem rIx_p1 (h : O p = some .pool) : rIxD (.ref p) (.int 1) O Q = ∀ x : Int, 0 ≤ x → x < 2147483647 → Q (.int x) O := by
  simp only [rIxD, deref, h]; simp
theorem rIsN_x : rIsN neg x .non O Q = Q (.bl (neg ^^ isNon x)) O := rfl
theorem isNon_t : isNon (.tup xs) = false := rfl
theorem isNon_n : isNon .non = true := rfl
theorem isNon_i : isNon (.int i) = false := rfl
theorem isNon_s : isNon (.str a) = false := rfl
theorem isNon_l : isNon (.lst xs) = false := rfl
/-! == -/
/-- == of data -/
def deq (x y : D) : Bool := PyData.eqv (toPy x) (toPy y)
def deqs (xs ys : List D) : Bool := PyData.eqvAll (toPys xs) (toPys ys)
theorem deq_t : deq (.tup xs) (.tup ys) = deqs xs ys := by simp only [deq, toPy, PyData.eqv, deqs]
theorem deq_l : deq (.lst xs) (.lst ys) = deqs xs ys := by simp only [deq, toPy, PyData.eqv, deqs]
theorem str_beq (a b : Str) : (a == b) = decide (a = b) := by
  by_cases h : a = b
  · subst h; simp
  · rw [decide_eq_false h]; exact beq_eq_false_iff_ne.mpr h
theorem deq_s : deq (.str a) (.str b) = decide (a = b) := by simp only [deq, toPy, PyData.eqv, str_beq]
theorem deq_i : deq (.int i) (.int j) = decide (i = j) := by simp only [deq, toPy, PyData.eqv, Bool.beq_eq_decide_eq]
theorem deq_b {k l : Bool} : deq (.bl k) (.bl l) = decide (k = l) := by simp only [deq, toPy, PyData.eqv, Bool.beq_eq_decide_eq]
theorem deqs_nn : deqs [] [] = true := by simp only [deqs, toPys, PyData.eqvAll]
theorem deqs_nc : deqs [] (y :: ys) = false := by simp only [deqs, toPys, PyData.eqvAll]
theorem deqs_cn : deqs (x :: xs) [] = false := by simp only [deqs, toPys, PyData.eqvAll]
theorem deqs_cc : deqs (x :: xs) (y :: ys) = (deq x y && deqs xs ys) := by simp only [deqs, deq, toPys, PyData.eqvAll]
/-- == at data read through: what is asked, what is answered -/
theorem rEq_dd (hx : isPy (ddf O 192 x) = true) (hy : isPy (ddf O 192 y) = true) (hd : dp (ddf O 192 x) ≤ 190) : rEqD neg x y O Q = Q (.bl (neg ^^ deq (ddf O 192 x) (ddf O 192 y))) O := by
  have hm : min (dp (ddf O 192 x)) (dp (ddf O 192 y)) ≤ 190 := Nat.le_trans (Nat.min_le_left _ _) hd
  simp only [rEqD, hx, hy, hm, deq, true_and]
/-- .. where the right one is flat -/
theorem rEq_dr (hx : isPy (deref O x) = true) (hy : isPy (deref O y) = true) (hd : dp (deref O y) ≤ 190) : rEqD neg x y O Q = Q (.bl (neg ^^ deq (deref O x) (deref O y))) O := by
  have ex : ddf O 192 x = deref O x := ddf_deref hx
  have ey : ddf O 192 y = deref O y := ddf_deref hy
  have hm : min (dp (deref O x)) (dp (deref O y)) ≤ 190 := Nat.le_trans (Nat.min_le_right _ _) hd
  simp only [rEqD, ex, ey, hx, hy, hm, deq, true_and]
/-- == at data: what is asked, what is answered -/
theorem rEq_d (hx : isPy (deref O x) = true) (hy : isPy (deref O y) = true) (hd : dp (deref O x) ≤ 190) : rEqD neg x y O Q = Q (.bl (neg ^^ deq (deref O x) (deref O y))) O := by
  have ex : ddf O 192 x = deref O x := ddf_deref hx
  have ey : ddf O 192 y = deref O y := ddf_deref hy
  rw [rEq_dd (by rw [ex]; exact hx) (by rw [ey]; exact hy) (by rw [ex]; exact hd), ex, ey]
theorem rEq_i : rEqD neg (.int i) (.int j) O Q = Q (.bl (neg ^^ decide (i = j))) O := by
  rw [rEq_d (by simp only [deref, isPy]) (by simp only [deref, isPy]) (by simp [deref, dp, toPy, PyData.depth]), deref_int, deref_int, deq_i]
theorem rEq_b {k l : Bool} : rEqD neg (.bl k) (.bl l) O Q = Q (.bl (neg ^^ decide (k = l))) O := by
  rw [rEq_d (by simp only [deref, isPy]) (by simp only [deref, isPy]) (by simp [deref, dp, toPy, PyData.depth]), deref_bl, deref_bl, deq_b]
theorem rEq_s (h1 : PyData.strOk a = true) (h2 : PyData.strOk b = true) : rEqD neg (.str a) (.str b) O Q = Q (.bl (neg ^^ decide (a = b))) O := by
  rw [rEq_d (by simpa only [deref, isPy] using h1) (by simpa only [deref, isPy] using h2) (by simp [deref, dp, toPy, PyData.depth]), deref_str, deref_str, deq_s]
theorem rApp_r (h : O p = some (.lst xs)) : rAppendD (.ref p) [y] O Q = (xs.length < sizeLine ∧ Q .non (updO O p (.lst (xs ++ [y])))) := by simp only [rAppendD, h]
theorem tyOk_r (h : O p = some (.lst xs)) : tyOk "list" O (.ref p) = true := by simp [tyOk, tyNm, h]
theorem tyOk_l : tyOk "list" O (.lst xs) = true := rfl
theorem tyOk_s : tyOk "str" O (.str a) = true := rfl
theorem rPool_i : rPool [.int i, .int j] O Q = (0 ≤ i ∧ 0 ≤ j ∧ j < 2147483647 ∧ ∀ p, O p = none → Q (.ref p) (updO O p .pool)) := rfl
theorem rSet_p0 {N : Ow → Prop} (h : O p = some .pool) : rSetD (.ref p) (.int 0) (.int i) O N = (0 ≤ i ∧ N O) := by
  simp only [rSetD, h]; simp
theorem rSet_p1 {N : Ow → Prop} (h : O p = some .pool) : rSetD (.ref p) (.int 1) (.int i) O N = ((0 ≤ i ∧ i < 2147483647) ∧ N O) := by
  simp only [rSetD, h]; simp
theorem rSet_r {N : Ow → Prop} {k : Nat} (h : O p = some (.lst xs)) (h' : ixN xs.length i = some k) : rSetD (.ref p) (.int i) d O N = N (updO O p (.lst (xs.set k d))) := by
  simp only [rSetD, h, h']
end
theorem sz_small {n : Nat} (h : n ≤ 1000000) : n ≤ sizeLine := by have := sizeLine_eq; omega
theorem sz_small' {n : Nat} (h : n < 1000000) : n < sizeLine := by have := sizeLine_eq; omega
theorem notX {b : Bool} : (true ^^ b) = !b := Bool.true_xor b
theorem notX' {b : Bool} : (false ^^ b) = b := Bool.false_xor b
/-- patterns -/
theorem patD_nm {i : Nat} {d : D} {ρ : DEnv} : patD (.nm i) d ρ = some (ρ.set i (some d)) := by simp only [patD]
theorem patD_tp {ps : List Pat} {ds : List D} {ρ : DEnv} : patD (.tp ps) (.tup ds) ρ = patDs ps ds ρ := by simp only [patD]
theorem patDs_nil {ρ : DEnv} : patDs [] [] ρ = some ρ := by simp only [patDs]
theorem patDs_cons {p : Pat} {ps : List Pat} {d : D} {ds : List D} {ρ : DEnv} : patDs (p :: ps) (d :: ds) ρ = (patD p d ρ).bind (patDs ps ds) := by simp only [patDs]
/-- a walk that keeps a word -/
theorem forD_inv {p : Pat} {gb : GS} {R : DEnds} (I : DEnv → Ow → Prop) : ∀ (ds : List D) (ρ : DEnv) (O : Ow), I ρ O → (∀ ρ O, I ρ O → R.nx ρ O) →
    (∀ d ∈ ds, ∀ ρ O, I ρ O → ∀ N, (∀ ρ O, I ρ O → N ρ O) → patGet (patD p d ρ) fun ρ1 => gb { R with nx := N, ct := N, bk := R.nx } ρ1 O) → forD p gb R ds ρ O
  | [], ρ, O, h, hd, _ => hd ρ O h
  | d :: ds, ρ, O, h, hd, hs => by
    have q := hs d List.mem_cons_self ρ O h (forD p gb R ds) fun ρ' O' h' => forD_inv I ds ρ' O' h' hd fun d' hm => hs d' (List.mem_cons_of_mem _ hm)
    unfold forD
    exact q

theorem isi_i_int {i : Int} {O : Ow} {Q : VD} : rIsiD [(.int i), .ty "int"] O Q = Q (.bl true) O := by simp [rIsiD, insCl, insTy, tyNm, insOf]
theorem isi_i_bool {i : Int} {O : Ow} {Q : VD} : rIsiD [(.int i), .ty "bool"] O Q = Q (.bl false) O := by simp [rIsiD, insCl, insTy, tyNm, insOf]
theorem isi_i_str {i : Int} {O : Ow} {Q : VD} : rIsiD [(.int i), .ty "str"] O Q = Q (.bl false) O := by simp [rIsiD, insCl, insTy, tyNm, insOf]
theorem isi_i_tuple {i : Int} {O : Ow} {Q : VD} : rIsiD [(.int i), .ty "tuple"] O Q = Q (.bl false) O := by simp [rIsiD, insCl, insTy, tyNm, insOf]
theorem isi_i_list {i : Int} {O : Ow} {Q : VD} : rIsiD [(.int i), .ty "list"] O Q = Q (.bl false) O := by simp [rIsiD, insCl, insTy, tyNm, insOf]
theorem isi_i_dict {i : Int} {O : Ow} {Q : VD} : rIsiD [(.int i), .ty "dict"] O Q = Q (.bl false) O := by simp [rIsiD, insCl, insTy, tyNm, insOf]
theorem isi_b_int {k : Bool} {O : Ow} {Q : VD} : rIsiD [(.bl k), .ty "int"] O Q = Q (.bl true) O := by simp [rIsiD, insCl, insTy, tyNm, insOf]
theorem isi_b_bool {k : Bool} {O : Ow} {Q : VD} : rIsiD [(.bl k), .ty "bool"] O Q = Q (.bl true) O := by simp [rIsiD, insCl, insTy, tyNm, insOf]
theorem isi_b_str {k : Bool} {O : Ow} {Q : VD} : rIsiD [(.bl k), .ty "str"] O Q = Q (.bl false) O := by simp [rIsiD, insCl, insTy, tyNm, insOf]
theorem isi_b_tuple {k : Bool} {O : Ow} {Q : VD} : rIsiD [(.bl k), .ty "tuple"] O Q = Q (.bl false) O := by simp [rIsiD, insCl, insTy, tyNm, insOf]
theorem isi_b_list {k : Bool} {O : Ow} {Q : VD} : rIsiD [(.bl k), .ty "list"] O Q = Q (.bl false) O := by simp [rIsiD, insCl, insTy, tyNm, insOf]
theorem isi_b_dict {k : Bool} {O : Ow} {Q : VD} : rIsiD [(.bl k), .ty "dict"] O Q = Q (.bl false) O := by simp [rIsiD, insCl, insTy, tyNm, insOf]
theorem isi_s_int {a : Str} {O : Ow} {Q : VD} : rIsiD [(.str a), .ty "int"] O Q = Q (.bl false) O := by simp [rIsiD, insCl, insTy, tyNm, insOf]
theorem isi_s_bool {a : Str} {O : Ow} {Q : VD} : rIsiD [(.str a), .ty "bool"] O Q = Q (.bl false) O := by simp [rIsiD, insCl, insTy, tyNm, insOf]
theorem isi_s_str {a : Str} {O : Ow} {Q : VD} : rIsiD [(.str a), .ty "str"] O Q = Q (.bl true) O := by simp [rIsiD, insCl, insTy, tyNm, insOf]
theorem isi_s_tuple {a : Str} {O : Ow} {Q : VD} : rIsiD [(.str a), .ty "tuple"] O Q = Q (.bl false) O := by simp [rIsiD, insCl, insTy, tyNm, insOf]
theorem isi_s_list {a : Str} {O : Ow} {Q : VD} : rIsiD [(.str a), .ty "list"] O Q = Q (.bl false) O := by simp [rIsiD, insCl, insTy, tyNm, insOf]
theorem isi_s_dict {a : Str} {O : Ow} {Q : VD} : rIsiD [(.str a), .ty "dict"] O Q = Q (.bl false) O := by simp [rIsiD, insCl, insTy, tyNm, insOf]
theorem isi_t_int {xs : List D} {O : Ow} {Q : VD} : rIsiD [(.tup xs), .ty "int"] O Q = Q (.bl false) O := by simp [rIsiD, insCl, insTy, tyNm, insOf]
theorem isi_t_bool {xs : List D} {O : Ow} {Q : VD} : rIsiD [(.tup xs), .ty "bool"] O Q = Q (.bl false) O := by simp [rIsiD, insCl, insTy, tyNm, insOf]
theorem isi_t_str {xs : List D} {O : Ow} {Q : VD} : rIsiD [(.tup xs), .ty "str"] O Q = Q (.bl false) O := by simp [rIsiD, insCl, insTy, tyNm, insOf]
theorem isi_t_tuple {xs : List D} {O : Ow} {Q : VD} : rIsiD [(.tup xs), .ty "tuple"] O Q = Q (.bl true) O := by simp [rIsiD, insCl, insTy, tyNm, insOf]
theorem isi_t_list {xs : List D} {O : Ow} {Q : VD} : rIsiD [(.tup xs), .ty "list"] O Q = Q (.bl false) O := by simp [rIsiD, insCl, insTy, tyNm, insOf]
theorem isi_t_dict {xs : List D} {O : Ow} {Q : VD} : rIsiD [(.tup xs), .ty "dict"] O Q = Q (.bl false) O := by simp [rIsiD, insCl, insTy, tyNm, insOf]
theorem isi_l_int {xs : List D} {O : Ow} {Q : VD} : rIsiD [(.lst xs), .ty "int"] O Q = Q (.bl false) O := by simp [rIsiD, insCl, insTy, tyNm, insOf]
theorem isi_l_bool {xs : List D} {O : Ow} {Q : VD} : rIsiD [(.lst xs), .ty "bool"] O Q = Q (.bl false) O := by simp [rIsiD, insCl, insTy, tyNm, insOf]
theorem isi_l_str {xs : List D} {O : Ow} {Q : VD} : rIsiD [(.lst xs), .ty "str"] O Q = Q (.bl false) O := by simp [rIsiD, insCl, insTy, tyNm, insOf]
theorem isi_l_tuple {xs : List D} {O : Ow} {Q : VD} : rIsiD [(.lst xs), .ty "tuple"] O Q = Q (.bl false) O := by simp [rIsiD, insCl, insTy, tyNm, insOf]
theorem isi_l_list {xs : List D} {O : Ow} {Q : VD} : rIsiD [(.lst xs), .ty "list"] O Q = Q (.bl true) O := by simp [rIsiD, insCl, insTy, tyNm, insOf]
theorem isi_l_dict {xs : List D} {O : Ow} {Q : VD} : rIsiD [(.lst xs), .ty "dict"] O Q = Q (.bl false) O := by simp [rIsiD, insCl, insTy, tyNm, insOf]
theorem isi_n_int  {O : Ow} {Q : VD} : rIsiD [.non, .ty "int"] O Q = Q (.bl false) O := by simp [rIsiD, insCl, insTy, tyNm, insOf]
theorem isi_n_bool  {O : Ow} {Q : VD} : rIsiD [.non, .ty "bool"] O Q = Q (.bl false) O := by simp [rIsiD, insCl, insTy, tyNm, insOf]
theorem isi_n_str  {O : Ow} {Q : VD} : rIsiD [.non, .ty "str"] O Q = Q (.bl false) O := by simp [rIsiD, insCl, insTy, tyNm, insOf]
theorem isi_n_tuple  {O : Ow} {Q : VD} : rIsiD [.non, .ty "tuple"] O Q = Q (.bl false) O := by simp [rIsiD, insCl, insTy, tyNm, insOf]
theorem isi_n_list  {O : Ow} {Q : VD} : rIsiD [.non, .ty "list"] O Q = Q (.bl false) O := by simp [rIsiD, insCl, insTy, tyNm, insOf]
theorem isi_n_dict  {O : Ow} {Q : VD} : rIsiD [.non, .ty "dict"] O Q = Q (.bl false) O := by simp [rIsiD, insCl, insTy, tyNm, insOf]
theorem isi_d_int  {O : Ow} {Q : VD} : rIsiD [.edic, .ty "int"] O Q = Q (.bl false) O := by simp [rIsiD, insCl, insTy, tyNm, insOf]
theorem isi_d_bool  {O : Ow} {Q : VD} : rIsiD [.edic, .ty "bool"] O Q = Q (.bl false) O := by simp [rIsiD, insCl, insTy, tyNm, insOf]
theorem isi_d_str  {O : Ow} {Q : VD} : rIsiD [.edic, .ty "str"] O Q = Q (.bl false) O := by simp [rIsiD, insCl, insTy, tyNm, insOf]
theorem isi_d_tuple  {O : Ow} {Q : VD} : rIsiD [.edic, .ty "tuple"] O Q = Q (.bl false) O := by simp [rIsiD, insCl, insTy, tyNm, insOf]
theorem isi_d_list  {O : Ow} {Q : VD} : rIsiD [.edic, .ty "list"] O Q = Q (.bl false) O := by simp [rIsiD, insCl, insTy, tyNm, insOf]
theorem isi_d_dict  {O : Ow} {Q : VD} : rIsiD [.edic, .ty "dict"] O Q = Q (.bl true) O := by simp [rIsiD, insCl, insTy, tyNm, insOf]
end Kf
namespace Kf
open PySem PySem.Spec L2
open PyProof.Rows hiding St
variable {M : MX}

/-! ### kinds -/
inductive Kd where
  | mk (m : Str) | one | to (a b : Kd) | both (a b : Kd)
  deriving DecidableEq, Inhabited
def dK : Kd → D
  | .mk m => .tup [.str "mark", .str m]
  | .one => .tup [.str "one"]
  | .to a b => .tup [.str "to", dK a, dK b]
  | .both a b => .tup [.str "both", dK a, dK b]
def Kd.leaves : Kd → Nat
  | .mk _ => 1
  | .one => 1
  | .to a b => a.leaves + b.leaves
  | .both a b => a.leaves + b.leaves
def Kd.depth : Kd → Nat
  | .mk _ => 0
  | .one => 0
  | .to a b => max a.depth b.depth + 1
  | .both a b => max a.depth b.depth + 1
theorem Kd.depth_lt : ∀ k : Kd, k.depth < k.leaves
  | .mk _ => by simp [depth, leaves]
  | .one => by simp [depth, leaves]
  | .to a b => by have := a.depth_lt; have := b.depth_lt; simp only [depth, leaves]; omega
  | .both a b => by have := a.depth_lt; have := b.depth_lt; simp only [depth, leaves]; omega
def Kd.ok : Kd → Bool
  | .mk m => PyData.strOk m
  | .one => true
  | .to a b => a.ok && b.ok
  | .both a b => a.ok && b.ok
theorem so_mark : PyData.strOk "mark" = true := by decide +kernel
theorem so_one : PyData.strOk "one" = true := by decide +kernel
theorem so_to : PyData.strOk "to" = true := by decide +kernel
theorem so_both : PyData.strOk "both" = true := by decide +kernel
theorem isPy_dK : ∀ k : Kd, isPy (dK k) = k.ok
  | .mk m => by simp [dK, isPy, isPys, Kd.ok, so_mark]
  | .one => by simp [dK, isPy, isPys, Kd.ok, so_one]
  | .to a b => by simp [dK, isPy, isPys, Kd.ok, so_to, isPy_dK a, isPy_dK b]
  | .both a b => by simp [dK, isPy, isPys, Kd.ok, so_both, isPy_dK a, isPy_dK b]
theorem dpT (ds : List D) : dp (.tup ds) = PyData.depthAll (toPys ds) + 1 := by simp [dp, toPy, PyData.depth]
theorem dpL (ds : List D) : dp (.lst ds) = PyData.depthAll (toPys ds) + 1 := by simp [dp, toPy, PyData.depth]
theorem dpC (d : D) (ds : List D) : PyData.depthAll (toPys (d :: ds)) = max (dp d) (PyData.depthAll (toPys ds)) := by simp [dp, toPys, PyData.depthAll]
theorem dpN : PyData.depthAll (toPys []) = 0 := by simp [toPys, PyData.depthAll]
theorem dpS (x : Str) : dp (.str x) = 0 := by simp [dp, toPy, PyData.depth]
theorem dpI (x : Int) : dp (.int x) = 0 := by simp [dp, toPy, PyData.depth]
theorem dpB (x : Bool) : dp (.bl x) = 0 := by simp [dp, toPy, PyData.depth]
theorem dp_dK : ∀ k : Kd, dp (dK k) = k.depth + 1
  | .mk m => by simp [dK, dpT, dpC, dpN, dpS, Kd.depth]
  | .one => by simp [dK, dpT, dpC, dpN, dpS, Kd.depth]
  | .to a b => by simp [dK, dpT, dpC, dpN, dpS, Kd.depth, dp_dK a, dp_dK b]
  | .both a b => by simp [dK, dpT, dpC, dpN, dpS, Kd.depth, dp_dK a, dp_dK b]
theorem deref_dK {O : Ow} (k : Kd) : deref O (dK k) = dK k := by cases k <;> rfl
theorem sd_tb : decide (Str.ofString "to" = Str.ofString "both") = false := by decide +kernel
theorem sd_bt : decide (Str.ofString "both" = Str.ofString "to") = false := by decide +kernel
/-- == of kinds is = -/
theorem deq_K : ∀ a b : Kd, deq (dK a) (dK b) = decide (a = b) := by
  intro a
  induction a with
  | mk m => intro b; cases b <;> simp [dK, deq_t, deqs_cc, deqs_nn, deqs_nc, deqs_cn, deq_s]
  | one => intro b; cases b <;> simp [dK, deq_t, deqs_cc, deqs_nn, deqs_nc, deqs_cn, deq_s]
  | to a c ih1 ih2 =>
    intro b
    cases b with
    | both _ _ => simp only [dK, deq_t, deqs_cc, deq_s, sd_tb]; simp
    | _ => simp [dK, deq_t, deqs_cc, deqs_nn, deqs_nc, deqs_cn, deq_s, ih1, ih2]
  | both a c ih1 ih2 =>
    intro b
    cases b with
    | to _ _ => simp only [dK, deq_t, deqs_cc, deq_s, sd_bt]; simp
    | _ => simp [dK, deq_t, deqs_cc, deqs_nn, deqs_nc, deqs_cn, deq_s, ih1, ih2]
theorem rEq_K {neg : Bool} {a b : Kd} {O : Ow} {Q : VD} (ha : a.ok = true) (hb : b.ok = true) (hd : a.depth < 190) : rEqD neg (dK a) (dK b) O Q = Q (.bl (neg ^^ decide (a = b))) O := by
  rw [rEq_d (by rw [deref_dK, isPy_dK, ha]) (by rw [deref_dK, isPy_dK, hb]) (by rw [deref_dK, dp_dK]; omega), deref_dK, deref_dK, deq_K]
/-- == against the empty list -/
theorem deq_nil (xs : List D) : deq (.lst xs) (.lst []) = xs.isEmpty := by
  cases xs <;> simp [deq_l, deqs_nn, deqs_cn]
theorem rEq_nilA {neg : Bool} {x : D} {xs : List D} {O : Ow} {Q : VD} (hx : deref O x = .lst xs) (h : isPys xs = true) : rEqD neg x (.lst []) O Q = Q (.bl (neg ^^ xs.isEmpty)) O := by
  rw [rEq_dr (by rw [hx]; simpa only [isPy] using h) (by simp only [deref, isPy, isPys]) (by simp [deref, dp, toPy, toPys, PyData.depth, PyData.depthAll]), hx, deref_lst, deq_nil]
theorem rEq_i2 {neg : Bool} {a b c d : Int} {O : Ow} {Q : VD} : rEqD neg (.lst [.int a, .int b]) (.lst [.int c, .int d]) O Q = Q (.bl (neg ^^ (decide (a = c) && decide (b = d)))) O := by
  rw [rEq_d (by simp [deref, isPy, isPys]) (by simp [deref, isPy, isPys]) (by simp [deref, dpL, dpC, dpN, dpI])]
  simp [deref, deq_l, deqs_cc, deqs_nn, deq_i, deq_b]
theorem rEq_b2 {neg : Bool} {a b c d : Bool} {O : Ow} {Q : VD} : rEqD neg (.lst [.bl a, .bl b]) (.lst [.bl c, .bl d]) O Q = Q (.bl (neg ^^ (decide (a = c) && decide (b = d)))) O := by
  rw [rEq_d (by simp [deref, isPy, isPys]) (by simp [deref, isPy, isPys]) (by simp [deref, dpL, dpC, dpN, dpB])]
  simp [deref, deq_l, deqs_cc, deqs_nn, deq_i, deq_b]

/-! ### the law's pool -/
theorem atI_some {α : Type} {xs : List α} {k : Int} (h0 : 0 ≤ k) (h1 : k < xs.length) : ∃ v, atI xs k = some v ∧ v ∈ xs := by
  have hk : k.toNat < xs.length := by omega
  have e : k = ((k.toNat : Nat) : Int) := by omega
  have q : atI xs ((k.toNat : Nat) : Int) = some xs[k.toNat] := atI_nat (List.getElem?_eq_getElem hk)
  rw [← e] at q
  exact ⟨xs[k.toNat], q, List.getElem_mem hk⟩
theorem poolMod (x : Int) : 0 ≤ x % 2147483647 ∧ x % 2147483647 < 2147483647 := ⟨Int.emod_nonneg _ (by decide), Int.emod_lt_of_pos _ (by decide)⟩
theorem poolNum (c : Int) {k : Int} (h0 : 0 ≤ k) (h1 : k ≤ 1000) : CPow (c % 2147483629 + 104729 * k * k + 11) 3 := by
  have h2 : k * k ≤ 1000 * 1000 := Int.mul_le_mul h1 h1 h0 (by decide)
  have h3 : 0 ≤ k * k := Int.mul_nonneg h0 h0
  have h4 : 0 ≤ c % 2147483629 := Int.emod_nonneg _ (by decide)
  have h5 : c % 2147483629 < 2147483629 := Int.emod_lt_of_pos _ (by decide)
  refine ⟨by decide, by decide, ?_⟩
  rw [Int.mul_assoc]
  omega
def spPool : DSp := fun ds O R _ => ∃ (ns : List Int) (k : Int), ds = [.scr ns, .int k] ∧ 0 ≤ k ∧ k ≤ 1000 ∧ ∀ p, O p = none → R (.ref p) (updO O p .pool)
def spTake : DSp := fun ds O R _ => ∃ (p : Addr) (m : Int), ds = [.ref p, .int m] ∧ O p = some .pool ∧ 0 < m ∧ m < 1329227995784915872903807060280344576 ∧ ∀ r : Int, 0 ≤ r → r < m → R (.int r) O
theorem take_of {p : Addr} {m : Int} {O : Ow} {R : VD} {RE : XD} (hp : O p = some .pool) (h0 : 0 < m) (h1 : m < 1329227995784915872903807060280344576) (h : ∀ r : Int, 0 ≤ r → r < m → R (.int r) O) : spTake [.ref p, .int m] O R RE := ⟨p, m, rfl, hp, h0, h1, h⟩
theorem mem_rangeD {lo : Int} {n : Nat} {d : D} (h : d ∈ rangeD lo n) : ∃ i : Nat, i < n ∧ d = .int (lo + i) := by
  unfold rangeD at h
  obtain ⟨i, h1, rfl⟩ := List.mem_map.mp h
  exact ⟨i, List.mem_range.mp h1, rfl⟩
/-- the law's own loop: how often it goes -/
theorem rngBound (n N : Nat) (hN : N ≤ 1000) (h1 : 1 ≤ N) : (-2 ^ 62 ≤ if (if (N : Int) < n then (N : Int) else n) > 1 then if (N : Int) < n then (N : Int) else n else 1) ∧
    (if (if (N : Int) < n then (N : Int) else n) > 1 then if (N : Int) < n then (N : Int) else n else 1) < 2 ^ 62 ∧
    (if (if (N : Int) < n then (N : Int) else n) > 1 then if (N : Int) < n then (N : Int) else n else 1).toNat ≤ N := by
  refine ⟨?_, ?_, ?_⟩ <;> (repeat' split) <;> omega
end Kf
namespace Kf
open PySem PySem.Spec L2
open PyProof.Rows hiding St
variable {M : MX}

section
variable {X : Cx}
/-! ### more methods -/
def rJoinD : RMD := fun x ds O Q => match x, ds with
  | .str a, [y] => match deref O y with
    | .lst ys => match asStrs ys with
      | some ts => (ts.map (·.length)).sum + ts.length * a.length ≤ 16777216 ∧ Q (.str (Str.join a ts)) O
      | none => False
    | .tup ys => match asStrs ys with
      | some ts => (ts.map (·.length)).sum + ts.length * a.length ≤ 16777216 ∧ Q (.str (Str.join a ts)) O
      | none => False
    | _ => False
  | _, _ => False
theorem md_join : MtD M X "str.join" rJoinD := by
  refine mtD_of fun F P H O x xs dx ds R Q g r1 r2 q po => ?_
  unfold rJoinD at q
  split at q <;> first | exact q.elim | skip
  rename_i a y
  obtain ⟨v, rfl, r2'⟩ := r2.one'
  simp only [Rep] at r1
  subst r1
  have h2 := g.deref r2'
  revert q h2
  generalize Kf.deref O y = ey
  intro q h2
  cases ey <;> first | exact q.elim | skip
  · rename_i ys
    dsimp only at q
    cases e : asStrs ys with
    | none => rw [e] at q; exact q.elim
    | some ts =>
      rw [e] at q
      simp only [RepH, Rep] at h2
      obtain ⟨b, ws, rfl, h3, h4⟩ := h2
      rw [of_asStrs e] at h4
      have e3 := h4.strs
      subst e3
      exact ⟨_, mt_join, a, b, ts, rfl, rfl, .inr (Same.seqT g.fz h3), q.1, po.at g q.2 (by simp only [Rep]; rw [show Txt.join a ts = Str.join a ts from PySem.StrLaws.glued_eq_join a ts])⟩
  · rename_i ys
    dsimp only at q
    cases e : asStrs ys with
    | none => rw [e] at q; exact q.elim
    | some ts =>
      rw [e] at q
      obtain ⟨b, ws, rfl, h3, h4⟩ := h2
      rw [of_asStrs e] at h4
      have e3 := h4.strs
      subst e3
      exact ⟨_, mt_join, a, b, ts, rfl, rfl, .inl (SqL.of h3), q.1, po.at g q.2 (by simp only [Rep]; rw [show Txt.join a ts = Str.join a ts from PySem.StrLaws.glued_eq_join a ts])⟩
def rSplitD : RMD := fun x ds O Q => match x, ds with
  | .str a, [.str b] => (b.length == 0) = false ∧ a.length + 2 ≤ sizeLine ∧ Q (.lst ((Txt.split a b).map .str)) O
  | _, _ => False
end
section
variable {O : Ow} {Q : VD} {i j : Int} {a b : Str} {xs ys : List D} {d e x y z u : D} {p : Addr}
theorem rJoin_l {ts : List Str} (h : asStrs xs = some ts) : rJoinD (.str a) [.lst xs] O Q = ((ts.map (·.length)).sum + ts.length * a.length ≤ 16777216 ∧ Q (.str (Str.join a ts)) O) := by simp only [rJoinD, deref, h]
theorem rJoin_m {ts : List Str} : rJoinD (.str a) [.lst (ts.map .str)] O Q = ((ts.map (·.length)).sum + ts.length * a.length ≤ 16777216 ∧ Q (.str (Str.join a ts)) O) := rJoin_l (asStrs_map ts)
theorem rSplit_s : rSplitD (.str a) [.str b] O Q = ((b.length == 0) = false ∧ a.length + 2 ≤ sizeLine ∧ Q (.lst ((Txt.split a b).map .str)) O) := rfl
end
/-! ### walks -/
/-- a walk by places -/
theorem forD_ix {p : Pat} {gb : GS} {R : DEnds} (I : Nat → DEnv → Ow → Prop) : ∀ (ds : List D) (k : Nat) (ρ : DEnv) (O : Ow), I k ρ O → (∀ ρ O, I (k + ds.length) ρ O → R.nx ρ O) →
    (∀ i d, ds[i]? = some d → ∀ ρ O, I (k + i) ρ O → ∀ N : DEnv → Ow → Prop, (∀ ρ O, I (k + i + 1) ρ O → N ρ O) → patGet (patD p d ρ) fun ρ1 => gb { R with nx := N, ct := N, bk := R.nx } ρ1 O) → forD p gb R ds ρ O
  | [], k, ρ, O, h, hd, _ => hd ρ O h
  | d :: ds, k, ρ, O, h, hd, hs => by
    have q := hs 0 d rfl ρ O h (forD p gb R ds) fun ρ' O' h' => by
      refine forD_ix I ds (k + 1) ρ' O' h' (fun ρ O z => hd ρ O ?_) fun i d' hi ρ O z N hN => hs (i + 1) d' (by simpa using hi) ρ O ?_ N fun ρ O z => hN ρ O ?_
      · have e : k + (d :: ds).length = k + 1 + ds.length := by rw [List.length_cons]; omega
        rw [e]; exact z
      · have e : k + (i + 1) = k + 1 + i := by omega
        rw [e]; exact z
      · have e : k + 1 + i + 1 = k + (i + 1) + 1 := by omega
        rw [e]; exact z
    unfold forD
    exact q
/-- a comprehension that maps -/
theorem lcD_map {p : Pat} {fe : FE} {ρ : DEnv} {O : Ow} (h : D → D) : ∀ (ds acc : List D) (Q : List D → Ow → Prop), acc.length + ds.length ≤ sizeLine →
    (∀ d ∈ ds, ∀ Q' : VD, Q' (h d) O → patGet (patD p d ρ) fun ρ1 => fe ρ1 O Q') → Q (acc ++ ds.map h) O → lcD p fYes fe ρ ds acc O Q
  | [], acc, Q, _, _, q => by simpa [lcD] using q
  | d :: ds, acc, Q, hl, hs, q => by
    rw [List.length_cons] at hl
    have z := hs d List.mem_cons_self (fun e O2 => acc.length < sizeLine ∧ lcD p fYes fe ρ ds (acc ++ [e]) O2 Q) ⟨by omega, lcD_map h ds _ Q (by rw [List.length_append, List.length_singleton]; omega) (fun d' hd => hs d' (List.mem_cons_of_mem _ hd)) (by simpa using q)⟩
    unfold lcD
    simpa [fYes] using z
/-- a comprehension whose items may be many -/
theorem lcD_all {p : Pat} {fe : FE} {ρ : DEnv} {O : Ow} (A : D → D → Prop) : ∀ (ds acc : List D) (Q : List D → Ow → Prop), acc.length + ds.length ≤ sizeLine →
    (∀ d ∈ ds, ∀ Q' : VD, (∀ e, A d e → Q' e O) → patGet (patD p d ρ) fun ρ1 => fe ρ1 O Q') → (∀ es, Paired A ds es → Q (acc ++ es) O) → lcD p fYes fe ρ ds acc O Q
  | [], acc, Q, _, _, q => by have := q [] .nil; simpa [lcD] using this
  | d :: ds, acc, Q, hl, hs, q => by
    rw [List.length_cons] at hl
    have z := hs d List.mem_cons_self (fun e O2 => acc.length < sizeLine ∧ lcD p fYes fe ρ ds (acc ++ [e]) O2 Q) fun e he => ⟨by omega, lcD_all A ds _ Q (by rw [List.length_append, List.length_singleton]; omega) (fun d' hd => hs d' (List.mem_cons_of_mem _ hd)) fun es hes => by
      have := q (e :: es) (.cons he hes)
      simpa using this⟩
    unfold lcD
    simpa [fYes] using z
/-! ### what is owned may be forgotten -/
def Sub (O O' : Ow) : Prop := ∀ a c, O a = some c → O' a = some c
theorem Sub.refl (O : Ow) : Sub O O := fun _ _ h => h
theorem Sub.trans {O O1 O2 : Ow} (a : Sub O O1) (b : Sub O1 O2) : Sub O O2 := fun p c h => b p c (a p c h)
theorem sub_upd {O : Ow} {p : Addr} {c : Cell} (h : O p = none) : Sub O (updO O p c) := fun a d e => by
  have ne : a ≠ p := fun q => by rw [q, h] at e; cases e
  rw [updO_ne ne]; exact e
theorem Gd.sub {K : PySem.W.Frag} {F P H : Hp} {O O' : Ow} (g : Gd M K F O' P H) (s : Sub O O') : Gd M K F O P H := ⟨g.fz, fun a c e => g.ow a c (s a c e), g.as, g.rl, g.nt⟩
/-- at the end what is owned besides is forgotten -/
def VG (R : VD) : VD := fun d O' => ∃ O, Sub O O' ∧ R d O
section
variable {P : Program} {w : World} {K : PySem.W.Frag} {mg : Str → Option Value} {base : Heap}
theorem fn_dG {x qual : Str} {st : Stmt} {f : Addr} {fd : FuncData} {N ps : List Str} {k : Nat} {dsp : DSp} {g : GS} (F : Fun K x qual st f fd) (S : FnScope N ps (defScope st)) (len : ∀ ds O R RE, dsp ds O R RE → ds.length = ps.length)
    (hder : ∀ (cdv : Value) (A : Around) (outer : List Env) (s : Shared) (H : Hp) (E : XK), Room k (A.deeper (envOfC qual (defScope st) s.heap.objs.size f cdv)) →
      DSs MT (cxOf CX0 P w K mg base N qual (defScope st) f cdv A outer s H E).nox (defBody st) g)
    (hread : ∀ ds O R RE, dsp ds O R RE → g { nx := fun _ O' => VG R .non O', rt := VG R } (startD N ds) O) : FnOk P w K mg base CX0 (k + 1) f fd ps (liftSp K dsp) := by
  refine F.ok S (fun vs H Q E h => ?_) fun cdv A outer s H vs Q E hr h => ?_
  · obtain ⟨F, O, P, ds, R, RE, g, r, q, _⟩ := h
    rw [← r.length]; exact len ds O R RE q
  · obtain ⟨F, O, P, ds, R, RE, gd, r, q, po, _⟩ := h
    refine ⟨_, hder cdv A outer s H E hr, F, O, P, startD N ds, { nx := fun _ O' => VG R .non O', rt := VG R }, gd, ?_, hread ds O R RE q, ⟨fun ρ O' F' H' σ q1 s1 g1 _ => ?_, fun d O' F' H' v q1 s1 g1 r1 => ?_, fun _ _ _ _ _ z => z.elim, fun _ _ _ _ _ z => z.elim⟩⟩
    · unfold startD L2.start
      rw [r.length]
      exact envOk_start _ r
    · obtain ⟨O2, s2, q2⟩ := q1
      exact po .non O2 F' H' .non q2 s1 (g1.sub s2) (by simp only [Rep])
    · obtain ⟨O2, s2, q2⟩ := q1
      exact po d O2 F' H' v q2 s1 (g1.sub s2) r1
end
theorem VG.at {R : VD} {d : D} {O : Ow} (h : R d O) : VG R d O := ⟨O, Sub.refl _, h⟩
theorem VG.up {R : VD} {d : D} {O : Ow} {p : Addr} {c : Cell} (h : O p = none) (q : R d O) : VG R d (updO O p c) := ⟨O, sub_upd h, q⟩
theorem rangeD_get {lo : Int} {n i : Nat} {d : D} (h : (rangeD lo n)[i]? = some d) : i < n ∧ d = .int (lo + (i : Nat)) := by
  unfold rangeD at h
  rw [List.getElem?_map] at h
  obtain ⟨j, e1, rfl⟩ := Option.map_eq_some_iff.mp h
  have hi : i < n := by
    obtain ⟨h, _⟩ := List.getElem?_eq_some_iff.mp e1
    simpa using h
  rw [List.getElem?_range hi] at e1
  cases e1
  exact ⟨hi, rfl⟩
theorem rangeD_length (lo : Int) (n : Nat) : (rangeD lo n).length = n := by unfold rangeD; rw [List.length_map, List.length_range]
theorem rSl_l {xs : List D} {lo hi : Option Int} {O : Ow} {Q : VD} : rSlD (.lst xs) lo hi O Q = Q (.lst (cut xs lo hi)) O := rfl
end Kf
namespace Kf
open PySem PySem.Spec L2
open PyProof.Rows hiding St
variable {M : MX}
/-! ### t < u of pairs (a number, a truth) -/
section
variable {X : Cx}
end
end Kf
namespace Kf
open PySem PySem.Spec L2
open PyProof.Rows hiding St
variable {M : MX}

/-! ### exceptions: what is wished of one, over data -/
abbrev XW := Value → Option (List (Str × D)) → DEnv → Ow → Prop
/-- an own class of exceptions without an __init__ of its own -/
structure ExN (K : PySem.W.Frag) (mg : Str → Option Value) (x : Str) (C : Addr) : Prop where
  g : mg x = some (.ref C)
  ex : PySem.W.excIn K C [.type "ValueError", .type "Exception", .type "BaseException", .type "object"] "ValueError.__new__" = true
  kp : PySem.W.keepIn K (.ref C) = true
  sb : PySem.W.subIn K (.ref C) (.type "BaseException") = some true
  ty : PySem.W.typeIn K (.ref C) = some (.type "type")

section
variable {X : Cx} {RX : XW} {W : WX} {x m : Str} {C : Addr} {j : Nat} {p p2 pos pos' : Pos}
def gRaise (RX : XW) (cls : Value) : GS := fun _ ρ O => RX cls none ρ O
end
section
variable {X : Cx} {RX : XW} {W : WX} {e : Expr} {es : List Expr} {fr : FA} {k : Nat} {f : Addr} {fd : FuncData} {ps : List Str} {dsp : DSp} {x : Str} {st : Stmt} {p pos : Pos}
/-- a call that may raise -/
def fCallX (dsp : DSp) (RX : XW) (fr : FA) : FE := fun ρ O Q => fr ρ O fun ds O1 => dsp ds O1 Q fun cls fs O' => RX cls fs ρ O'
end
section
variable {P : Program} {w : World} {K : PySem.W.Frag} {mg : Str → Option Value} {base : Heap}
end

/-! ### try -/
end Kf
namespace Kf
open PySem PySem.Spec L2
open PyProof.Rows hiding St
variable {M : MX}

theorem PostS.re {M' : MX} {K : PySem.W.Frag} {F P H : Hp} {O : Ow} {R : DEnds} {D : Ends} (po : PostS M K F P R D) (g : Gd M K F O P H) : PostS M' K F P R D :=
  ⟨fun ρ O' F' H' σ q s g' en => po.nx ρ O' F' H' σ q s (g'.re (M.mono g.rl s (Same.refl _))) en, fun d O' F' H' v q s g' r => po.rt d O' F' H' v q s (g'.re (M.mono g.rl s (Same.refl _))) r,
    fun ρ O' F' H' σ q s g' en => po.bk ρ O' F' H' σ q s (g'.re (M.mono g.rl s (Same.refl _))) en, fun ρ O' F' H' σ q s g' en => po.ct ρ O' F' H' σ q s (g'.re (M.mono g.rl s (Same.refl _))) en⟩
section
variable {X : Cx} {x n : Str} {c : Value} {i : Nat} {body suite : List Stmt} {b₀ : Stmt} {np pos pos' : Pos} {gb : XW → GS} {gs : Addr → Value → Option (List (Str × D)) → GS} {RXo : XW} {Wo : WX}
/-- the ends with slot i empty -/
def endsNo (i : Nat) (R : DEnds) : DEnds := { nx := fun ρ O => R.nx (ρ.set i none) O, rt := R.rt, bk := fun ρ O => R.bk (ρ.set i none) O, ct := fun ρ O => R.ct (ρ.set i none) O }
def xAs (K : PySem.W.Frag) (c : Value) (i : Nat) (gs : Addr → Value → Option (List (Str × D)) → GS) (RXo : XW) (R : DEnds) : XW := fun cls fs ρ O => ∃ b, PySem.W.exmOne K cls c = some b ∧
  (b = true → ∀ a, O a = none → gs a cls fs (endsNo i R) (ρ.set i (some (.ref a))) O) ∧ (b = false → RXo cls fs ρ O)
def xOnly (K : PySem.W.Frag) (c : Value) (gs : Addr → Value → Option (List (Str × D)) → GS) (RXo : XW) (R : DEnds) : XW := fun cls fs ρ O => ∃ b, PySem.W.exmOne K cls c = some b ∧
  (b = true → ∀ a, O a = none → gs a cls fs R ρ O) ∧ (b = false → RXo cls fs ρ O)
/-- try: .. except C as n: .. -/
def gTryAs (K : PySem.W.Frag) (c : Value) (i : Nat) (gb : XW → GS) (gs : Addr → Value → Option (List (Str × D)) → GS) (RXo : XW) : GS := fun R ρ O => gb (xAs K c i gs RXo R) R ρ O
/-- try: .. except C: .. -/
def gTry (K : PySem.W.Frag) (c : Value) (gb : XW → GS) (gs : Addr → Value → Option (List (Str × D)) → GS) (RXo : XW) : GS := fun R ρ O => gb (xOnly K c gs RXo R) R ρ O
end
/-! ### isinstance of the exception that a suite holds -/
end Kf
namespace Kf
open PySem PySem.Spec L2
open PyProof.Rows hiding St
/-- an own class of exceptions, as it is named -/
structure Cl (K : PySem.W.Frag) (mg : Str → Option Value) (x : Str) (C : Addr) : Prop where
  g : mg x = some (.ref C)
  sb : PySem.W.subIn K (.ref C) (.type "BaseException") = some true
  hd : PySem.W.hasDictIn K C = true
  ty : PySem.W.typeIn K (.ref C) = some (.type "type")
  sf : PySem.W.subIn K (.ref C) (.ref C) = some true
section
variable {K : PySem.W.Frag} {mg : Str → Option Value} {x : Str} {C D : Addr} {cls : Value} {b : Bool}
end
end Kf
namespace Kf
open PySem PySem.Spec L2
open PyProof.Rows hiding St
variable {M : MX}
section
variable {X : Cx} {e : Expr} {es : List Expr} {fr : FA} {k : Nat} {f : Addr} {fd : FuncData} {ps : List Str} {dsp : DSp} {x : Str} {st : Stmt} {p pos : Pos}
end
/-! ### text * 0, text * 1 -/
section
variable {X : Cx}
end
end Kf
namespace Kf
open PySem PySem.Spec L2
open PyProof.Rows hiding St
variable {M : MX}
/-! ### xs[::-1] -/
section
variable {X : Cx} {e st : Expr} {fa : FE} {te : TE} {tst : TO} {fs : FO} {pos p2 : Pos}
theorem pe_sliceRev (he : PE X e te) (hs : PO X (some st) tst) : PE X (.Subscript e (.Slice none none (some st) p2) pos) (fun σ H Q => te σ H fun x H1 => tst σ H1 fun o H2 => o = some (-1) ∧ ∃ a xs, x = .ref a ∧ SqL X.K H2 a xs ∧ ∀ p, H2 p = none → Q (.ref p) (upd H2 p (.lst xs.reverse))) := by
  refine ⟨fun pins s σ H Q I h => ?_⟩
  refine Subscript_ (thn (he.run pins s σ H _ I h) fun v s1 ⟨x, H1, I1, r1, q1⟩ => ?_)
  refine wpAny_Slice ?_
  rw [evalPart_none]
  refine wpAny_pure (wpAny_pure ?_)
  refine thn (hs.run pins s1 σ H1 _ I1 q1) fun vk s3 ⟨o, H3, I3, pk, q3⟩ => ?_
  obtain ⟨rfl, a, xs, rfl, hx, q⟩ := q3
  cases r1
  have I4 : Inv X pins σ H3 { s3 with heap := s3.heap.push { cls := .type "slice", data := .fields #[.none, .none, vk] } } := I3.kept (t' := s3.toks) fun b ob q => Heap.get?_push_of_some _ q
  obtain ⟨its, r, ht, hz⟩ := I4.list hx
  have hlen := r.length
  refine tail_any (ops := [.ref a, .ref s3.heap.objs.size]) ht.isList.typeIs slot_list_getitem.lookup ?_ (by with_unfolding_all rfl)
  refine wpAny_getItem_list_slice ht.isList (Heap.IsSliceOf.new ..) .none .none pk (by decide) ?_ (by rw [List.size_toArray] <;> omega)
  rw [PySem.W.krv_pick]
  refine ⟨.ref _, _, I4.laid (t' := s3.toks) (o := .lst xs.reverse) (fun b ob q => Heap.get?_push_of_some _ q) (Nat.le_refl _) ?_, rfl, q _ (I4.hok.fresh (Nat.le_refl _))⟩
  refine ⟨by rw [List.length_reverse]; omega, its.reverse, 0, r.reverse, Heap.get?_push_size _ rfl⟩
def rRevD (x : D) (o : Option Int) (O : Ow) (Q : VD) : Prop := o = some (-1) ∧ match deref O x with
  | .lst xs => Q (.lst xs.reverse) O
  | _ => False
def fRev (fa : FE) (fs : FO) : FE := fun ρ O Q => fa ρ O fun x O1 => fs ρ O1 fun o O2 => rRevD x o O2 Q
theorem de_rev (he : DE M X e fa) (hs : DO M X (some st) fs) : DE M X (.Subscript e (.Slice none none (some st) p2) pos) (fRev fa fs) := peMono (pe_sliceRev he hs) fun σ H Q h => by
  obtain ⟨F, O, P, ρ, R, g, en, q, po⟩ := h
  refine ⟨F, O, P, ρ, _, g, en, q, fun x O1 F1 H1 v q1 s1 g1 r1 => ?_⟩
  refine ⟨F1, O1, P, ρ, _, g1, en.mono s1, q1, fun o O2 F2 H2 q2 s2 g2 => ?_⟩
  obtain ⟨e, q2⟩ := q2
  refine ⟨e, ?_⟩
  have r2 := r1.mono s2
  have h := g2.deref r2
  revert h q2
  generalize Kf.deref O2 x = y
  intro q2 h
  cases y <;> first | exact q2.elim | skip
  rename_i ds
  obtain ⟨a, xs, rfl, h1, h2⟩ := h
  exact ⟨a, xs, rfl, SqL.of h1, fun p hp => (po.more (s1.trans s2)).lst g2 q2 h2.reverse hp⟩
theorem rRev_l {xs : List D} {O : Ow} {Q : VD} : rRevD (.lst xs) (some (-1)) O Q = Q (.lst xs.reverse) O := by simp [rRevD, deref]
theorem rRev_r {xs : List D} {O : Ow} {Q : VD} {p : Addr} (h : O p = some (.lst xs)) : rRevD (.ref p) (some (-1)) O Q = Q (.lst xs.reverse) O := by simp [rRevD, deref, h]
end
/-! ### reversed(range(n)) -/
section
variable {X : Cx} {tg a : Expr} {fa : FE} {p p2 pos pos2 : Pos}
def asIR (d : D) (O : Ow) (Q : List D → Ow → Prop) : Prop := match d with
  | .int n => -(2 ^ 62) ≤ n ∧ n < 2 ^ 62 ∧ Q (rangeD 0 n.toNat).reverse O
  | _ => False
def fiRevR (fa : FE) : FI := fun ρ O Q => fa ρ O fun d O1 => asIR d O1 Q
theorem itOk_revR {K : PySem.W.Frag} {F : Hp} (n : Nat) : ItOk M K F (Itc ((n : Int) - 1) (-1) n) (rangeD 0 n).reverse := fun F2 O2 P2 H2 s2 g2 i => by
  refine ⟨fun d e => ?_, fun hi => ?_⟩
  · have hl : i < (rangeD 0 n).length := by
      obtain ⟨h, _⟩ := List.getElem?_eq_some_iff.mp e
      simpa using h
    rw [List.getElem?_reverse hl] at e
    rw [rangeD_length] at hl e
    obtain ⟨_, rfl⟩ := rangeD_get e
    refine ⟨hl, fun x H3 hy => ?_⟩
    obtain ⟨rfl, rfl⟩ := hy
    refine ⟨F2, Same.refl _, g2, ?_⟩
    simp only [Rep]
    congr 1
    omega
  · rw [List.length_reverse, rangeD_length] at hi
    exact hi
theorem di_revR (hg : Gl X "reversed") (hm : X.mg "reversed" = none) (hg2 : Gl X "range") (hm2 : X.mg "range" = none) (ha : DE M X a fa)
    (hs : starEach [.Call (.Name "range" p2) [a] [] pos2] X.env = (false, eval (.Call (.Name "range" p2) [a] [] pos2) X.env) :: starEach [] X.env := by rfl) (na : starEach [a] X.env = (false, eval a X.env) :: starEach [] X.env := by rfl) :
    DI M X tg (.Call (.Name "reversed" p) [.Call (.Name "range" p2) [a] [] pos2] [] pos) (fiRevR fa) := piMono (pi_revR hg hm (prg_1 hg2 hm2 ha na) hs) fun σ H Q h => by
  obtain ⟨F, O, P, ρ, R, g, en, q, po⟩ := h
  refine ⟨F, O, P, ρ, _, g, en, q, fun d O1 F1 H1 v q1 s1 g1 r1 => ?_⟩
  unfold asIR at q1
  split at q1
  · rename_i n
    simp only [Rep] at r1
    refine ⟨n, r1, by decide, by decide, q1.1, q1.2.1, po _ O1 F1 H1 _ q1.2.2 s1 g1 ?_⟩
    have e1 : (n - 0).toNat = n.toNat := by rw [Int.sub_zero]
    have e2 : (0 : Int) + ((n - 0).toNat : Nat) - 1 = ((n.toNat : Nat) : Int) - 1 := by rw [e1]; omega
    rw [e2, e1]
    exact itOk_revR _
  · exact q1.elim
theorem asIR_i {n : Int} {O : Ow} {Q : List D → Ow → Prop} : asIR (.int n) O Q = (-(2 ^ 62) ≤ n ∧ n < 2 ^ 62 ∧ Q (rangeD 0 n.toNat).reverse O) := rfl
end
/-! ### sorted, of texts -/
section
variable {X : Cx}
def rSortD : RAD := fun ds O Q => match ds with
  | [x] => match deref O x with
    | .lst xs => match asStrs xs with
      | some ts => ts.length < 64 ∧ ∀ ys : List Str, ys.Perm ts → sortedS ys = true → Q (.lst (ys.map .str)) O
      | none => False
    | _ => False
  | _ => False
theorem cd_sorted : CallD M X (.builtin "sorted") rSortD := by
  refine callD_of fun F P H O xs ds R Q g r q po => ?_
  unfold rSortD at q
  split at q <;> first | exact q.elim | skip
  rename_i x
  obtain ⟨v, rfl, r1⟩ := r.one'
  have h := g.deref r1
  revert h q
  generalize Kf.deref O x = y
  intro q h
  cases y <;> first | exact q.elim | skip
  rename_i ds
  dsimp only at q
  split at q
  · rename_i ts e
    have e2 := of_asStrs e
    subst e2
    obtain ⟨a, vs, rfl, h1, h2⟩ := h
    have e3 := h2.strs
    subst e3
    exact ⟨_, cr_sortedS, a, ts, rfl, SqL.of h1, q.1, fun ys p hp hs hn => po.lst g (q.2 ys hp hs) .of_strs hn⟩
  · exact q.elim
theorem rSort_l {ts : List Str} {O : Ow} {Q : VD} : rSortD [.lst (ts.map .str)] O Q = (ts.length < 64 ∧ ∀ ys : List Str, ys.Perm ts → sortedS ys = true → Q (.lst (ys.map .str)) O) := by simp only [rSortD, deref, asStrs_map]
end
end Kf
namespace Kf
open PySem PySem.Spec L2
open PyProof.Rows hiding St
variable {M : MX}
section
variable {X : Cx} {pos : Pos}
/-- {} that never changes -/
def fEdic : FE := fun _ O Q => Q .edic O
end
end Kf
namespace Kf
open PySem PySem.Spec L2
open PyProof.Rows hiding St
/-! ### the readings at their arguments -/
theorem ap_gSeq (g u : GS) {R : DEnds} {ρ : DEnv} {O : Ow} : gSeq g u R ρ O = (g { R with nx := u R } ρ O) := rfl
theorem ap_gIf (c : FT) (g u : GS) {R : DEnds} {ρ : DEnv} {O : Ow} : gIf c g u R ρ O = (c ρ O fun b O1 => if b = true then g R ρ O1 else u R ρ O1) := rfl
theorem ap_gRet (fe : FE) {R : DEnds} {ρ : DEnv} {O : Ow} : gRet fe R ρ O = (fe ρ O R.rt) := rfl
theorem ap_gNext  {R : DEnds} {ρ : DEnv} {O : Ow} : gNext  R ρ O = (R.nx ρ O) := rfl
theorem ap_gSet (fe : FE) (i : Nat) {R : DEnds} {ρ : DEnv} {O : Ow} : gSet fe i R ρ O = (fe ρ O fun d O1 => R.nx (ρ.set i (some d)) O1) := rfl
theorem ap_gAsg (fe : FE) (p : Pat) {R : DEnds} {ρ : DEnv} {O : Ow} : gAsg fe p R ρ O = (fe ρ O fun d O1 => patGet (patD p d ρ) fun ρ' => R.nx ρ' O1) := rfl
theorem ap_gDrop (fe : FE) {R : DEnds} {ρ : DEnv} {O : Ow} : gDrop fe R ρ O = (fe ρ O fun _ O1 => R.nx ρ O1) := rfl
theorem ap_gRetF (fe : FE) {R : DEnds} {ρ : DEnv} {O : Ow} : gRetF fe R ρ O = (fe ρ O fun d O1 => match d with
  | .ref a => match O1 a with
    | some (.lst ds) => R.rt (.lst ds) (delO O1 a)
    | _ => False
  | _ => False) := rfl
theorem ap_gRetN  {R : DEnds} {x1_ : DEnv} {O : Ow} : gRetN  R x1_ O = (R.rt .non O) := rfl
theorem ap_gFor (fi : FI) (p : Pat) (gb : GS) {R : DEnds} {ρ : DEnv} {O : Ow} : gFor fi p gb R ρ O = (fi ρ O fun ds O1 => forD p gb R ds ρ O1) := rfl
theorem ap_gSetIx (fo fi fe : FE) {R : DEnds} {ρ : DEnv} {O : Ow} : gSetIx fo fi fe R ρ O = (fe ρ O fun d O1 => fo ρ O1 fun x O2 => fi ρ O2 fun y O3 => rSetD x y d O3 (R.nx ρ)) := rfl
theorem ap_gBreak  {R : DEnds} {ρ : DEnv} {O : Ow} : gBreak  R ρ O = (R.bk ρ O) := rfl
theorem ap_fRev (fa : FE) (fs : FO) {ρ : DEnv} {O : Ow} {Q : VD} : fRev fa fs ρ O Q = (fa ρ O fun x O1 => fs ρ O1 fun o O2 => rRevD x o O2 Q) := rfl
theorem ap_fiRevR (fa : FE) {ρ : DEnv} {O : Ow} {Q : (List D → Ow → Prop)} : fiRevR fa ρ O Q = (fa ρ O fun d O1 => asIR d O1 Q) := rfl
theorem ap_fCallX (dsp : DSp) (RX : XW) (fr : FA) {ρ : DEnv} {O : Ow} {Q : VD} : fCallX dsp RX fr ρ O Q = (fr ρ O fun ds O1 => dsp ds O1 Q fun cls fs O' => RX cls fs ρ O') := rfl
theorem ap_gRaise (RX : XW) (cls : Value) {x0_ : DEnds} {ρ : DEnv} {O : Ow} : gRaise RX cls x0_ ρ O = (RX cls none ρ O) := rfl
theorem ap_gTry (K : PySem.W.Frag) (c : Value) (gb : XW → GS) (gs : Addr → Value → Option (List (Str × D)) → GS) (RXo : XW) {R : DEnds} {ρ : DEnv} {O : Ow} : gTry K c gb gs RXo R ρ O = (gb (xOnly K c gs RXo R) R ρ O) := rfl
theorem ap_gTryAs (K : PySem.W.Frag) (c : Value) (i : Nat) (gb : XW → GS) (gs : Addr → Value → Option (List (Str × D)) → GS) (RXo : XW) {R : DEnds} {ρ : DEnv} {O : Ow} : gTryAs K c i gb gs RXo R ρ O = (gb (xAs K c i gs RXo R) R ρ O) := rfl
theorem ap_gNever  {x0_ : DEnds} {x1_ : DEnv} {x2_ : Ow} : gNever  x0_ x1_ x2_ = (False) := rfl
theorem ap_fEdic  {x0_ : DEnv} {O : Ow} {Q : VD} : fEdic  x0_ O Q = (Q .edic O) := rfl
theorem ap_fTest (f : FE) {ρ : DEnv} {O : Ow} {Q : (Bool → Ow → Prop)} : fTest f ρ O Q = (f ρ O fun d O1 => ∃ k, d = .bl k ∧ Q k O1) := rfl
theorem ap_fOp (r : R2D) (fa fb : FE) {ρ : DEnv} {O : Ow} {Q : VD} : fOp r fa fb ρ O Q = (fa ρ O fun x O1 => fb ρ O1 fun y O2 => r x y O2 Q) := rfl
theorem ap_fVar (i : Nat) {ρ : DEnv} {O : Ow} {Q : VD} : fVar i ρ O Q = (envGet ρ[i]? O Q) := rfl
theorem ap_fC (d : D) {x0_ : DEnv} {O : Ow} {Q : VD} : fC d x0_ O Q = (Q d O) := rfl
theorem ap_fCB (r : RAD) (fr : FA) {ρ : DEnv} {O : Ow} {Q : VD} : fCB r fr ρ O Q = (fr ρ O fun ds O1 => r ds O1 Q) := rfl
theorem ap_fCons (fa : FE) (fr : FA) {ρ : DEnv} {O : Ow} {Q : (List D → Ow → Prop)} : fCons fa fr ρ O Q = (fa ρ O fun x O1 => fr ρ O1 fun xs O2 => Q (x :: xs) O2) := rfl
theorem ap_fNil  {x0_ : DEnv} {O : Ow} {Q : (List D → Ow → Prop)} : fNil  x0_ O Q = (Q [] O) := rfl
theorem ap_fCall (dsp : DSp) (fr : FA) {ρ : DEnv} {O : Ow} {Q : VD} : fCall dsp fr ρ O Q = (fr ρ O fun ds O1 => dsp ds O1 Q X0) := rfl
theorem ap_fAnd (t u : FT) {ρ : DEnv} {O : Ow} {Q : (Bool → Ow → Prop)} : fAnd t u ρ O Q = (t ρ O fun c O1 => if c = true then u ρ O1 Q else Q false O1) := rfl
theorem ap_fOr (t u : FT) {ρ : DEnv} {O : Ow} {Q : (Bool → Ow → Prop)} : fOr t u ρ O Q = (t ρ O fun c O1 => if c = true then Q true O1 else u ρ O1 Q) := rfl
theorem ap_fNot (t : FT) {ρ : DEnv} {O : Ow} {Q : (Bool → Ow → Prop)} : fNot t ρ O Q = (t ρ O fun c O1 => Q (!c) O1) := rfl
theorem ap_fAndV (fa fb : FE) {ρ : DEnv} {O : Ow} {Q : VD} : fAndV fa fb ρ O Q = (fa ρ O fun x O1 => ∃ c, x = .bl c ∧ if c = true then fb ρ O1 Q else Q (.bl false) O1) := rfl
theorem ap_fOrV (fa fb : FE) {ρ : DEnv} {O : Ow} {Q : VD} : fOrV fa fb ρ O Q = (fa ρ O fun x O1 => ∃ c, x = .bl c ∧ if c = true then Q (.bl true) O1 else fb ρ O1 Q) := rfl
theorem ap_fNotV (fa : FE) {ρ : DEnv} {O : Ow} {Q : VD} : fNotV fa ρ O Q = (fa ρ O fun x O1 => ∃ c, x = .bl c ∧ Q (.bl (!c)) O1) := rfl
theorem ap_fIf (t : FT) (fa fb : FE) {ρ : DEnv} {O : Ow} {Q : VD} : fIf t fa fb ρ O Q = (t ρ O fun c O1 => if c = true then fa ρ O1 Q else fb ρ O1 Q) := rfl
theorem ap_fTup (fr : FA) {ρ : DEnv} {O : Ow} {Q : VD} : fTup fr ρ O Q = (fr ρ O fun xs O1 => xs.length ≤ sizeLine ∧ Q (.tup xs) O1) := rfl
theorem ap_fLst (fr : FA) {ρ : DEnv} {O : Ow} {Q : VD} : fLst fr ρ O Q = (fr ρ O fun xs O1 => xs.length ≤ sizeLine ∧ Q (.lst xs) O1) := rfl
theorem ap_fLstO (fr : FA) {ρ : DEnv} {O : Ow} {Q : VD} : fLstO fr ρ O Q = (fr ρ O fun xs O1 => xs.length ≤ sizeLine ∧ ∀ p, O1 p = none → Q (.ref p) (updO O1 p (.lst xs))) := rfl
theorem ap_fChain (r r' : R2D) (fa fb fc : FE) {ρ : DEnv} {O : Ow} {Q : VD} : fChain r r' fa fb fc ρ O Q = (fa ρ O fun x O1 => fb ρ O1 fun y O2 => r x y O2 fun z O3 => ∃ k, z = .bl k ∧ (if k = true then fc ρ O3 fun w O4 => r' y w O4 Q else Q (.bl false) O3)) := rfl
theorem ap_fUn (r : R1D) (f : FE) {ρ : DEnv} {O : Ow} {Q : VD} : fUn r f ρ O Q = (f ρ O fun x O1 => r x O1 Q) := rfl
theorem ap_fBM (T : String) (r : RMD) (fo : FE) (fr : FA) {ρ : DEnv} {O : Ow} {Q : VD} : fBM T r fo fr ρ O Q = (fo ρ O fun x O1 => tyOk T O1 x = true ∧ fr ρ O1 fun ds O2 => r x ds O2 Q) := rfl
theorem ap_fBM0 (T : String) (r : RMD) (fo : FE) {ρ : DEnv} {O : Ow} {Q : VD} : fBM0 T r fo ρ O Q = (fo ρ O fun x O1 => tyOk T O1 x = true ∧ r x [] O1 Q) := rfl
theorem ap_fPool (fr : FA) {ρ : DEnv} {O : Ow} {Q : VD} : fPool fr ρ O Q = (fr ρ O fun xs O1 => rPool xs O1 Q) := rfl
theorem ap_fSl (r : R3D) (fe : FE) (fl fh : FO) {ρ : DEnv} {O : Ow} {Q : VD} : fSl r fe fl fh ρ O Q = (fe ρ O fun x O1 => fl ρ O1 fun l O2 => fh ρ O2 fun u O3 => r x l u O3 Q) := rfl
theorem ap_fPart (f : FE) {ρ : DEnv} {O : Ow} {Q : (Option Int → Ow → Prop)} : fPart f ρ O Q = (f ρ O fun d O1 => asI d O1 Q) := rfl
theorem ap_fNoPart  {x0_ : DEnv} {O : Ow} {Q : (Option Int → Ow → Prop)} : fNoPart  x0_ O Q = (Q none O) := rfl
theorem ap_fiRng1 (fr : FA) {ρ : DEnv} {O : Ow} {Q : (List D → Ow → Prop)} : fiRng1 fr ρ O Q = (fr ρ O fun ds O1 => asR1 ds O1 fun i n O2 => Q (rangeD i n) O2) := rfl
theorem ap_fiRng2 (fr : FA) {ρ : DEnv} {O : Ow} {Q : (List D → Ow → Prop)} : fiRng2 fr ρ O Q = (fr ρ O fun ds O1 => asR2 ds O1 fun i n O2 => Q (rangeD i n) O2) := rfl
theorem ap_fiList (fl : FE) {ρ : DEnv} {O : Ow} {Q : (List D → Ow → Prop)} : fiList fl ρ O Q = (fl ρ O fun d O1 => asL d O1 Q) := rfl
theorem ap_fiTup (fl : FE) {ρ : DEnv} {O : Ow} {Q : (List D → Ow → Prop)} : fiTup fl ρ O Q = (fl ρ O fun d O1 => asT d O1 Q) := rfl
theorem ap_fiStr (fl : FE) {ρ : DEnv} {O : Ow} {Q : (List D → Ow → Prop)} : fiStr fl ρ O Q = (fl ρ O fun d O1 => asSg d O1 Q) := rfl
theorem ap_fiEnum (fr : FA) {ρ : DEnv} {O : Ow} {Q : (List D → Ow → Prop)} : fiEnum fr ρ O Q = (fr ρ O fun ds O1 => asL1 ds O1 fun ds O2 => Q (enumD ds) O2) := rfl
theorem ap_fiZip (fr : FA) {ρ : DEnv} {O : Ow} {Q : (List D → Ow → Prop)} : fiZip fr ρ O Q = (fr ρ O fun ds O1 => asL2 ds O1 fun ds es O2 => Q (zipD ds es) O2) := rfl
theorem ap_fiRev (fr : FA) {ρ : DEnv} {O : Ow} {Q : (List D → Ow → Prop)} : fiRev fr ρ O Q = (fr ρ O fun ds O1 => asL1 ds O1 fun ds O2 => Q ds.reverse O2) := rfl
theorem ap_fLc (fi : FI) (p : Pat) (ft : FT) (fe : FE) (vs : List Nat) {ρ : DEnv} {O : Ow} {Q : VD} : fLc fi p ft fe vs ρ O Q = (fi ρ O fun ds O1 => lcD p ft fe (wipeD ρ vs) ds [] O1 fun acc O2 => Q (.lst acc) O2) := rfl
theorem ap_fLcO (fi : FI) (p : Pat) (ft : FT) (fe : FE) (vs : List Nat) {ρ : DEnv} {O : Ow} {Q : VD} : fLcO fi p ft fe vs ρ O Q = (fi ρ O fun ds O1 => lcD p ft fe (wipeD ρ vs) ds [] O1 fun acc O2 => ∀ q, O2 q = none → Q (.ref q) (updO O2 q (.lst acc))) := rfl
theorem ap_fYes  {x0_ : DEnv} {O : Ow} {Q : (Bool → Ow → Prop)} : fYes  x0_ O Q = (Q true O) := rfl
theorem ap_gAug (i : Nat) (fe : FE) (r : R2D) {R : DEnds} {ρ : DEnv} {O : Ow} : gAug i fe r R ρ O = (match ρ[i]? with
  | some (some x) => fe ρ O fun y O1 => r x y O1 fun z O2 => R.nx (ρ.set i (some z)) O2
  | _ => False) := rfl
end Kf
/-! Dl15: owned dicts whose keys are whole numbers and texts. -/
namespace Kf
open PySem PySem.Spec L2
open PyProof.Rows hiding St
variable {M : MX}
/-! ### tables of data -/
def keyOf : D → Option Key
  | .int i => some (.inl i)
  | .str s => some (.inr s)
  | _ => none
def keyD : Key → D
  | .inl i => .int i
  | .inr s => .str s
theorem keyOf_rep {K : PySem.W.Frag} {F : Hp} {d : D} {v : V} {k : Key} (h : keyOf d = some k) (r : Rep K F d v) : v = kV k := by
  cases d <;> simp only [keyOf] at h <;> first | cases h; done | skip
  all_goals
    cases h
    simp only [Rep] at r
    subst r
    rfl
theorem keyD_rep {K : PySem.W.Frag} {F : Hp} (k : Key) : Rep K F (keyD k) (kV k) := by
  cases k <;> simp only [keyD, Rep, kV]
def valD {κ : Type} [DecidableEq κ] (kvs : List (κ × D)) (k : κ) : Option D := (kvs.find? fun kv => decide (kv.1 = k)).map (·.2)
def putD {κ : Type} [DecidableEq κ] (kvs : List (κ × D)) (k : κ) (d : D) : List (κ × D) :=
  if (kvs.any fun kv => decide (kv.1 = k)) = true then kvs.map (fun kv => if kv.1 = k then (kv.1, d) else kv) else kvs ++ [(k, d)]
section
variable {κ : Type} [DecidableEq κ] {K : PySem.W.Frag} {F H P : Hp} {O : Ow} {kvs : List (κ × D)} {vs : List (κ × V)} {k : κ} {d : D} {v : V} {a : Addr}
theorem KvOk.val (h : KvOk K F kvs vs) : (∀ d, valD kvs k = some d → ∃ v, valV vs k = some v ∧ Rep K F d v) ∧ (valD kvs k = none → valV vs k = none) := by
  induction h with
  | nil => exact ⟨fun d e => by simp [valD] at e, fun _ => rfl⟩
  | @cons p q _ _ r t ih =>
    obtain ⟨r1, r2⟩ := r
    by_cases e : p.1 = k
    · have e2 : q.1 = k := r1 ▸ e
      refine ⟨fun d h => ?_, fun h => ?_⟩
      · simp [valD, List.find?_cons, e] at h
        subst h
        exact ⟨q.2, valV_pos e2, r2⟩
      · simp [valD, List.find?_cons, e] at h
    · have e2 : ¬ q.1 = k := fun z => e (r1.trans z)
      rw [valV_neg e2]
      have e3 : ∀ l : List (κ × D), valD (p :: l) k = valD l k := fun l => by simp [valD, List.find?_cons, e]
      rw [e3]
      exact ih
theorem KvOk.any (h : KvOk K F kvs vs) : (kvs.any fun kv => decide (kv.1 = k)) = (vs.any fun kv => decide (kv.1 = k)) := by
  induction h with
  | nil => rfl
  | cons r _ ih => rw [List.any_cons, List.any_cons, ih, r.1]
theorem KvOk.put (h : KvOk K F kvs vs) (r : Rep K F d v) : KvOk K F (putD kvs k d) (putK vs k v) := by
  unfold putD putK
  rw [h.any (k := k)]
  split
  · rename_i hh; clear hh
    induction h with
    | nil => exact .nil
    | @cons p q _ _ z t ih =>
      rw [List.map_cons, List.map_cons]
      refine .cons ?_ ih
      by_cases e : p.1 = k
      · rw [if_pos e, if_pos (z.1 ▸ e)]; exact ⟨z.1, r⟩
      · rw [if_neg e, if_neg (fun w => e (z.1.trans w))]; exact z
  · exact Paired.snoc h ⟨rfl, r⟩
theorem KvOk.keys (h : KvOk K F kvs vs) : vs.map (·.1) = kvs.map (·.1) := by
  induction h with
  | nil => rfl
  | cons r _ ih => rw [List.map_cons, List.map_cons, ih, r.1]
end
section
variable {K : PySem.W.Frag} {F H P : Hp} {O : Ow} {kvs : List (Key × D)} {vs : List (Key × V)} {k : Key} {d : D} {v : V} {a : Addr}
/-- what a dict holds, locked or not -/
def dicAt (O : Ow) (a : Addr) : Option (List (Key × D)) := match O a with
  | some (.dic kvs) => some kvs
  | some (.dicL kvs _) => some kvs
  | _ => none
theorem Gd.dic (g : Gd M K F O P H) (h : dicAt O a = some kvs) : ∃ vs, Rd H a (.dK vs) ∧ KvOk K F kvs vs := by
  unfold dicAt at h
  split at h <;> first | cases h; done | skip
  · rename_i e
    cases h
    obtain ⟨_, _, vs, h1, h2⟩ := g.ow a _ e
    exact ⟨vs, .inl h1, h2⟩
  · rename_i e
    cases h
    obtain ⟨_, _, h1, od, vs, rfl, h2⟩ := g.ow a _ e
    exact ⟨vs, .inr ⟨od, h1⟩, h2⟩
/-- what stands at a key -/
def rKeyT (x y : D) (O : Ow) (N : Option D → Prop) : Prop := match x, y with
  | .ref a, .tupK ks => match O a with
    | some (.dicT kvs) => N (valD kvs ks)
    | _ => False
  | _, _ => False
def rKey (x y : D) (O : Ow) (N : Option D → Prop) : Prop := match x, keyOf y with
  | .ref a, some k => match dicAt O a with
    | some kvs => N (valD kvs k)
    | none => False
  | x, none => rKeyT x y O N
  | _, _ => False
theorem Gd.dicT (g : Gd M K F O P H) {kvt : List (List Key × D)} (h : O a = some (.dicT kvt)) : ∃ vs : List (List Key × V), H a = some (.dT vs) ∧ KvOk K F kvt vs := (g.ow a _ h).2.2
theorem Gd.key (g : Gd M K F O P H) {x y : D} {w : V} {N : Option D → Prop} (rx : Rep K F x v) (ry : Rep K F y w) (q : rKey x y O N) :
    ∃ a o oV, v = .ref a ∧ DGet H a w oV ∧ IsD H a ∧ N o ∧ (∀ d, o = some d → ∃ z, oV = some z ∧ Rep K F d z) ∧ (o = none → oV = none) := by
  unfold rKey at q
  split at q <;> first | exact q.elim | skip
  · rename_i a k e
    split at q <;> first | exact q.elim | skip
    rename_i kvs e2
    obtain ⟨vs, h1, h2⟩ := g.dic e2
    simp only [Rep] at rx
    have ew := keyOf_rep e ry
    subst ew
    obtain ⟨v1, v2⟩ := h2.val (k := k)
    exact ⟨a, _, _, rx, .inl ⟨vs, k, h1, rfl, rfl⟩, .inl ⟨vs, h1⟩, q, v1, v2⟩
  · unfold rKeyT at q
    split at q <;> first | exact q.elim | skip
    rename_i a ks _
    split at q <;> first | exact q.elim | skip
    rename_i kvs e2
    obtain ⟨vs, h1, h2⟩ := g.dicT e2
    simp only [Rep] at rx ry
    obtain ⟨b, rfl, hb⟩ := ry
    obtain ⟨v1, v2⟩ := h2.val (k := ks)
    exact ⟨a, _, _, rx, .inr ⟨vs, ks, b, .inl h1, rfl, g.fz _ _ hb, rfl⟩, .inr ⟨vs, .inl h1⟩, q, v1, v2⟩
end
section
variable {X : Cx} {o i e f value : Expr} {pos pos' apos cpos : Pos} {fo fi fe fx : FE}
/-- {} that changes -/
def fDicO : FE := fun _ O Q => ∀ p, O p = none → Q (.ref p) (updO O p (.dic []))
theorem de_dicO : DE M X (.Dict [] [] pos) fDicO := peMono pe_dnewK fun σ H Q h => by
  obtain ⟨F, O, P, ρ, R, g, en, q, po⟩ := h
  intro p hp
  exact po (.ref p) _ F _ _ (q p (g.freeO hp)) (Same.refl _) (g.newO hp ⟨[], upd_same, .nil⟩) (by simp only [Rep])
/-- d[k] -/
def rDGet (x y : D) (O : Ow) (Q : VD) : Prop := rKey x y O fun o => match o with
  | some d => Q d O
  | none => False
def fDGet (fo fi : FE) : FE := fun ρ O Q => fo ρ O fun x O1 => fi ρ O1 fun y O2 => rDGet x y O2 Q
theorem de_dget (hu : X.A.units + 200 < cLine) (ho : DE M X o fo) (hi : DE M X i fi) (hs : NoSl i := by intro _ _; rfl) : DE M X (.Subscript o i pos) (fDGet fo fi) := peMono (pe_dget (by omega) ho hi hs) fun σ H Q h => by
  obtain ⟨F, O, P, ρ, R, g, en, q, po⟩ := h
  refine ⟨F, O, P, ρ, _, g, en, q, fun x O1 F1 H1 v q1 s1 g1 r1 => ?_⟩
  refine ⟨F1, O1, P, ρ, _, g1, en.mono s1, q1, fun y O2 F2 H2 w q2 s2 g2 r2 => ?_⟩
  obtain ⟨a, od, oV, rfl, h1, _, n, h2, h3⟩ := g2.key (r1.mono s2) r2 q2
  cases od with
  | none => exact n.elim
  | some d =>
    obtain ⟨z, rfl, rz⟩ := h2 d rfl
    exact ⟨a, z, rfl, h1, (po.more (s1.trans s2)).at g2 n rz⟩
/-- d.get(k), d.get(k, x) -/
def isDc (O : Ow) (x : D) : Bool := match x with
  | .ref a => (dicAt O a).isSome
  | _ => false
def fDGet1 (fo fi : FE) : FE := fun ρ O Q => fo ρ O fun x O1 => isDc O1 x = true ∧ fi ρ O1 fun y O2 => rKey x y O2 fun o => Q (o.getD .non) O2
def fDGet2 (fo fi fx : FE) : FE := fun ρ O Q => fo ρ O fun x O1 => isDc O1 x = true ∧ fi ρ O1 fun y O2 => fx ρ O2 fun z O3 => rKey x y O3 fun o => Q (o.getD z) O3
/-- k in d -/
def rDIn (neg : Bool) : R2D := fun y x O Q => rKey x y O fun o => Q (.bl (o.isSome != neg)) O
theorem od_dnotin (hu : X.A.units + 200 < cLine) : OpD M X (compareOp .NotIn) (rDIn true) := by
  intro pins s σ H y x u v Q I ry rx h
  obtain ⟨F, O, P, dy, dx, R, g, r1, r2, q, po⟩ := h
  obtain ⟨a, od, oV, rfl, h1, _, n, h2, h3⟩ := g.key r2 r1 q
  obtain rfl : v = Value.ref a := rx
  refine d_notIn (by omega) I h1 ry fun s' I' => ⟨.bl (!oV.isSome), H, I', rfl, ?_⟩
  have e : oV.isSome = od.isSome := by
    cases od with
    | none => simp [h3 rfl]
    | some d => obtain ⟨z, rfl, _⟩ := h2 d rfl; rfl
  exact po.at g n (by simp [Rep, e])
/-- d[k] = v -/
def rDPutT (x y d : D) (O : Ow) (N : Ow → Prop) : Prop := match x, y with
  | .ref a, .tupK ks => match O a with
    | some (.dicT kvs) => kvs.length < sizeLine ∧ N (updO O a (.dicT (putD kvs ks d)))
    | _ => False
  | _, _ => False
def rDPut (x y d : D) (O : Ow) (N : Ow → Prop) : Prop := match x, keyOf y with
  | .ref a, some k => match O a with
    | some (.dic kvs) => kvs.length < sizeLine ∧ N (updO O a (.dic (putD kvs k d)))
    | _ => False
  | x, none => rDPutT x y d O N
  | _, _ => False
def gDPut (fo fi fe : FE) : GS := fun R ρ O => fe ρ O fun d O1 => fo ρ O1 fun x O2 => fi ρ O2 fun y O3 => rDPut x y d O3 (R.nx ρ)
theorem ds_dput (hu : X.A.units + 200 < cLine) (ho : DE M X o fo) (hi : DE M X i fi) (he : DE M X value fe) (hs : swapsWith value (some (.Subscript o i pos')) pos.line X.env = pure false := by rfl) :
    DS M X (.Assign [.Subscript o i pos'] value pos) (gDPut fo fi fe) := psMono (ps_dput (by omega) ho hi he hs) fun D σ H h => by
  obtain ⟨F, O, P, ρ, R, g, en, q, po⟩ := h
  refine ⟨F, O, P, ρ, _, g, en, q, fun d O1 F1 H1 v q1 s1 g1 r1 => ?_⟩
  refine ⟨F1, O1, P, ρ, _, g1, en.mono s1, q1, fun x O2 F2 H2 w q2 s2 g2 r2 => ?_⟩
  refine ⟨F2, O2, P, ρ, _, g2, en.mono (s1.trans s2), q2, fun y O3 F3 H3 z q3 s3 g3 r3 => ?_⟩
  unfold rDPut at q3
  split at q3 <;> first | exact q3.elim | skip
  · rename_i a k e
    split at q3 <;> first | exact q3.elim | skip
    rename_i kvs e2
    obtain ⟨_, _, vs, h1, h2⟩ := g3.ow a _ e2
    simp only [Rep] at r2
    subst r2
    have ez := keyOf_rep e r3
    subst ez
    have s4 := s1.trans (s2.trans s3)
    refine ⟨a, _, rfl, .k h1 (by rw [← h2.length]; exact q3.1), ?_⟩
    exact po.nx ρ _ F3 _ σ q3.2 s4 (g3.setO e2 ⟨_, upd_same, h2.put (r1.mono (s2.trans s3))⟩) (en.mono s4)
  · unfold rDPutT at q3
    split at q3 <;> first | exact q3.elim | skip
    rename_i a ks _
    split at q3 <;> first | exact q3.elim | skip
    rename_i kvs e2
    obtain ⟨vs, h1, h2⟩ := g3.dicT e2
    simp only [Rep] at r2 r3
    subst r2
    obtain ⟨b, rfl, hb⟩ := r3
    have s4 := s1.trans (s2.trans s3)
    refine ⟨a, _, rfl, .t h1 (g3.fz _ _ hb) (by rw [← h2.length]; exact q3.1), ?_⟩
    exact po.nx ρ _ F3 _ σ q3.2 s4 (g3.setO e2 ⟨_, upd_same, h2.put (r1.mono (s2.trans s3))⟩) (en.mono s4)
end
/-! ### the keys of a dict -/
section
variable {X : Cx}
def asStrK : List Key → Option (List Str)
  | [] => some []
  | .inr s :: r => (asStrK r).map (s :: ·)
  | .inl _ :: _ => none
theorem asStrK_of : ∀ {l : List Key} {ts : List Str}, asStrK l = some ts → l = ts.map Sum.inr
  | [], _, h => by cases h; rfl
  | .inr s :: r, ts, h => by
    simp only [asStrK] at h
    obtain ⟨u, e, rfl⟩ := Option.map_eq_some_iff.mp h
    rw [asStrK_of e, List.map_cons]
  | .inl _ :: _, _, h => by simp [asStrK] at h
theorem asStrK_map (ts : List Str) : asStrK (ts.map Sum.inr) = some ts := by
  induction ts with
  | nil => rfl
  | cons s r ih => simp [asStrK, ih]
/-- sorted(d), all keys texts -/
def rSortK : RAD := fun ds O Q => match ds with
  | [.ref a] => match dicAt O a with
    | some kvs => match asStrK (kvs.map (·.1)) with
      | some ts => ts.length < 64 ∧ ∀ ys : List Str, ys.Perm ts → sortedS ys = true → Q (.lst (ys.map .str)) O
      | none => False
    | none => False
  | _ => False
theorem cd_sortedK (hc : X.calm = true) : CallD M X (.builtin "sorted") rSortK := by
  refine callD_of fun F P H O xs ds R Q g r q po => ?_
  unfold rSortK at q
  split at q <;> first | exact q.elim | skip
  rename_i a
  split at q <;> first | exact q.elim | skip
  rename_i kvs e
  split at q <;> first | exact q.elim | skip
  rename_i ts e2
  obtain ⟨v, rfl, r1⟩ := r.one'
  simp only [Rep] at r1
  subst r1
  obtain ⟨vs, h1, h2⟩ := g.dic e
  exact ⟨_, call_sortedD hc, a, vs, ts, rfl, h1, by rw [h2.keys]; exact asStrK_of e2, q.1, fun ys p hp hs hn => po.lst g (q.2 ys hp hs) .of_strs hn⟩
end
/-! ### isinstance(x, (T1, T2, ..)) -/
section
variable {X : Cx} {a : Expr} {es : List Expr} {fa : FE} {fr : FA} {p pos tpos : Pos}
def asTys : List D → Option (List String)
  | [] => some []
  | .ty n :: r => (asTys r).map (n :: ·)
  | _ :: _ => none
def rIsiTs (x : D) (ds : List D) (O : Ow) (Q : VD) : Prop := match asTys ds with
  | some ns => ns.length ≤ sizeLine ∧ (ns.all fun n => insCl.contains n) = true ∧ insTy.contains (tyNm O x) = true ∧ Q (.bl (ns.any (insOf (tyNm O x)))) O
  | none => False
def fIsiT (fa : FE) (fr : FA) : FE := fun ρ O Q => fa ρ O fun x O1 => fr ρ O1 fun ds O2 => rIsiTs x ds O2 Q
end
/-! ### a walk along an owned list that stays -/
section
variable {X : Cx} {tg l : Expr} {fl : FE} {pos : Pos}
def forR (a : Addr) (all : List D) (p : Pat) (gb : GS) (R : DEnds) : List D → DEnv → Ow → Prop
  | [], ρ, O => O a = some (.lst all) ∧ R.nx ρ O
  | d :: ds, ρ, O => O a = some (.lst all) ∧ patGet (patD p d ρ) fun ρ1 => gb { R with nx := forR a all p gb R ds, ct := forR a all p gb R ds, bk := R.nx } ρ1 O
def asLR (d : D) (O : Ow) (Q : Addr → List D → Ow → Prop) : Prop := match d with
  | .ref a => match O a with
    | some (.lst ds) => Q a ds O
    | _ => False
  | _ => False
def gForR (fl : FE) (p : Pat) (gb : GS) : GS := fun R ρ O => fl ρ O fun x O1 => asLR x O1 fun a ds O2 => forR a ds p gb R ds ρ O2
end
/-! ### a list times a number -/
section
variable {X : Cx} {K : PySem.W.Frag} {F : Hp}
def rRepD : R2D := fun x y O Q => match x, y with
  | .lst ds, .int k => (-(2 ^ 63) ≤ k ∧ k < 2 ^ 63 ∧ ds.length * k.toNat ≤ sizeLine) ∧ Q (.lst (List.replicate k.toNat ds).flatten) O
  | _, _ => False
end
/-! ### a call without arguments -/
section
variable {X : Cx} {k : Nat} {f : Addr} {fd : FuncData} {ps : List Str} {dsp : DSp} {x : Str} {st : Stmt} {p pos : Pos}
end
/-! ### the readings at their arguments -/
theorem ap_fDicO {ρ : DEnv} {O : Ow} {Q : VD} : fDicO ρ O Q = (∀ p, O p = none → Q (.ref p) (updO O p (.dic []))) := rfl
theorem ap_fDGet (fo fi : FE) {ρ : DEnv} {O : Ow} {Q : VD} : fDGet fo fi ρ O Q = (fo ρ O fun x O1 => fi ρ O1 fun y O2 => rDGet x y O2 Q) := rfl
theorem ap_fDGet1 (fo fi : FE) {ρ : DEnv} {O : Ow} {Q : VD} : fDGet1 fo fi ρ O Q = (fo ρ O fun x O1 => isDc O1 x = true ∧ fi ρ O1 fun y O2 => rKey x y O2 fun o => Q (o.getD .non) O2) := rfl
theorem ap_fDGet2 (fo fi fx : FE) {ρ : DEnv} {O : Ow} {Q : VD} : fDGet2 fo fi fx ρ O Q = (fo ρ O fun x O1 => isDc O1 x = true ∧ fi ρ O1 fun y O2 => fx ρ O2 fun z O3 => rKey x y O3 fun o => Q (o.getD z) O3) := rfl
theorem ap_gDPut (fo fi fe : FE) {R : DEnds} {ρ : DEnv} {O : Ow} : gDPut fo fi fe R ρ O = (fe ρ O fun d O1 => fo ρ O1 fun x O2 => fi ρ O2 fun y O3 => rDPut x y d O3 (R.nx ρ)) := rfl
theorem ap_fIsiT (fa : FE) (fr : FA) {ρ : DEnv} {O : Ow} {Q : VD} : fIsiT fa fr ρ O Q = (fa ρ O fun x O1 => fr ρ O1 fun ds O2 => rIsiTs x ds O2 Q) := rfl
theorem ap_gForR (fl : FE) (p : Pat) (gb : GS) {R : DEnds} {ρ : DEnv} {O : Ow} : gForR fl p gb R ρ O = (fl ρ O fun x O1 => asLR x O1 fun a ds O2 => forR a ds p gb R ds ρ O2) := rfl
section
variable {O : Ow} {a : Addr} {kvs : List (Key × D)} {Q : VD} {N : Option D → Prop} {k : Key} {x y d : D} {t : Str} {i : Int}
theorem dicAt_d (h : O a = some (.dic kvs)) : dicAt O a = some kvs := by simp only [dicAt, h]
theorem rKey_s (h : O a = some (.dic kvs)) : rKey (.ref a) (.str t) O N = N (valD kvs (.inr t)) := by simp only [rKey, keyOf, dicAt_d h]
theorem rDPut_s {N : Ow → Prop} (h : O a = some (.dic kvs)) : rDPut (.ref a) (.str t) d O N = (kvs.length < sizeLine ∧ N (updO O a (.dic (putD kvs (.inr t) d)))) := by simp only [rDPut, keyOf, h]
theorem rSortK_r {ts : List Str} (h : O a = some (.dic kvs)) (e : kvs.map (·.1) = ts.map Sum.inr) : rSortK [.ref a] O Q = (ts.length < 64 ∧ ∀ ys : List Str, ys.Perm ts → sortedS ys = true → Q (.lst (ys.map .str)) O) := by
  simp only [rSortK, dicAt_d h, e, asStrK_map]
theorem rRep_l {ds : List D} : rRepD (.lst ds) (.int i) O Q = ((-(2 ^ 63) ≤ i ∧ i < 2 ^ 63 ∧ ds.length * i.toNat ≤ sizeLine) ∧ Q (.lst (List.replicate i.toNat ds).flatten) O) := rfl
theorem sl1 : ((["list", "tuple"] : List String).length ≤ sizeLine) = True := by simp [sizeLine]
theorem isT_lt (h : insTy.contains (tyNm O x) = true) : rIsiTs x [.ty "list", .ty "tuple"] O Q = Q (.bl (["list", "tuple"].any (insOf (tyNm O x)))) O := by
  have e : asTys [D.ty "list", D.ty "tuple"] = some ["list", "tuple"] := rfl
  have e2 : ((["list", "tuple"] : List String).all fun n => insCl.contains n) = true := by decide
  simp only [rIsiTs, e, sl1, h, e2, true_and]
theorem isT_i : rIsiTs (.int i) [.ty "list", .ty "tuple"] O Q = Q (.bl false) O := isT_lt rfl
theorem isT_s : rIsiTs (.str t) [.ty "list", .ty "tuple"] O Q = Q (.bl false) O := isT_lt rfl
theorem isT_b {b : Bool} : rIsiTs (.bl b) [.ty "list", .ty "tuple"] O Q = Q (.bl false) O := isT_lt rfl
theorem isT_n : rIsiTs .non [.ty "list", .ty "tuple"] O Q = Q (.bl false) O := isT_lt rfl
theorem isT_t {xs : List D} : rIsiTs (.tup xs) [.ty "list", .ty "tuple"] O Q = Q (.bl true) O := isT_lt rfl
theorem isT_l {xs : List D} : rIsiTs (.lst xs) [.ty "list", .ty "tuple"] O Q = Q (.bl true) O := isT_lt rfl
end
/-! ### an owned list that a call tells, frozen at once -/
section
variable {X : Cx} {e : Expr} {fe : FE}
def rFrz (d : D) (O : Ow) (Q : VD) : Prop := match d with
  | .ref a => match O a with
    | some (.lst ds) => Q (.lst ds) (delO O a)
    | _ => False
  | _ => False
def fFrz (fe : FE) : FE := fun ρ O Q => fe ρ O fun d O1 => rFrz d O1 Q
theorem ap_fFrz (fe : FE) {ρ : DEnv} {O : Ow} {Q : VD} : fFrz fe ρ O Q = (fe ρ O fun d O1 => rFrz d O1 Q) := rfl
end
end Kf
/-! Dl16: max(xs), max(xs, default=d) of ints. -/
namespace Kf
open PySem PySem.Spec L2
open PyProof.Rows hiding St
section
variable {prog : Program} {w : World} {A : Around} {Rz : Result → Shared → Prop} {it : Addr} {fp wr : List Addr} {n : Nat} {Pv : Nat → Value → Prop} {Sw : Nat → Heap → Prop}
end
/-- the greatest, or 0 of none -/
def lmx : List Int → Int
  | [] => 0
  | [a] => a
  | a :: b :: r => if lmx (b :: r) > a then lmx (b :: r) else a
section
variable {prog : Program} {w : World} {A : Around} {E : Value → Shared → Prop} {s : Shared}
end
section
variable {X : Cx} {M : MX} {e : Expr} {es : List Expr} {fa : FE} {pos p kpos pos' : Pos}
/-- max(xs, default=i) -/
def rMaxD (i : Int) (x : D) (O : Ow) (Q : VD) : Prop := match deref O x with
  | .lst ds => match asInts ds with
    | some ns => Q (.int (if ns = [] then i else lmx ns)) O
    | none => False
  | _ => False
def fMaxD (i : Int) (fa : FE) : FE := fun ρ O Q => fa ρ O fun x O1 => rMaxD i x O1 Q
/-- max(xs) -/
def rMaxL : RAD := fun ds O Q => match ds with
  | [x] => match deref O x with
    | .lst ds => match asInts ds with
      | some ns => ns ≠ [] ∧ Q (.int (lmx ns)) O
      | none => False
    | _ => False
  | _ => False
theorem ap_fMaxD (i : Int) (fa : FE) {ρ : DEnv} {O : Ow} {Q : VD} : fMaxD i fa ρ O Q = fa ρ O fun x O1 => rMaxD i x O1 Q := rfl
theorem rMaxD_l {i : Int} {ns : List Int} {O : Ow} {Q : VD} : rMaxD i (.lst (ns.map .int)) O Q = Q (.int (if ns = [] then i else lmx ns)) O := by
  simp only [rMaxD, deref, asInts_map]
theorem rMaxL_l {ns : List Int} {O : Ow} {Q : VD} : rMaxL [.lst (ns.map .int)] O Q = (ns ≠ [] ∧ Q (.int (lmx ns)) O) := by
  simp only [rMaxL, deref, asInts_map]
end
end Kf
/-! Dl17: defs with one default, None; walks along a list, owned or not. -/
namespace Kf
open PySem PySem.Spec L2
open PyProof.Rows hiding St
/-- a def of the text with one default, None -/
structure FnD (K : PySem.W.Frag) (mg : Str → Option Value) (x : Str) (st : Stmt) (ps : List Str) (f : Addr) (fd : FuncData) : Prop where
  F : FunD K x x (defArgs st) (defBody st) (defScope st) [V.non] [] f fd
  m : mg x = some (.ref f)
  b : Binds K fd ps []
  b1 : ∃ ds, Vals [V.non] ds ∧ Binds K fd ps ds
section
variable {X : Cx} {M : MX} {RX : XW} {W : WX} {e : Expr} {es : List Expr} {fr : FA} {k : Nat} {f : Addr} {fd : FuncData} {ps : List Str} {dsp : DSp} {x : Str} {st : Stmt} {p pos : Pos}
/-- a call without the last argument -/
def fCallXD (dsp : DSp) (RX : XW) (fr : FA) : FE := fun ρ O Q => fr ρ O fun ds O1 => dsp (ds ++ [.non]) O1 Q fun cls fs O' => RX cls fs ρ O'
theorem ap_fCallXD (dsp : DSp) (RX : XW) (fr : FA) {ρ : DEnv} {O : Ow} {Q : VD} : fCallXD dsp RX fr ρ O Q = fr ρ O fun ds O1 => dsp (ds ++ [.non]) O1 Q fun cls fs O' => RX cls fs ρ O' := rfl
end
section
variable {P : Program} {w : World} {K : PySem.W.Frag} {mg : Str → Option Value} {base : Heap}
end
/-! ### for over a list, owned or not, that stays -/
section
variable {X : Cx} {M : MX} {l tg : Expr} {fl : FE} {pos : Pos}
def forE (x : D) (all : List D) (p : Pat) (gb : GS) (R : DEnds) : List D → DEnv → Ow → Prop
  | [], ρ, O => deref O x = .lst all ∧ R.nx ρ O
  | d :: ds, ρ, O => deref O x = .lst all ∧ patGet (patD p d ρ) fun ρ1 => gb { R with nx := forE x all p gb R ds, ct := forE x all p gb R ds, bk := R.nx } ρ1 O
def asLE (x : D) (O : Ow) (Q : List D → Prop) : Prop := match deref O x with
  | .lst ds => Q ds
  | _ => False
def gForE (fl : FE) (p : Pat) (gb : GS) : GS := fun R ρ O => fl ρ O fun x O1 => asLE x O1 fun ds => forE x ds p gb R ds ρ O1
theorem ap_gForE (fl : FE) (p : Pat) (gb : GS) {R : DEnds} {ρ : DEnv} {O : Ow} : gForE fl p gb R ρ O = fl ρ O fun x O1 => asLE x O1 fun ds => forE x ds p gb R ds ρ O1 := rfl
theorem asLE_l {ds : List D} {O : Ow} {Q : List D → Prop} : asLE (.lst ds) O Q = Q ds := rfl
end
end Kf
/-! Dl18: walks along the keys of an owned dict. -/
namespace Kf
open PySem PySem.Spec L2
open PyProof.Rows hiding St
variable {M : MX}
/-! ### [.. for k in d] -/
def lcK (a : Addr) (c : Cell) (p : Pat) (ft : FT) (fe : FE) (ρ : DEnv) : List D → List D → Ow → (List D → Ow → Prop) → Prop
  | [], acc, O, Q => O a = some c ∧ Q acc O
  | d :: ds, acc, O, Q => O a = some c ∧ patGet (patD p d ρ) fun ρ1 => ft ρ1 O fun b O1 => if b = true then fe ρ1 O1 fun e O2 => acc.length < sizeLine ∧ lcK a c p ft fe ρ ds (acc ++ [e]) O2 Q else lcK a c p ft fe ρ ds acc O1 Q
def asDc (o : Option (Option D)) (O : Ow) (N : Addr → List (Key × D) → Prop) : Prop := match o with
  | some (some (.ref a)) => match O a with
    | some (.dic kvs) => N a kvs
    | _ => False
  | _ => False
def keysD (kvs : List (Key × D)) : List D := kvs.map fun kv => keyD kv.1
def fLcK (i : Nat) (p : Pat) (ft : FT) (fe : FE) (vs : List Nat) : FE := fun ρ O Q => asDc ρ[i]? O fun a kvs =>
  ∀ o, lcK a (.dicL kvs o) p ft fe (wipeD ρ vs) (keysD kvs) [] (updO O a (.dicL kvs o)) fun acc O2 => Q (.lst acc) (updO O2 a (.dic kvs))
section
variable {X : Cx} {elt tg iter : Expr} {ifs : List Expr} {scope : Scope} {own : List (Str × Nat)} {pos : Pos} {p : Pat} {ft : FT} {fe : FE}
end
theorem ap_fLcK (i : Nat) (p : Pat) (ft : FT) (fe : FE) (vs : List Nat) {ρ : DEnv} {O : Ow} {Q : VD} : fLcK i p ft fe vs ρ O Q = asDc ρ[i]? O fun a kvs =>
  ∀ o, lcK a (.dicL kvs o) p ft fe (wipeD ρ vs) (keysD kvs) [] (updO O a (.dicL kvs o)) fun acc O2 => Q (.lst acc) (updO O2 a (.dic kvs)) := rfl
/-! ### for k in d -/
def endsK (a : Addr) (c : Cell) (kvs : List (Key × D)) (R : DEnds) (N : DEnv → Ow → Prop) : DEnds :=
  { nx := N, ct := N, bk := fun ρ O => O a = some c ∧ R.nx ρ (updO O a (.dic kvs)), rt := fun d O => O a = some c ∧ R.rt d (updO O a (.dic kvs)) }
def forK (a : Addr) (c : Cell) (kvs : List (Key × D)) (p : Pat) (gb : GS) (R : DEnds) : List D → DEnv → Ow → Prop
  | [], ρ, O => O a = some c ∧ R.nx ρ (updO O a (.dic kvs))
  | d :: ds, ρ, O => O a = some c ∧ patGet (patD p d ρ) fun ρ1 => gb (endsK a c kvs R (forK a c kvs p gb R ds)) ρ1 O
def gForK (i : Nat) (p : Pat) (gb : GS) : GS := fun R ρ O => asDc ρ[i]? O fun a kvs => ∀ o, forK a (.dicL kvs o) kvs p gb R (keysD kvs) ρ (updO O a (.dicL kvs o))
theorem ap_gForK (i : Nat) (p : Pat) (gb : GS) {R : DEnds} {ρ : DEnv} {O : Ow} : gForK i p gb R ρ O = asDc ρ[i]? O fun a kvs => ∀ o, forK a (.dicL kvs o) kvs p gb R (keysD kvs) ρ (updO O a (.dicL kvs o)) := rfl
section
variable {X : Cx} {tg iter : Expr} {pos : Pos}
end
end Kf
/-! Dl19: dict(pairs). -/
namespace Kf
open PySem PySem.Spec L2
open PyProof.Rows hiding St
variable {M : MX}
section
variable {X : Cx}
end
/-! ### xs or ys, of lists -/
section
variable {X : Cx} {a b : Expr} {fa fb : FE} {rest : List Expr} {pos : Pos}
def rOrL (x : D) (O : Ow) (N : List D → Prop) : Prop := match deref O x with
  | .lst ds => N ds
  | _ => False
def fOrL (fa fb : FE) : FE := fun ρ O Q => fa ρ O fun x O1 => rOrL x O1 fun ds => if ds.isEmpty = true then fb ρ O1 Q else Q x O1
end
theorem ap_fOrL (fa fb : FE) {ρ : DEnv} {O : Ow} {Q : VD} : fOrL fa fb ρ O Q = fa ρ O fun x O1 => rOrL x O1 fun ds => if ds.isEmpty = true then fb ρ O1 Q else Q x O1 := rfl
theorem rOrL_l {ds : List D} {O : Ow} {N : List D → Prop} : rOrL (.lst ds) O N = N ds := rfl
end Kf
/-! Dl20: tables of the module, unpacking of lists, ranges with a step. -/
namespace Kf
open PySem PySem.Spec L2
open PyProof.Rows hiding St
variable {M : MX}
/-! ### a table of texts by texts, of the module -/
def CDic (K : PySem.W.Frag) (w : World) (mg : Str → Option Value) (x : Str) (tab : List (Str × Str)) : Prop :=
  ∃ d es n, mg x = some (.ref d) ∧ KDict K w d es n ∧ Paired (fun (e : DictEntry) (q : Str × Str) => (∃ t, e.key = .str q.1 t) ∧ ∃ t, e.val = .str q.2 t) es.toList tab
def tabF (tab : List (Str × Str)) (z : Str) : Option Str := (tab.find? fun q => decide (q.1 = z)).map (·.2)
theorem find_tab {es : List DictEntry} {tab : List (Str × Str)} (h : Paired (fun (e : DictEntry) (q : Str × Str) => (∃ t, e.key = .str q.1 t) ∧ ∃ t, e.val = .str q.2 t) es tab) (z : Str) :
    (tabF tab z = none ∧ (es.find? fun e => Value.isStrOf z e.key).map (·.val) = none) ∨ ∃ y t, tabF tab z = some y ∧ (es.find? fun e => Value.isStrOf z e.key).map (·.val) = some (.str y t) := by
  induction h with
  | nil => exact .inl ⟨rfl, rfl⟩
  | @cons e q es qs a _ ih =>
    obtain ⟨⟨t, ek⟩, t2, ev⟩ := a
    have hs : Value.isStrOf z e.key = decide (q.1 = z) := by
      rw [ek]
      show (q.1 == z) = _
      exact str_beq ..
    unfold tabF at ih ⊢
    rw [List.find?_cons, List.find?_cons, hs]
    by_cases c : q.1 = z
    · rw [decide_eq_true c]
      exact .inr ⟨q.2, t2, rfl, by simp [ev]⟩
    · rw [decide_eq_false c]
      exact ih
section
variable {X : Cx} {x : Str} {tab : List (Str × Str)} {e i a : Expr} {fe fi fa : FE} {pos pos' apos cpos p2 : Pos}
theorem CDic.map {d : Addr} {es : Array DictEntry} {n : Nat} (D : KDict X.K X.w d es n) (hp : Paired (fun (e : DictEntry) (q : Str × Str) => (∃ t, e.key = .str q.1 t) ∧ ∃ t, e.val = .str q.2 t) es.toList tab) (z : Str) :
    (tabF tab z = none ∧ findBy Value.isStrOf es z = none) ∨ ∃ y t, tabF tab z = some y ∧ findBy Value.isStrOf es z = some (.str y t) := by
  have h := find_tab hp z
  obtain ⟨l⟩ := es
  unfold findBy
  rw [List.find?_toArray]
  exact h
def tabD (tab : List (Str × Str)) (z : Str) : D := match tabF tab z with
  | some y => .str y
  | none => .non
def asStr (d : D) (N : Str → Prop) : Prop := match d with
  | .str z => N z
  | _ => False
/-- T.get(w) -/
def fKGet (tab : List (Str × Str)) (fe : FE) : FE := fun ρ O Q => fe ρ O fun d O1 => asStr d fun z => Q (tabD tab z) O1
theorem ap_fKGet (tab : List (Str × Str)) (fe : FE) {ρ : DEnv} {O : Ow} {Q : VD} : fKGet tab fe ρ O Q = fe ρ O fun d O1 => asStr d fun z => Q (tabD tab z) O1 := rfl
theorem asStr_s {z : Str} {N : Str → Prop} : asStr (.str z) N = N z := rfl
/-- w in T -/
def fKIn (tab : List (Str × Str)) (fa : FE) : FE := fun ρ O Q => fa ρ O fun d O1 => asStr d fun z => Q (.bl (tabF tab z).isSome) O1
theorem ap_fKIn (tab : List (Str × Str)) (fa : FE) {ρ : DEnv} {O : Ow} {Q : VD} : fKIn tab fa ρ O Q = fa ρ O fun d O1 => asStr d fun z => Q (.bl (tabF tab z).isSome) O1 := rfl
/-- T[w] -/
def asSome (o : Option Str) (N : Str → Prop) : Prop := match o with
  | some y => N y
  | none => False
def fKIx (tab : List (Str × Str)) (fi : FE) : FE := fun ρ O Q => fi ρ O fun d O1 => asStr d fun z => asSome (tabF tab z) fun y => Q (.str y) O1
theorem ap_fKIx (tab : List (Str × Str)) (fi : FE) {ρ : DEnv} {O : Ow} {Q : VD} : fKIx tab fi ρ O Q = fi ρ O fun d O1 => asStr d fun z => asSome (tabF tab z) fun y => Q (.str y) O1 := rfl
end
/-! ### (a, b, ..) = a list -/
section
variable {X : Cx} {e : Expr} {es : List Expr} {fe : FE} {pos p2 : Pos}
def rUnl (d : D) (O : Ow) (N : List D → Prop) : Prop := match deref O d with
  | .lst ds => N ds
  | _ => False
def gAsgL (fe : FE) (ps : List Pat) : GS := fun R ρ O => fe ρ O fun d O1 => rUnl d O1 fun ds => patGet (patDs ps ds ρ) fun ρ' => R.nx ρ' O1
theorem ap_gAsgL (fe : FE) (ps : List Pat) {R : DEnds} {ρ : DEnv} {O : Ow} : gAsgL fe ps R ρ O = fe ρ O fun d O1 => rUnl d O1 fun ds => patGet (patDs ps ds ρ) fun ρ' => R.nx ρ' O1 := rfl
theorem rUnl_l {ds : List D} {O : Ow} {N : List D → Prop} : rUnl (.lst ds) O N = N ds := rfl
end
/-! ### range(i, j, c) -/
section
variable {X : Cx} {tg a b c : Expr} {fr : FA} {p pos : Pos}
def rangeC (lo c : Int) (n : Nat) : List D := (List.range n).map fun i => .int (lo + (i : Nat) * c)
def asR3 (ds : List D) (O : Ow) (Q : List D → Ow → Prop) : Prop := match ds with
  | [.int i, .int j, .int c] => ∃ n, RgC i j c n ∧ Q (rangeC i c n) O
  | _ => False
def fiRng3 (fr : FA) : FI := fun ρ O Q => fr ρ O fun ds O1 => asR3 ds O1 Q
theorem ap_fiRng3 (fr : FA) {ρ : DEnv} {O : Ow} {Q : List D → Ow → Prop} : fiRng3 fr ρ O Q = fr ρ O fun ds O1 => asR3 ds O1 Q := rfl
theorem asR3_i {i j c : Int} {O : Ow} {Q : List D → Ow → Prop} : asR3 [.int i, .int j, .int c] O Q = ∃ n, RgC i j c n ∧ Q (rangeC i c n) O := rfl
end
/-! ### a text split, the list changes -/
section
variable {X : Cx}
def rSplitO : RMD := fun x ds O Q => match x, ds with
  | .str a, [.str b] => (b.length == 0) = false ∧ a.length + 2 ≤ sizeLine ∧ ∀ p, O p = none → Q (.ref p) (updO O p (.lst ((Txt.split a b).map .str)))
  | _, _ => False
theorem rSplitO_s {a b : Str} {O : Ow} {Q : VD} : rSplitO (.str a) [.str b] O Q = ((b.length == 0) = false ∧ a.length + 2 ≤ sizeLine ∧ ∀ p, O p = none → Q (.ref p) (updO O p (.lst ((Txt.split a b).map .str)))) := rfl
end
end Kf
/-! Dl21: enumerate(tuple). -/
namespace PySem
open Sem (wp)
open AutoSeq1 (wpAny_loadPart')
end PySem
namespace Kf
open PySem PySem.Spec L2
open PyProof.Rows hiding St
def asT1 (ds : List D) (O : Ow) (Q : List D → Ow → Prop) : Prop := match ds with
  | [.tup ds] => Q ds O
  | _ => False
def fiEnumT (fr : FA) : FI := fun ρ O Q => fr ρ O fun ds O1 => asT1 ds O1 fun ds O2 => Q (enumD ds) O2
section
variable {M : MX} {X : Cx} {fr : FA} {pos : Pos}
end
theorem ap_fiEnumT (fr : FA) {ρ : DEnv} {O : Ow} {Q : (List D → Ow → Prop)} : fiEnumT fr ρ O Q = (fr ρ O fun ds O1 => asT1 ds O1 fun ds O2 => Q (enumD ds) O2) := rfl
theorem asT1_t {ds : List D} {O : Ow} {Q : List D → Ow → Prop} : asT1 [.tup ds] O Q = Q ds O := rfl
end Kf
/-! Dl22: a finer room: one frame for each call. -/
namespace Kf
open PySem PySem.Spec L2
open PyProof.Rows hiding St
structure RoomT (k : Nat) (A : Around) : Prop where
  hd : A.handled = none
  dp : A.depth + k + 5 < recursionLimit
  un : A.units + 5 * k + 200 < cLine
theorem RoomT.deeper {k : Nat} {A : Around} (r : RoomT (k + 1) A) (env : Env) : RoomT k (A.deeper env) :=
  ⟨r.hd, by have := r.dp; show A.depth + 1 + k + 5 < _; omega, by have := r.un; show A.units + 3 + 5 * k + 200 < _; omega⟩
theorem RoomT.depth {k : Nat} {A : Around} (r : RoomT k A) : A.depth < recursionLimit := by have := r.dp; omega
theorem RoomT.u200 {k : Nat} {A : Around} (r : RoomT k A) : A.units + 200 < cLine := by have := r.un; omega
theorem RoomT.to {j k : Nat} {A : Around} (r : RoomT k A) (h : 4 * j ≤ k) : Room j A := ⟨r.hd, by have := r.dp; omega, by have := r.un; omega⟩
theorem RoomT.of {j k : Nat} {A : Around} (r : Room j A) (h : k ≤ 3 * j) : RoomT k A := ⟨r.hd, by have := r.dp; omega, by have := r.un; omega⟩
theorem RoomT.mono {j k : Nat} {A : Around} (r : RoomT k A) (h : j ≤ k) : RoomT j A := ⟨r.hd, by have := r.dp; omega, by have := r.un; omega⟩
/-- a def's promise by the finer room -/
structure FnT (P : Program) (w : World) (K : PySem.W.Frag) (mg : Str → Option Value) (base : Heap) (CX : CXT) (k : Nat) (f : Addr) (fd : FuncData) (ps : List Str) (sp : Sp) : Prop where
  len : ∀ vs H Q E, sp vs H Q E → vs.length = ps.length
  run : ∀ (A : Around) (outer : List Env) (s : Shared) (H : Hp) (args : Args) (us : List Value) (vs : List V) (Q : VK) (E : XK), RoomT k A → Env0 P w K mg base A outer s H → BindsTo s fd args (ps.zip us) → Vals vs us → sp vs H Q E →
    codeAny (model P w) A (.call (.ref f) args) (CR CX outer P w H s Q E) s
section
variable {P : Program} {w : World} {K : PySem.W.Frag} {mg : Str → Option Value} {base : Heap} {CX : CXT} {f : Addr} {fd : FuncData} {ps : List Str} {sp : Sp}
theorem FnT.of {j k : Nat} (F : FnOk P w K mg base CX j f fd ps sp) (h : 4 * j ≤ k) : FnT P w K mg base CX k f fd ps sp :=
  ⟨F.len, fun A outer s H args us vs Q E hr => F.run A outer s H args us vs Q E (hr.to h)⟩
theorem FnT.ok {j k : Nat} (F : FnT P w K mg base CX k f fd ps sp) (h : k ≤ 3 * j) : FnOk P w K mg base CX j f fd ps sp :=
  ⟨F.len, fun A outer s H args us vs Q E hr => F.run A outer s H args us vs Q E (.of hr h)⟩
theorem FnT.mono {j k : Nat} (F : FnT P w K mg base CX j f fd ps sp) (h : j ≤ k) : FnT P w K mg base CX k f fd ps sp :=
  ⟨F.len, fun A outer s H args us vs Q E hr => F.run A outer s H args us vs Q E (hr.mono h)⟩
end
section
variable {X : Cx} {e : Expr} {es : List Expr} {t : TA} {CX : CXT} {k : Nat} {f : Addr} {fd : FuncData} {ps : List Str} {sp : Sp} {E : XK} {x : Str} {p pos : Pos}
end
section
variable {M : MX} {X : Cx} {e : Expr} {es : List Expr} {fr : FA} {k : Nat} {f : Addr} {fd : FuncData} {ps : List Str} {dsp : DSp} {x : Str} {st : Stmt} {p pos : Pos}
end
section
variable {P : Program} {w : World} {K : PySem.W.Frag} {mg : Str → Option Value} {base : Heap}
end
end Kf
/-! Dl23: every second thing of a list, xs[::2], xs[1::2]. -/
namespace Kf
open PySem PySem.Spec L2
open PyProof.Rows hiding St
variable {M : MX}
def ev {α : Type} (l : List α) : List α := (List.range ((l.length + 1) / 2)).filterMap fun k => l[2 * k]?
theorem ev_nil {α : Type} : ev ([] : List α) = [] := by simp [ev]
theorem ev_one {α : Type} (x : α) : ev [x] = [x] := by simp [ev, List.range_succ]
theorem ev_two {α : Type} (x y : α) (r : List α) : ev (x :: y :: r) = x :: ev r := by
  unfold ev
  rw [show ((x :: y :: r).length + 1) / 2 = (r.length + 1) / 2 + 1 by simp only [List.length_cons]; omega, List.range_succ_eq_map, List.filterMap_cons]
  simp only [Nat.mul_zero, List.getElem?_cons_zero, List.filterMap_map]
  rfl
theorem RepAll.ev {K : PySem.W.Frag} {F : Hp} : ∀ (ds : List D) (vs : List V), RepAll K F ds vs → RepAll K F (Kf.ev ds) (Kf.ev vs)
  | [], vs, h => by simp only [RepAll] at h; subst h; rw [ev_nil, ev_nil]; exact .nil
  | [d], vs, h => by
    simp only [RepAll] at h
    obtain ⟨v, r, rfl, h1, rfl⟩ := h
    rw [ev_one, ev_one]; exact .one h1
  | d :: e :: ds, vs, h => by
    simp only [RepAll] at h
    obtain ⟨v, r, rfl, h1, v2, r2, rfl, h2, h3⟩ := h
    rw [ev_two, ev_two]; exact .cons h1 (RepAll.ev ds r2 h3)
section
variable {X : Cx} {e st lo : Expr} {fa : FE} {te : TE} {tst tlo : TO} {fs fl : FO} {pos p2 : Pos}
end
end Kf
/-! Dl24: a caught exception kept as a value behind the suite. -/
namespace Kf
open PySem PySem.Spec L2
open PyProof.Rows hiding St
variable {M : MX}
section
variable {X : Cx} {pins : List (Addr × Obj)} {σ : L2.St} {H : Hp} {s : Shared}
end
section
variable {X : Cx} {x n : Str} {c : Value} {i : Nat} {body suite : List Stmt} {b₀ : Stmt} {np pos pos' : Pos} {tb : WX → TS} {ts : Addr → Value → Option Addr → TS} {Wo : WX}
end
/-! ### over data -/
section
variable {X : Cx} {x n : Str} {c : Value} {i : Nat} {body suite : List Stmt} {b₀ : Stmt} {np pos pos' : Pos} {gb : XW → GS} {gs : Addr → Value → Option (List (Str × D)) → GS} {RXo : XW} {Wo : WX}
end
/-! ### a held exception asked -/
theorem FsOk.get {K : PySem.W.Frag} {F : Hp} {fs : List (Str × D)} {fv : List (Str × V)} {f : Str} {d : D} (h : FsOk K F fs fv) (e : fs.lookup f = some d) : ∃ v, fv.lookup f = some v ∧ Rep K F d v := by
  induction h with
  | nil => simp at e
  | @cons p q _ _ r _ ih =>
    obtain ⟨p1, p2⟩ := p
    obtain ⟨q1, q2⟩ := q
    obtain ⟨r1, r2⟩ := r
    dsimp only at r1 r2
    subst r1
    rw [List.lookup_cons] at e ⊢
    cases c : (f == p1) with
    | true => rw [c] at e; cases e; exact ⟨q2, rfl, r2⟩
    | false => rw [c] at e; exact ih e
end Kf
/-! Dl25: dicts compared, cleared; max of a tuple of ints; instances of own classes: fields, methods, making. -/
namespace Kf
open PySem PySem.Spec L2
open PyProof.Rows hiding St
variable {M : MX}
/-! ### dicts of data compared -/
section
variable {X : Cx} {pins : List (Addr × Obj)} {σ : L2.St} {F P H : Hp} {O : Ow} {s : Shared}
end
section
variable {X : Cx}
end
section
variable {X : Cx} {o : Expr} {fo : FE} {apos cpos pos : Pos}
end
section
variable {X : Cx}
end
/-! ### instances of own classes -/
def putFD (f : Str) (v : D) : List (Str × D) → List (Str × D)
  | [] => [(f, v)]
  | (g, x) :: r => if g = f then (g, v) :: r else (g, x) :: putFD f v r
theorem FsOk.put {K : PySem.W.Frag} {F : Hp} {f : Str} {d : D} {v : V} (r : Rep K F d v) {fs : List (Str × D)} {fv : List (Str × V)} (h : FsOk K F fs fv) : FsOk K F (putFD f d fs) (putF f v fv) := by
  induction h with
  | nil => exact .cons ⟨rfl, r⟩ .nil
  | @cons p q ps qs z t ih =>
    obtain ⟨p1, p2⟩ := p
    obtain ⟨q1, q2⟩ := q
    obtain ⟨z1, z2⟩ := z
    dsimp only at z1 z2
    subst z1
    unfold putFD putF
    split
    · exact .cons ⟨rfl, r⟩ t
    · exact .cons ⟨rfl, z2⟩ ih
theorem FsOk.none {K : PySem.W.Frag} {F : Hp} {f : Str} {fs : List (Str × D)} {fv : List (Str × V)} (h : FsOk K F fs fv) (e : fs.lookup f = none) : fv.lookup f = none := by
  induction h with
  | nil => rfl
  | @cons p q _ _ r _ ih =>
    obtain ⟨p1, p2⟩ := p
    obtain ⟨q1, q2⟩ := q
    obtain ⟨r1, r2⟩ := r
    dsimp only at r1 r2
    subst r1
    rw [List.lookup_cons] at e ⊢
    cases c : (f == p1) with
    | true => rw [c] at e; cases e
    | false => rw [c] at e; exact ih e
theorem FsOk.length {K : PySem.W.Frag} {F : Hp} {fs : List (Str × D)} {fv : List (Str × V)} (h : FsOk K F fs fv) : fs.length = fv.length := Paired.length h
section
variable {X : Cx} {o e value : Expr} {es : List Expr} {f m x : Str} {pos pos' apos p : Pos} {fo fe : FE} {fr : FA} {k : Nat} {C g0 : Addr} {fd : FuncData} {ps : List Str} {dsp : DSp}
/-- o.f -/
def rFld (f : Str) (x : D) (O : Ow) (Q : VD) : Prop := match x with
  | .ref a => match O a with
    | some (.ins _ fs) => match fs.lookup f with
      | some d => Q d O
      | none => False
    | _ => False
  | _ => False
/-- an instance of the class at C -/
def isIns (C : Addr) (x : D) (O : Ow) : Prop := ∃ a fs, x = .ref a ∧ O a = some (.ins C fs)
def fFld (C : Addr) (f : Str) (fo : FE) : FE := fun ρ O Q => fo ρ O fun x O1 => isIns C x O1 ∧ rFld f x O1 Q
theorem de_fld (c : Cls X.K C) (n : NoAttr X.K C f) (ho : DE M X o fo) (hb : attributeBase o f X.env (eval o X.env) = eval o X.env := by rfl) : DE M X (.Attribute o f pos) (fFld C f fo) := peMono (pe_fld ho hb) fun σ H Q h => by
  obtain ⟨F, O, P, ρ, R, g, en, q, po⟩ := h
  refine ⟨F, O, P, ρ, _, g, en, q, fun x O1 F1 H1 v q1 s1 g1 r1 => ?_⟩
  obtain ⟨⟨a, fs, rfl, hO⟩, q1⟩ := q1
  simp only [Rep] at r1
  subst r1
  unfold rFld at q1
  simp only [hO] at q1
  obtain ⟨_, _, dx, fv, h1, h2⟩ := g1.ow a _ hO
  cases e : fs.lookup f with
  | none => rw [e] at q1; exact q1.elim
  | some d =>
    rw [e] at q1
    obtain ⟨w, ew, rw'⟩ := h2.get e
    exact ⟨a, C, dx, fv, w, rfl, h1, c, n, ew, (po.more s1).at g1 q1 rw'⟩
/-- o.f = value -/
def rFldS (f : Str) (x d : D) (O : Ow) (N : Ow → Prop) : Prop := match x with
  | .ref a => match O a with
    | some (.ins C fs) => fs.length < 1000 ∧ N (updO O a (.ins C (putFD f d fs)))
    | _ => False
  | _ => False
def gFld (C : Addr) (f : Str) (fo fe : FE) : GS := fun R ρ O => fe ρ O fun d O1 => fo ρ O1 fun x O2 => isIns C x O2 ∧ rFldS f x d O2 (R.nx ρ)
theorem ds_fld (c : Cls X.K C) (n : NoAttr X.K C f) (ho : DE M X o fo) (he : DE M X value fe) (hs : swapsWith value (some (.Attribute o f pos')) pos.line X.env = pure false := by rfl) : DS M X (.Assign [.Attribute o f pos'] value pos) (gFld C f fo fe) := psMono (ps_fld ho he hs) fun D σ H h => by
  obtain ⟨F, O, P, ρ, R, g, en, q, po⟩ := h
  refine ⟨F, O, P, ρ, _, g, en, q, fun d O1 F1 H1 v q1 s1 g1 r1 => ?_⟩
  refine ⟨F1, O1, P, ρ, _, g1, en.mono s1, q1, fun x O2 F2 H2 w q2 s2 g2 r2 => ?_⟩
  obtain ⟨⟨a, fs, rfl, hO⟩, q2⟩ := q2
  simp only [Rep] at r2
  subst r2
  unfold rFldS at q2
  simp only [hO] at q2
  obtain ⟨_, _, dx, fv, h1, h2⟩ := g2.ow a _ hO
  refine ⟨a, C, dx, fv, rfl, h1, c, n, by rw [← h2.length]; exact q2.1, ?_⟩
  exact po.nx ρ _ F2 _ σ q2.2 (s1.trans s2) (g2.setO hO ⟨dx, _, upd_same, h2.put (r1.mono s2)⟩) (en.mono (s1.trans s2))
/-- a method as it stands -/
structure Mt (K : PySem.W.Frag) (C : Addr) (m qual : Str) (st : Stmt) (ps : List Str) (f : Addr) (fd : FuncData) : Prop where
  F : Fun K m qual st f fd
  m : Meth K C m f
  b : Binds K fd ps []
def insNo (C : Addr) (m : Str) (x : D) (O : Ow) : Prop := ∃ a fs, x = .ref a ∧ O a = some (.ins C fs) ∧ fs.lookup m = none
def fMeth (C : Addr) (m : Str) (dsp : DSp) (fo : FE) (fr : FA) : FE := fun ρ O Q => fo ρ O fun x O1 => insNo C m x O1 ∧ fr ρ O1 fun ds O2 => dsp (x :: ds) O2 Q X0
theorem de_meth {qual : Str} {st : Stmt} {pl : Sem Bool} (c : Cls X.K C) (N : Mt X.K C m qual st ps g0 fd) (G : FnOk X.prog X.w X.K X.mg X.base CX0 k g0 fd ps (liftSp X.K dsp)) (hr : Room k X.A) (ho : DE M X o fo) (ha : DA M X (e :: es) fr)
    (hst : starEach (e :: es) X.env = (false, eval e X.env) :: starEach es X.env := by rfl) (hpl : (backTo pos (starEach es X.env)).any (·.1) = false := by rfl)
    (ht : eval (.Call (.Attribute o m apos) (e :: es) [] pos) X.env = (do
      let ov ← eval o X.env
      standAt apos.atName
      let (f, first) ← holding [ov] (getMethod ov m pl)
      callWith pos f first (backTo pos (starEach (e :: es) X.env)) (backToKw pos (keywordEach [] X.env))) := by rfl) :
    DE M X (.Call (.Attribute o m apos) (e :: es) [] pos) (fMeth C m dsp fo fr) := peMono (pe_meth ho c N.m G hr N.b .nil pass0 ha hst hpl ht) fun σ H Q h => by
  obtain ⟨F, O, P, ρ, R, g, en, q, po⟩ := h
  refine ⟨F, O, P, ρ, _, g, en, q, fun x O1 F1 H1 v q1 s1 g1 r1 => ?_⟩
  obtain ⟨⟨a, fs, rfl, hO, hl⟩, q1⟩ := q1
  have rx := r1
  simp only [Rep] at r1
  subst r1
  obtain ⟨_, _, dx, fv, h1, h2⟩ := g1.ow a _ hO
  refine ⟨a, dx, fv, rfl, h1, h2.none hl, F1, O1, P, ρ, _, g1, en.mono s1, q1, fun ds O2 F2 H2 vs q2 s2 g2 r2 => ?_⟩
  show liftSp X.K dsp (V.ref a :: (vs ++ [])) H2 Q E0
  rw [List.append_nil]
  exact ⟨F2, O2, P, _, R, X0, g2.mt, .cons (rx.mono s2) r2, q2, po.mt g2 (s1.trans s2), fun _ _ _ _ _ _ z => z.elim⟩
/-- C(..) -/
def fMake (C : Addr) (dsp : DSp) (fr : FA) : FE := fun ρ O Q => fr ρ O fun ds O1 => ∀ p, O1 p = none → dsp (.ref p :: ds) (updO O1 p (.ins C [])) (fun v O2 => v = .non ∧ Q (.ref p) O2) X0
theorem mk_lift {F F1 P H1 : Hp} {O1 : Ow} {ds : List D} {vs : List V} {R : VD} {Q : VK} (s1 : Same F F1) (g1 : Gd M X.K F1 O1 P H1) (r1 : RepAll X.K F1 ds vs) (po : PostE M X.K F P R Q)
    (q1 : ∀ p, O1 p = none → dsp (.ref p :: ds) (updO O1 p (.ins C [])) (fun v O2 => v = .non ∧ R (.ref p) O2) X0) :
    ∀ x dx, H1 x = none → H1 dx = none → dx ≠ x → liftSp X.K dsp (.ref x :: (vs ++ [])) (upd (upd H1 dx (.own x)) x (.ins C dx [])) (fun v H2 => v = .non ∧ Q (.ref x) H2) E0 := by
  intro x dx hx hd ne
  have gd := g1.skip (o := .own x) hd
  have hx' : upd H1 dx (.own x) x = none := by rw [upd_ne (fun z => ne z.symm)]; exact hx
  have gx := gd.newO (o := .ins C dx []) (c := .ins C []) hx' ⟨dx, [], upd_same, .nil⟩
  rw [List.append_nil]
  refine ⟨F1, _, P, _, _, X0, gx.mt, .cons (by simp only [Rep]) r1, q1 x (g1.freeO hx), ?_, fun _ _ _ _ _ _ z => z.elim⟩
  intro d O' F' H' v q s g r
  obtain ⟨rfl, q⟩ := q
  simp only [Rep] at r
  subst r
  exact ⟨rfl, po _ O' F' H' _ q (s1.trans s) (g.re (M.mono gx.rl s (Same.refl _))) (by simp only [Rep])⟩
/-- a class that is made by its __init__ -/
structure MkN (K : PySem.W.Frag) (mg : Str → Option Value) (x : Str) (C : Addr) (f : Addr) : Prop where
  made : Mk K C f
  g : mg x = some (.ref C)
theorem de_make0 {qual : Str} {st : Stmt} (N : MkN X.K X.mg x C g0) (I : Mt X.K C "__init__" qual st ps g0 fd) (G : FnOk X.prog X.w X.K X.mg X.base CX0 k g0 fd ps (liftSp X.K dsp)) (hr : Room (k + 1) X.A) (hg : Gl X x)
    (hdb : (x == ("__debug__" : Str)) = false := by decide) : DE M X (.Call (.Name x p) [] [] pos) (fMake C dsp fNil) := peMono (pe_make0 N.made G hr hg N.g I.b .nil pass0 hdb) fun σ H Q h => by
  obtain ⟨F, O, P, ρ, R, g, en, q, po⟩ := h
  exact mk_lift (Same.refl _) g .nil po q
end
theorem ap_fFld (C : Addr) (f : Str) (fo : FE) {ρ : DEnv} {O : Ow} {Q : VD} : fFld C f fo ρ O Q = fo ρ O fun x O1 => isIns C x O1 ∧ rFld f x O1 Q := rfl
theorem ap_gFld (C : Addr) (f : Str) (fo fe : FE) {R : DEnds} {ρ : DEnv} {O : Ow} : gFld C f fo fe R ρ O = fe ρ O fun d O1 => fo ρ O1 fun x O2 => isIns C x O2 ∧ rFldS f x d O2 (R.nx ρ) := rfl
theorem ap_fMeth (C : Addr) (m : Str) (dsp : DSp) (fo : FE) (fr : FA) {ρ : DEnv} {O : Ow} {Q : VD} : fMeth C m dsp fo fr ρ O Q = fo ρ O fun x O1 => insNo C m x O1 ∧ fr ρ O1 fun ds O2 => dsp (x :: ds) O2 Q X0 := rfl
theorem ap_fMake (C : Addr) (dsp : DSp) (fr : FA) {ρ : DEnv} {O : Ow} {Q : VD} : fMake C dsp fr ρ O Q = fr ρ O fun ds O1 => ∀ p, O1 p = none → dsp (.ref p :: ds) (updO O1 p (.ins C [])) (fun v O2 => v = .non ∧ Q (.ref p) O2) X0 := rfl
section
variable {O : Ow} {a C : Addr} {fs : List (Str × D)} {f m : Str} {d : D} {Q : VD} {N : Ow → Prop}
theorem isIns_of (h : O a = some (.ins C fs)) : isIns C (.ref a) O := ⟨a, fs, rfl, h⟩
theorem insNo_of (h : O a = some (.ins C fs)) (e : fs.lookup m = none) : insNo C m (.ref a) O := ⟨a, fs, rfl, h, e⟩
theorem rFld_of (h : O a = some (.ins C fs)) (e : fs.lookup f = some d) : rFld f (.ref a) O Q = Q d O := by simp only [rFld, h, e]
theorem rFldS_of (h : O a = some (.ins C fs)) : rFldS f (.ref a) d O N = (fs.length < 1000 ∧ N (updO O a (.ins C (putFD f d fs)))) := by simp only [rFldS, h]
end
end Kf
/-! Dl26: defs as values (called, compared), a caught exception that the suite holds as a thing. -/
namespace Kf
open PySem PySem.Spec L2
open PyProof.Rows hiding St
variable {M : MX}
/-! ### functions compared -/
section
variable {prog : Program} {w : World} {A : Around} {E : Value → Shared → Prop} {s : Shared} {x y : Addr}
end
section
variable {X : Cx}
end
/-! ### a call of what an expression tells -/
section
variable {P : Program} {w : World} {K : PySem.W.Frag} {mg : Str → Option Value} {base : Heap} {CX : CXT} {k : Nat}
end
section
variable {X : Cx} {e f₀ : Expr} {es : List Expr} {fe : FE} {fr : FA} {k : Nat} {S : Addr → DSp → Prop} {pos : Pos} {RX : XW} {W : WX}
end
section
variable {X : Cx} {x n : Str} {c : Value} {i : Nat} {body suite : List Stmt} {b₀ : Stmt} {np pos pos' : Pos} {tb : WX → TS} {ts : TS} {Wo : WX}
end
/-! ### a caught exception held in the suite -/
section
variable {X : Cx} {x n : Str} {c : Value} {i : Nat} {body suite : List Stmt} {b₀ : Stmt} {np pos pos' : Pos} {gb : XW → GS} {gs : GS} {RXo : XW} {Wo : WX}
end
/-! ### a def that is called while an exception is handled -/
structure RoomC (k : Nat) (A : Around) : Prop where
  dp : A.depth + 3 * k + 5 < recursionLimit
  un : A.units + 16 * k + 200 < cLine
theorem RoomC.deeper {k : Nat} {A : Around} (r : RoomC (k + 1) A) (env : Env) : RoomC k (A.deeper env) :=
  ⟨by have := r.dp; show A.depth + 1 + 3 * k + 5 < _; omega, by have := r.un; show A.units + 3 + 16 * k + 200 < _; omega⟩
structure FnC (P : Program) (w : World) (K : PySem.W.Frag) (mg : Str → Option Value) (base : Heap) (CX : CXT) (k : Nat) (f : Addr) (fd : FuncData) (ps : List Str) (sp : Sp) : Prop where
  len : ∀ vs H Q E, sp vs H Q E → vs.length = ps.length
  run : ∀ (A : Around) (outer : List Env) (s : Shared) (H : Hp) (args : Args) (us : List Value) (vs : List V) (Q : VK) (E : XK), RoomC k A → Env0 P w K mg base A outer s H → BindsTo s fd args (ps.zip us) → Vals vs us → sp vs H Q E →
    codeAny (model P w) A (.call (.ref f) args) (CR CX outer P w H s Q E) s
section
variable {P : Program} {w : World} {K : PySem.W.Frag} {mg : Str → Option Value} {base : Heap}
end
section
variable {X : Cx} {e : Expr} {es : List Expr} {fr : FA} {k : Nat} {f : Addr} {fd : FuncData} {ps : List Str} {dsp : DSp} {x : Str} {st : Stmt} {p pos : Pos}
end
end Kf
set_option maxHeartbeats 1000000
/-! Dl27: exceptions made as values, with and without an own __init__ that keeps one field; the latter raised. -/
namespace Kf
open PySem PySem.Spec L2
open PyProof.Rows hiding St
variable {M : MX}
/-! ### without an own __init__ -/
section
variable {X : Cx} {e : Expr} {fe : FE} {x : Str} {C : Addr} {p pos : Pos}
end
/-! ### with an own __init__ -/
/-- the base class of all own exceptions: its __init__ is ValueError's -/
structure BaseX (K : PySem.W.Frag) (mg : Str → Option Value) (x : Str) (B : Addr) : Prop where
  g : mg x = some (.ref B)
  sp : PySem.W.specialIn K (.ref B) "__getattribute__" = some (some (.builtin "type.__getattribute__"))
  ty : PySem.W.typeIn K (.ref B) = some (.type "type")
  rd : PySem.W.readsIn K B (.type "type") = true
  fc : PySem.W.findCls K (.ref B) (.type "type") "__init__" = some (.val (.builtin "ValueError.__init__"))
section
variable {X : Cx} {e : Expr} {es : List Expr} {ta : TA} {x : Str} {B : Addr} {p1 p2 pos : Pos}
end
/-- an own class of exceptions whose __init__ keeps what it is given as the field f -/
structure ExI (K : PySem.W.Frag) (mg : Str → Option Value) (x f : Str) (C fI : Addr) (fd : FuncData) (qual : Str) (st : Stmt) (ps : List Str) : Prop where
  T : OexC K C
  g : mg x = some (.ref C)
  iC : PySem.W.findIn K (.ref C) "__init__" = some (some (.ref fI))
  tI : PySem.W.typeIn K (.ref fI) = some (.type "function")
  no : PySem.W.findIn K (.ref C) f = some none
  F : Fun K "__init__" qual st fI fd
  b : Binds K fd ps []
section
variable {X : Cx} {CX : CXT} {e : Expr} {es : List Expr} {ta : TA} {x f : Str} {C fI : Addr} {fd : FuncData} {qual : Str} {st : Stmt} {ps : List Str} {k : Nat} {p pos : Pos}
end
section
variable {X : Cx} {e : Expr} {es : List Expr} {fr : FA} {x f : Str} {C fI : Addr} {fd : FuncData} {qual : Str} {st : Stmt} {ps : List Str} {k : Nat} {p pos pos' : Pos} {RX : XW} {W : WX}
end
section
variable {P : Program} {w : World} {K : PySem.W.Frag} {mg : Str → Option Value} {base : Heap}
end
end Kf
/-! Dl28: sorted() of a list of things that compare. -/
namespace Kf
open PySem PySem.Spec L2
open PyProof.Rows hiding St
open PySem.W (EachIs)
variable {M : MX}
section
variable {X : Cx}
end
/-! ### the order -/
end Kf
/-! Dl29: text.replace, where a token is out. -/
namespace Kf
open PySem PySem.Spec L2
open PyProof.Rows hiding St
variable {M : MX}
section
variable {X : Cx} {e a b : Expr} {es : List Expr} {fe fa fb : FE} {fr : FA} {st : Stmt} {rest : List Stmt} {g u : GS} {pos : Pos} {ft : FT}
end
/-! ### replace -/
open PySem.Builtin.Str in
open PySem.Builtin PySem.Builtin.Str in
theorem okIff (z : Str) : PyData.strOk z = true ↔ ∀ c ∈ z.cps.toList, c < 1114112 := by
  unfold PyData.strOk
  rw [Array.all_eq_true_iff_forall_mem]
  simp
theorem okApp {a b : Str} (ha : PyData.strOk a = true) (hb : PyData.strOk b = true) : PyData.strOk (a ++ b) = true := by
  rw [okIff] at ha hb ⊢
  intro c hc
  rw [Str.cps_append, Array.toList_append] at hc
  exact (List.mem_append.mp hc).elim (ha c) (hb c)
theorem okJoin {z : Str} (hz : PyData.strOk z = true) : ∀ {xs : List Str}, (∀ x ∈ xs, PyData.strOk x = true) → PyData.strOk (Str.join z xs) = true
  | [], _ => by
    have e : Str.join z [] = (⟨#[]⟩ : Str) := rfl
    rw [e]
    decide +kernel
  | [t], h => h t List.mem_cons_self
  | t :: u :: r, h => by
    have ih := okJoin hz (xs := u :: r) fun x hx => h x (List.mem_cons_of_mem _ hx)
    have e : (Str.join z (t :: u :: r)) = t ++ z ++ Str.join z (u :: r) := rfl
    rw [e]
    exact okApp (okApp (h t List.mem_cons_self) hz) ih
section
variable {X : Cx} {o : Expr} {to : TE} {y z : Str} {i j k : Nat} {c0 c1 c2 apos pos : Pos} {fo : FE}
end
end Kf
set_option maxHeartbeats 4000000
/-! Dl30: set(xs) of a list or a tuple of texts; sorted(set(xs)). -/
namespace Kf
namespace Stx
open PySem PySem.Spec PySem.Froz L2
open PyProof.Rows hiding St
def putT (l : List Str) (k : Str) : List Str := if k ∈ l then l else k :: l
/-- at a lies a set of just the texts l, which can be walked -/
structure Has (P : Program) (w : World) (h : Heap) (a : Addr) (D : SD) (l : List Str) : Prop where
  obj : h.get? a = some (sObj "set" D)
  ok : TxOk P w D l
  ris : Ris D.2.2.place.toList
  led : w.params.followText "set-order" = true ∨ D.2.2.led = true
  nd : l.Nodup
theorem put_nodup {l : List Str} {k : Str} (h : l.Nodup) : (putT l k).Nodup := by
  unfold putT; split
  · exact h
  · rename_i c; exact List.nodup_cons.mpr ⟨c, h⟩
theorem put_len {l : List Str} {k : Str} : (putT l k).length ≤ l.length + 1 := by
  unfold putT; split <;> simp
theorem ris_tail {ep : Nat} {es : Array (Int × Value)} {t : SetTable} {b : Bool} (r : Ris t.place.toList) : Ris (tailTx ep es t b).2.2.place.toList := by
  unfold tailTx; split
  · exact relayAll_ris _ _ _
  · exact r
theorem led_tail {ep : Nat} {es : Array (Int × Value)} {t : SetTable} {b : Bool} : (tailTx ep es t b).2.2.led = t.led := by
  unfold tailTx; split
  · exact relayAll_led _ _ _
  · rfl
theorem ris_addTx {h : Int} {v : Value} {D : SD} (r : Ris D.2.2.place.toList) : Ris (addTx h v D).2.2.place.toList := by
  have r1 := layNew_ris D.2.2 D.1 h v r
  refine ris_tail ?_
  split <;> exact r1
theorem led_addTx {h : Int} {v : Value} {D : SD} : (addTx h v D).2.2.led = D.2.2.led := by
  have r1 := layNew_led D.2.2 D.1 h v
  refine led_tail.trans ?_
  split <;> exact r1
section
variable {P : Program} {w : World} {A : Around} {E : Value → Shared → Prop} {s : Shared} {a : Addr} {D : SD} {l : List Str} {k : Str} {u : Tok}
theorem Has.keep {h h' : Heap} (T : Has P w h a D l) (e : ∀ o, h.get? a = some o → h'.get? a = some o) : Has P w h' a D l := ⟨e _ T.obj, T.ok, T.ris, T.led, T.nd⟩
/-- a text that is in already -/
theorem Has.old {Q : Bool → Shared → Prop} (T : Has P w s.heap a D l) (hk : k ∈ l) (hb : l.length < scanBound) (q : Q false s) : wpAny (model P w) A (setAddHashed a (.str k u) (hashStr w k)) Q E s := by
  obtain ⟨es, ep, t⟩ := D
  have n1 : es.size < scanBound := by have := T.ok.sz; simp only at this; omega
  obtain ⟨e, he, hp⟩ := (T.ok.mem k).mp hk
  unfold setAddHashed setAddHashedIn
  apply wpAny_holding
  apply wpAny_bind
  refine wpAny_setState_of T.obj rfl T.ok.fit ?_
  simp only [byScan_of (x := Value.str k u) (knd := strKind P w) rfl n1 T.ok.el, ↓reduceIte]
  unfold setAddByScan
  apply wpAny_bind
  apply wpAny_bind
  apply wpAny_rule
  refine wpAny_bind (wpAny_setScan_of (k := k) (is_str k u) T.obj rfl T.ok.fit T.ok.el ?_)
  cases hr : List.findIdx? (fun e => (strKind P w).is k e.2) es.toList with
  | none =>
    have := List.findIdx?_eq_none_iff.mp hr e he
    rw [hp] at this; cases this
  | some j => exact wpAny_pure (wpAny_pure q)
theorem Has.add {Q : Bool → Shared → Prop} (T : Has P w s.heap a D l) (hb : l.length + 1 < scanBound)
    (q : ∀ b h' D', Heap.SameBut a s.heap h' → Has P w h' a D' (putT l k) → Q b { s with heap := h' }) : wpAny (model P w) A (setAddHashed a (.str k u) (hashStr w k)) Q E s := by
  by_cases c : k ∈ l
  · refine T.old c (by omega) ?_
    have := q false s.heap D (.refl a s.heap) (by rw [show putT l k = l from if_pos c]; exact T)
    exact this
  · refine add_x T.obj T.ok c hb (q true _ _ (.update s.heap a _) ⟨get_upd _ T.obj rfl, ?_, ris_addTx T.ris, T.led.imp id fun z => led_addTx.trans z, put_nodup T.nd⟩)
    rw [show putT l k = k :: l from if_neg c]
    exact add_ok u T.ok
/-- the loop of set.update -/
theorem Has.loop {I : Addr} {fp wr : List Addr} {G : Array GenState → Array GenState → Prop} {n : Nat} {Pv : Nat → Value → Prop} {St : Nat → Shared → Prop} {R : Result → Shared → Prop} {xs : List Str}
    (W : WalksS P w A.in1 I fp wr G n Pv St) (hf : a ∉ fp) (hn : n = xs.length) (hv : ∀ i v, Pv i v → ∃ x t, xs[i]? = some x ∧ v = .str x t) (hz : xs.length + 1 < scanBound) :
    ∀ (r : List Str) (i : Nat) (s : Shared) (D : SD) (l : List Str), xs.drop i = r → i ≤ n → St i s → Has P w s.heap a D l → l.length ≤ i →
      (∀ s' D', Moved (a :: wr) G s s' → Has P w s'.heap a D' (r.foldl putT l) → R (.ok (.ret .none)) s') → codeAny (model P w) A (.builtin "set.update.loop" ⟨[.ref a, .ref I], []⟩) R s
  | [], i, s, D, l, hd, hi, hst, T, hl, hR => by
    have e : i = n := by
      have := congrArg List.length hd
      rw [List.length_drop, List.length_nil] at this
      omega
    subst e
    apply codeAny_builtin F.entry_set_update_loop
    rw [Around.under_plainId F.plain_set_update_loop]
    apply wpAny_bind (m := pyNext (.ref I))
    refine W.done s _ _ hst fun s' m => wpAny_pure (hR s' D ⟨fun b o hb e => m.heap b o (fun z => hb (List.mem_cons_of_mem _ z)) e, m.gens, m.drawn, m.os, m.toks⟩ (T.keep fun o e => m.heap a o (fun z => hf (W.sub _ z)) e))
  | x :: r, i, s, D, l, hd, hi, hst, T, hl, hR => by
    have hx : xs[i]? = some x := by rw [← List.head?_drop, hd]; rfl
    have hin : i < n := by rw [hn]; exact (List.getElem?_eq_some_iff.mp hx).1
    have hd' : xs.drop (i + 1) = r := by rw [← List.drop_drop, hd]; rfl
    apply codeAny_builtin F.entry_set_update_loop
    rw [Around.under_plainId F.plain_set_update_loop]
    apply wpAny_bind (m := pyNext (.ref I))
    refine W.item i s _ _ hin hst fun v s' p hst' m => ?_
    obtain ⟨y, t, hy, rfl⟩ := hv i v p
    obtain rfl : x = y := Option.some.inj (hx.symm.trans hy)
    have T' := T.keep fun o e => m.heap a o (fun z => hf (W.sub _ z)) e
    apply wpAny_bind (m := holding [Value.str x t] (setAdd a (.str x t)))
    apply wpAny_holding
    unfold setAdd
    apply wpAny_holding
    apply wpAny_bind
    apply (strKind P w).pyHash (is_str x t)
    refine Has.add (s := { s' with toks := s'.toks + 1 }) T' (by omega) fun b h' D' sb T2 => wpAny_pure ⟨plainId_quiet F.plain_set_update_loop _, ?_⟩
    refine Has.loop W hf hn hv hz r (i + 1) _ D' (putT l x) hd' hin (W.frame _ s' _ _ hst' (Nat.le_succ _) fun b hb o e => ?_) T2 (Nat.le_trans put_len (by omega)) fun s2 D2 m2 T3 => ?_
    · rw [sb.2 b fun z => hf (z ▸ hb)]; exact e
    · refine hR s2 D2 ⟨fun b o hb e => m2.heap b o hb ?_, W.gtrans _ _ _ m.gens m2.gens, m2.drawn.trans m.drawn, m2.os.trans m.os, Nat.le_trans m.toks (Nat.le_trans (Nat.le_succ _) m2.toks)⟩ T3
      show h'.get? b = some o
      rw [sb.2 b fun z => hb (z ▸ List.mem_cons_self)]
      exact m.heap b o (fun z => hb (List.mem_cons_of_mem _ z)) e
end
end Stx
end Kf
set_option maxHeartbeats 4000000
/-! Dl31: the call set(xs); sorted(set(xs)). -/
namespace Kf
namespace Stx
open PySem PySem.Spec PySem.Froz L2
open PyProof.Rows hiding St
section
variable {P : Program} {w : World} {A : Around} {E : Value → Shared → Prop} {s : Shared}
/-- the new set, as it is laid -/
abbrev fresh (w : World) : Obj := { cls := .type "set", dict := none, data := .set #[] 0 (.fresh 0 0 (!w.params.followText "set-order")) }
theorem new_size {h : Heap} {o : Obj} : (h.push o).objs.size = h.objs.size + 1 := Heap.size_push ..
end
end Stx
end Kf
set_option maxHeartbeats 4000000
/-! Dl32: sorted(set(xs)). -/
namespace Kf
namespace Stx
open PySem PySem.Spec PySem.Froz L2
open PyProof.Rows hiding St
def txOf (v : Value) : Str := match v with
  | .str x _ => x
  | _ => ⟨#[]⟩
theorem perm_of_sub : ∀ {l m : List Str}, l.Nodup → (∀ x ∈ l, x ∈ m) → m.length ≤ l.length → m.Perm l
  | [], m, _, _, h => by
    have : m = [] := List.eq_nil_of_length_eq_zero (Nat.le_zero.mp h)
    rw [this]
  | x :: l, m, hn, hs, h => by
    obtain ⟨h1, h2⟩ := List.nodup_cons.mp hn
    have hx := hs x List.mem_cons_self
    have p := List.perm_cons_erase hx
    refine p.trans (.cons x (perm_of_sub h2 (fun y hy => ?_) ?_))
    · have := p.mem_iff.mp (hs y (List.mem_cons_of_mem _ hy))
      rcases List.mem_cons.mp this with rfl | z
      · exact absurd hy h1
      · exact z
    · have := p.length_eq
      rw [List.length_cons] at this h
      omega
theorem strs_tx : ∀ (vs : List Value), (∀ v ∈ vs, ∃ x t, v = Value.str x t) → StrsAre vs (vs.map txOf)
  | [], _ => .nil
  | v :: vs, h => by
    obtain ⟨x, t, rfl⟩ := h v List.mem_cons_self
    exact .cons x t (strs_tx vs fun u hu => h u (List.mem_cons_of_mem _ hu))
section
variable {P : Program} {w : World} {A : Around} {E : Value → Shared → Prop} {s : Shared} {a : Addr} {D : SD} {l : List Str}
theorem el_str {es : List (Int × Value)} (h : ElemsOf (strKind P w) es) : ∀ v ∈ es.map (·.2), ∃ x t, v = Value.str x t := fun v hv => by
  obtain ⟨e, he, rfl⟩ := List.mem_map.mp hv
  obtain ⟨⟨k, hk, _⟩, _⟩ := h e he
  obtain ⟨t, ht⟩ := Value.isStrOf_shape hk
  exact ⟨k, t, ht⟩
theorem Has.keys (T : Has P w s.heap a D l) : ((D.1.toList.map (·.2)).map txOf).Perm l := by
  refine perm_of_sub T.nd (fun x hx => ?_) ?_
  · obtain ⟨e, he, hp⟩ := (T.ok.mem x).mp hx
    obtain ⟨t, ht⟩ := Value.isStrOf_shape hp
    exact List.mem_map.mpr ⟨e.2, List.mem_map.mpr ⟨e, he, rfl⟩, by rw [ht]; rfl⟩
  · rw [List.length_map, List.length_map, Array.length_toList, T.ok.sz]; exact Nat.le_refl _
/-- sorted(found) -/
theorem Has.sorted {Q : Value → Shared → Prop} (T : Has P w s.heap a D l) (hh : A.handled = none) (hz : l.length < scanBound) (hq : l.length ≤ sizeLine)
    (q : ∀ s' p (out : Array Value) (c : Nat) (ys : List Str), (∀ b o, s.heap.get? b = some o → s'.heap.get? b = some o) → s'.gens = s.gens → s'.os = s.os → s.heap.objs.size ≤ p →
      s'.heap.get? p = some (seqObj "list" out c) → StrsAre out.toList ys → ys.Perm l → sortedS ys = true → Q (.ref p) s') :
    wpAny (model P w) A (call (.builtin "sorted") [.ref a]) Q E s := by
  obtain ⟨es, ep, t⟩ := D
  have e1 : es.size = l.length := T.ok.sz
  apply Calls.call_function_entry kind_sorted plain_sorted entry_sorted (args_sorted1 _)
  unfold Builtin.«sorted»
  apply wpAny_bind (m := checkCount "sorted" 1 1 _)
  apply wpAny_pure
  apply wpAny_bind
  refine collect_set (A := A.in1) hh ⟨_, T.obj, rfl, rfl⟩ T.ok.fit (by rw [e1]; exact hz) T.ris T.led fun s1 vs k1 k2 k3 k4 pm => ?_
  have hS : StrsAre vs (vs.map txOf) := strs_tx vs fun v hv => el_str T.ok.el v (pm.mem_iff.mp hv)
  have hp : (vs.map txOf).Perm l := (pm.map txOf).trans T.keys
  have hl : vs.length ≤ sizeLine := by have := hp.length_eq; rw [List.length_map] at this; omega
  apply wpAny_bind
  refine wpAny_newList ?_ hl
  have ho : (s1.heap.push (seqObj "list" vs.toArray 0)).get? s1.heap.objs.size = some (seqObj "list" vs.toArray 0) := Heap.get?_push_size _ rfl
  apply wpAny_bind
  apply wpAny_holding
  refine wpAny_call_entry slot_list_sort ⟨_, ho, rfl⟩ entry_list_sort (list_sort_treeKAny strKind_oneLt ho hS.keysOf (fun v₁ v₂ rest e => keyKind_strs (by rw [← e]; exact hS)) hl fun st' p1 p2 => ⟨_, rfl, ?_⟩) (args_list_sort _)
  obtain ⟨ys, y1, y2, y3⟩ := sorted_out_str hS p1 p2
  obtain ⟨c, hc⟩ := sortedHeap_at (vs := vs) (out := (arrOf st').map (·.2)) ho
  refine wpAny_pure ⟨_, rfl, q _ s1.heap.objs.size _ c ys (fun b u e => ?_) k3 k4 k2 hc y1 (y2.trans hp) y3⟩
  have z1 := k1 b u e
  have z2 := Heap.lt_size z1
  show (sortedHeap (s1.heap.push (seqObj "list" vs.toArray 0)) s1.heap.objs.size vs ((arrOf st').map (·.2))).get? b = some u
  rw [sortedHeap_old (Nat.ne_of_lt z2) (by rw [new_size]; exact Nat.lt_succ_of_lt z2)]
  exact Heap.get?_push_of_some _ z1
end
section
variable {X : Cx} {a : Expr} {te : TE} {p p2 q pos : Pos}
end
end Stx
end Kf
namespace Kf
open PySem PySem.Spec L2
open PyProof.Rows hiding St
/-! ### comprehensions over a list of things -/
section
variable {p : Pat} {ft : FT} {fe : FE} {ρ : DEnv} {O : Ow} {α β : Type}
theorem lcA_map (f g : α → D) : ∀ (xs : List α) (acc : List D) (Q : List D → Ow → Prop), acc.length + xs.length ≤ sizeLine →
    (∀ x ∈ xs, ∀ Q' : VD, Q' (g x) O → patGet (patD p (f x) ρ) fun ρ1 => fe ρ1 O Q') → Q (acc ++ xs.map g) O → lcD p fYes fe ρ (xs.map f) acc O Q
  | [], acc, Q, _, _, q => by simpa [lcD] using q
  | x :: xs, acc, Q, hl, hs, q => by
    rw [List.length_cons] at hl
    have z := hs x List.mem_cons_self (fun e O2 => acc.length < sizeLine ∧ lcD p fYes fe ρ (xs.map f) (acc ++ [e]) O2 Q) ⟨by omega, lcA_map f g xs _ Q (by rw [List.length_append, List.length_singleton]; omega) (fun d' hd => hs d' (List.mem_cons_of_mem _ hd)) (by simpa using q)⟩
    rw [List.map_cons]
    unfold lcD
    simpa [fYes] using z
theorem lcA_filter (b : α → Bool) (f g : α → D) : ∀ (xs : List α) (acc : List D) (Q : List D → Ow → Prop), acc.length + xs.length ≤ sizeLine →
    (∀ x ∈ xs, ∀ (Q1 : VD) (Q2 : Ow → Prop), (b x = true → Q1 (g x) O) → (b x = false → Q2 O) → patGet (patD p (f x) ρ) fun ρ1 => ft ρ1 O fun k O1 => if k = true then fe ρ1 O1 Q1 else Q2 O1) → Q (acc ++ (xs.filter b).map g) O → lcD p ft fe ρ (xs.map f) acc O Q
  | [], acc, Q, _, _, q => by simpa [lcD] using q
  | x :: xs, acc, Q, hl, hs, q => by
    rw [List.length_cons] at hl
    have z := hs x List.mem_cons_self (fun e O2 => acc.length < sizeLine ∧ lcD p ft fe ρ (xs.map f) (acc ++ [e]) O2 Q) (fun O2 => lcD p ft fe ρ (xs.map f) acc O2 Q)
      (fun hb => ⟨by omega, lcA_filter b f g xs _ Q (by rw [List.length_append, List.length_singleton]; omega) (fun d' hd => hs d' (List.mem_cons_of_mem _ hd)) (by simpa [List.filter_cons, hb] using q)⟩)
      (fun hb => lcA_filter b f g xs _ Q (by omega) (fun d' hd => hs d' (List.mem_cons_of_mem _ hd)) (by simpa [List.filter_cons, hb] using q))
    rw [List.map_cons]
    unfold lcD
    exact z
/-- .. that keeps some of them, those that it must at least -/
theorem lcA_sub (must : α → Prop) (f g : α → D) : ∀ (xs : List α) (acc : List D) (Q : List D → Ow → Prop), acc.length + xs.length ≤ sizeLine →
    (∀ x ∈ xs, ∀ (Q1 : VD) (Q2 : Ow → Prop), Q1 (g x) O → (¬ must x → Q2 O) → patGet (patD p (f x) ρ) fun ρ1 => ft ρ1 O fun k O1 => if k = true then fe ρ1 O1 Q1 else Q2 O1) →
    (∀ ys : List α, ys.Sublist xs → (∀ x ∈ xs, must x → x ∈ ys) → Q (acc ++ ys.map g) O) → lcD p ft fe ρ (xs.map f) acc O Q
  | [], acc, Q, _, _, q => by have := q [] (List.Sublist.refl _) (fun x h => nomatch h); simpa [lcD] using this
  | x :: xs, acc, Q, hl, hs, q => by
    rw [List.length_cons] at hl
    have z := hs x List.mem_cons_self (fun e O2 => acc.length < sizeLine ∧ lcD p ft fe ρ (xs.map f) (acc ++ [e]) O2 Q) (fun O2 => lcD p ft fe ρ (xs.map f) acc O2 Q)
      ⟨by omega, lcA_sub must f g xs _ Q (by rw [List.length_append, List.length_singleton]; omega) (fun d' hd => hs d' (List.mem_cons_of_mem _ hd)) fun ys h1 h2 => by
        have := q (x :: ys) (h1.cons₂ x) fun u hu hm => by
          rcases List.mem_cons.mp hu with rfl | hu
          · exact List.mem_cons_self
          · exact List.mem_cons_of_mem _ (h2 u hu hm)
        simpa using this⟩
      (fun hb => lcA_sub must f g xs _ Q (by omega) (fun d' hd => hs d' (List.mem_cons_of_mem _ hd)) fun ys h1 h2 => q ys (h1.cons x) fun u hu hm => by
          rcases List.mem_cons.mp hu with rfl | hu
          · exact absurd hm hb
          · exact h2 u hu hm)
    rw [List.map_cons]
    unfold lcD
    exact z
/-- .. each item one of many, the things of some kind -/
theorem lcA_all (G : β → Prop) (f : α → D) (g : β → D) : ∀ (xs : List α) (acc : List D) (Q : List D → Ow → Prop), acc.length + xs.length ≤ sizeLine →
    (∀ x ∈ xs, ∀ Q' : VD, (∀ y, G y → Q' (g y) O) → patGet (patD p (f x) ρ) fun ρ1 => fe ρ1 O Q') → (∀ ys : List β, ys.length = xs.length → (∀ y ∈ ys, G y) → Q (acc ++ ys.map g) O) → lcD p fYes fe ρ (xs.map f) acc O Q
  | [], acc, Q, _, _, q => by have := q [] rfl (fun x h => nomatch h); simpa [lcD] using this
  | x :: xs, acc, Q, hl, hs, q => by
    rw [List.length_cons] at hl
    have z := hs x List.mem_cons_self (fun e O2 => acc.length < sizeLine ∧ lcD p fYes fe ρ (xs.map f) (acc ++ [e]) O2 Q) fun y hy => ⟨by omega, lcA_all G f g xs _ Q (by rw [List.length_append, List.length_singleton]; omega) (fun d' hd => hs d' (List.mem_cons_of_mem _ hd)) fun ys h1 h2 => by
      have := q (y :: ys) (by rw [List.length_cons, List.length_cons, h1]) fun u hu => by
        rcases List.mem_cons.mp hu with rfl | hu
        · exact hy
        · exact h2 u hu
      simpa using this⟩
    rw [List.map_cons]
    unfold lcD
    simpa [fYes] using z
end
/-- range as a map -/
theorem rangeD_map (lo : Int) (n : Nat) : rangeD lo n = (List.range n).map fun i => D.int (lo + (i : Nat)) := rfl
/-- a walk over a map, by places -/
theorem forA_ix {p : Pat} {gb : GS} {R : DEnds} {α : Type} (f : α → D) (I : List α → List α → DEnv → Ow → Prop) : ∀ (xs pre : List α) (ρ : DEnv) (O : Ow), I pre xs ρ O → (∀ ρ O, I (pre ++ xs) [] ρ O → R.nx ρ O) →
    (∀ pre' x rest, pre ++ xs = pre' ++ x :: rest → ∀ ρ O, I pre' (x :: rest) ρ O → ∀ N : DEnv → Ow → Prop, (∀ ρ O, I (pre' ++ [x]) rest ρ O → N ρ O) → patGet (patD p (f x) ρ) fun ρ1 => gb { R with nx := N, ct := N, bk := R.nx } ρ1 O) → forD p gb R (xs.map f) ρ O
  | [], pre, ρ, O, h, hd, _ => hd ρ O (by rw [List.append_nil]; exact h)
  | x :: xs, pre, ρ, O, h, hd, hs => by
    have q := hs pre x xs rfl ρ O h (forD p gb R (xs.map f)) fun ρ' O' h' => by
      refine forA_ix f I xs (pre ++ [x]) ρ' O' h' (fun ρ O z => hd ρ O ?_) fun pre' y rest e => hs pre' y rest ?_
      · simpa using z
      · rw [← e]; simp
    rw [List.map_cons]
    unfold forD
    exact q
end Kf
namespace Kf
open PySem PySem.Spec L2
open PyProof.Rows hiding St
section
variable {P : Program} {w : World} {K : PySem.W.Frag} {mg : Str → Option Value} {base : Heap} {CX : CXT} {f : Addr} {fd : FuncData} {ps : List Str} {k k' : Nat}
theorem fnUp {sp : Sp} (h : FnOk P w K mg base CX k f fd ps sp) (hk : k ≤ k') : FnOk P w K mg base CX k' f fd ps sp :=
  ⟨h.1, fun A outer s H args us vs Q E a b c d e => h.2 A outer s H args us vs Q E (a.mono hk) b c d e⟩
end
end Kf
namespace Kf
open PySem PySem.Spec L2
open PyProof.Rows hiding St
theorem gSeq_step {g u : GS} {R : DEnds} {ρ : DEnv} {O : Ow} (h : g { R with nx := u R } ρ O) : gSeq g u R ρ O := h
theorem rIx_any {xs : List D} {i : Int} {O : Ow} {Q : VD} (h0 : 0 ≤ i) (h1 : i < xs.length) (h : ∀ v ∈ xs, Q v O) : rIxD (.lst xs) (.int i) O Q := by
  obtain ⟨v, e1, e2⟩ := atI_some h0 h1
  rw [rIx_l e1]
  exact h v e2
end Kf
namespace Kf
open PySem PySem.Spec L2
open PyProof.Rows hiding St
local macro_rules | `(tactic| walk_at "kf") => `(tactic| simp (config := { failIfUnchanged := false }) only [startD, gSeq, gIf, gRet, gNext, gSet, gAsg, gDrop, gRetF, gRetN, gFor, gSetIx, gBreak, fTest, fOp, fVar, envGet_s, patGet_s, fC, fCB, fCons, fNil, fCall, fAnd, fOr, fNot, fAndV, fOrV, fNotV, fIf, fTup, fLst, fLstO, fChain, fUn, fBM, fBM0, fPool, rPool_i, fSl, fPart, fNoPart, asI_i, rSl_l, fiRng1, fiRng2, fiList, fiTup, fiStr, fiEnum, fiZip, fiRev, asL_l, asT_t, asSg_s, asR1_i, asR2_i, asL1_l, asL2_l, fLc, fLcO, fYes, wipeD, lcD, isi_i_int, isi_i_bool, isi_i_str, isi_i_tuple, isi_i_list, isi_i_dict, isi_b_int, isi_b_bool, isi_b_str, isi_b_tuple, isi_b_list, isi_b_dict, isi_s_int, isi_s_bool, isi_s_str, isi_s_tuple, isi_s_list, isi_s_dict, isi_t_int, isi_t_bool, isi_t_str, isi_t_tuple, isi_t_list, isi_t_dict, isi_l_int, isi_l_bool, isi_l_str, isi_l_tuple, isi_l_list, isi_l_dict, isi_n_int, isi_n_bool, isi_n_str, isi_n_tuple, isi_n_list, isi_n_dict, isi_d_int, isi_d_bool, isi_d_str, isi_d_tuple, isi_d_list, isi_d_dict,
  deref_tup, deref_lst, deref_int, deref_str, deref_bl, deref_non, deref_scr, rLt_i, rLt_s, rLe_i, rLe_s, rInts_i, rInts0_i, rAdd_i, rAdd_s, rAdd_l, rAdd_t, rCatO_l, rNeg_i, rLen_t, rLen_l, rLen_c, rLen_s, rMax_i, rMin_i, rInt_i, rInt_b, rDivmod_i, gAug, rStr_i, rList_l, rList_t, rListO_l, rListO_t, rTup_l, rTup_t,
  rIx_t0, rIx_t1, rIx_t2, rIx_t3, rIx_l0, rIx_l1, rIx_l2, rIsN_x, isNon_t, isNon_n, isNon_i, isNon_s, isNon_l, rEq_i, rEq_b, rEq_i2, rEq_b2, rJoin_m, rSplit_s, tyOk_l, tyOk_s, patD_nm, patD_tp, patDs_nil, patDs_cons, Option.bind_some, notX, notX',
  List.map_cons, List.map_nil, List.length_cons, List.length_nil, List.cons_append, List.nil_append, List.append_nil, List.replicate, List.getElem?_cons_zero, List.getElem?_cons_succ, List.set_cons_zero, List.set_cons_succ, updO_same, updO_updO,
  Nat.reduceSub, Nat.reduceAdd, Nat.reduceLeDiff, Nat.zero_add, Int.cast_ofNat_Int, Int.natCast_zero, Int.natCast_one, Int.reduceLT, Int.reduceLE, Int.reduceEq, Int.reduceAdd, Int.reduceSub, Int.reduceNeg, decide_true, decide_false, if_true, if_false, Bool.false_eq_true, eq_self, reduceIte, Bool.true_eq_false, decide_eq_true_eq, Bool.not_true, Bool.not_false, Bool.not_eq_true', decide_eq_false_iff_not, exists_eq_left', exists_eq_left, D.bl.injEq, true_and, and_true])
/-! ### how many kinds: the list of counts, grown by one -/
def nxt (xs : List Int) : Int := 2 * ((List.range (xs.length - 1)).map fun i => xs.getD (i + 1) 0 * xs.getD (xs.length - (i + 1)) 0).sum
def cl (m : Int) : Nat → List Int
  | 0 => [0, m + 1]
  | k + 1 => cl m k ++ [nxt (cl m k)]
/-- marks are one to four -/
def Small (m : Int) : Prop := m = 1 ∨ m = 2 ∨ m = 3 ∨ m = 4
theorem atI_ints {xs : List Int} {i : Nat} (h : i < xs.length) : atI (xs.map D.int) (i : Int) = some (.int (xs.getD i 0)) := by
  refine atI_nat ?_
  rw [List.getElem?_map, List.getD_eq_getElem?_getD, List.getElem?_eq_getElem h]; rfl
/-- a text of small letters, by their places -/
def txt (ps : List Int) : Str := ⟨(ps.map fun n => 97 + n.toNat).toArray⟩
def sgn (n : Int) : Str := ⟨#[97 + n.toNat]⟩
def Lets (ps : List Int) : Prop := ∀ n ∈ ps, 0 ≤ n ∧ n < 26
def IsMk (t : Str) : Prop := ∃ ps, t = txt ps ∧ 1 ≤ ps.length ∧ ps.length ≤ 6 ∧ Lets ps
/-- marks that are drawn: one to four unlike ones -/
def MarkL (ts : List Str) : Prop := 1 ≤ ts.length ∧ ts.length ≤ 4 ∧ ts.Nodup ∧ ∀ t ∈ ts, IsMk t
theorem IsMk.ok {t : Str} (h : IsMk t) : PyData.strOk t = true := by
  obtain ⟨ps, rfl, _, _, h⟩ := h
  unfold PyData.strOk txt
  simp only [List.all_toArray, List.all_eq_true, List.mem_map, decide_eq_true_eq]
  rintro c ⟨n, hn, rfl⟩
  have := h n hn
  omega
theorem str_ext {a b : Str} (h : a.cps.toList = b.cps.toList) : a = b := by
  cases a; cases b
  simp only [Str.mk.injEq]
  exact Array.toList_inj.mp h
theorem join0 : ∀ ts : List Str, (Str.join "" ts).cps.toList = (ts.map (·.cps.toList)).flatten
  | [] => by decide +kernel
  | [t] => by simp [Str.join]
  | t :: u :: r => by
    have ih := join0 (u :: r)
    have e : (Str.join "" (t :: u :: r)) = t ++ "" ++ Str.join "" (u :: r) := rfl
    rw [e, List.map_cons, List.flatten_cons, ← ih]
    show (Array.append (Array.append t.cps (Str.ofString "").cps) (Str.join "" (u :: r)).cps).toList = _
    have e0 : (Str.ofString "").cps = #[] := by decide +kernel
    simp [e0]
theorem join_sgn (ps : List Int) : Str.join "" (ps.map sgn) = txt ps := by
  refine str_ext ?_
  rw [join0]
  induction ps with
  | nil => rfl
  | cons p r ih =>
    simp only [List.map_cons, List.flatten_cons] at ih ⊢
    rw [ih]; rfl
theorem txt_inj {ps qs : List Int} (hp : Lets ps) (hq : Lets qs) (h : txt ps = txt qs) : ps = qs := by
  have e : ps.map (fun n => 97 + n.toNat) = qs.map (fun n => 97 + n.toNat) := by
    have := congrArg (fun t : Str => t.cps.toList) h
    simpa [txt] using this
  clear h
  induction ps generalizing qs with
  | nil => cases qs with
    | nil => rfl
    | cons => simp at e
  | cons a r ih => cases qs with
    | nil => simp at e
    | cons b t =>
      simp only [List.map_cons, List.cons.injEq] at e
      have h1 := hp a List.mem_cons_self
      have h2 := hq b List.mem_cons_self
      rw [ih (fun n hn => hp n (List.mem_cons_of_mem _ hn)) (fun n hn => hq n (List.mem_cons_of_mem _ hn)) e.2, show a = b by omega]
abbrev abc : Str := "abcdefghijklmnopqrstuvwxyz"
theorem abc_l : abc.cps.toList = (List.range 26).map fun n => 97 + n := by decide +kernel
theorem abc_len : abc.length = 26 := by decide +kernel
theorem abc_at {n : Int} (h0 : 0 ≤ n) (h1 : n < 26) : atI abc.cps.toList n = some (97 + n.toNat) := by
  have e : n = ((n.toNat : Nat) : Int) := by omega
  have q : atI abc.cps.toList ((n.toNat : Nat) : Int) = some (97 + n.toNat) := by
    refine atI_nat ?_
    rw [abc_l, List.getElem?_map, List.getElem?_range (by omega)]; rfl
  rw [← e] at q
  exact q
def spMarks : DSp := fun ds O R _ => ∃ p : Addr, ds = [.ref p] ∧ O p = some .pool ∧ ∀ ts, MarkL ts → R (.lst (ts.map .str)) O
theorem isPys_strs {us : List Str} (h : ∀ t ∈ us, PyData.strOk t = true) : isPys (us.map D.str) = true := by
  rw [isPys_all, List.all_eq_true]
  intro d hd
  obtain ⟨t, ht, rfl⟩ := List.mem_map.mp hd
  simp only [isPy]; exact h t ht
/-! ### the catalogue: all kinds of so many leaves, in order -/
def prs (xs ys : List Kd) : List Kd := (xs.flatMap fun a => ys.map (Kd.to a)) ++ (xs.flatMap fun a => ys.map (Kd.both a))
def nxK (ls : List (List Kd)) : List Kd := (List.range (ls.length - 1)).flatMap fun i => prs (ls.getD (i + 1) []) (ls.getD (ls.length - (i + 1)) [])
def al (ms : List Str) : Nat → List (List Kd)
  | 0 => [[], ms.map .mk ++ [.one]]
  | k + 1 => al ms k ++ [nxK (al ms k)]
def A (ms : List Str) (n : Nat) : List Kd := (al ms 9).getD n []
def pre {α : Type} (f : Nat → List α) (i : Nat) : Nat := ((List.range i).map fun t => (f t).length).sum
abbrev blkF (ms : List Str) (n : Nat) : Nat → List Kd := fun i => prs (A ms (i + 1)) (A ms (n - (i + 1)))
/-! the number of a kind -/
def Kd.over (ms : List Str) : Kd → Prop
  | .mk m => m ∈ ms
  | .one => True
  | .to a b => a.over ms ∧ b.over ms
  | .both a b => a.over ms ∧ b.over ms
def place (ms : List Str) : Kd → Nat
  | .mk m => ms.idxOf m
  | .one => ms.length
  | .to a b => pre (blkF ms (a.leaves + b.leaves)) (a.leaves - 1) + place ms a * (A ms b.leaves).length + place ms b
  | .both a b => pre (blkF ms (a.leaves + b.leaves)) (a.leaves - 1) + (A ms a.leaves).length * (A ms b.leaves).length + place ms a * (A ms b.leaves).length + place ms b
theorem leaves_pos : ∀ k : Kd, 1 ≤ k.leaves
  | .mk _ => by simp [Kd.leaves]
  | .one => by simp [Kd.leaves]
  | .to a b => by have := leaves_pos a; simp only [Kd.leaves]; omega
  | .both a b => by have := leaves_pos a; simp only [Kd.leaves]; omega
/-! ### what the catalogue's defs are asked and answer -/
theorem Small.mem {m : Int} (h : Small m) : m ∈ [(1 : Int), 2, 3, 4] := by rcases h with rfl | rfl | rfl | rfl <;> simp
def spLeaves (n : Nat) : DSp := fun ds O R _ => ∃ k : Kd, ds = [dK k] ∧ k.depth < n ∧ R (.int k.leaves) O
theorem over_ok {ms : List Str} (h : ∀ t ∈ ms, PyData.strOk t = true) : ∀ k : Kd, k.over ms → k.ok = true
  | .mk m, ho => h m ho
  | .one, _ => rfl
  | .to a b, ho => by simp [Kd.ok, over_ok h a ho.1, over_ok h b ho.2]
  | .both a b, ho => by simp [Kd.ok, over_ok h a ho.1, over_ok h b ho.2]
theorem dK_any {ls : List Kd} {k : Kd} : (ls.map dK).any (fun z => PyData.eqv (toPy z) (toPy (dK k))) = decide (k ∈ ls) := by
  induction ls with
  | nil => simp
  | cons a ls ih =>
    rw [List.map_cons, List.any_cons, ih]
    have e : PyData.eqv (toPy (dK a)) (toPy (dK k)) = decide (a = k) := deq_K a k
    rw [e]
    by_cases h : a = k
    · subst h; simp
    · simp [h, Ne.symm h, eq_comm]
theorem isPys_K {ls : List Kd} (h : ∀ k ∈ ls, k.ok = true) : isPys (ls.map dK) = true := by
  rw [isPys_all, List.all_eq_true]
  intro d hd
  obtain ⟨k, hk, rfl⟩ := List.mem_map.mp hd
  rw [isPy_dK]; exact h k hk
theorem rIn_K {neg : Bool} {ls : List Kd} {k : Kd} {O : Ow} {Q : VD} (h : k.ok = true) (hl : ∀ u ∈ ls, u.ok = true) (hd : k.depth < 190) : rInD neg (dK k) (.lst (ls.map dK)) O Q = Q (.bl (neg ^^ decide (k ∈ ls))) O := by
  simp only [rInD, deref_lst, deref_dK, isPy_dK, h, isPys_K hl, dK_any, true_and, dp_dK]
  rw [eq_iff_iff]
  exact ⟨fun h => h.2, fun h => ⟨by omega, h⟩⟩
/-! ### the words of kinds -/
theorem sd_tm : decide (Str.ofString "to" = Str.ofString "mark") = false := by decide +kernel
theorem sd_bm : decide (Str.ofString "both" = Str.ofString "mark") = false := by decide +kernel
theorem any_strs (z : Str) : ∀ ts : List Str, (ts.map D.str).any (fun d => deq d (.str z)) = decide (z ∈ ts)
  | [] => by simp
  | t :: ts => by
    rw [List.map_cons, List.any_cons, any_strs z ts, deq_s]
    by_cases h : t = z
    · subst h; simp
    · have h' : ¬ z = t := fun q => h q.symm
      simp [h, h']
theorem rIn_strs {z : Str} {ts : List Str} {O : Ow} {Q : VD} {neg : Bool} (hz : PyData.strOk z = true) (h : ∀ t ∈ ts, PyData.strOk t = true) : rInD neg (.str z) (.lst (ts.map .str)) O Q = Q (.bl (neg ^^ decide (z ∈ ts))) O := by
  have e := any_strs z ts
  simp only [deq] at e
  simp only [rInD, deref, isPy, hz, isPys_strs h, dpS, true_and, e, Nat.zero_le]
def Kd.marks : Kd → List Str
  | .mk m => [m]
  | .one => []
  | .to a b => a.marks ++ b.marks
  | .both a b => a.marks ++ b.marks
theorem over_iff {ms : List Str} : ∀ k : Kd, k.over ms ↔ ∀ m ∈ k.marks, m ∈ ms
  | .mk m => by simp [Kd.over, Kd.marks]
  | .one => by simp [Kd.over, Kd.marks]
  | .to a b => by
    simp only [Kd.over, Kd.marks, over_iff a, over_iff b, List.mem_append]
    exact ⟨fun ⟨h1, h2⟩ m hm => hm.elim (h1 m) (h2 m), fun h => ⟨fun m hm => h m (.inl hm), fun m hm => h m (.inr hm)⟩⟩
  | .both a b => by
    simp only [Kd.over, Kd.marks, over_iff a, over_iff b, List.mem_append]
    exact ⟨fun ⟨h1, h2⟩ m hm => hm.elim (h1 m) (h2 m), fun h => ⟨fun m hm => h m (.inl hm), fun m hm => h m (.inr hm)⟩⟩
end Kf
namespace Kf
open PySem PySem.Spec L2
open PyProof.Rows hiding St
/-! ### trees of worlds -/
inductive Tr where
  | nd (ms : List Str) (ts : List Tr)
mutual
def dT : Tr → D
  | .nd ms ts => .tup [.lst (ms.map .str), .lst (dTs ts)]
def dTs : List Tr → List D
  | [] => []
  | t :: ts => dT t :: dTs ts
end
theorem dTs_map : ∀ ts : List Tr, dTs ts = ts.map dT
  | [] => rfl
  | t :: ts => by rw [dTs, dTs_map ts, List.map_cons]
def Tr.ms : Tr → List Str
  | .nd ms _ => ms
mutual
def subs : Tr → List Tr
  | .nd ms ts => .nd ms ts :: subss ts
def subss : List Tr → List Tr
  | [] => []
  | t :: ts => subs t ++ subss ts
end
mutual
def Tr.dep : Tr → Nat
  | .nd _ ts => deps ts + 1
def deps : List Tr → Nat
  | [] => 0
  | t :: ts => max t.dep (deps ts)
end
theorem dep_le {t : Tr} : ∀ {ts : List Tr}, t ∈ ts → t.dep ≤ deps ts
  | u :: us, h => by
    rw [deps]
    rcases List.mem_cons.mp h with rfl | h
    · omega
    · have := dep_le h; omega
/-! what put_worlds writes: marks, and the place behind the last one above -/
mutual
def ws : Tr → Nat → List (List Str × Nat)
  | .nd ms ts, n => (ms, n + (subs (.nd ms ts)).length) :: wss ts (n + 1)
def wss : List Tr → Nat → List (List Str × Nat)
  | [], _ => []
  | t :: ts, n => ws t n ++ wss ts (n + (subs t).length)
end
mutual
theorem ws_len : ∀ (t : Tr) (n : Nat), (ws t n).length = (subs t).length
  | .nd ms ts, n => by rw [ws, subs, List.length_cons, List.length_cons, wss_len]
theorem wss_len : ∀ (ts : List Tr) (n : Nat), (wss ts n).length = (subss ts).length
  | [], n => by rw [wss, subss]; rfl
  | t :: ts, n => by rw [wss, subss, List.length_append, List.length_append, ws_len, wss_len]
end
mutual
theorem ws_get : ∀ (t : Tr) (n i : Nat), (ws t n)[i]? = (subs t)[i]?.map fun s => (s.ms, n + i + (subs s).length)
  | .nd ms ts, n, i => by
    rw [ws, subs]
    cases i with
    | zero => simp [Tr.ms, subs]
    | succ i =>
      rw [List.getElem?_cons_succ, List.getElem?_cons_succ, wss_get ts (n + 1) i]
      have e : n + 1 + i = n + (i + 1) := by omega
      rw [e]
theorem wss_get : ∀ (ts : List Tr) (n i : Nat), (wss ts n)[i]? = (subss ts)[i]?.map fun s => (s.ms, n + i + (subs s).length)
  | [], n, i => by rw [wss, subss]; rfl
  | t :: ts, n, i => by
    rw [wss, subss]
    by_cases h : i < (subs t).length
    · rw [List.getElem?_append_left (by rw [ws_len]; exact h), List.getElem?_append_left h, ws_get t n i]
    · rw [List.getElem?_append_right (by rw [ws_len]; omega), List.getElem?_append_right (by omega), wss_get ts _ _, ws_len]
      have e : n + (subs t).length + (i - (subs t).length) = n + i := by omega
      rw [e]
end
theorem take_app {α : Type} {a b : List α} {k i : Nat} {c : List α} (hi : i ≤ a.length) (h : (a.drop i).take k = c) (hc : c.length = k) : ((a ++ b).drop i).take k = c := by
  rw [List.drop_append_of_le_length hi]
  have : k ≤ (a.drop i).length := by
    have := congrArg List.length h
    rw [List.length_take, hc] at this
    omega
  rw [List.take_append_of_le_length this, h]
mutual
theorem subs_at : ∀ (t s : Tr) (i : Nat), (subs t)[i]? = some s → ((subs t).drop i).take (subs s).length = subs s
  | .nd ms ts, s, i, h => by
    cases i with
    | zero =>
      rw [subs] at h
      cases h
      rw [List.drop_zero, List.take_length]
    | succ i =>
      rw [subs] at h ⊢
      rw [List.getElem?_cons_succ] at h
      rw [List.drop_succ_cons]
      exact subss_at ts s i h
theorem subss_at : ∀ (ts : List Tr) (s : Tr) (i : Nat), (subss ts)[i]? = some s → ((subss ts).drop i).take (subs s).length = subs s
  | [], s, i, h => by rw [subss] at h; cases h
  | t :: ts, s, i, h => by
    rw [subss] at h ⊢
    by_cases c : i < (subs t).length
    · rw [List.getElem?_append_left c] at h
      exact take_app (by omega) (subs_at t s i h) rfl
    · rw [List.getElem?_append_right (by omega)] at h
      rw [List.drop_append, List.drop_eq_nil_of_le (by omega), List.nil_append]
      exact subss_at ts s _ h
end
/-! ### what holds -/
def forces : Kd → Tr → Bool
  | .mk m, t => decide (m ∈ t.ms)
  | .one, _ => true
  | .both a b, t => forces a t && forces b t
  | .to a b, t => (subs t).all fun s => !forces a s || forces b s
theorem subs_self (t : Tr) : t ∈ subs t := by cases t; rw [subs]; exact List.mem_cons_self
mutual
theorem subs_trans : ∀ (t s u : Tr), s ∈ subs t → u ∈ subs s → u ∈ subs t
  | .nd ms ts, s, u, h, k => by
    rw [subs] at h
    rcases List.mem_cons.mp h with rfl | h
    · exact k
    · rw [subs]; exact List.mem_cons_of_mem _ (subss_trans ts s u h k)
theorem subss_trans : ∀ (ts : List Tr) (s u : Tr), s ∈ subss ts → u ∈ subs s → u ∈ subss ts
  | [], s, u, h, k => by rw [subss] at h; cases h
  | t :: ts, s, u, h, k => by
    rw [subss] at h ⊢
    rcases List.mem_append.mp h with h | h
    · exact List.mem_append_left _ (subs_trans t s u h k)
    · exact List.mem_append_right _ (subss_trans ts s u h k)
end
mutual
def MonoT : Tr → Prop
  | .nd ms ts => MonoTs ms ts
def MonoTs : List Str → List Tr → Prop
  | _, [] => True
  | ms, t :: ts => (∀ m ∈ ms, m ∈ t.ms) ∧ MonoT t ∧ MonoTs ms ts
end
theorem monoTs_of {ms : List Str} : ∀ {ts : List Tr}, (∀ t ∈ ts, (∀ m ∈ ms, m ∈ t.ms) ∧ MonoT t) → MonoTs ms ts
  | [], _ => by rw [MonoTs]; trivial
  | t :: ts, h => by
    rw [MonoTs]
    exact ⟨(h t List.mem_cons_self).1, (h t List.mem_cons_self).2, monoTs_of fun u hu => h u (List.mem_cons_of_mem _ hu)⟩
mutual
theorem mono_sub : ∀ (t s : Tr), MonoT t → s ∈ subs t → MonoT s ∧ ∀ m ∈ t.ms, m ∈ s.ms
  | .nd ms ts, s, h, k => by
    rw [subs] at k
    rcases List.mem_cons.mp k with rfl | k
    · exact ⟨h, fun m hm => hm⟩
    · rw [MonoT] at h
      exact mono_subs ms ts s h k
theorem mono_subs : ∀ (ms : List Str) (ts : List Tr) (s : Tr), MonoTs ms ts → s ∈ subss ts → MonoT s ∧ ∀ m ∈ ms, m ∈ s.ms
  | ms, [], s, h, k => by rw [subss] at k; cases k
  | ms, t :: ts, s, h, k => by
    rw [MonoTs] at h
    rw [subss] at k
    rcases List.mem_append.mp k with k | k
    · obtain ⟨h1, h2⟩ := mono_sub t s h.2.1 k
      exact ⟨h1, fun m hm => h2 m (h.1 m hm)⟩
    · exact mono_subs ms ts s h.2.2 k
end
theorem forces_mono : ∀ (k : Kd) (t s : Tr), MonoT t → forces k t = true → s ∈ subs t → forces k s = true
  | .mk m, t, s, h, f, hs => by
    simp only [forces, decide_eq_true_eq] at f ⊢
    exact (mono_sub t s h hs).2 m f
  | .one, t, s, h, f, hs => rfl
  | .both a b, t, s, h, f, hs => by
    simp only [forces, Bool.and_eq_true] at f ⊢
    exact ⟨forces_mono a t s h f.1 hs, forces_mono b t s h f.2 hs⟩
  | .to a b, t, s, h, f, hs => by
    simp only [forces, List.all_eq_true] at f ⊢
    exact fun u hu => f u (subs_trans t s u hs hu)
theorem forces_to {a b : Kd} {t : Tr} : forces (.to a b) t = true ↔ ∀ s ∈ subs t, forces a s = true → forces b s = true := by
  simp only [forces, List.all_eq_true, Bool.or_eq_true, Bool.not_eq_true']
  refine ⟨fun h s hs ha => (h s hs).resolve_left (by rw [ha]; decide), fun h s hs => ?_⟩
  cases e : forces a s
  · exact .inl rfl
  · exact .inr (h s hs e)
/-! ### the search for what is amiss -/
theorem le_findIdx {α : Type} (p : α → Bool) : ∀ (l : List α) (n : Nat), n ≤ l.length → (decide (n ≤ l.findIdx p) = (l.take n).all fun x => !p x)
  | [], n, h => by
    have : n = 0 := by simpa using h
    subst this; simp
  | x :: l, 0, h => by simp
  | x :: l, n + 1, h => by
    rw [List.take_succ_cons, List.all_cons, List.findIdx_cons]
    cases e : p x with
    | true => simp
    | false =>
      have ih := le_findIdx p l n (by simpa using h)
      simp only [cond_false, Bool.not_false, Bool.true_and, ← ih]
      simp
/-- the first place from i on where something is amiss -/
def fb (bad : List Bool) (i : Nat) : Nat := i + (bad.drop i).findIdx id
theorem fb_end (bad : List Bool) : fb bad bad.length = bad.length := by simp [fb]
theorem fb_step {bad : List Bool} {i : Nat} {b : Bool} (h : bad[i]? = some b) : fb bad i = if b = true then i else fb bad (i + 1) := by
  obtain ⟨hl, rfl⟩ := List.getElem?_eq_some_iff.mp h
  unfold fb
  rw [List.drop_eq_getElem_cons hl, List.findIdx_cons]
  cases e : bad[i] <;> simp <;> omega
def tl (k : Kd) (t : Tr) : List D := (subs t).map fun s => D.bl (forces k s)
def badOf (a b : Kd) (t : Tr) : List Bool := (subs t).map fun s => forces a s && !forces b s
theorem led_ok {a b : Kd} {t s : Tr} {i : Nat} (h : (subs t)[i]? = some s) : decide (i + (subs s).length ≤ fb (badOf a b t) i) = forces (.to a b) s := by
  have hs := subs_at t s i h
  have e1 : decide (i + (subs s).length ≤ fb (badOf a b t) i) = decide ((subs s).length ≤ ((badOf a b t).drop i).findIdx id) := by
    unfold fb; congr 1; rw [eq_iff_iff]; omega
  have hl : (subs s).length ≤ ((badOf a b t).drop i).length := by
    have := congrArg List.length hs
    rw [List.length_take] at this
    rw [List.length_drop, badOf, List.length_map]
    rw [List.length_drop] at this
    omega
  rw [e1, le_findIdx _ _ _ hl, badOf, ← List.map_drop, ← List.map_take, hs, forces, List.all_map]
  refine congrArg (List.all (subs s)) (funext fun u => ?_)
  simp [Bool.not_and]
def dW (w : List Str × Nat) : D := .tup [.lst (w.1.map .str), .int w.2]
def dWs (t : Tr) : List D := (ws t 0).map dW
def TrOk (t : Tr) : Prop := (subs t).length ≤ 1000 ∧ ∀ s ∈ subs t, ∀ m ∈ s.ms, PyData.strOk m = true
def spPut (n : Nat) : DSp := fun ds O R _ => ∃ (t : Tr) (p : Addr) (acc : List D), ds = [dT t, .ref p] ∧ O p = some (.lst acc) ∧ t.dep < n ∧ acc.length + (subs t).length ≤ 1000 ∧ R .non (updO O p (.lst (acc ++ (ws t acc.length).map dW)))
def spWorlds (n : Nat) : DSp := fun ds O R _ => ∃ t : Tr, ds = [dT t] ∧ t.dep < n ∧ (subs t).length ≤ 1000 ∧ R (.lst (dWs t)) O
def spLed : DSp := fun ds O R _ => ∃ (t : Tr) (a b : Kd), ds = [.lst (dWs t), .lst (tl a t), .lst (tl b t)] ∧ (subs t).length ≤ 1000 ∧ R (.lst (tl (.to a b) t)) O
def spTruths (n : Nat) : DSp := fun ds O R _ => ∃ (t : Tr) (k : Kd), ds = [.lst (dWs t), dK k] ∧ k.depth < n ∧ k.depth < 190 ∧ k.ok = true ∧ TrOk t ∧ R (.lst (tl k t)) O
def spHolds (n : Nat) : DSp := fun ds O R _ => ∃ (t : Tr) (k : Kd), ds = [dT t, dK k] ∧ t.dep < n ∧ k.depth < n ∧ k.depth < 190 ∧ k.ok = true ∧ TrOk t ∧ R (.bl (forces k t)) O
end Kf
namespace Kf
open PySem PySem.Spec L2
open PyProof.Rows hiding St
theorem subss_app : ∀ a b : List Tr, subss (a ++ b) = subss a ++ subss b
  | [], b => by rw [List.nil_append, subss, List.nil_append]
  | t :: a, b => by rw [List.cons_append, subss, subss, subss_app a b, List.append_assoc]
theorem wss_app : ∀ (a b : List Tr) (n : Nat), wss (a ++ b) n = wss a n ++ wss b (n + (subss a).length)
  | [], b, n => by rw [List.nil_append, wss, subss, List.nil_append]; rfl
  | t :: a, b, n => by
    rw [List.cons_append, wss, wss, wss_app a b, List.append_assoc, subss, List.length_append]
    have e : n + (subs t).length + (subss a).length = n + ((subs t).length + (subss a).length) := by omega
    rw [e]
theorem ixN_nat {n i : Nat} (h : i < n) : ixN n (i : Int) = some i := by
  unfold ixN
  simp [h]
end Kf
namespace Kf
open PySem PySem.Spec L2
open PyProof.Rows hiding St
/-! ### sorted texts -/
theorem cps_le_trans {a b c : List Nat} (h1 : ¬ b < a) (h2 : ¬ c < b) : ¬ c < a := List.le_trans (l₁ := a) (l₂ := b) (l₃ := c) h1 h2
theorem risingS_pw : ∀ (l : List Str) (p : Str), risingS p l = true → (p :: l).Pairwise fun a b => ¬ b.cps.toList < a.cps.toList
  | [], p, _ => by simp
  | x :: r, p, h => by
    simp only [risingS, Bool.and_eq_true, Bool.not_eq_true', ltCps_eq, decide_eq_false_iff_not] at h
    have ih := risingS_pw r x h.2
    refine List.pairwise_cons.mpr ⟨fun y hy => ?_, ih⟩
    rcases List.mem_cons.mp hy with rfl | hy
    · exact h.1
    · exact cps_le_trans h.1 ((List.pairwise_cons.mp ih).1 y hy)
theorem sortedS_pw : ∀ {l : List Str}, sortedS l = true → l.Pairwise fun a b => ¬ b.cps.toList < a.cps.toList
  | [], _ => .nil
  | x :: r, h => risingS_pw r x h
/-- strictly rising -/
def Up (l : List Str) : Prop := l.Pairwise fun a b => a.cps.toList < b.cps.toList
theorem up_of {l : List Str} (h : sortedS l = true) (hn : l.Nodup) : Up l := by
  have h1 := sortedS_pw h
  unfold Up
  refine List.Pairwise.imp ?_ (h1.and hn)
  rintro a b ⟨h2, h3⟩
  rcases Decidable.em (a.cps.toList < b.cps.toList) with h | h
  · exact h
  · exact absurd (str_ext (List.le_antisymm (as := a.cps.toList) (bs := b.cps.toList) h2 h)) h3
theorem Up.sub {l l' : List Str} (h : Up l) (s : l'.Sublist l) : Up l' := List.Pairwise.sublist s h
theorem up_uniq {a b : List Str} (h : Up a) (h' : Up b) (p : a.Perm b) : a = b := by
  refine List.Perm.eq_of_pairwise (le := fun (x y : Str) => x.cps.toList < y.cps.toList ∨ x = y) ?_ (h.imp Or.inl) (h'.imp Or.inl) p
  rintro x y _ _ (h1 | rfl) h2
  · rcases h2 with h2 | rfl
    · exact absurd (List.lt_trans h1 h2) (List.lt_irrefl _)
    · rfl
  · rfl
theorem mem_subss {s : Tr} : ∀ {ts : List Tr}, s ∈ subss ts → ∃ t ∈ ts, s ∈ subs t
  | [], h => by rw [subss] at h; cases h
  | t :: ts, h => by
    rw [subss] at h
    rcases List.mem_append.mp h with h | h
    · exact ⟨t, List.mem_cons_self, h⟩
    · obtain ⟨u, hu, h⟩ := mem_subss h
      exact ⟨u, List.mem_cons_of_mem _ hu, h⟩
/-! ### the law's trees -/
structure GoodT (ms : List Str) (had : List Str) (r : Nat) (t : Tr) : Prop where
  mono : MonoT t
  had : ∀ m ∈ had, m ∈ t.ms
  over : ∀ s ∈ subs t, s.ms.Sublist ms
  size : (subs t).length < 2 ^ (r + 1)
  dep : t.dep ≤ r + 1
theorem good_node {ms' had own : List Str} {r : Nat} {ts : List Tr} (h1 : own.Sublist ms') (h2 : ∀ m ∈ had, m ∈ own) (h3 : ts.length ≤ 2) (h4 : ∀ t ∈ ts, GoodT ms' own r t) : GoodT ms' had (r + 1) (.nd own ts) := by
  refine ⟨?_, h2, fun s hs => ?_, ?_, ?_⟩
  · rw [MonoT]
    exact monoTs_of fun t ht => ⟨(h4 t ht).had, (h4 t ht).mono⟩
  · rw [subs] at hs
    rcases List.mem_cons.mp hs with rfl | hs
    · exact h1
    · obtain ⟨t, ht, hs⟩ := mem_subss hs
      exact (h4 t ht).over s hs
  · rw [subs, List.length_cons]
    have : (subss ts).length ≤ ts.length * (2 ^ (r + 1) - 1) := by
      clear h3
      induction ts with
      | nil => rw [subss]; simp
      | cons t ts ih =>
        rw [subss, List.length_append, List.length_cons, Nat.succ_mul]
        have := ih fun u hu => h4 u (List.mem_cons_of_mem _ hu)
        have := (h4 t List.mem_cons_self).size
        omega
    have h5 : ts.length * (2 ^ (r + 1) - 1) ≤ 2 * (2 ^ (r + 1) - 1) := Nat.mul_le_mul_right _ h3
    have h6 : 1 ≤ 2 ^ (r + 1) := Nat.one_le_two_pow
    have h7 : 2 ^ (r + 1 + 1) = 2 * 2 ^ (r + 1) := by rw [Nat.pow_succ]; omega
    omega
  · rw [Tr.dep]
    have : deps ts ≤ r + 1 := by
      clear h3
      induction ts with
      | nil => rw [deps]; omega
      | cons t ts ih =>
        rw [deps]
        have := ih fun u hu => h4 u (List.mem_cons_of_mem _ hu)
        have := (h4 t List.mem_cons_self).dep
        omega
    omega
theorem good_leaf {ms' had own : List Str} {r : Nat} (h1 : own.Sublist ms') (h2 : ∀ m ∈ had, m ∈ own) : GoodT ms' had r (.nd own []) := by
  refine ⟨by rw [MonoT, MonoTs]; trivial, h2, fun s hs => ?_, ?_, ?_⟩
  · rw [subs, subss] at hs
    rcases List.mem_cons.mp hs with rfl | hs
    · exact h1
    · cases hs
  · rw [subs, subss]
    have : 2 ≤ 2 ^ (r + 1) := by rw [Nat.pow_succ]; have : 1 ≤ 2 ^ r := Nat.one_le_two_pow; omega
    simp only [List.length_cons, List.length_nil]; omega
  · rw [Tr.dep, deps]; omega
/-- ms' are the marks, sorted -/
def spLTree (n : Nat) : DSp := fun ds O R _ => ∃ (p : Addr) (ms had : List Str) (r : Nat), ds = [.ref p, .lst (ms.map .str), .lst (had.map .str), .int r] ∧ O p = some .pool ∧ MarkL ms ∧ (∀ m ∈ had, m ∈ ms) ∧ r < n ∧ r ≤ 8 ∧
  ∀ ms' t, ms'.Perm ms → Up ms' → GoodT ms' had r t → R (dT t) O
theorem GoodT.ok {ms ms' had : List Str} {r : Nat} {t : Tr} (h : GoodT ms' had r t) (hp : ms'.Perm ms) (hm : MarkL ms) (hr : r ≤ 8) : TrOk t := by
  refine ⟨?_, fun s hs m hm' => (hm.2.2.2 m (hp.mem_iff.mp ((h.over s hs).mem hm'))).ok⟩
  have := h.size
  have : 2 ^ (r + 1) ≤ 2 ^ 9 := Nat.pow_le_pow_right (by decide) (by omega)
  omega
end Kf
/-! Dl33: sorted(set(xs)) over data; == of a thing and one alike, empty dicts within. -/
namespace Kf
open PySem PySem.Spec L2
open PyProof.Rows hiding St
variable {M : MX}
/-! ### sorted(set(xs)) -/
section
variable {X : Cx} {a : Expr} {fa : FE} {p p2 q pos : Pos}
end
/-! ### a thing and one alike -/
section
variable {X : Cx} {pins : List (Addr × Obj)} {σ : St} {H : Hp} {s : Shared}
open SeqAt
end
section
variable {X : Cx} {pins : List (Addr × Obj)} {σ : St} {H : Hp} {s : Shared}
open SeqAt
end
section
variable {X : Cx}
end
/-! what has no owned list in it is read as it is -/
end Kf
/-! Dl34: is True, is False, is not .. of a truth. -/
namespace Kf
open PySem PySem.Spec L2
open PyProof.Rows hiding St
variable {M : MX}
def rIsB (neg : Bool) : R2D := fun x y O Q => match x, y with
  | .bl a, .bl b => Q (.bl (neg ^^ decide (a = b))) O
  | _, _ => False
theorem rIsB_b {neg a b : Bool} {O : Ow} {Q : VD} : rIsB neg (.bl a) (.bl b) O Q = Q (.bl (neg ^^ decide (a = b))) O := rfl
section
variable {X : Cx}
theorem od_isnotB : OpD M X (compareOp .IsNot) (rIsB true) := by
  intro pins s σ H x y v u Q I rx ry q
  obtain ⟨F, O, P, dx, dy, R, g, r1, r2, q, po⟩ := q
  unfold rIsB at q
  split at q <;> first | exact q.elim | skip
  rename_i a b
  simp only [Rep] at r1 r2
  subst r1 r2
  cases rx; cases ry
  have z := po.at g q (v := .bl (!decide (a = b))) (by simp only [Rep, Bool.true_xor])
  cases a <;> cases b <;> exact wpAny_bind (wpAny_pure (wpAny_pure ⟨.bl _, H, I, rfl, z⟩))
end
end Kf
/-! Dl35: walks along lists that may be owned and stay as they are: for, comprehensions; zip and enumerate of such. -/
namespace Kf
open PySem PySem.Spec L2
open PyProof.Rows hiding St
variable {M : MX}
abbrev FJ := DEnv → Ow → (List (Addr × List D) → List D → Ow → Prop) → Prop
section
variable {X : Cx} {tg iter l e e2 : Expr} {fl : FE} {fr : FA} {p tpos pos : Pos} {elts : List Expr} {kk : Nat}
/-! ### for -/
end
/-! ### comprehensions -/
section
variable {X : Cx} {elt tg iter : Expr} {ifs : List Expr} {scope : Scope} {own : List (Str × Nat)} {pos : Pos} {fi : FJ} {p : Pat} {ft : FT} {fe : FE}
end
end Kf
/-! Dl36: every seventh thing of a list, xs[::7]. -/
namespace Kf
open PySem PySem.Spec L2
open PyProof.Rows hiding St
variable {M : MX}
section
variable {X : Cx} {e st : Expr} {fa : FE} {te : TE} {tst : TO} {fs : FO} {pos p2 : Pos}
end
end Kf
/-! Dl37: a list of any things compared with the empty list. -/
namespace Kf
open PySem PySem.Spec L2
open PyProof.Rows hiding St
section
variable {X : Cx} {pins : List (Addr × Obj)} {σ : St} {H : Hp} {s : Shared}
open SeqAt
end
section
variable {X : Cx}
end
/-! slices of a tuple, the whole of it too -/
section
variable {X : Cx}
end
end Kf
/-! Dl38: an empty dict is no text; a pair with one in it is in no list of pairs of texts and numbers. -/
namespace Kf
open PySem PySem.Spec L2
open PyProof.Rows hiding St
section
open AutoSeq1 (wpAny_loadPart')
open MeetsSeq SeqAt
variable {A : Around} {s : Shared}
end
section
variable {X : Cx}
open SeqAt
end
end Kf
/-! Dl39: a statement that is read in one of two ways (a walk along a list or a tuple). -/
namespace Kf
open PySem PySem.Spec L2
open PyProof.Rows hiding St
section
variable {X : Cx} {M : MX} {st : Stmt} {g1 g2 : GS}
end
end Kf
/-! Dl40: text.isalpha(). -/
namespace Kf
open PySem PySem.Spec L2
open PyProof.Rows hiding St
section
variable {M : MX} {X : Cx}
end
end Kf
/-! Dl41: a, b = x, y with plain local names. -/
namespace Kf
open PySem PySem.Spec L2
open PyProof.Rows hiding St
def gPar (i j : Nat) (fa : FA) : GS := fun R ρ O => fa ρ O fun ds O1 => match ds with
  | [d, e] => R.nx ((ρ.set i (some d)).set j (some e)) O1
  | _ => False
theorem ap_gPar {i j : Nat} {fa : FA} {R : DEnds} {ρ : DEnv} {O : Ow} : gPar i j fa R ρ O = fa ρ O (fun ds O1 => match ds with | [d, e] => R.nx ((ρ.set i (some d)).set j (some e)) O1 | _ => False) := rfl
section
variable {M : MX} {X : Cx} {pos : Pos}
end
end Kf
/-! Dl42: a list comprehension out of which an exception flies. -/
namespace Kf
open PySem PySem.Spec L2
open PyProof.Rows hiding St
variable {M : MX}

/-! ### the way out of a block -/
section
variable {X : Cx} {W : WX} {pins : List (Addr × Obj)} {σ : L2.St} {H3 : Hp} {s3 : Shared} {scope : Scope} {ce : Env} {fp : List Addr} {xe : Value → Shared → Prop} {use : Option (Value → Sem Unit)} {Qf : Value → Shared → Prop} {D : Addr}
end
section
variable {X : Cx} {W : WX} {elt tg iter : Expr} {ifs : List Expr} {scope : Scope} {own : List (Str × Nat)} {pos pos' : Pos} {wi : TI} {g : TG} {tt : TT} {use : Option (Value → Sem Unit)}
end
end Kf
/-! Dl43: such a comprehension, over data. -/
namespace Kf
open PySem PySem.Spec L2
open PyProof.Rows hiding St
variable {M : MX}
section
variable {X : Cx} {RX : XW} {W : WX} {e : Expr} {es : List Expr} {fr : FA} {k : Nat} {f : Addr} {fd : FuncData} {ps : List Str} {dsp : DSp} {x : Str} {st : Stmt} {p pos : Pos}
end
section
variable {fi : FI} {p : Pat} {ft : FT} {fe : XW → FE} {RX : XW} {W : WX}
end
section
variable {X : Cx} {elt tg iter : Expr} {ifs : List Expr} {scope : Scope} {own : List (Str × Nat)} {pos : Pos} {fi : FI} {p : Pat} {ft : FT} {fe : XW → FE} {RX : XW} {W : WX} {vs : List Nat}
end
section
variable {fi : FI} {p : Pat} {ft : FT} {fe : XW → FE} {RX : XW} {vs : List Nat} {ρ : DEnv} {O : Ow} {Q : VD}
end
end Kf
/-! Dl44: a def that keeps two promises keeps either. -/
namespace Kf
open PySem PySem.Spec L2
open PyProof.Rows hiding St
end Kf
/-! Dl45: tuples that are keys (`.tupK`), dicts whose keys are tuples (cells `.dicT`), min(xs, key=len, default=None). -/
namespace Kf
open PySem PySem.Spec L2
open PyProof.Rows hiding St
variable {M : MX}
/-! ### a key as plain data -/
def tupD (ks : List Key) : D := .tup (ks.map keyD)
theorem keysK_rep {K : PySem.W.Frag} {F : Hp} : ∀ ks : List Key, RepAll K F (ks.map keyD) (ks.map kV)
  | [] => .nil
  | k :: r => .cons (keyD_rep k) (keysK_rep r)
theorem tupK_tup {K : PySem.W.Frag} {F : Hp} {ks : List Key} {v : V} (h : Rep K F (.tupK ks) v) : Rep K F (tupD ks) v := by
  simp only [Rep] at h
  obtain ⟨a, rfl, h⟩ := h
  unfold tupD
  simp only [Rep]
  exact ⟨a, _, rfl, .inl (.inl h), keysK_rep ks⟩
def un1 : D → D
  | .tupK ks => tupD ks
  | d => d
def un : D → D
  | .lst ds => .lst (ds.map un1)
  | d => un1 d
theorem rep_un1 {K : PySem.W.Frag} {F : Hp} {d : D} {v : V} (h : Rep K F d v) : Rep K F (un1 d) v := by
  cases d <;> first | exact h | exact tupK_tup h
theorem repAll_un1 {K : PySem.W.Frag} {F : Hp} : ∀ {ds : List D} {vs : List V}, RepAll K F ds vs → RepAll K F (ds.map un1) vs
  | [], _, h => h
  | d :: ds, _, h => by
    simp only [RepAll] at h
    obtain ⟨v, r, rfl, h1, h2⟩ := h
    exact .cons (rep_un1 h1) (repAll_un1 h2)
theorem rep_un {K : PySem.W.Frag} {F : Hp} {d : D} {v : V} (h : Rep K F d v) : Rep K F (un d) v := by
  cases d <;> first | exact h | exact tupK_tup h | skip
  simp only [un, Rep] at h ⊢
  obtain ⟨a, xs, e, h1, h2⟩ := h
  exact ⟨a, xs, e, h1, repAll_un1 h2⟩
def fUnK (f : FE) : FE := fun ρ O Q => f ρ O fun d O1 => Q (un d) O1
section
variable {X : Cx} {e : Expr} {es : List Expr} {f : FE} {fr : FA} {pos : Pos}
theorem de_unK (h : DE M X e f) : DE M X e (fUnK f) := peMono h fun σ H Q q => by
  obtain ⟨F, O, P, ρ, R, g, en, q, po⟩ := q
  exact ⟨F, O, P, ρ, _, g, en, q, fun d O' F' H' v q s g' r => po (un d) O' F' H' v q s g' (rep_un r)⟩
/-! ### tuples made as keys -/
def keysOf : List D → Option (List Key)
  | [] => some []
  | d :: ds => match keyOf d, keysOf ds with
    | some k, some ks => some (k :: ks)
    | _, _ => none
theorem keysOf_rep {K : PySem.W.Frag} {F : Hp} : ∀ {ds : List D} {ks : List Key} {vs : List V}, keysOf ds = some ks → RepAll K F ds vs → vs = ks.map kV
  | [], _, _, h, r => by
    cases h
    simp only [RepAll] at r
    rw [r]; rfl
  | d :: ds, ks, vs, h, r => by
    simp only [keysOf] at h
    split at h <;> first | cases h; done | skip
    rename_i k ks' e1 e2
    cases h
    simp only [RepAll] at r
    obtain ⟨v, r', rfl, h1, h2⟩ := r
    rw [keyOf_rep e1 h1, keysOf_rep e2 h2, List.map_cons]
theorem keysOf_str : ∀ ts : List Str, keysOf (ts.map D.str) = some (ts.map Sum.inr)
  | [] => rfl
  | t :: r => by rw [List.map_cons, keysOf, keysOf_str r]; rfl
theorem PostE.tupK {K : PySem.W.Frag} {F P H : Hp} {O : Ow} {R : VD} {Q : VK} {ks : List Key} {p : Addr} (po : PostE M K F P R Q) (g : Gd M K F O P H) (h : R (.tupK ks) O) (hp : H p = none) : Q (.ref p) (upd H p (.tup (ks.map kV))) := by
  have hF := g.freeF hp
  refine po (.tupK ks) O (upd F p (.tup (ks.map kV))) _ _ h (same_upd hF) (g.new hp) ?_
  simp only [Rep]
  exact ⟨p, rfl, upd_same⟩
def rTupK : RAD := fun ds O Q => match ds with
  | [x] => match deref O x with
    | .lst es => ∃ ks, keysOf es = some ks ∧ Q (.tupK ks) O
    | _ => False
  | _ => False
theorem cd_tupK : CallD M X (.type "tuple") rTupK := by
  refine callD_of fun F P H O xs ds R Q g r1 q po => ?_
  match ds, q with
  | [x], q =>
    obtain ⟨v, rfl, r1'⟩ := r1.one'
    have h1 := g.deref r1'
    unfold rTupK at q
    dsimp only at q
    revert q h1
    generalize Kf.deref O x = ex
    intro q h1
    cases ex <;> first | exact q.elim | skip
    obtain ⟨c, xs, rfl, h1, h2⟩ := h1
    obtain ⟨ks, e, q⟩ := q
    have e2 := keysOf_rep e h2
    subst e2
    exact ⟨_, call_tuple_of, c, _, rfl, .inl ⟨SqL.of h1, fun p hp => po.tupK g q hp⟩⟩
/-- {} whose keys will be tuples -/
def fDicT : FE := fun _ O Q => ∀ p, O p = none → Q (.ref p) (updO O p (.dicT []))
theorem de_dicT : DE M X (.Dict [] [] pos) fDicT := peMono pe_dnewT fun σ H Q h => by
  obtain ⟨F, O, P, ρ, R, g, en, q, po⟩ := h
  intro p hp
  exact po (.ref p) _ F _ _ (q p (g.freeO hp)) (Same.refl _) (g.newO hp ⟨[], upd_same, .nil⟩) (by simp only [Rep])
/-! ### x in xs of keys -/
def asTupK : List D → Option (List (List Key))
  | [] => some []
  | .tupK ks :: r => (asTupK r).map (ks :: ·)
  | _ :: _ => none
theorem asTupK_map (L : List (List Key)) : asTupK (L.map .tupK) = some L := by
  induction L with
  | nil => rfl
  | cons k r ih => simp [asTupK, ih]
theorem asTupK_of : ∀ {ds : List D} {L : List (List Key)}, asTupK ds = some L → ds = L.map .tupK
  | [], _, h => by cases h; rfl
  | d :: r, L, h => by
    cases d <;> simp only [asTupK] at h <;> first | cases h; done | skip
    obtain ⟨u, e, rfl⟩ := Option.map_eq_some_iff.mp h
    rw [asTupK_of e, List.map_cons]
end
/-! ### min(xs, key=len, default=None) of keys -/
section
variable {prog : Program} {w : World} {A : Around} {E : Value → Shared → Prop} {s : Shared}
/-- some item, or the default -/
theorem min_len {l : Addr} {vs : Array Value} {d : Value} {Q : Value → Shared → Prop} (hh : A.handled = none) (hl : s.heap.IsList l vs)
    (hlen : ∀ v ∈ vs.toList, ∃ n : Nat, ∀ (s' : Shared) (Q' : Value → Shared → Prop) (E' : Value → Shared → Prop), (∀ b o, s.heap.get? b = some o → s'.heap.get? b = some o) → (∀ t tk, Q' (.int n t) { s' with toks := tk }) → wpAny (model prog w) A.in1 (call (.builtin "len") [v]) Q' E' s')
    (fin : ∀ v h' tk, (∀ b o, s.heap.get? b = some o → h'.get? b = some o) → (vs.size = 0 → v = d) → (0 < vs.size → v ∈ vs.toList) → Q v { s with heap := h', toks := tk }) :
    wpAny (model prog w) A (call (.builtin "min") [.ref l] [(Str.ofString "key", .builtin "len"), (Str.ofString "default", d)]) Q E s := by
  have hx : ∀ i : Nat, ∃ n : Nat, ∀ v, vs[i]? = some v → ∀ (s' : Shared) (Q' : Value → Shared → Prop) (E' : Value → Shared → Prop), (∀ b o, s.heap.get? b = some o → s'.heap.get? b = some o) → (∀ t tk, Q' (.int n t) { s' with toks := tk }) → wpAny (model prog w) A.in1 (call (.builtin "len") [v]) Q' E' s' := fun i => by
    cases e : vs[i]? with
    | none => exact ⟨0, fun v h => by cases h⟩
    | some u =>
      obtain ⟨n, hn⟩ := hlen u (by rw [Array.mem_toList_iff]; exact Array.mem_of_getElem? e)
      exact ⟨n, fun v h => by cases h; exact hn⟩
  obtain ⟨kf, hkf⟩ : ∃ kf : Nat → Nat, ∀ (i : Nat) v, vs[i]? = some v → ∀ (s' : Shared) (Q' : Value → Shared → Prop) (E' : Value → Shared → Prop), (∀ b o, s.heap.get? b = some o → s'.heap.get? b = some o) → (∀ t tk, Q' (.int (kf i : Nat) t) { s' with toks := tk }) → wpAny (model prog w) A.in1 (call (.builtin "len") [v]) Q' E' s' := ⟨fun i => (hx i).choose, fun i => (hx i).choose_spec⟩
  refine call_min_walkKBD ?_
  refine PySem.W.iter_listW hh hl fun s₂ e2 W st hfp hw hk => ?_
  have hSn : ∀ b o, s.heap.get? b = some o → b ≠ s₂.heap.objs.size := fun b o e q => by
    exact absurd (Heap.lt_size (hk b o e)) (by rw [q]; exact Nat.lt_irrefl _)
  refine ⟨_, _, _, _, _, _, _, fun s' => (∃ h' tk, s' = { s with heap := h', toks := tk }) ∧ ∀ b o, s.heap.get? b = some o → s'.heap.get? b = some o, fun i k _ => ∃ t, k = .int (kf i : Nat) t, fun i j => decide ((kf i : Int) < kf j), rfl, W, st, hfp, ⟨?_, ?_, ?_, ?_⟩, ?_, ?_, ?_⟩
  · rintro a b ⟨⟨h', tk, rfl⟩, h2⟩ hm
    refine ⟨⟨_, _, hm.eq_with⟩, fun c o e => ?_⟩
    refine hm.heap c o (fun hc => ?_) (h2 c o e)
    rcases List.mem_cons.mp hc with rfl | hc
    · exact hSn _ o e rfl
    · exact hw c o e hc
  · exact fun i k a b h _ => h
  · rintro i v a o Q' E' hi hv ⟨⟨h', tk, rfl⟩, h2⟩ hst hS hq
    refine hkf i v hv _ _ _ h2 fun t tk' => hq _ _ ⟨⟨_, _, rfl⟩, h2⟩ hst hS ⟨t, rfl⟩ fun j k' h => h
  · rintro i j ki kj a Q' E' _ ⟨t, rfl⟩ ⟨t', rfl⟩ hq
    exact wpAny_lt_int hq
  · exact ⟨⟨_, _, by rw [e2]⟩, hk⟩
  · rintro hn s' ⟨⟨h', tk, rfl⟩, h2⟩
    exact fin _ _ _ h2 (fun _ => rfl) fun h => by omega
  · rintro hn v s' hv ⟨⟨h', tk, rfl⟩, h2⟩
    exact fin _ _ _ h2 (fun h => by omega) fun _ => by rw [Array.mem_toList_iff]; exact Array.mem_of_getElem? hv
end
section
variable {X : Cx} {e : Expr} {fa : FE} {pos p kp kp2 lp dp2 : Pos} {j : Nat}
/-- min(xs, key=len, default=None) of lists and tuples -/
def mlG (Q : VK) (x : V) (H1 : Hp) : Prop := ∃ (a : Addr) (xs : List V), x = .ref a ∧ H1 a = some (.lst xs) ∧ (∀ v ∈ xs, ∃ b ys, v = .ref b ∧ H1 b = some (.tup ys)) ∧ (xs = [] → Q .non H1) ∧ ∀ v ∈ xs, Q v H1
def tMinLen (te : TE) : TE := fun σ H Q => te σ H (mlG Q)
def mlGs (Q : VK) : List V → Hp → Prop
  | [x], H1 => mlG Q x H1
  | _, _ => False
theorem pe_minLen (hc : X.calm = true) (hu : X.A.units + 200 < cLine) (hg : Gl X "min") (hm : X.mg "min" = none) (hg2 : Gl X "len") (hm2 : X.mg "len" = none) {te : TE} (he : PE X e te)
    (hs : starEach [e] X.env = (false, eval e X.env) :: starEach [] X.env := by rfl)
    (he2 : backTo pos (starEach [e] X.env) = (false, eval e X.env) :: backTo pos (starEach [] X.env) := by rfl) (hpl : (backTo pos (starEach [e] X.env)).any (·.1) = false := by rfl) :
    PE X (.Call (.Name "min" p) [e] [⟨some "key", .Name "len" lp, kp⟩, ⟨some "default", .Constant .none j dp2, kp2⟩] pos) (tMinLen te) := by
  refine ⟨fun pins s σ H Q I h => ?_⟩
  refine wpAny_Call_Name_kw (ld_blt I hg hm (u := .builtin "min") (by decide +kernel) ?_)
  refine PyProof.Rows.callWith_kw (thn ((pa_cons he pa_nil hs).run pos pins s σ H (mlGs Q) I ?_) fun us s1 ⟨vs, H1, I1, r1, q1⟩ => ?_) he2 hpl (by rfl) (by rfl)
  · exact h
  show wpAny _ _ (evalAll ((do let v ← eval (.Name "len" lp) X.env; standAt pos; pure v) :: (do let v ← eval (.Constant .none j dp2) X.env; standAt pos; pure v) :: [])) _ _ s1
  refine wpAny_evalAll_cons (wpAny_bind (ld_blt I1 hg2 hm2 (u := .builtin "len") (by decide +kernel) (wpAny_bind (wpAny_standAt (wpAny_pure ?_)))))
  refine wpAny_evalAll_cons (wpAny_bind (Constant_none (wpAny_bind (wpAny_standAt (wpAny_pure ?_)))))
  refine wpAny_evalAll_nil ?_
  unfold mlGs at q1
  split at q1 <;> first | exact q1.elim | skip
  obtain ⟨a, xs, rfl, h1, h2, h3, h4⟩ := q1
  obtain rfl := Vals.ref1 r1
  obtain ⟨its, rv, hl, _⟩ := I1.list (SqL.of h1)
  show wpAny _ _ (call (.builtin "min") [.ref a] [(Str.ofString "key", .builtin "len"), (Str.ofString "default", .none)]) _ _ s1
  refine min_len (I1.ok.hd hc) hl.isList (fun v hv => ?_) fun v h' tk hk e0 e1 => ?_
  · rw [List.toList_toArray] at hv
    obtain ⟨i, hi⟩ := List.getElem?_of_mem hv
    have hv2 : ∃ x, xs[i]? = some x ∧ RelV x v := by
      have hlen := rv.length
      have : i < xs.length := by
        have := (List.getElem?_eq_some_iff.mp hi).1
        omega
      obtain ⟨u, e, r⟩ := rv.get (List.getElem?_eq_getElem this)
      rw [hi] at e; cases e
      exact ⟨_, List.getElem?_eq_getElem this, r⟩
    obtain ⟨x, hx, rx⟩ := hv2
    obtain ⟨b, ys, rfl, hb⟩ := h2 x (List.mem_of_getElem? hx)
    obtain rfl : v = .ref b := rx
    obtain ⟨it2, rv2, ⟨o, ho, hrest⟩, hz⟩ := I1.tuple (.inl (.inl hb))
    refine ⟨it2.length, fun s' Q' E' hk hq => ?_⟩
    refine PyProof.Rows.len_tuple (items := it2.toArray) ⟨o, hk _ _ ho, hrest⟩ ?_ ?_
    · have := rv2.length
      have := line63
      simp only [List.size_toArray]; omega
    · have := hq (s'.toks + 1) (s'.toks + 1 + 1)
      simpa using this
  · have hlen := rv.length
    by_cases h0 : its.toArray.size = 0
    · have : xs = [] := List.eq_nil_of_length_eq_zero (by rw [hlen]; simpa using h0)
      rw [e0 h0]
      exact ⟨.non, H1, I1.kept hk, rfl, h3 this⟩
    · have hv := e1 (by omega)
      rw [List.toList_toArray] at hv
      obtain ⟨i, hi⟩ := List.getElem?_of_mem hv
      have hlt : i < xs.length := by
        have := (List.getElem?_eq_some_iff.mp hi).1
        omega
      obtain ⟨u, e, r⟩ := rv.get (List.getElem?_eq_getElem hlt)
      rw [hi] at e; cases e
      exact ⟨_, H1, I1.kept hk, r, h4 _ (List.getElem_mem hlt)⟩
/-- the same over data: some key, or None -/
def rMinLen (x : D) (O : Ow) (Q : VD) : Prop := match deref O x with
  | .lst ds => ∃ L, asTupK ds = some L ∧ (L = [] → Q .non O) ∧ ∀ ks ∈ L, Q (.tupK ks) O
  | _ => False
def fMinLen (fa : FE) : FE := fun ρ O Q => fa ρ O fun x O1 => rMinLen x O1 Q
theorem repAll_tupK {K : PySem.W.Frag} {F : Hp} : ∀ {L : List (List Key)} {vs : List V}, RepAll K F (L.map .tupK) vs → (L = [] ↔ vs = []) ∧ ∀ v ∈ vs, ∃ b ks, v = .ref b ∧ ks ∈ L ∧ F b = some (.tup (ks.map kV))
  | [], vs, h => by
    simp only [List.map_nil, RepAll] at h
    subst h
    exact ⟨by simp, fun v hv => by cases hv⟩
  | ks :: L, vs, h => by
    simp only [List.map_cons, RepAll, Rep] at h
    obtain ⟨v, r, rfl, ⟨b, rfl, hb⟩, h2⟩ := h
    refine ⟨by simp, fun v hv => ?_⟩
    rcases List.mem_cons.mp hv with rfl | hv
    · exact ⟨b, ks, rfl, List.mem_cons_self, hb⟩
    · obtain ⟨b', ks', e, h3, h4⟩ := (repAll_tupK h2).2 v hv
      exact ⟨b', ks', e, List.mem_cons_of_mem _ h3, h4⟩
theorem de_minLen (hc : X.calm = true) (hu : X.A.units + 200 < cLine) (hg : Gl X "min") (hm : X.mg "min" = none) (hg2 : Gl X "len") (hm2 : X.mg "len" = none) (he : DE M X e fa)
    (hs : starEach [e] X.env = (false, eval e X.env) :: starEach [] X.env := by rfl)
    (he2 : backTo pos (starEach [e] X.env) = (false, eval e X.env) :: backTo pos (starEach [] X.env) := by rfl) (hpl : (backTo pos (starEach [e] X.env)).any (·.1) = false := by rfl) :
    DE M X (.Call (.Name "min" p) [e] [⟨some "key", .Name "len" lp, kp⟩, ⟨some "default", .Constant .none j dp2, kp2⟩] pos) (fMinLen fa) := peMono (pe_minLen hc hu hg hm hg2 hm2 he hs he2 hpl) fun σ H Q h => by
  obtain ⟨F, O, P, ρ, R, g, en, q, po⟩ := h
  refine ⟨F, O, P, ρ, _, g, en, q, fun x O1 F1 H1 v q1 s1 g1 r1 => ?_⟩
  have h1 := g1.deref r1
  unfold rMinLen at q1
  revert q1 h1
  generalize Kf.deref O1 x = ex
  intro q1 h1
  cases ex <;> first | exact q1.elim | skip
  obtain ⟨c, xs, rfl, h1, h2⟩ := h1
  obtain ⟨L, e1, q2, q3⟩ := q1
  rw [asTupK_of e1] at h2
  obtain ⟨z1, z2⟩ := repAll_tupK h2
  refine ⟨c, xs, rfl, h1, fun v hv => ?_, fun e => ?_, fun v hv => ?_⟩
  · obtain ⟨b, ks, rfl, _, h4⟩ := z2 v hv
    exact ⟨b, _, rfl, g1.fz _ _ h4⟩
  · exact (po.more s1).at g1 (q2 (z1.mpr e)) (by simp only [Rep])
  · obtain ⟨b, ks, rfl, h3, h4⟩ := z2 v hv
    exact (po.more s1).at g1 (q3 ks h3) (by simp only [Rep]; exact ⟨b, rfl, h4⟩)
end
end Kf
/-! Dl46: sorted() of a dict whose keys are tuples of texts. -/
namespace Kf
open PySem PySem.Spec L2
open PyProof.Rows hiding St
open PySem.W (EachIs)
variable {M : MX}
def tsK (l : List Str) : List Key := l.map Sum.inr
def encT (l : List Str) : PyData := .tuple (l.map .str)
theorem reads_strs {h : Heap} : ∀ {l : List Str} {vs : List Value} {as : List Addr}, ReadsAll h vs (l.map PyData.str) as → as = []
  | [], _, _, r => by cases r; rfl
  | x :: l, _, _, r => by
    rw [List.map_cons] at r
    cases r with
    | cons h1 h2 =>
      cases h1
      rw [reads_strs h2]; rfl
theorem reads_encT {h : Heap} {l : List Str} {v : Value} {as : List Addr} (r : Reads h v (encT l) as) : as = [] := by
  unfold encT at r
  cases r with
  | tuple h1 h2 h3 h4 => exact reads_strs h4
theorem alike_strs : ∀ a b : List Str, PySem.W.alikeAll (a.map .str) (b.map .str) = true
  | [], _ => by simp [PySem.W.alikeAll]
  | _ :: _, [] => by simp [PySem.W.alikeAll]
  | x :: a, y :: b => by rw [List.map_cons, List.map_cons, PySem.W.alikeAll, alike_strs a b]; rfl
theorem kV_tsK (l : List Str) : (tsK l).map kV = l.map V.str := by unfold tsK; rw [List.map_map]; rfl
theorem paired_at {α β : Type} {F : α → β → Prop} : ∀ {l₁ : List α} {l₂ : List β} {j : Nat} {x : β}, Paired F l₁ l₂ → l₂[j]? = some x → ∃ y, l₁[j]? = some y ∧ F y x
  | _, _, _, _, .nil, e => by simp at e
  | _, _, 0, _, .cons r _, e => by simp at e; subst e; exact ⟨_, rfl, r⟩
  | _, _, j + 1, _, .cons _ r, e => by
    obtain ⟨y, h1, h2⟩ := paired_at (j := j) r (by simpa using e)
    exact ⟨y, by simpa using h1, h2⟩
theorem each_get {α β : Type} {R : α → β → Prop} : ∀ {vs : List α} {bs : List β}, vs.length = bs.length → (∀ (i : Nat) v b, vs[i]? = some v → bs[i]? = some b → R v b) → EachIs R vs bs
  | [], [], _, _ => .nil
  | [], _ :: _, h, _ => by simp at h
  | _ :: _, [], h, _ => by simp at h
  | v :: vs, b :: bs, h, g => .cons (g 0 v b rfl rfl) (each_get (by simpa using h) fun i v' b' e1 e2 => g (i + 1) v' b' (by simpa using e1) (by simpa using e2))
theorem each_mem' {α β : Type} {R R' : α → β → Prop} : ∀ {vs : List α} {bs : List β}, EachIs R vs bs → (∀ v b, b ∈ bs → R v b → R' v b) → EachIs R' vs bs
  | _, _, .nil, _ => .nil
  | _, _, .cons h t, g => .cons (g _ _ List.mem_cons_self h) (each_mem' t fun v b hb => g v b (List.mem_cons_of_mem _ hb))
theorem outs_of {H : Hp} : ∀ {out : List Value} {L : List (List Str)}, EachIs (fun v l => ∃ b, v = Value.ref b ∧ H b = some (.tup (l.map V.str))) out L → ∃ bs : List Addr, out = bs.map Value.ref ∧ Paired (fun b l => H b = some (.tup (l.map V.str))) bs L ∧ Vals (bs.map V.ref) out
  | _, _, .nil => ⟨[], rfl, .nil, .nil⟩
  | _, _, .cons ⟨b, e, h⟩ t => by
    obtain ⟨bs, rfl, h1, h2⟩ := outs_of t
    subst e
    exact ⟨b :: bs, rfl, .cons h h1, .cons rfl h2⟩
theorem depth_encT (l : List Str) : (encT l).depth ≤ 1 := by
  have h : ∀ l : List Str, PyData.depthAll (l.map .str) = 0 := fun l => by
    induction l with
    | nil => rfl
    | cons x r ih => rw [List.map_cons]; simp only [PyData.depthAll, PyData.depth, ih]; rfl
  unfold encT
  simp only [PyData.depth, h]
  omega
section
variable {X : Cx}
theorem call_sortedT (hc : X.calm = true) (hu : X.A.units + 200 < cLine) : CallR X (.builtin "sorted") (fun xs H Q => ∃ (a : Addr) (kvs : List (List Key × V)) (L : List (List Str)), xs = [.ref a] ∧ H a = some (.dT kvs) ∧ kvs.map (·.1) = L.map tsK ∧
    (∀ l ∈ L, l ≠ [] ∧ ∀ s ∈ l, PyData.strOk s = true) ∧ ∀ (L' : List (List Str)) (bs : List Addr) p, L'.Perm L → Paired (fun b l => H b = some (.tup (l.map V.str))) bs L' → H p = none → Q (.ref p) (upd H p (.lst (bs.map V.ref)))) := by
  intro pins s σ H xs us Q I r q
  obtain ⟨a, kvs, L, ex, hd, hks, hL, q⟩ := q
  subst ex
  obtain ⟨u, eu, rx⟩ := vals1 r
  subst eu
  cases rx
  obtain ⟨z, lo, xs, rel, dd⟩ := L2.dt_of I.hok hd
  obtain ⟨es, ep, hraw, hsz, hes⟩ := dd.raw
  have hxl : xs.length = kvs.length := (Paired.length rel).symm
  have hLl : L.length = kvs.length := by
    have := congrArg List.length hks
    rw [List.length_map, List.length_map] at this; omega
  refine Calls.call_function_entry PyProof.Rows.kind_sorted PyProof.Rows.plain_sorted PyProof.Rows.entry_sorted (PyProof.Rows.args_sorted1 _) ?_
  unfold Builtin.«sorted»
  refine wpAny_bind (m := checkCount "sorted" 1 1 _) (wpAny_pure ?_)
  refine wpAny_bind (PySem.W.kdu_collect (A := X.A.in1) (PySem.KdlSrc.rawDict (es := es) (ep := ep) lo) (I.ok.hd hc) hraw (by rw [hsz, hxl]; exact z) fun h' tk acc hk hacc => ?_)
  have I1 : Inv X pins σ H { s with heap := h', toks := tk } := I.kept hk
  have hal : acc.toList.length = L.length := by rw [Array.length_toList, hacc.1, hsz, hxl, hLl]
  have hget : ∀ i (v : Value) (l : List Str), acc.toList[i]? = some v → L[i]? = some l → ∃ b, v = .ref b ∧ H b = some (.tup (l.map V.str)) := fun i v l e1 e2 => by
    obtain ⟨hi, rfl⟩ := hacc.2 i v (by rw [← Array.getElem?_toList]; exact e1)
    obtain ⟨y, hy, ek, _, _⟩ := hes i hi
    obtain ⟨p, hp, p1, p2, _⟩ := paired_at rel hy
    have e3 : (kvs.map (·.1))[i]? = some p.1 := by rw [List.getElem?_map, hp]; rfl
    rw [hks, List.getElem?_map, e2] at e3
    have e4 : p.1 = tsK l := by simpa using e3.symm
    exact ⟨y.2.1, ek, by rw [p2, e4, kV_tsK]⟩
  have hE : EachIs (fun v l => ∃ b, v = Value.ref b ∧ H b = some (.tup (l.map V.str))) acc.toList L := each_get hal hget
  refine wpAny_bind (wpAny_newList ?_ (by rw [hal, hLl]; exact z))
  have hoL : (h'.push (seqObj "list" acc.toList.toArray 0)).get? h'.objs.size = some (seqObj "list" acc.toList.toArray 0) := Heap.get?_push_size _ rfl
  show wpAny _ _ _ _ _ { s with heap := h'.push (seqObj "list" acc.toList.toArray 0), toks := tk }
  have hn : H h'.objs.size = none := I1.hok.fresh (Nat.le_refl _)
  have hrd : EachIs (fun v l => ∃ as, Reads (h'.push (seqObj "list" acc.toList.toArray 0)) v (encT l) as ∧ h'.objs.size ∉ as) acc.toList L := by
    refine each_mem' hE fun v l hl ⟨b, e, hb⟩ => ?_
    subst e
    have hp : isPy (.tup (l.map .str)) = true := by
      show isPys _ = true
      rw [isPys_all, List.all_eq_true]
      intro d hd
      obtain ⟨s, hs, rfl⟩ := List.mem_map.mp hd
      exact (hL l hl).2 s hs
    have hr : Rep X.K H (.tup (l.map .str)) (.ref b) := by
      simp only [Rep]
      exact ⟨b, _, rfl, .inl (.inl hb), RepAll.of_strs⟩
    obtain ⟨as, h1⟩ := Dp.reads I1 _ _ _ (Rep.dp (Same.refl _) _ _ hp hr) (show RelV (.ref b) (.ref b) from rfl)
    have e2 : toPy (.tup (l.map .str)) = encT l := by
      simp only [toPy, encT, toPys_map, List.map_map]; rfl
    rw [e2] at h1
    have h2 := reads_encT h1
    subst h2
    exact ⟨[], PyProof.Rows.Reads.keeps (fun b o e => Heap.get?_push_of_some _ e) h1, by simp⟩
  refine wpAny_bind (wpAny_holding (PySem.W.list_sort_data (s := { s with heap := h'.push (seqObj "list" acc.toList.toArray 0), toks := tk }) (enc := encT) hoL hE hrd ?_ ?_ (by rw [hLl]; exact z) ?_ fun out ho eo => ?_))
  · intro d hd d' hd'
    obtain ⟨l, _, rfl⟩ := List.mem_map.mp hd
    obtain ⟨l', _, rfl⟩ := List.mem_map.mp hd'
    exact alike_strs l l'
  · refine .inl fun d hd => ?_
    obtain ⟨l, hl, rfl⟩ := List.mem_map.mp hd
    cases l with
    | nil => exact absurd rfl (hL _ hl).1
    | cons x r => exact ⟨_, _, rfl⟩
  · intro l hl
    have h1 : X.A.in1.units = X.A.units + 1 := rfl
    have := depth_encT l
    omega
  · obtain ⟨bs, rfl, hb1, hb2⟩ := outs_of eo
    obtain ⟨e', he'⟩ := PyProof.Rows.sortedHeap_at (vs := acc.toList) (out := (bs.map Value.ref).toArray) hoL
    have hlen : (bs.map V.ref).length ≤ sizeLine := by
      rw [List.length_map] at ho ⊢
      rw [ho, hLl]; exact z
    refine wpAny_pure ⟨_, rfl, .ref h'.objs.size, upd H h'.objs.size (.lst (bs.map V.ref)), I1.laid (t' := tk) (fun b u e => ?_) (Nat.le_refl _)
      (show ObjOk X.prog X.w _ _ _ (.lst (bs.map V.ref)) from ⟨hlen, bs.map Value.ref, e', hb2, he'⟩), rfl, q (L.mergeSort (PySem.W.dataLe false encT)) bs _ (List.mergeSort_perm _ _) hb1 hn⟩
    have hb : b < h'.objs.size := Heap.lt_size e
    rw [PyProof.Rows.sortedHeap_old (Nat.ne_of_lt hb) (by rw [size_push']; exact Nat.lt_succ_of_lt hb)]
    exact Heap.get?_push_of_some _ e
def rSortKT : RAD := fun ds O Q => match ds with
  | [.ref a] => match O a with
    | some (.dicT kvs) => ∃ L : List (List Str), kvs.map (·.1) = L.map tsK ∧ (∀ l ∈ L, l ≠ [] ∧ ∀ s ∈ l, PyData.strOk s = true) ∧ ∀ L' : List (List Str), L'.Perm L → Q (.lst (L'.map fun l => .tupK (tsK l))) O
    | _ => False
  | _ => False
/-- tracked tuples stand for keys: they join what never changes -/
theorem Gd.tups {K : PySem.W.Frag} {F O P H} (g : Gd M K F O P H) : ∀ {bs : List Addr} {L : List (List Str)}, Paired (fun b l => H b = some (.tup (l.map V.str))) bs L → ∃ F', Same F F' ∧ Gd M K F' O P H ∧ RepAll K F' (L.map fun l => D.tupK (tsK l)) (bs.map V.ref)
  | _, _, .nil => ⟨F, Same.refl _, g, .nil⟩
  | b :: bs, l :: L, .cons h t => by
    obtain ⟨F1, s1, g1, r1⟩ := Gd.tups g t
    have key : ∃ F', Same F1 F' ∧ Gd M K F' O P H ∧ F' b = some (.tup (l.map V.str)) := by
      cases e : F1 b with
      | some o =>
        have := g1.fz _ _ e
        rw [h] at this; cases this
        exact ⟨F1, Same.refl _, g1, e⟩
      | none =>
        have hO : ∀ c, O b = some c → False := fun c ec => by
          have q := (g1.ow b c ec).2.2
          cases c with
          | lst ds => obtain ⟨vs, q, _⟩ := q; rw [h] at q; cases q
          | pool => obtain ⟨x, y, q, _⟩ := q; rw [h] at q; cases q
          | dic kvs => obtain ⟨vs, q, _⟩ := q; rw [h] at q; cases q
          | dicL kvs o => obtain ⟨q, od, vs, rfl, _⟩ := q; rw [h] at q; cases q
          | exc cls fs => obtain ⟨o, d, q, ⟨φ, rfl, _⟩, _⟩ := q; rw [h] at q; cases q
          | ins C fs => obtain ⟨dx, vs, q, _⟩ := q; rw [h] at q; cases q
          | dicT kvs => obtain ⟨vs, q, _⟩ := q; rw [h] at q; cases q
        have hP : P b = none := by
          cases eP : P b with
          | none => rfl
          | some o =>
            have h1 := (g1.as b o eP).2
            rw [h] at h1; cases h1
            exact absurd rfl (g1.nt b _ eP _)
        have s2 : Same F1 (upd F1 b (.tup (l.map V.str))) := same_upd e
        refine ⟨_, s2, ⟨fun c x ex => ?_, fun c d ed => ?_, fun c u eu => ?_, M.mono g1.rl s2 (Same.refl _), g1.nt⟩, upd_same⟩
        · by_cases q : c = b
          · subst q; rw [upd_same] at ex; cases ex; exact h
          · rw [upd_ne q] at ex; exact g1.fz _ _ ex
        · have q : c ≠ b := fun z => hO d (by rw [← z]; exact ed)
          obtain ⟨h1, h2, h3⟩ := g1.ow c d ed
          exact ⟨(upd_ne q).trans h1, h2, h3.mono s2 rfl⟩
        · have q : c ≠ b := fun z => by rw [z, hP] at eu; cases eu
          obtain ⟨h1, h2⟩ := g1.as c u eu
          exact ⟨(upd_ne q).trans h1, h2⟩
    obtain ⟨F2, s2, g2, hb⟩ := key
    refine ⟨F2, s1.trans s2, g2, .cons ?_ (r1.mono s2)⟩
    simp only [Rep]
    exact ⟨b, rfl, by rw [kV_tsK]; exact hb⟩
theorem cd_sortedKT (hc : X.calm = true) (hu : X.A.units + 200 < cLine) : CallD M X (.builtin "sorted") rSortKT := by
  refine callD_of fun F P H O xs ds R Q g r q po => ?_
  unfold rSortKT at q
  split at q <;> first | exact q.elim | skip
  rename_i a
  split at q <;> first | exact q.elim | skip
  rename_i kvs e
  obtain ⟨L, h1, h2, h3⟩ := q
  obtain ⟨v, rfl, r1⟩ := r.one'
  simp only [Rep] at r1
  subst r1
  obtain ⟨vs, h4, h5⟩ := g.dicT e
  refine ⟨_, call_sortedT hc hu, a, vs, L, rfl, h4, by rw [h5.keys]; exact h1, h2, fun L' bs p hp hb hn => ?_⟩
  obtain ⟨F', s, g', r'⟩ := g.tups hb
  exact (po.more s).lst g' (h3 L' hp) r' hn
/-- a key among keys -/
def rInK (neg : Bool) : R2D := fun x y O Q => match deref O y with
  | .lst ds => isPy (un x) = true ∧ isPys (ds.map un1) = true ∧ dp (un x) ≤ 190 ∧ Q (.bl (neg ^^ (ds.map un1).any fun z => PyData.eqv (toPy z) (toPy (un x)))) O
  | _ => False
theorem od_inK_gen {op : CmpOp} {neg : Bool}
    (h2 : ∀ (pins : List (Addr × Obj)) (s : Shared) (σ : St) (H : Hp) (x y : V) (v u : Value) (Q : VK) (d : PyData) (ds : List PyData), Inv X pins σ H s → RelV x v → RelV y u → Dp X.K H x d → Dp X.K H y (.list ds) → d.canLay0 = true → PyData.canLayAll0 ds = true → d.depth ≤ 190 →
      Q (.bl (neg ^^ ds.any fun z => PyData.eqv z d)) H → wpAny (model X.prog X.w) X.A (compareOp op v u) (EP X pins σ Q) X.xe s) : OpD M X (compareOp op) (rInK neg) := by
  intro pins s σ H x y v u Q I rx ry q
  obtain ⟨F, O, P, dx, dy, R, g, r1, r2, q, po⟩ := q
  have e2 := g.deref r2
  unfold rInK at q
  revert q e2
  generalize hey : Kf.deref O dy = ey
  intro q e2
  cases ey <;> first | exact q.elim | skip
  obtain ⟨q1, q2, q3, q4⟩ := q
  obtain ⟨b, ys, rfl, b1, b2⟩ := e2
  refine h2 pins s σ H x _ v u Q _ _ I rx ry (Rep.dp g.fz _ _ q1 (rep_un r1)) (.lst (SqL.of b1) (RepAll.dp g.fz _ ys q2 (repAll_un1 b2))) (isPy_lay _ q1) (isPys_lay _ q2) q3 ?_
  rw [any_toPys]
  exact po.at g q4 (by simp only [Rep])
theorem od_inK (hu : X.A.units + 200 < cLine) : OpD M X (compareOp .In) (rInK false) := by
  refine od_inK_gen fun pins s σ H x y v u Q d ds I rx ry hd he c1 c2 c3 q => ?_
  obtain ⟨as, r1⟩ := Dp.reads I d x v hd rx
  obtain ⟨bs, r2⟩ := Dp.reads I (.list ds) y u he ry
  rw [Bool.false_xor] at q
  exact SeqAt.in_list_reads r2 r1 c2 c1 (by omega) ⟨.bl _, H, I, rfl, q⟩
/-- what a key is as a datum -/
theorem isPy_tsK {l : List Str} (h : ∀ s ∈ l, PyData.strOk s = true) : isPy (tupD (tsK l)) = true := by
  show isPys _ = true
  rw [isPys_all, List.all_eq_true]
  intro d hd
  unfold tsK at hd
  rw [List.map_map] at hd
  obtain ⟨s, hs, rfl⟩ := List.mem_map.mp hd
  exact h s hs
theorem toPy_tsK (l : List Str) : toPy (tupD (tsK l)) = encT l := by
  unfold tupD tsK encT
  simp only [toPy, toPys_map, List.map_map]; rfl
theorem eqv_strs : ∀ a b : List Str, PyData.eqvAll (a.map .str) (b.map .str) = decide (a = b)
  | [], [] => by simp [PyData.eqvAll]
  | [], _ :: _ => by simp [PyData.eqvAll]
  | _ :: _, [] => by simp [PyData.eqvAll]
  | x :: a, y :: b => by
    rw [List.map_cons, List.map_cons, PyData.eqvAll, eqv_strs a b, Bool.eq_iff_iff]
    simp [PyData.eqv]
theorem eqv_encT (a b : List Str) : PyData.eqv (encT a) (encT b) = decide (a = b) := by
  unfold encT
  rw [PyData.eqv, eqv_strs]
theorem dp_tsK (l : List Str) : dp (tupD (tsK l)) ≤ 190 := by
  unfold dp
  rw [toPy_tsK]
  have := depth_encT l
  omega
theorem rInK_of {neg : Bool} {l : List Str} {L : List (List Str)} {y : D} {O : Ow} {Q : VD} (hy : deref O y = .lst (L.map fun l => .tupK (tsK l))) (h : ∀ s ∈ l, PyData.strOk s = true) (hL : ∀ l ∈ L, ∀ s ∈ l, PyData.strOk s = true) (q : Q (.bl (neg ^^ decide (l ∈ L))) O) : rInK neg (.tupK (tsK l)) y O Q := by
  unfold rInK
  rw [hy]
  dsimp only
  rw [List.map_map]
  have e : (un1 ∘ fun l : List Str => D.tupK (tsK l)) = fun l => tupD (tsK l) := rfl
  rw [e]
  refine ⟨isPy_tsK h, ?_, dp_tsK l, ?_⟩
  · rw [isPys_all, List.all_eq_true]
    intro d hd
    obtain ⟨l', hl, rfl⟩ := List.mem_map.mp hd
    exact isPy_tsK (hL l' hl)
  · have e2 : ((L.map fun l => tupD (tsK l)).any fun z => PyData.eqv (toPy z) (toPy (un (.tupK (tsK l))))) = decide (l ∈ L) := by
      show ((L.map fun l => tupD (tsK l)).any fun z => PyData.eqv (toPy z) (toPy (tupD (tsK l)))) = _
      rw [List.any_map, Bool.eq_iff_iff, List.any_eq_true, decide_eq_true_iff]
      constructor
      · rintro ⟨z, hz, h⟩
        simp only [Function.comp, toPy_tsK, eqv_encT, decide_eq_true_iff] at h
        rw [← h]; exact hz
      · intro h
        exact ⟨l, h, by simp only [Function.comp, toPy_tsK, eqv_encT, decide_true]⟩
    rw [e2]
    exact q
theorem rEqK_of {neg : Bool} {a b : List Str} {O : Ow} {Q : VD} (h : ∀ s ∈ a, PyData.strOk s = true) (h' : ∀ s ∈ b, PyData.strOk s = true) (q : Q (.bl (neg ^^ decide (a = b))) O) : rEqD neg (un (.tupK (tsK a))) (un (.tupK (tsK b))) O Q := by
  show rEqD neg (tupD (tsK a)) (tupD (tsK b)) O Q
  unfold rEqD
  rw [ddf_py _ _ (isPy_tsK h), ddf_py _ _ (isPy_tsK h'), toPy_tsK, toPy_tsK, eqv_encT]
  refine ⟨isPy_tsK h, isPy_tsK h', ?_, q⟩
  have := dp_tsK a
  omega
/-- len of a dict -/
def rLenDc : RAD := fun ds O Q => match ds with
  | [.ref a] => match O a with
    | some (.dic kvs) => Q (.int kvs.length) O
    | _ => False
  | _ => False
theorem cd_lenDc : CallD M X (.builtin "len") rLenDc := by
  refine callD_of fun F P H O xs ds R Q g r q po => ?_
  unfold rLenDc at q
  split at q <;> first | exact q.elim | skip
  rename_i a
  split at q <;> first | exact q.elim | skip
  rename_i kvs e
  obtain ⟨v, rfl, r1⟩ := r.one'
  simp only [Rep] at r1
  subst r1
  obtain ⟨_, _, vs, h1, h2⟩ := g.ow a _ e
  exact ⟨_, call_lenD, a, vs, rfl, h1, po.at g q (by simp only [Rep]; rw [h2.length])⟩
end
theorem ap_fUnK (f : FE) {ρ : DEnv} {O : Ow} {Q : VD} : fUnK f ρ O Q = (f ρ O fun d O1 => Q (un d) O1) := rfl
theorem ap_fDicT {ρ : DEnv} {O : Ow} {Q : VD} : fDicT ρ O Q = (∀ p, O p = none → Q (.ref p) (updO O p (.dicT []))) := rfl
theorem ap_fMinLen (fa : FE) {ρ : DEnv} {O : Ow} {Q : VD} : fMinLen fa ρ O Q = (fa ρ O fun x O1 => rMinLen x O1 Q) := rfl
theorem isNon_k (ks : List Key) : isNon (.tupK ks) = false := rfl
theorem rKey_t {a : Addr} {kvs : List (List Key × D)} {ks : List Key} {O : Ow} {N : Option D → Prop} (h : O a = some (.dicT kvs)) : rKey (.ref a) (.tupK ks) O N = N (valD kvs ks) := by simp only [rKey, keyOf, rKeyT, h]
theorem rDPut_t {a : Addr} {kvs : List (List Key × D)} {ks : List Key} {d : D} {O : Ow} {N : Ow → Prop} (h : O a = some (.dicT kvs)) : rDPut (.ref a) (.tupK ks) d O N = (kvs.length < sizeLine ∧ N (updO O a (.dicT (putD kvs ks d)))) := by simp only [rDPut, keyOf, rDPutT, h]
theorem rLenDc_r {a : Addr} {kvs : List (Key × D)} {O : Ow} {Q : VD} (h : O a = some (.dic kvs)) : rLenDc [.ref a] O Q = Q (.int kvs.length) O := by simp only [rLenDc, h]
theorem rMinLen_l {L : List (List Key)} {x : D} {O : Ow} {Q : VD} (hx : deref O x = .lst (L.map .tupK)) (h0 : L = [] → Q .non O) (h : ∀ ks ∈ L, Q (.tupK ks) O) : rMinLen x O Q := by
  unfold rMinLen
  rw [hx]
  exact ⟨L, asTupK_map L, h0, h⟩
theorem rTupK_s {ts : List Str} {O : Ow} {Q : VD} (q : Q (.tupK (tsK ts)) O) : rTupK [.lst (ts.map .str)] O Q := by
  simp only [rTupK, deref]
  exact ⟨_, keysOf_str ts, q⟩
end Kf
namespace Kf
open PySem PySem.Spec L2
open PyProof.Rows hiding St
def topS (i : Nat) : Stmt := PySem.Challenge.pw_kindfill_k39_whole_nothing_bars_programs.main.body.getD i (.Pass ⟨0, 0, 0, 0⟩)
/-! ### is_mark -/
abbrev s_is_mark : Stmt := topS 3
abbrev N_is_mark : List Str := ["text", "sign"]
abbrev P_is_mark : List Str := ["text"]
theorem sc_is_mark : FnScope N_is_mark P_is_mark (defScope s_is_mark) := ⟨rfl, rfl, rfl, by decide +kernel, rfl, by decide +kernel, by decide +kernel⟩
def g_is_mark (d_LETTERS d_LONGEST : D) : GS :=
  (gSeq (gFor (fiStr (fVar 0)) (.nm 1) (gIf (fTest (fOp (rInD true) (fVar 1) (fC d_LETTERS))) (gRet (fC (.bl false))) gNext)) (gRet (fChain rLeD rLeD (fC (.int 1)) (fCB rLenD (fCons (fVar 0) fNil)) (fC d_LONGEST))))
theorem der_is_mark {P : Program} {w : World} {K : PySem.W.Frag} {mg : Str → Option Value} {base : Heap} {k : Nat} {f : Addr} {d_LETTERS d_LONGEST : D} (m_len : mg "len" = none) (c_LETTERS : Cst K mg "LETTERS" d_LETTERS) (c_LONGEST : Cst K mg "LONGEST" d_LONGEST)
    (cdv : Value) (A : Around) (outer : List Env) (s : Shared) (H : Hp) (E : XK) (hr : Room k (A.deeper (envOfC "is_mark" (defScope s_is_mark) s.heap.objs.size f cdv))) :
    DSs MT (cxOf CX0 P w K mg base N_is_mark "is_mark" (defScope s_is_mark) f cdv A outer s H E).nox (defBody s_is_mark) (g_is_mark d_LETTERS d_LONGEST) :=
  (dss_cons (ds_for PassesOwn.never rfl (di_str (de_var 0)) (dp_name (i := 1) sc_is_mark.nd (by rfl) (by first | exact Or.inl rfl | exact Or.inr rfl)) (dss_one (ds_if (dt_cmp (od_notin hr.u200) (de_var 1) (de_cst c_LETTERS (by rfl)) (by rfl)) (dss_one (ds_ret de_bl)) dss_nil))) (dss_one (ds_ret (de_chain od_le od_le de_int (de_callB cd_len (by rfl) m_len bb_len (da_cons (de_var 0) da_nil)) (de_cst c_LONGEST (by rfl))))))
/-! ### ends_of -/
abbrev s_ends_of : Stmt := topS 6
abbrev N_ends_of : List Str := ["kind", "taken", "mark"]
abbrev P_ends_of : List Str := ["kind"]
theorem sc_ends_of : FnScope N_ends_of P_ends_of (defScope s_ends_of) := ⟨rfl, rfl, rfl, by decide +kernel, rfl, by decide +kernel, by decide +kernel⟩
def g_ends_of (sp_ends_of : DSp) (d_ONE : D) : GS :=
  (gSeq (gIf (fTest (fOp (rEqD false) (fVar 0) (fC d_ONE))) (gRet (fLst fNil)) gNext) (gSeq (gIf (fTest (fOp (rEqD false) (fOp rIxD (fVar 0) (fC (.int 0))) (fC (.str "mark")))) (gRet (fLst (fCons (fTup (fCons (fLst fNil) (fCons (fOp rIxD (fVar 0) (fC (.int 1))) fNil))) fNil))) gNext) (gSeq (gIf (fTest (fOp (rEqD false) (fOp rIxD (fVar 0) (fC (.int 0))) (fC (.str "both")))) (gRet (fOp rAddD (fCall sp_ends_of (fCons (fOp rIxD (fVar 0) (fC (.int 1))) fNil)) (fCall sp_ends_of (fCons (fOp rIxD (fVar 0) (fC (.int 2))) fNil)))) gNext) (gRet (fLc (fiList (fCall sp_ends_of (fCons (fOp rIxD (fVar 0) (fC (.int 2))) fNil))) (.tp [(.nm 1), (.nm 2)]) fYes (fTup (fCons (fOp rAddD (fLst (fCons (fOp rIxD (fVar 0) (fC (.int 1))) fNil)) (fVar 1)) (fCons (fVar 2) fNil))) [1, 2])))))
theorem der_ends_of {P : Program} {w : World} {K : PySem.W.Frag} {mg : Str → Option Value} {base : Heap} {k : Nat} {f : Addr} {sp_ends_of : DSp} {d_ONE : D} {a_ends_of : Addr} {fd_ends_of : FuncData} (n_ends_of : Fn K mg "ends_of" s_ends_of P_ends_of a_ends_of fd_ends_of) (G_ends_of : FnOk P w K mg base CX0 k a_ends_of fd_ends_of P_ends_of (liftSp K sp_ends_of)) (c_ONE : Cst K mg "ONE" d_ONE)
    (cdv : Value) (A : Around) (outer : List Env) (s : Shared) (H : Hp) (E : XK) (hr : Room k (A.deeper (envOfC "ends_of" (defScope s_ends_of) s.heap.objs.size f cdv))) :
    DSs MT (cxOf CX0 P w K mg base N_ends_of "ends_of" (defScope s_ends_of) f cdv A outer s H E).nox (defBody s_ends_of) (g_ends_of sp_ends_of d_ONE) :=
  (dss_cons (ds_if (dt_cmp (od_eq hr.u200) (de_var 0) (de_cst c_ONE (by rfl)) (nomark _)) (dss_one (ds_ret (de_lst da_nil))) dss_nil) (dss_cons (ds_if (dt_cmp (od_eq hr.u200) (de_ix (de_var 0) de_int) de_str (nomark _)) (dss_one (ds_ret (de_lst (da_cons (de_tup (da_cons (de_lst da_nil) (da_cons (de_ix (de_var 0) de_int) da_nil))) da_nil)))) dss_nil) (dss_cons (ds_if (dt_cmp (od_eq hr.u200) (de_ix (de_var 0) de_int) de_str (nomark _)) (dss_one (ds_ret (de_op od_add (de_callN n_ends_of G_ends_of hr (by rfl) (da_cons (de_ix (de_var 0) de_int) da_nil)) (de_callN n_ends_of G_ends_of hr (by rfl) (da_cons (de_ix (de_var 0) de_int) da_nil))))) dss_nil) (dss_one (ds_ret (de_lc (by rfl) sc_ends_of.nd (di_list (de_callN n_ends_of G_ends_of hr (by rfl) (da_cons (de_ix (de_var 0) de_int) da_nil))) (blkOk_by (own := [("taken", 1), ("mark", 2)]) (N := N_ends_of) (sc := defScope s_ends_of) (by decide +kernel)) (fun _ _ _ _ _ => (dp_tup (by rfl) (dps_cons (dp_name (i := 1) sc_ends_of.nd (by rfl) (by first | exact Or.inl rfl | exact Or.inr rfl)) (dps_cons (dp_name (i := 2) sc_ends_of.nd (by rfl) (by first | exact Or.inl rfl | exact Or.inr rfl)) dps_nil)))) (fun _ _ _ _ _ => dts_nil) (fun _ _ _ _ _ => (de_tup (da_cons (de_op od_add (de_lst (da_cons (de_ix (de_var 0) de_int) da_nil)) (de_var 1)) (da_cons (de_var 2) da_nil))))))))))
/-! ### ways_of -/
abbrev s_ways_of : Stmt := topS 7
abbrev N_ways_of : List Str := ["kind", "found", "moves", "mark"]
abbrev P_ways_of : List Str := ["kind"]
theorem sc_ways_of : FnScope N_ways_of P_ways_of (defScope s_ways_of) := ⟨rfl, rfl, rfl, by decide +kernel, rfl, by decide +kernel, by decide +kernel⟩
def g_ways_of (sp_ways_of : DSp) (d_ONE : D) : GS :=
  (gSeq (gIf (fTest (fOp (rEqD false) (fVar 0) (fC d_ONE))) (gRet (fLst fNil)) gNext) (gSeq (gIf (fTest (fOp (rEqD false) (fOp rIxD (fVar 0) (fC (.int 0))) (fC (.str "mark")))) (gRet (fLst (fCons (fTup (fCons (fLst fNil) (fCons (fOp rIxD (fVar 0) (fC (.int 1))) fNil))) fNil))) gNext) (gSeq (gIf (fTest (fOp (rEqD false) (fOp rIxD (fVar 0) (fC (.int 0))) (fC (.str "to")))) (gRet (fLc (fiList (fCall sp_ways_of (fCons (fOp rIxD (fVar 0) (fC (.int 2))) fNil))) (.tp [(.nm 2), (.nm 3)]) fYes (fTup (fCons (fOp rAddD (fLst (fCons (fOp rIxD (fVar 0) (fC (.int 1))) fNil)) (fVar 2)) (fCons (fVar 3) fNil))) [2, 3])) gNext) (gSeq (gSet (fLc (fiList (fCall sp_ways_of (fCons (fOp rIxD (fVar 0) (fC (.int 1))) fNil))) (.tp [(.nm 2), (.nm 3)]) fYes (fTup (fCons (fOp rAddD (fLst (fCons (fC (.int 1)) fNil)) (fVar 2)) (fCons (fVar 3) fNil))) [2, 3]) 1) (gRet (fOp rAddD (fVar 1) (fLc (fiList (fCall sp_ways_of (fCons (fOp rIxD (fVar 0) (fC (.int 2))) fNil))) (.tp [(.nm 2), (.nm 3)]) fYes (fTup (fCons (fOp rAddD (fLst (fCons (fC (.int 2)) fNil)) (fVar 2)) (fCons (fVar 3) fNil))) [2, 3])))))))
theorem der_ways_of {P : Program} {w : World} {K : PySem.W.Frag} {mg : Str → Option Value} {base : Heap} {k : Nat} {f : Addr} {sp_ways_of : DSp} {d_ONE : D} {a_ways_of : Addr} {fd_ways_of : FuncData} (n_ways_of : Fn K mg "ways_of" s_ways_of P_ways_of a_ways_of fd_ways_of) (G_ways_of : FnOk P w K mg base CX0 k a_ways_of fd_ways_of P_ways_of (liftSp K sp_ways_of)) (c_ONE : Cst K mg "ONE" d_ONE)
    (cdv : Value) (A : Around) (outer : List Env) (s : Shared) (H : Hp) (E : XK) (hr : Room k (A.deeper (envOfC "ways_of" (defScope s_ways_of) s.heap.objs.size f cdv))) :
    DSs MT (cxOf CX0 P w K mg base N_ways_of "ways_of" (defScope s_ways_of) f cdv A outer s H E).nox (defBody s_ways_of) (g_ways_of sp_ways_of d_ONE) :=
  (dss_cons (ds_if (dt_cmp (od_eq hr.u200) (de_var 0) (de_cst c_ONE (by rfl)) (nomark _)) (dss_one (ds_ret (de_lst da_nil))) dss_nil) (dss_cons (ds_if (dt_cmp (od_eq hr.u200) (de_ix (de_var 0) de_int) de_str (nomark _)) (dss_one (ds_ret (de_lst (da_cons (de_tup (da_cons (de_lst da_nil) (da_cons (de_ix (de_var 0) de_int) da_nil))) da_nil)))) dss_nil) (dss_cons (ds_if (dt_cmp (od_eq hr.u200) (de_ix (de_var 0) de_int) de_str (nomark _)) (dss_one (ds_ret (de_lc (by rfl) sc_ways_of.nd (di_list (de_callN n_ways_of G_ways_of hr (by rfl) (da_cons (de_ix (de_var 0) de_int) da_nil))) (blkOk_by (own := [("moves", 2), ("mark", 3)]) (N := N_ways_of) (sc := defScope s_ways_of) (by decide +kernel)) (fun _ _ _ _ _ => (dp_tup (by rfl) (dps_cons (dp_name (i := 2) sc_ways_of.nd (by rfl) (by first | exact Or.inl rfl | exact Or.inr rfl)) (dps_cons (dp_name (i := 3) sc_ways_of.nd (by rfl) (by first | exact Or.inl rfl | exact Or.inr rfl)) dps_nil)))) (fun _ _ _ _ _ => dts_nil) (fun _ _ _ _ _ => (de_tup (da_cons (de_op od_add (de_lst (da_cons (de_ix (de_var 0) de_int) da_nil)) (de_var 2)) (da_cons (de_var 3) da_nil))))))) dss_nil) (dss_cons (ds_setLc (i := 1) rfl sc_ways_of.nd rfl rfl (sw_true rfl rfl rfl (by decide +kernel)) (di_list (de_callN n_ways_of G_ways_of hr (by rfl) (da_cons (de_ix (de_var 0) de_int) da_nil))) (blkOk_by (own := [("moves", 2), ("mark", 3)]) (N := N_ways_of) (sc := defScope s_ways_of) (by decide +kernel)) (fun _ _ _ _ _ => (dp_tup (by rfl) (dps_cons (dp_name (i := 2) sc_ways_of.nd (by rfl) (by first | exact Or.inl rfl | exact Or.inr rfl)) (dps_cons (dp_name (i := 3) sc_ways_of.nd (by rfl) (by first | exact Or.inl rfl | exact Or.inr rfl)) dps_nil)))) (fun _ _ _ _ _ => dts_nil) (fun _ _ _ _ _ => (de_tup (da_cons (de_op od_add (de_lst (da_cons de_int da_nil)) (de_var 2)) (da_cons (de_var 3) da_nil))))) (dss_one (ds_ret (de_op od_add (de_var 1) (de_lc (by rfl) sc_ways_of.nd (di_list (de_callN n_ways_of G_ways_of hr (by rfl) (da_cons (de_ix (de_var 0) de_int) da_nil))) (blkOk_by (own := [("moves", 2), ("mark", 3)]) (N := N_ways_of) (sc := defScope s_ways_of) (by decide +kernel)) (fun _ _ _ _ _ => (dp_tup (by rfl) (dps_cons (dp_name (i := 2) sc_ways_of.nd (by rfl) (by first | exact Or.inl rfl | exact Or.inr rfl)) (dps_cons (dp_name (i := 3) sc_ways_of.nd (by rfl) (by first | exact Or.inl rfl | exact Or.inr rfl)) dps_nil)))) (fun _ _ _ _ _ => dts_nil) (fun _ _ _ _ _ => (de_tup (da_cons (de_op od_add (de_lst (da_cons de_int da_nil)) (de_var 2)) (da_cons (de_var 3) da_nil))))))))))))
/-! ### shown_kind -/
abbrev s_shown_kind : Stmt := topS 9
abbrev N_shown_kind : List Str := ["kind", "sign"]
abbrev P_shown_kind : List Str := ["kind"]
theorem sc_shown_kind : FnScope N_shown_kind P_shown_kind (defScope s_shown_kind) := ⟨rfl, rfl, rfl, by decide +kernel, rfl, by decide +kernel, by decide +kernel⟩
def g_shown_kind (sp_shown_kind : DSp) (d_ONE : D) : GS :=
  (gSeq (gIf (fTest (fOp (rEqD false) (fVar 0) (fC d_ONE))) (gRet (fC (.str "1"))) gNext) (gSeq (gIf (fTest (fOp (rEqD false) (fOp rIxD (fVar 0) (fC (.int 0))) (fC (.str "mark")))) (gRet (fOp rIxD (fVar 0) (fC (.int 1)))) gNext) (gSeq (gSet (fC (.str "->")) 1) (gSeq (gIf (fTest (fOp (rEqD false) (fOp rIxD (fVar 0) (fC (.int 0))) (fC (.str "both")))) (gSet (fC (.str "*")) 1) gNext) (gRet (fOp rAddD (fOp rAddD (fOp rAddD (fOp rAddD (fOp rAddD (fOp rAddD (fC (.str "( ")) (fCall sp_shown_kind (fCons (fOp rIxD (fVar 0) (fC (.int 1))) fNil))) (fC (.str " "))) (fVar 1)) (fC (.str " "))) (fCall sp_shown_kind (fCons (fOp rIxD (fVar 0) (fC (.int 2))) fNil))) (fC (.str " )"))))))))
theorem der_shown_kind {P : Program} {w : World} {K : PySem.W.Frag} {mg : Str → Option Value} {base : Heap} {k : Nat} {f : Addr} {sp_shown_kind : DSp} {d_ONE : D} {a_shown_kind : Addr} {fd_shown_kind : FuncData} (n_shown_kind : Fn K mg "shown_kind" s_shown_kind P_shown_kind a_shown_kind fd_shown_kind) (G_shown_kind : FnOk P w K mg base CX0 k a_shown_kind fd_shown_kind P_shown_kind (liftSp K sp_shown_kind)) (c_ONE : Cst K mg "ONE" d_ONE)
    (cdv : Value) (A : Around) (outer : List Env) (s : Shared) (H : Hp) (E : XK) (hr : Room k (A.deeper (envOfC "shown_kind" (defScope s_shown_kind) s.heap.objs.size f cdv))) :
    DSs MT (cxOf CX0 P w K mg base N_shown_kind "shown_kind" (defScope s_shown_kind) f cdv A outer s H E).nox (defBody s_shown_kind) (g_shown_kind sp_shown_kind d_ONE) :=
  (dss_cons (ds_if (dt_cmp (od_eq hr.u200) (de_var 0) (de_cst c_ONE (by rfl)) (nomark _)) (dss_one (ds_ret de_str)) dss_nil) (dss_cons (ds_if (dt_cmp (od_eq hr.u200) (de_ix (de_var 0) de_int) de_str (nomark _)) (dss_one (ds_ret (de_ix (de_var 0) de_int))) dss_nil) (dss_cons (ds_set (i := 1) sc_shown_kind.nd rfl (by first | exact Or.inl rfl | exact Or.inr rfl) de_str) (dss_cons (ds_if (dt_cmp (od_eq hr.u200) (de_ix (de_var 0) de_int) de_str (nomark _)) (dss_one (ds_set (i := 1) sc_shown_kind.nd rfl (by first | exact Or.inl rfl | exact Or.inr rfl) de_str)) dss_nil) (dss_one (ds_ret (de_op od_add (de_op od_add (de_op od_add (de_op od_add (de_op od_add (de_op od_add de_str (de_callN n_shown_kind G_shown_kind hr (by rfl) (da_cons (de_ix (de_var 0) de_int) da_nil))) de_str) (de_var 1)) de_str) (de_callN n_shown_kind G_shown_kind hr (by rfl) (da_cons (de_ix (de_var 0) de_int) da_nil))) de_str)))))))
/-! ### are_marks -/
abbrev s_are_marks : Stmt := topS 12
abbrev N_are_marks : List Str := ["thing", "last", "mark"]
abbrev P_are_marks : List Str := ["thing"]
theorem sc_are_marks : FnScope N_are_marks P_are_marks (defScope s_are_marks) := ⟨rfl, rfl, rfl, by decide +kernel, rfl, by decide +kernel, by decide +kernel⟩
def g_are_marks (sp_is_mark : DSp) : GS :=
  (gSeq (gIf (fNot (fTest (fCB rIsiD (fCons (fVar 0) (fCons (fC (.ty "list")) fNil))))) (gRet (fC (.bl false))) gNext) (gSeq (gSet (fC (.str "")) 1) (gSeq (gFor (fiList (fVar 0)) (.nm 2) (gSeq (gIf (fOr (fNot (fTest (fCB rIsiD (fCons (fVar 2) (fCons (fC (.ty "str")) fNil))))) (fOr (fNot (fTest (fCall sp_is_mark (fCons (fVar 2) fNil)))) (fTest (fOp rLeD (fVar 2) (fVar 1))))) (gRet (fC (.bl false))) gNext) (gSet (fVar 2) 1))) (gRet (fC (.bl true))))))
theorem der_are_marks {P : Program} {w : World} {K : PySem.W.Frag} {mg : Str → Option Value} {base : Heap} {k : Nat} {f : Addr} {sp_is_mark : DSp} {a_is_mark : Addr} {fd_is_mark : FuncData} (n_is_mark : Fn K mg "is_mark" s_is_mark P_is_mark a_is_mark fd_is_mark) (G_is_mark : FnOk P w K mg base CX0 k a_is_mark fd_is_mark P_is_mark (liftSp K sp_is_mark)) (m_list : mg "list" = none) (m_isinstance : mg "isinstance" = none) (m_str : mg "str" = none)
    (cdv : Value) (A : Around) (outer : List Env) (s : Shared) (H : Hp) (E : XK) (hr : Room k (A.deeper (envOfC "are_marks" (defScope s_are_marks) s.heap.objs.size f cdv))) :
    DSs MT (cxOf CX0 P w K mg base N_are_marks "are_marks" (defScope s_are_marks) f cdv A outer s H E).nox (defBody s_are_marks) (g_are_marks sp_is_mark) :=
  (dss_cons (ds_if (dt_not (dt_val (de_callB cd_isi (by rfl) m_isinstance bb_isinstance (da_cons (de_var 0) (da_cons (de_ty bb_list m_list (by rfl)) da_nil))))) (dss_one (ds_ret de_bl)) dss_nil) (dss_cons (ds_set (i := 1) sc_are_marks.nd rfl (by first | exact Or.inl rfl | exact Or.inr rfl) de_str) (dss_cons (ds_for PassesOwn.never rfl (di_list (de_var 0)) (dp_name (i := 2) sc_are_marks.nd (by rfl) (by first | exact Or.inl rfl | exact Or.inr rfl)) (dss_cons (ds_if (dt_of (dw_or (dt_not (dt_val (de_callB cd_isi (by rfl) m_isinstance bb_isinstance (da_cons (de_var 2) (da_cons (de_ty bb_str m_str (by rfl)) da_nil))))) (dw_or (dt_not (dt_val (de_callN n_is_mark G_is_mark hr (by rfl) (da_cons (de_var 2) da_nil)))) (dw_or1 (dt_cmp od_le (de_var 2) (de_var 1) (nomark _)))))) (dss_one (ds_ret de_bl)) dss_nil) (dss_one (ds_set (i := 1) sc_are_marks.nd rfl (by first | exact Or.inl rfl | exact Or.inr rfl) (de_var 2))))) (dss_one (ds_ret de_bl)))))
/-! ### has_tree_form -/
abbrev s_has_tree_form : Stmt := topS 13
abbrev N_has_tree_form : List Str := ["thing", "room", "marks", "trees", "tree", "mark"]
abbrev P_has_tree_form : List Str := ["thing", "room"]
theorem sc_has_tree_form : FnScope N_has_tree_form P_has_tree_form (defScope s_has_tree_form) := ⟨rfl, rfl, rfl, by decide +kernel, rfl, by decide +kernel, by decide +kernel⟩
def g_has_tree_form (sp_are_marks sp_has_tree_form : DSp) : GS :=
  (gSeq (gIf (fOr (fTest (fOp rLtD (fVar 1) (fC (.int 1)))) (fOr (fNot (fTest (fCB rIsiD (fCons (fVar 0) (fCons (fC (.ty "tuple")) fNil))))) (fTest (fOp (rEqD true) (fCB rLenD (fCons (fVar 0) fNil)) (fC (.int 2)))))) (gRet (fC (.bl false))) gNext) (gSeq (gAsg (fVar 0) (.tp [(.nm 2), (.nm 3)])) (gSeq (gIf (fOr (fNot (fTest (fCall sp_are_marks (fCons (fVar 2) fNil)))) (fNot (fTest (fCB rIsiD (fCons (fVar 3) (fCons (fC (.ty "list")) fNil)))))) (gRet (fC (.bl false))) gNext) (gSeq (gFor (fiList (fVar 3)) (.nm 4) (gSeq (gIf (fNot (fTest (fCall sp_has_tree_form (fCons (fVar 4) (fCons (fOp rSubD (fVar 1) (fC (.int 1))) fNil))))) (gRet (fC (.bl false))) gNext) (gIf (fTest (fOp (rEqD true) (fLc (fiList (fVar 2)) (.nm 5) (fTest (fOp (rInD true) (fVar 5) (fOp rIxD (fVar 4) (fC (.int 0))))) (fVar 5) [5]) (fLst fNil))) (gRet (fC (.bl false))) gNext))) (gRet (fC (.bl true)))))))
theorem der_has_tree_form {P : Program} {w : World} {K : PySem.W.Frag} {mg : Str → Option Value} {base : Heap} {k : Nat} {f : Addr} {sp_are_marks sp_has_tree_form : DSp} {a_are_marks : Addr} {fd_are_marks : FuncData} (n_are_marks : Fn K mg "are_marks" s_are_marks P_are_marks a_are_marks fd_are_marks) (G_are_marks : FnOk P w K mg base CX0 k a_are_marks fd_are_marks P_are_marks (liftSp K sp_are_marks)) {a_has_tree_form : Addr} {fd_has_tree_form : FuncData} (n_has_tree_form : Fn K mg "has_tree_form" s_has_tree_form P_has_tree_form a_has_tree_form fd_has_tree_form) (G_has_tree_form : FnOk P w K mg base CX0 k a_has_tree_form fd_has_tree_form P_has_tree_form (liftSp K sp_has_tree_form)) (m_tuple : mg "tuple" = none) (m_isinstance : mg "isinstance" = none) (m_len : mg "len" = none) (m_list : mg "list" = none)
    (cdv : Value) (A : Around) (outer : List Env) (s : Shared) (H : Hp) (E : XK) (hr : Room k (A.deeper (envOfC "has_tree_form" (defScope s_has_tree_form) s.heap.objs.size f cdv))) :
    DSs MT (cxOf CX0 P w K mg base N_has_tree_form "has_tree_form" (defScope s_has_tree_form) f cdv A outer s H E).nox (defBody s_has_tree_form) (g_has_tree_form sp_are_marks sp_has_tree_form) :=
  (dss_cons (ds_if (dt_of (dw_or (dt_cmp od_lt (de_var 1) de_int (nomark _)) (dw_or (dt_not (dt_val (de_callB cd_isi (by rfl) m_isinstance bb_isinstance (da_cons (de_var 0) (da_cons (de_ty bb_tuple m_tuple (by rfl)) da_nil))))) (dw_or1 (dt_cmp (od_ne hr.u200) (de_callB cd_len (by rfl) m_len bb_len (da_cons (de_var 0) da_nil)) de_int (nomark _)))))) (dss_one (ds_ret de_bl)) dss_nil) (dss_cons (ds_asg (de_var 0) (dp_tup (by rfl) (dps_cons (dp_name (i := 2) sc_has_tree_form.nd (by rfl) (by first | exact Or.inl rfl | exact Or.inr rfl)) (dps_cons (dp_name (i := 3) sc_has_tree_form.nd (by rfl) (by first | exact Or.inl rfl | exact Or.inr rfl)) dps_nil)))) (dss_cons (ds_if (dt_of (dw_or (dt_not (dt_val (de_callN n_are_marks G_are_marks hr (by rfl) (da_cons (de_var 2) da_nil)))) (dw_or1 (dt_not (dt_val (de_callB cd_isi (by rfl) m_isinstance bb_isinstance (da_cons (de_var 3) (da_cons (de_ty bb_list m_list (by rfl)) da_nil)))))))) (dss_one (ds_ret de_bl)) dss_nil) (dss_cons (ds_for PassesOwn.never rfl (di_list (de_var 3)) (dp_name (i := 4) sc_has_tree_form.nd (by rfl) (by first | exact Or.inl rfl | exact Or.inr rfl)) (dss_cons (ds_if (dt_not (dt_val (de_callN n_has_tree_form G_has_tree_form hr (by rfl) (da_cons (de_var 4) (da_cons (de_op od_sub (de_var 1) de_int) da_nil))))) (dss_one (ds_ret de_bl)) dss_nil) (dss_one (ds_if (dt_cmp (od_ne hr.u200) (de_lc (by rfl) sc_has_tree_form.nd (di_list (de_var 2)) (blkOk_by (own := [("mark", 5)]) (N := N_has_tree_form) (sc := defScope s_has_tree_form) (by decide +kernel)) (fun _ _ _ _ _ => (dp_name (i := 5) sc_has_tree_form.nd (by rfl) (by first | exact Or.inl rfl | exact Or.inr rfl))) (fun _ _ _ _ _ => (dts_one (dt_cmp (od_notin hr.u200) (de_var 5) (de_ix (de_var 4) de_int) (by rfl)))) (fun _ _ _ _ _ => (de_var 5))) (de_lst da_nil) (nomark _)) (dss_one (ds_ret de_bl)) dss_nil)))) (dss_one (ds_ret de_bl))))))
/-! ### is_tree -/
abbrev s_is_tree : Stmt := topS 14
abbrev N_is_tree : List Str := ["thing"]
abbrev P_is_tree : List Str := ["thing"]
theorem sc_is_tree : FnScope N_is_tree P_is_tree (defScope s_is_tree) := ⟨rfl, rfl, rfl, by decide +kernel, rfl, by decide +kernel, by decide +kernel⟩
def g_is_tree (sp_has_tree_form : DSp) (d_DEEPEST : D) : GS :=
  (gRet (fCall sp_has_tree_form (fCons (fVar 0) (fCons (fC d_DEEPEST) fNil))))
theorem der_is_tree {P : Program} {w : World} {K : PySem.W.Frag} {mg : Str → Option Value} {base : Heap} {k : Nat} {f : Addr} {sp_has_tree_form : DSp} {d_DEEPEST : D} {a_has_tree_form : Addr} {fd_has_tree_form : FuncData} (n_has_tree_form : Fn K mg "has_tree_form" s_has_tree_form P_has_tree_form a_has_tree_form fd_has_tree_form) (G_has_tree_form : FnOk P w K mg base CX0 k a_has_tree_form fd_has_tree_form P_has_tree_form (liftSp K sp_has_tree_form)) (c_DEEPEST : Cst K mg "DEEPEST" d_DEEPEST)
    (cdv : Value) (A : Around) (outer : List Env) (s : Shared) (H : Hp) (E : XK) (hr : Room k (A.deeper (envOfC "is_tree" (defScope s_is_tree) s.heap.objs.size f cdv))) :
    DSs MT (cxOf CX0 P w K mg base N_is_tree "is_tree" (defScope s_is_tree) f cdv A outer s H E).nox (defBody s_is_tree) (g_is_tree sp_has_tree_form d_DEEPEST) :=
  (dss_one (ds_ret (de_callN n_has_tree_form G_has_tree_form hr (by rfl) (da_cons (de_var 0) (da_cons (de_cst c_DEEPEST (by rfl)) da_nil)))))
/-! ### put_worlds -/
abbrev s_put_worlds : Stmt := topS 15
abbrev N_put_worlds : List Str := ["tree", "found", "place", "one"]
abbrev P_put_worlds : List Str := ["tree", "found"]
theorem sc_put_worlds : FnScope N_put_worlds P_put_worlds (defScope s_put_worlds) := ⟨rfl, rfl, rfl, by decide +kernel, rfl, by decide +kernel, by decide +kernel⟩
def g_put_worlds (sp_put_worlds : DSp) : GS :=
  (gSeq (gSet (fCB rLenD (fCons (fVar 1) fNil)) 2) (gSeq (gDrop (fBM "list" rAppendD (fVar 1) (fCons (fTup (fCons (fOp rIxD (fVar 0) (fC (.int 0))) (fCons (fC (.int 0)) fNil))) fNil))) (gSeq (gFor (fiList (fOp rIxD (fVar 0) (fC (.int 1)))) (.nm 3) (gDrop (fCall sp_put_worlds (fCons (fVar 3) (fCons (fVar 1) fNil))))) (gSetIx (fVar 1) (fVar 2) (fTup (fCons (fOp rIxD (fVar 0) (fC (.int 0))) (fCons (fCB rLenD (fCons (fVar 1) fNil)) fNil)))))))
theorem der_put_worlds {P : Program} {w : World} {K : PySem.W.Frag} {mg : Str → Option Value} {base : Heap} {k : Nat} {f : Addr} {sp_put_worlds : DSp} {a_put_worlds : Addr} {fd_put_worlds : FuncData} (n_put_worlds : Fn K mg "put_worlds" s_put_worlds P_put_worlds a_put_worlds fd_put_worlds) (G_put_worlds : FnOk P w K mg base CX0 k a_put_worlds fd_put_worlds P_put_worlds (liftSp K sp_put_worlds)) (m_len : mg "len" = none)
    (cdv : Value) (A : Around) (outer : List Env) (s : Shared) (H : Hp) (E : XK) (hr : Room k (A.deeper (envOfC "put_worlds" (defScope s_put_worlds) s.heap.objs.size f cdv))) :
    DSs MT (cxOf CX0 P w K mg base N_put_worlds "put_worlds" (defScope s_put_worlds) f cdv A outer s H E).nox (defBody s_put_worlds) (g_put_worlds sp_put_worlds) :=
  (dss_cons (ds_set (i := 2) sc_put_worlds.nd rfl (by first | exact Or.inl rfl | exact Or.inr rfl) (de_callB cd_len (by rfl) m_len bb_len (da_cons (de_var 1) da_nil))) (dss_cons (ds_expr (de_bm PySem.F.plainAttrs_list PySem.F.slot_list_append PySem.F.type_list_append md_append (de_var 1) (da_cons (de_tup (da_cons (de_ix (de_var 0) de_int) (da_cons de_int da_nil))) da_nil))) (dss_cons (ds_for PassesOwn.never rfl (di_list (de_ix (de_var 0) de_int)) (dp_name (i := 3) sc_put_worlds.nd (by rfl) (by first | exact Or.inl rfl | exact Or.inr rfl)) (dss_one (ds_expr (de_callN n_put_worlds G_put_worlds hr (by rfl) (da_cons (de_var 3) (da_cons (de_var 1) da_nil)))))) (dss_one (ds_setIx (de_var 1) (de_var 2) (de_tup (da_cons (de_ix (de_var 0) de_int) (da_cons (de_callB cd_len (by rfl) m_len bb_len (da_cons (de_var 1) da_nil)) da_nil))))))))
/-! ### worlds_in -/
abbrev s_worlds_in : Stmt := topS 16
abbrev N_worlds_in : List Str := ["tree", "found"]
abbrev P_worlds_in : List Str := ["tree"]
theorem sc_worlds_in : FnScope N_worlds_in P_worlds_in (defScope s_worlds_in) := ⟨rfl, rfl, rfl, by decide +kernel, rfl, by decide +kernel, by decide +kernel⟩
def g_worlds_in (sp_put_worlds : DSp) : GS :=
  (gSeq (gSet (fLstO fNil) 1) (gSeq (gDrop (fCall sp_put_worlds (fCons (fVar 0) (fCons (fVar 1) fNil)))) (gRetF (fVar 1))))
theorem der_worlds_in {P : Program} {w : World} {K : PySem.W.Frag} {mg : Str → Option Value} {base : Heap} {k : Nat} {f : Addr} {sp_put_worlds : DSp} {a_put_worlds : Addr} {fd_put_worlds : FuncData} (n_put_worlds : Fn K mg "put_worlds" s_put_worlds P_put_worlds a_put_worlds fd_put_worlds) (G_put_worlds : FnOk P w K mg base CX0 k a_put_worlds fd_put_worlds P_put_worlds (liftSp K sp_put_worlds))
    (cdv : Value) (A : Around) (outer : List Env) (s : Shared) (H : Hp) (E : XK) (hr : Room k (A.deeper (envOfC "worlds_in" (defScope s_worlds_in) s.heap.objs.size f cdv))) :
    DSs MT (cxOf CX0 P w K mg base N_worlds_in "worlds_in" (defScope s_worlds_in) f cdv A outer s H E).nox (defBody s_worlds_in) (g_worlds_in sp_put_worlds) :=
  (dss_cons (ds_set (i := 1) sc_worlds_in.nd rfl (by first | exact Or.inl rfl | exact Or.inr rfl) (de_lstO da_nil)) (dss_cons (ds_expr (de_callN n_put_worlds G_put_worlds hr (by rfl) (da_cons (de_var 0) (da_cons (de_var 1) da_nil)))) (dss_one (ds_retF (de_var 1)))))
/-! ### led_on -/
abbrev s_led_on : Stmt := topS 17
abbrev N_led_on : List Str := ["worlds", "some", "others", "found", "amiss", "place"]
abbrev P_led_on : List Str := ["worlds", "some", "others"]
theorem sc_led_on : FnScope N_led_on P_led_on (defScope s_led_on) := ⟨rfl, rfl, rfl, by decide +kernel, rfl, by decide +kernel, by decide +kernel⟩
def g_led_on : GS :=
  (gSeq (gSet (fLstO fNil) 3) (gSeq (gSet (fCB rLenD (fCons (fVar 0) fNil)) 4) (gSeq (gFor (fiRevR (fCB rLenD (fCons (fVar 0) fNil))) (.nm 5) (gSeq (gIf (fAnd (fTest (fOp rIxD (fVar 1) (fVar 5))) (fNot (fTest (fOp rIxD (fVar 2) (fVar 5))))) (gSet (fVar 5) 4) gNext) (gDrop (fBM "list" rAppendD (fVar 3) (fCons (fOp rGeD (fVar 4) (fOp rIxD (fOp rIxD (fVar 0) (fVar 5)) (fC (.int 1)))) fNil))))) (gRet (fRev (fVar 3) (fPart (fUn rNeg (fC (.int 1)))))))))
theorem der_led_on {P : Program} {w : World} {K : PySem.W.Frag} {mg : Str → Option Value} {base : Heap} {k : Nat} {f : Addr} (m_len : mg "len" = none) (m_reversed : mg "reversed" = none) (m_range : mg "range" = none)
    (cdv : Value) (A : Around) (outer : List Env) (s : Shared) (H : Hp) (E : XK) (hr : Room k (A.deeper (envOfC "led_on" (defScope s_led_on) s.heap.objs.size f cdv))) :
    DSs MT (cxOf CX0 P w K mg base N_led_on "led_on" (defScope s_led_on) f cdv A outer s H E).nox (defBody s_led_on) (g_led_on) :=
  (dss_cons (ds_set (i := 3) sc_led_on.nd rfl (by first | exact Or.inl rfl | exact Or.inr rfl) (de_lstO da_nil)) (dss_cons (ds_set (i := 4) sc_led_on.nd rfl (by first | exact Or.inl rfl | exact Or.inr rfl) (de_callB cd_len (by rfl) m_len bb_len (da_cons (de_var 0) da_nil))) (dss_cons (ds_for PassesOwn.never rfl (di_revR (by rfl) m_reversed (by rfl) m_range (de_callB cd_len (by rfl) m_len bb_len (da_cons (de_var 0) da_nil))) (dp_name (i := 5) sc_led_on.nd (by rfl) (by first | exact Or.inl rfl | exact Or.inr rfl)) (dss_cons (ds_if (dt_of (dw_and (dt_val (de_ix (de_var 1) (de_var 5))) (dw_and1 (dt_not (dt_val (de_ix (de_var 2) (de_var 5))))))) (dss_one (ds_set (i := 4) sc_led_on.nd rfl (by first | exact Or.inl rfl | exact Or.inr rfl) (de_var 5))) dss_nil) (dss_one (ds_expr (de_bm PySem.F.plainAttrs_list PySem.F.slot_list_append PySem.F.type_list_append md_append (de_var 3) (da_cons (de_cmp od_ge (de_var 4) (de_ix (de_ix (de_var 0) (de_var 5)) de_int) (nomark _)) da_nil)))))) (dss_one (ds_ret (de_rev (de_var 3) (do_some (de_neg de_int))))))))
/-! ### truths -/
abbrev s_truths : Stmt := topS 18
abbrev N_truths : List Str := ["worlds", "kind", "some", "others", "world", "marks", "behind", "one", "other"]
abbrev P_truths : List Str := ["worlds", "kind"]
theorem sc_truths : FnScope N_truths P_truths (defScope s_truths) := ⟨rfl, rfl, rfl, by decide +kernel, rfl, by decide +kernel, by decide +kernel⟩
def g_truths (sp_truths sp_led_on : DSp) (d_ONE : D) : GS :=
  (gSeq (gIf (fTest (fOp (rEqD false) (fVar 1) (fC d_ONE))) (gRet (fLc (fiList (fVar 0)) (.nm 4) fYes (fC (.bl true)) [4])) gNext) (gSeq (gIf (fTest (fOp (rEqD false) (fOp rIxD (fVar 1) (fC (.int 0))) (fC (.str "mark")))) (gRet (fLc (fiList (fVar 0)) (.tp [(.nm 5), (.nm 6)]) fYes (fOp (rInD false) (fOp rIxD (fVar 1) (fC (.int 1))) (fVar 5)) [5, 6])) gNext) (gSeq (gSet (fCall sp_truths (fCons (fVar 0) (fCons (fOp rIxD (fVar 1) (fC (.int 1))) fNil))) 2) (gSeq (gSet (fCall sp_truths (fCons (fVar 0) (fCons (fOp rIxD (fVar 1) (fC (.int 2))) fNil))) 3) (gSeq (gIf (fTest (fOp (rEqD false) (fOp rIxD (fVar 1) (fC (.int 0))) (fC (.str "both")))) (gRet (fLc (fiZip (fCons (fVar 2) (fCons (fVar 3) fNil))) (.tp [(.nm 7), (.nm 8)]) fYes (fAndV (fVar 7) (fVar 8)) [7, 8])) gNext) (gRet (fCall sp_led_on (fCons (fVar 0) (fCons (fVar 2) (fCons (fVar 3) fNil))))))))))
theorem der_truths {P : Program} {w : World} {K : PySem.W.Frag} {mg : Str → Option Value} {base : Heap} {k : Nat} {f : Addr} {sp_truths sp_led_on : DSp} {d_ONE : D} {a_truths : Addr} {fd_truths : FuncData} (n_truths : Fn K mg "truths" s_truths P_truths a_truths fd_truths) (G_truths : FnOk P w K mg base CX0 k a_truths fd_truths P_truths (liftSp K sp_truths)) {a_led_on : Addr} {fd_led_on : FuncData} (n_led_on : Fn K mg "led_on" s_led_on P_led_on a_led_on fd_led_on) (G_led_on : FnOk P w K mg base CX0 k a_led_on fd_led_on P_led_on (liftSp K sp_led_on)) (m_zip : mg "zip" = none) (c_ONE : Cst K mg "ONE" d_ONE)
    (cdv : Value) (A : Around) (outer : List Env) (s : Shared) (H : Hp) (E : XK) (hr : Room k (A.deeper (envOfC "truths" (defScope s_truths) s.heap.objs.size f cdv))) :
    DSs MT (cxOf CX0 P w K mg base N_truths "truths" (defScope s_truths) f cdv A outer s H E).nox (defBody s_truths) (g_truths sp_truths sp_led_on d_ONE) :=
  (dss_cons (ds_if (dt_cmp (od_eq hr.u200) (de_var 1) (de_cst c_ONE (by rfl)) (nomark _)) (dss_one (ds_ret (de_lc (by rfl) sc_truths.nd (di_list (de_var 0)) (blkOk_by (own := [("world", 4)]) (N := N_truths) (sc := defScope s_truths) (by decide +kernel)) (fun _ _ _ _ _ => (dp_name (i := 4) sc_truths.nd (by rfl) (by first | exact Or.inl rfl | exact Or.inr rfl))) (fun _ _ _ _ _ => dts_nil) (fun _ _ _ _ _ => de_bl)))) dss_nil) (dss_cons (ds_if (dt_cmp (od_eq hr.u200) (de_ix (de_var 1) de_int) de_str (nomark _)) (dss_one (ds_ret (de_lc (by rfl) sc_truths.nd (di_list (de_var 0)) (blkOk_by (own := [("marks", 5), ("behind", 6)]) (N := N_truths) (sc := defScope s_truths) (by decide +kernel)) (fun _ _ _ _ _ => (dp_tup (by rfl) (dps_cons (dp_name (i := 5) sc_truths.nd (by rfl) (by first | exact Or.inl rfl | exact Or.inr rfl)) (dps_cons (dp_name (i := 6) sc_truths.nd (by rfl) (by first | exact Or.inl rfl | exact Or.inr rfl)) dps_nil)))) (fun _ _ _ _ _ => dts_nil) (fun _ _ _ _ _ => (de_cmp (od_in hr.u200) (de_ix (de_var 1) de_int) (de_var 5) (by rfl)))))) dss_nil) (dss_cons (ds_set (i := 2) sc_truths.nd rfl (by first | exact Or.inl rfl | exact Or.inr rfl) (de_callN n_truths G_truths hr (by rfl) (da_cons (de_var 0) (da_cons (de_ix (de_var 1) de_int) da_nil)))) (dss_cons (ds_set (i := 3) sc_truths.nd rfl (by first | exact Or.inl rfl | exact Or.inr rfl) (de_callN n_truths G_truths hr (by rfl) (da_cons (de_var 0) (da_cons (de_ix (de_var 1) de_int) da_nil)))) (dss_cons (ds_if (dt_cmp (od_eq hr.u200) (de_ix (de_var 1) de_int) de_str (nomark _)) (dss_one (ds_ret (de_lc (by rfl) sc_truths.nd (di_zip (by rfl) m_zip (da_cons (de_var 2) (da_cons (de_var 3) da_nil))) (blkOk_by (own := [("one", 7), ("other", 8)]) (N := N_truths) (sc := defScope s_truths) (by decide +kernel)) (fun _ _ _ _ _ => (dp_tup (by rfl) (dps_cons (dp_name (i := 7) sc_truths.nd (by rfl) (by first | exact Or.inl rfl | exact Or.inr rfl)) (dps_cons (dp_name (i := 8) sc_truths.nd (by rfl) (by first | exact Or.inl rfl | exact Or.inr rfl)) dps_nil)))) (fun _ _ _ _ _ => dts_nil) (fun _ _ _ _ _ => (de_and (de_var 7) (de_one (de_var 8))))))) dss_nil) (dss_one (ds_ret (de_callN n_led_on G_led_on hr (by rfl) (da_cons (de_var 0) (da_cons (de_var 2) (da_cons (de_var 3) da_nil)))))))))))
/-! ### holds -/
abbrev s_holds : Stmt := topS 19
abbrev N_holds : List Str := ["tree", "kind"]
abbrev P_holds : List Str := ["tree", "kind"]
theorem sc_holds : FnScope N_holds P_holds (defScope s_holds) := ⟨rfl, rfl, rfl, by decide +kernel, rfl, by decide +kernel, by decide +kernel⟩
def g_holds (sp_truths sp_worlds_in : DSp) : GS :=
  (gRet (fOp rIxD (fCall sp_truths (fCons (fCall sp_worlds_in (fCons (fVar 0) fNil)) (fCons (fVar 1) fNil))) (fC (.int 0))))
theorem der_holds {P : Program} {w : World} {K : PySem.W.Frag} {mg : Str → Option Value} {base : Heap} {k : Nat} {f : Addr} {sp_truths sp_worlds_in : DSp} {a_truths : Addr} {fd_truths : FuncData} (n_truths : Fn K mg "truths" s_truths P_truths a_truths fd_truths) (G_truths : FnOk P w K mg base CX0 k a_truths fd_truths P_truths (liftSp K sp_truths)) {a_worlds_in : Addr} {fd_worlds_in : FuncData} (n_worlds_in : Fn K mg "worlds_in" s_worlds_in P_worlds_in a_worlds_in fd_worlds_in) (G_worlds_in : FnOk P w K mg base CX0 k a_worlds_in fd_worlds_in P_worlds_in (liftSp K sp_worlds_in))
    (cdv : Value) (A : Around) (outer : List Env) (s : Shared) (H : Hp) (E : XK) (hr : Room k (A.deeper (envOfC "holds" (defScope s_holds) s.heap.objs.size f cdv))) :
    DSs MT (cxOf CX0 P w K mg base N_holds "holds" (defScope s_holds) f cdv A outer s H E).nox (defBody s_holds) (g_holds sp_truths sp_worlds_in) :=
  (dss_one (ds_ret (de_ix (de_callN n_truths G_truths hr (by rfl) (da_cons (de_callN n_worlds_in G_worlds_in hr (by rfl) (da_cons (de_var 0) da_nil)) (da_cons (de_var 1) da_nil))) de_int)))
/-! ### bars -/
abbrev s_bars : Stmt := topS 21
abbrev N_bars : List Str := ["row", "kind", "thing", "worlds", "name", "given"]
abbrev P_bars : List Str := ["row", "kind", "thing"]
theorem sc_bars : FnScope N_bars P_bars (defScope s_bars) := ⟨rfl, rfl, rfl, by decide +kernel, rfl, by decide +kernel, by decide +kernel⟩
def g_bars (sp_is_tree sp_worlds_in sp_truths : DSp) : GS :=
  (gSeq (gIf (fNot (fTest (fCall sp_is_tree (fCons (fVar 2) fNil)))) (gRet (fC (.bl false))) gNext) (gSeq (gSet (fCall sp_worlds_in (fCons (fVar 2) fNil)) 3) (gSeq (gFor (fiList (fVar 0)) (.tp [(.nm 4), (.nm 5)]) (gIf (fNot (fTest (fOp rIxD (fCall sp_truths (fCons (fVar 3) (fCons (fVar 5) fNil))) (fC (.int 0))))) (gRet (fC (.bl false))) gNext)) (gRet (fNotV (fOp rIxD (fCall sp_truths (fCons (fVar 3) (fCons (fVar 1) fNil))) (fC (.int 0))))))))
theorem der_bars {P : Program} {w : World} {K : PySem.W.Frag} {mg : Str → Option Value} {base : Heap} {k : Nat} {f : Addr} {sp_is_tree sp_worlds_in sp_truths : DSp} {a_is_tree : Addr} {fd_is_tree : FuncData} (n_is_tree : Fn K mg "is_tree" s_is_tree P_is_tree a_is_tree fd_is_tree) (G_is_tree : FnOk P w K mg base CX0 k a_is_tree fd_is_tree P_is_tree (liftSp K sp_is_tree)) {a_worlds_in : Addr} {fd_worlds_in : FuncData} (n_worlds_in : Fn K mg "worlds_in" s_worlds_in P_worlds_in a_worlds_in fd_worlds_in) (G_worlds_in : FnOk P w K mg base CX0 k a_worlds_in fd_worlds_in P_worlds_in (liftSp K sp_worlds_in)) {a_truths : Addr} {fd_truths : FuncData} (n_truths : Fn K mg "truths" s_truths P_truths a_truths fd_truths) (G_truths : FnOk P w K mg base CX0 k a_truths fd_truths P_truths (liftSp K sp_truths))
    (cdv : Value) (A : Around) (outer : List Env) (s : Shared) (H : Hp) (E : XK) (hr : Room k (A.deeper (envOfC "bars" (defScope s_bars) s.heap.objs.size f cdv))) :
    DSs MT (cxOf CX0 P w K mg base N_bars "bars" (defScope s_bars) f cdv A outer s H E).nox (defBody s_bars) (g_bars sp_is_tree sp_worlds_in sp_truths) :=
  (dss_cons (ds_if (dt_not (dt_val (de_callN n_is_tree G_is_tree hr (by rfl) (da_cons (de_var 2) da_nil)))) (dss_one (ds_ret de_bl)) dss_nil) (dss_cons (ds_set (i := 3) sc_bars.nd rfl (by first | exact Or.inl rfl | exact Or.inr rfl) (de_callN n_worlds_in G_worlds_in hr (by rfl) (da_cons (de_var 2) da_nil))) (dss_cons (ds_for PassesOwn.never rfl (di_list (de_var 0)) (dp_tup (by rfl) (dps_cons (dp_name (i := 4) sc_bars.nd (by rfl) (by first | exact Or.inl rfl | exact Or.inr rfl)) (dps_cons (dp_name (i := 5) sc_bars.nd (by rfl) (by first | exact Or.inl rfl | exact Or.inr rfl)) dps_nil))) (dss_one (ds_if (dt_not (dt_val (de_ix (de_callN n_truths G_truths hr (by rfl) (da_cons (de_var 3) (da_cons (de_var 5) da_nil))) de_int))) (dss_one (ds_ret de_bl)) dss_nil))) (dss_one (ds_ret (de_not (de_ix (de_callN n_truths G_truths hr (by rfl) (da_cons (de_var 3) (da_cons (de_var 1) da_nil))) de_int)))))))
/-! ### __init__ -/
abbrev s_Having___init__ : Stmt := inClass (topS 22) 0
abbrev N_Having___init__ : List Str := ["self"]
abbrev P_Having___init__ : List Str := ["self"]
theorem sc_Having___init__ : FnScope N_Having___init__ P_Having___init__ (defScope s_Having___init__) := ⟨rfl, rfl, rfl, by decide +kernel, rfl, by decide +kernel, by decide +kernel⟩
def g_Having___init__ (C_Having : Addr) : GS :=
  (gSeq (gFld C_Having "kinds" (fVar 0) fDicO) (gFld C_Having "found" (fVar 0) fDicT))
theorem der_Having___init__ {P : Program} {w : World} {K : PySem.W.Frag} {mg : Str → Option Value} {base : Heap} {k : Nat} {f : Addr} {C_Having : Addr} (cl_Having : Cls K C_Having) (na_Having_kinds : NoAttr K C_Having "kinds") (na_Having_found : NoAttr K C_Having "found")
    (cdv : Value) (A : Around) (outer : List Env) (s : Shared) (H : Hp) (E : XK) (hr : Room k (A.deeper (envOfC "Having.__init__" (defScope s_Having___init__) s.heap.objs.size f cdv))) :
    DSs MT (cxOf CX0 P w K mg base N_Having___init__ "Having.__init__" (defScope s_Having___init__) f cdv A outer s H E).nox (defBody s_Having___init__) (g_Having___init__ C_Having) :=
  (dss_cons (ds_fld cl_Having na_Having_kinds (de_var 0) de_dicO) (dss_one (ds_fld cl_Having na_Having_found (de_var 0) de_dicT)))
/-! ### with_more -/
abbrev s_Having_with_more : Stmt := inClass (topS 22) 1
abbrev N_Having_with_more : List Str := ["self", "texts", "some", "more", "text", "kind"]
abbrev P_Having_with_more : List Str := ["self", "texts", "some"]
theorem sc_Having_with_more : FnScope N_Having_with_more P_Having_with_more (defScope s_Having_with_more) := ⟨rfl, rfl, rfl, by decide +kernel, rfl, by decide +kernel, by decide +kernel⟩
def g_Having_with_more (sp_shown_kind : DSp) (C_Having : Addr) : GS :=
  (gSeq (gSet fDicO 3) (gSeq (gFor (fiTup (fUnK (fVar 1))) (.nm 4) (gDPut (fVar 3) (fVar 4) (fC (.bl true)))) (gSeq (gFor (fiList (fVar 2)) (.nm 5) (gSeq (gDPut (fFld C_Having "kinds" (fVar 0)) (fCall sp_shown_kind (fCons (fVar 5) fNil)) (fVar 5)) (gDPut (fVar 3) (fCall sp_shown_kind (fCons (fVar 5) fNil)) (fC (.bl true))))) (gRet (fCB rTupK (fCons (fCB rSortK (fCons (fVar 3) fNil)) fNil))))))
theorem der_Having_with_more {P : Program} {w : World} {K : PySem.W.Frag} {mg : Str → Option Value} {base : Heap} {k : Nat} {f : Addr} {sp_shown_kind : DSp} {C_Having : Addr} {a_shown_kind : Addr} {fd_shown_kind : FuncData} (n_shown_kind : Fn K mg "shown_kind" s_shown_kind P_shown_kind a_shown_kind fd_shown_kind) (G_shown_kind : FnOk P w K mg base CX0 k a_shown_kind fd_shown_kind P_shown_kind (liftSp K sp_shown_kind)) (m_sorted : mg "sorted" = none) (m_tuple : mg "tuple" = none) (cl_Having : Cls K C_Having) (na_Having_kinds : NoAttr K C_Having "kinds")
    (cdv : Value) (A : Around) (outer : List Env) (s : Shared) (H : Hp) (E : XK) (hr : Room k (A.deeper (envOfC "Having.with_more" (defScope s_Having_with_more) s.heap.objs.size f cdv))) :
    DSs MT (cxOf CX0 P w K mg base N_Having_with_more "Having.with_more" (defScope s_Having_with_more) f cdv A outer s H E).nox (defBody s_Having_with_more) (g_Having_with_more sp_shown_kind C_Having) :=
  (dss_cons (ds_set (i := 3) sc_Having_with_more.nd rfl (by first | exact Or.inl rfl | exact Or.inr rfl) de_dicO) (dss_cons (ds_for PassesOwn.never rfl (di_tup (de_unK (de_var 1))) (dp_name (i := 4) sc_Having_with_more.nd (by rfl) (by first | exact Or.inl rfl | exact Or.inr rfl)) (dss_one (ds_dput hr.u200 (de_var 3) (de_var 4) de_bl))) (dss_cons (ds_for PassesOwn.never rfl (di_list (de_var 2)) (dp_name (i := 5) sc_Having_with_more.nd (by rfl) (by first | exact Or.inl rfl | exact Or.inr rfl)) (dss_cons (ds_dput hr.u200 (de_fld cl_Having na_Having_kinds (de_var 0)) (de_callN n_shown_kind G_shown_kind hr (by rfl) (da_cons (de_var 5) da_nil)) (de_var 5)) (dss_one (ds_dput hr.u200 (de_var 3) (de_callN n_shown_kind G_shown_kind hr (by rfl) (da_cons (de_var 5) da_nil)) de_bl)))) (dss_one (ds_ret (de_callTy cd_tupK (by rfl) m_tuple bb_tuple (da_cons (de_callB (cd_sortedK (by rfl)) (by rfl) m_sorted bb_sorted (da_cons (de_var 3) da_nil)) da_nil)))))))
/-! ### had -/
abbrev s_Having_had : Stmt := inClass (topS 22) 2
abbrev N_Having_had : List Str := ["self", "texts", "marks", "again"]
abbrev P_Having_had : List Str := ["self", "texts"]
theorem sc_Having_had : FnScope N_Having_had P_Having_had (defScope s_Having_had) := ⟨rfl, rfl, rfl, by decide +kernel, rfl, by decide +kernel, by decide +kernel⟩
def g_Having_had (sp_Having_had_more : DSp) (C_Having : Addr) : GS :=
  (gSeq (gIf (fTest (fOp (rDIn true) (fVar 1) (fFld C_Having "found" (fVar 0)))) (gSeq (gSet fDicO 2) (gSeq (gSet (fC (.bl true)) 3) (gSeq (gWhile (fTest (fVar 3)) (gSet (fMeth C_Having "had_more" sp_Having_had_more (fVar 0) (fCons (fVar 1) (fCons (fVar 2) fNil))) 3)) (gDPut (fFld C_Having "found" (fVar 0)) (fVar 1) (fVar 2))))) gNext) (gRet (fDGet (fFld C_Having "found" (fVar 0)) (fVar 1))))
theorem der_Having_had {P : Program} {w : World} {K : PySem.W.Frag} {mg : Str → Option Value} {base : Heap} {k : Nat} {f : Addr} {sp_Having_had_more : DSp} {C_Having : Addr} {a_Having_had_more : Addr} {fd_Having_had_more : FuncData} (n_Having_had_more : Mt K C_Having "had_more" "Having.had_more" s_Having_had_more P_Having_had_more a_Having_had_more fd_Having_had_more) (G_Having_had_more : FnOk P w K mg base CX0 k a_Having_had_more fd_Having_had_more P_Having_had_more (liftSp K sp_Having_had_more)) (cl_Having : Cls K C_Having) (na_Having_found : NoAttr K C_Having "found")
    (cdv : Value) (A : Around) (outer : List Env) (s : Shared) (H : Hp) (E : XK) (hr : Room k (A.deeper (envOfC "Having.had" (defScope s_Having_had) s.heap.objs.size f cdv))) :
    DSs MT (cxOf CX0 P w K mg base N_Having_had "Having.had" (defScope s_Having_had) f cdv A outer s H E).nox (defBody s_Having_had) (g_Having_had sp_Having_had_more C_Having) :=
  (dss_cons (ds_if (dt_cmp (od_dnotin hr.u200) (de_var 1) (de_fld cl_Having na_Having_found (de_var 0)) (by rfl)) (dss_cons (ds_set (i := 2) sc_Having_had.nd rfl (by first | exact Or.inl rfl | exact Or.inr rfl) de_dicO) (dss_cons (ds_set (i := 3) sc_Having_had.nd rfl (by first | exact Or.inl rfl | exact Or.inr rfl) de_bl) (dss_cons (ds_while PassesOwn.never (dt_val (de_var 3)) (dss_one (ds_set (i := 3) sc_Having_had.nd rfl (by first | exact Or.inl rfl | exact Or.inr rfl) (de_meth cl_Having n_Having_had_more G_Having_had_more hr (de_var 0) (da_cons (de_var 1) (da_cons (de_var 2) da_nil)))))) (dss_one (ds_dput hr.u200 (de_fld cl_Having na_Having_found (de_var 0)) (de_var 1) (de_var 2)))))) dss_nil) (dss_one (ds_ret (de_dget hr.u200 (de_fld cl_Having na_Having_found (de_var 0)) (de_var 1)))))
/-! ### had_more -/
abbrev s_Having_had_more : Stmt := inClass (topS 22) 3
abbrev N_Having_had_more : List Str := ["self", "texts", "marks", "many", "text", "moves", "mark"]
abbrev P_Having_had_more : List Str := ["self", "texts", "marks"]
theorem sc_Having_had_more : FnScope N_Having_had_more P_Having_had_more (defScope s_Having_had_more) := ⟨rfl, rfl, rfl, by decide +kernel, rfl, by decide +kernel, by decide +kernel⟩
def g_Having_had_more (sp_ways_of sp_Having_first_not_had : DSp) (C_Having : Addr) : GS :=
  (gSeq (gSet (fCB rLenDc (fCons (fVar 2) fNil)) 3) (gSeq (gFor (fiTup (fUnK (fVar 1))) (.nm 4) (gFor (fiList (fCall sp_ways_of (fCons (fDGet (fFld C_Having "kinds" (fVar 0)) (fVar 4)) fNil))) (.tp [(.nm 5), (.nm 6)]) (gIf (fAnd (fTest (fOp (rDIn true) (fVar 6) (fVar 2))) (fTest (fOp (rIsN false) (fMeth C_Having "first_not_had" sp_Having_first_not_had (fVar 0) (fCons (fVar 1) (fCons (fVar 2) (fCons (fVar 5) fNil)))) (fC .non)))) (gDPut (fVar 2) (fVar 6) (fC (.bl true))) gNext))) (gRet (fOp rGtD (fCB rLenDc (fCons (fVar 2) fNil)) (fVar 3)))))
theorem der_Having_had_more {P : Program} {w : World} {K : PySem.W.Frag} {mg : Str → Option Value} {base : Heap} {k : Nat} {f : Addr} {sp_ways_of sp_Having_first_not_had : DSp} {C_Having : Addr} {a_ways_of : Addr} {fd_ways_of : FuncData} (n_ways_of : Fn K mg "ways_of" s_ways_of P_ways_of a_ways_of fd_ways_of) (G_ways_of : FnOk P w K mg base CX0 k a_ways_of fd_ways_of P_ways_of (liftSp K sp_ways_of)) {a_Having_first_not_had : Addr} {fd_Having_first_not_had : FuncData} (n_Having_first_not_had : Mt K C_Having "first_not_had" "Having.first_not_had" s_Having_first_not_had P_Having_first_not_had a_Having_first_not_had fd_Having_first_not_had) (G_Having_first_not_had : FnOk P w K mg base CX0 k a_Having_first_not_had fd_Having_first_not_had P_Having_first_not_had (liftSp K sp_Having_first_not_had)) (m_len : mg "len" = none) (cl_Having : Cls K C_Having) (na_Having_kinds : NoAttr K C_Having "kinds")
    (cdv : Value) (A : Around) (outer : List Env) (s : Shared) (H : Hp) (E : XK) (hr : Room k (A.deeper (envOfC "Having.had_more" (defScope s_Having_had_more) s.heap.objs.size f cdv))) :
    DSs MT (cxOf CX0 P w K mg base N_Having_had_more "Having.had_more" (defScope s_Having_had_more) f cdv A outer s H E).nox (defBody s_Having_had_more) (g_Having_had_more sp_ways_of sp_Having_first_not_had C_Having) :=
  (dss_cons (ds_set (i := 3) sc_Having_had_more.nd rfl (by first | exact Or.inl rfl | exact Or.inr rfl) (de_callB cd_lenDc (by rfl) m_len bb_len (da_cons (de_var 2) da_nil))) (dss_cons (ds_for PassesOwn.never rfl (di_tup (de_unK (de_var 1))) (dp_name (i := 4) sc_Having_had_more.nd (by rfl) (by first | exact Or.inl rfl | exact Or.inr rfl)) (dss_one (ds_for PassesOwn.never rfl (di_list (de_callN n_ways_of G_ways_of hr (by rfl) (da_cons (de_dget hr.u200 (de_fld cl_Having na_Having_kinds (de_var 0)) (de_var 4)) da_nil))) (dp_tup (by rfl) (dps_cons (dp_name (i := 5) sc_Having_had_more.nd (by rfl) (by first | exact Or.inl rfl | exact Or.inr rfl)) (dps_cons (dp_name (i := 6) sc_Having_had_more.nd (by rfl) (by first | exact Or.inl rfl | exact Or.inr rfl)) dps_nil))) (dss_one (ds_if (dt_of (dw_and (dt_cmp (od_dnotin hr.u200) (de_var 6) (de_var 2) (by rfl)) (dw_and1 (dt_cmp od_is (de_meth cl_Having n_Having_first_not_had G_Having_first_not_had hr (de_var 0) (da_cons (de_var 1) (da_cons (de_var 2) (da_cons (de_var 5) da_nil)))) de_non (nomark _))))) (dss_one (ds_dput hr.u200 (de_var 2) (de_var 6) de_bl)) dss_nil))))) (dss_one (ds_ret (de_cmp od_gt (de_callB cd_lenDc (by rfl) m_len bb_len (da_cons (de_var 2) da_nil)) (de_var 3) (nomark _))))))
/-! ### first_not_had -/
abbrev s_Having_first_not_had : Stmt := inClass (topS 22) 4
abbrev N_Having_first_not_had : List Str := ["self", "texts", "marks", "moves", "lacking", "move", "one"]
abbrev P_Having_first_not_had : List Str := ["self", "texts", "marks", "moves"]
theorem sc_Having_first_not_had : FnScope N_Having_first_not_had P_Having_first_not_had (defScope s_Having_first_not_had) := ⟨rfl, rfl, rfl, by decide +kernel, rfl, by decide +kernel, by decide +kernel⟩
def g_Having_first_not_had (sp_Having_lack_of : DSp) (C_Having : Addr) : GS :=
  (gSeq (gSet (fLc (fiList (fVar 3)) (.nm 5) (fTest (fCB rIsiD (fCons (fVar 5) (fCons (fC (.ty "tuple")) fNil)))) (fMeth C_Having "lack_of" sp_Having_lack_of (fVar 0) (fCons (fVar 1) (fCons (fVar 2) (fCons (fVar 5) fNil)))) [5]) 4) (gSeq (gSet (fLc (fiList (fVar 4)) (.nm 6) (fTest (fOp (rIsN true) (fVar 6) (fC .non))) (fVar 6) [6]) 4) (gSeq (gIf (fTest (fOp (rInK false) (fVar 1) (fVar 4))) (gRet (fVar 1)) gNext) (gRet (fMinLen (fVar 4))))))
theorem der_Having_first_not_had {P : Program} {w : World} {K : PySem.W.Frag} {mg : Str → Option Value} {base : Heap} {k : Nat} {f : Addr} {sp_Having_lack_of : DSp} {C_Having : Addr} {a_Having_lack_of : Addr} {fd_Having_lack_of : FuncData} (n_Having_lack_of : Mt K C_Having "lack_of" "Having.lack_of" s_Having_lack_of P_Having_lack_of a_Having_lack_of fd_Having_lack_of) (G_Having_lack_of : FnOk P w K mg base CX0 k a_Having_lack_of fd_Having_lack_of P_Having_lack_of (liftSp K sp_Having_lack_of)) (m_tuple : mg "tuple" = none) (m_isinstance : mg "isinstance" = none) (m_min : mg "min" = none) (m_len : mg "len" = none) (cl_Having : Cls K C_Having)
    (cdv : Value) (A : Around) (outer : List Env) (s : Shared) (H : Hp) (E : XK) (hr : Room k (A.deeper (envOfC "Having.first_not_had" (defScope s_Having_first_not_had) s.heap.objs.size f cdv))) :
    DSs MT (cxOf CX0 P w K mg base N_Having_first_not_had "Having.first_not_had" (defScope s_Having_first_not_had) f cdv A outer s H E).nox (defBody s_Having_first_not_had) (g_Having_first_not_had sp_Having_lack_of C_Having) :=
  (dss_cons (ds_setLc (i := 4) rfl sc_Having_first_not_had.nd rfl rfl (sw_true rfl rfl rfl (by decide +kernel)) (di_list (de_var 3)) (blkOk_by (own := [("move", 5)]) (N := N_Having_first_not_had) (sc := defScope s_Having_first_not_had) (by decide +kernel)) (fun _ _ _ _ _ => (dp_name (i := 5) sc_Having_first_not_had.nd (by rfl) (by first | exact Or.inl rfl | exact Or.inr rfl))) (fun _ _ _ _ _ => (dts_one (dt_val (de_callB cd_isi (by rfl) m_isinstance bb_isinstance (da_cons (de_var 5) (da_cons (de_ty bb_tuple m_tuple (by rfl)) da_nil)))))) (fun _ _ _ _ _ => (de_meth cl_Having n_Having_lack_of G_Having_lack_of hr (de_var 0) (da_cons (de_var 1) (da_cons (de_var 2) (da_cons (de_var 5) da_nil)))))) (dss_cons (ds_setLc (i := 4) rfl sc_Having_first_not_had.nd rfl rfl (sw_true rfl rfl rfl (by decide +kernel)) (di_list (de_var 4)) (blkOk_by (own := [("one", 6)]) (N := N_Having_first_not_had) (sc := defScope s_Having_first_not_had) (by decide +kernel)) (fun _ _ _ _ _ => (dp_name (i := 6) sc_Having_first_not_had.nd (by rfl) (by first | exact Or.inl rfl | exact Or.inr rfl))) (fun _ _ _ _ _ => (dts_one (dt_cmp od_isnot (de_var 6) de_non (nomark _)))) (fun _ _ _ _ _ => (de_var 6))) (dss_cons (ds_if (dt_cmp (od_inK hr.u200) (de_var 1) (de_var 4) (by rfl)) (dss_one (ds_ret (de_var 1))) dss_nil) (dss_one (ds_ret (de_minLen (by rfl) hr.u200 (by rfl) m_min (by rfl) m_len (de_var 4)))))))
/-! ### lack_of -/
abbrev s_Having_lack_of : Stmt := inClass (topS 22) 5
abbrev N_Having_lack_of : List Str := ["self", "texts", "marks", "kind", "lacking", "taken", "mark", "there"]
abbrev P_Having_lack_of : List Str := ["self", "texts", "marks", "kind"]
theorem sc_Having_lack_of : FnScope N_Having_lack_of P_Having_lack_of (defScope s_Having_lack_of) := ⟨rfl, rfl, rfl, by decide +kernel, rfl, by decide +kernel, by decide +kernel⟩
def g_Having_lack_of (sp_ends_of sp_Having_with_more sp_Having_had : DSp) (C_Having : Addr) : GS :=
  (gSeq (gSet (fLstO fNil) 4) (gSeq (gFor (fiList (fCall sp_ends_of (fCons (fVar 3) fNil))) (.tp [(.nm 5), (.nm 6)]) (gSeq (gSet (fMeth C_Having "with_more" sp_Having_with_more (fVar 0) (fCons (fVar 1) (fCons (fVar 5) fNil))) 7) (gIf (fOr (fAnd (fTest (fOp (rEqD false) (fUnK (fVar 7)) (fUnK (fVar 1)))) (fTest (fOp (rDIn true) (fVar 6) (fVar 2)))) (fAnd (fTest (fOp (rEqD true) (fUnK (fVar 7)) (fUnK (fVar 1)))) (fTest (fOp (rDIn true) (fVar 6) (fMeth C_Having "had" sp_Having_had (fVar 0) (fCons (fVar 7) fNil)))))) (gDrop (fBM "list" rAppendD (fVar 4) (fCons (fVar 7) fNil))) gNext))) (gSeq (gIf (fTest (fOp (rInK false) (fVar 1) (fVar 4))) (gRet (fVar 1)) gNext) (gRet (fMinLen (fVar 4))))))
theorem der_Having_lack_of {P : Program} {w : World} {K : PySem.W.Frag} {mg : Str → Option Value} {base : Heap} {k : Nat} {f : Addr} {sp_ends_of sp_Having_with_more sp_Having_had : DSp} {C_Having : Addr} {a_ends_of : Addr} {fd_ends_of : FuncData} (n_ends_of : Fn K mg "ends_of" s_ends_of P_ends_of a_ends_of fd_ends_of) (G_ends_of : FnOk P w K mg base CX0 k a_ends_of fd_ends_of P_ends_of (liftSp K sp_ends_of)) {a_Having_with_more : Addr} {fd_Having_with_more : FuncData} (n_Having_with_more : Mt K C_Having "with_more" "Having.with_more" s_Having_with_more P_Having_with_more a_Having_with_more fd_Having_with_more) (G_Having_with_more : FnOk P w K mg base CX0 k a_Having_with_more fd_Having_with_more P_Having_with_more (liftSp K sp_Having_with_more)) {a_Having_had : Addr} {fd_Having_had : FuncData} (n_Having_had : Mt K C_Having "had" "Having.had" s_Having_had P_Having_had a_Having_had fd_Having_had) (G_Having_had : FnOk P w K mg base CX0 k a_Having_had fd_Having_had P_Having_had (liftSp K sp_Having_had)) (m_min : mg "min" = none) (m_len : mg "len" = none) (cl_Having : Cls K C_Having)
    (cdv : Value) (A : Around) (outer : List Env) (s : Shared) (H : Hp) (E : XK) (hr : Room k (A.deeper (envOfC "Having.lack_of" (defScope s_Having_lack_of) s.heap.objs.size f cdv))) :
    DSs MT (cxOf CX0 P w K mg base N_Having_lack_of "Having.lack_of" (defScope s_Having_lack_of) f cdv A outer s H E).nox (defBody s_Having_lack_of) (g_Having_lack_of sp_ends_of sp_Having_with_more sp_Having_had C_Having) :=
  (dss_cons (ds_set (i := 4) sc_Having_lack_of.nd rfl (by first | exact Or.inl rfl | exact Or.inr rfl) (de_lstO da_nil)) (dss_cons (ds_for PassesOwn.never rfl (di_list (de_callN n_ends_of G_ends_of hr (by rfl) (da_cons (de_var 3) da_nil))) (dp_tup (by rfl) (dps_cons (dp_name (i := 5) sc_Having_lack_of.nd (by rfl) (by first | exact Or.inl rfl | exact Or.inr rfl)) (dps_cons (dp_name (i := 6) sc_Having_lack_of.nd (by rfl) (by first | exact Or.inl rfl | exact Or.inr rfl)) dps_nil))) (dss_cons (ds_set (i := 7) sc_Having_lack_of.nd rfl (by first | exact Or.inl rfl | exact Or.inr rfl) (de_meth cl_Having n_Having_with_more G_Having_with_more hr (de_var 0) (da_cons (de_var 1) (da_cons (de_var 5) da_nil)))) (dss_one (ds_if (dt_of (dw_or (dt_of (dw_and (dt_cmp (od_eq hr.u200) (de_unK (de_var 7)) (de_unK (de_var 1)) (nomark _)) (dw_and1 (dt_cmp (od_dnotin hr.u200) (de_var 6) (de_var 2) (by rfl))))) (dw_or1 (dt_of (dw_and (dt_cmp (od_ne hr.u200) (de_unK (de_var 7)) (de_unK (de_var 1)) (nomark _)) (dw_and1 (dt_cmp (od_dnotin hr.u200) (de_var 6) (de_meth cl_Having n_Having_had G_Having_had hr (de_var 0) (da_cons (de_var 7) da_nil)) (by rfl)))))))) (dss_one (ds_expr (de_bm PySem.F.plainAttrs_list PySem.F.slot_list_append PySem.F.type_list_append md_append (de_var 4) (da_cons (de_var 7) da_nil)))) dss_nil)))) (dss_cons (ds_if (dt_cmp (od_inK hr.u200) (de_var 1) (de_var 4) (by rfl)) (dss_one (ds_ret (de_var 1))) dss_nil) (dss_one (ds_ret (de_minLen (by rfl) hr.u200 (by rfl) m_min (by rfl) m_len (de_var 4)))))))
/-! ### tree -/
abbrev s_Having_tree : Stmt := inClass (topS 22) 6
abbrev N_Having_tree : List Str := ["self", "texts", "marks", "above", "text", "moves", "mark", "there"]
abbrev P_Having_tree : List Str := ["self", "texts"]
theorem sc_Having_tree : FnScope N_Having_tree P_Having_tree (defScope s_Having_tree) := ⟨rfl, rfl, rfl, by decide +kernel, rfl, by decide +kernel, by decide +kernel⟩
def g_Having_tree (sp_Having_had sp_ways_of sp_Having_first_not_had sp_Having_tree : DSp) (C_Having : Addr) : GS :=
  (gSeq (gSet (fMeth C_Having "had" sp_Having_had (fVar 0) (fCons (fVar 1) fNil)) 2) (gSeq (gSet fDicT 3) (gSeq (gFor (fiTup (fUnK (fVar 1))) (.nm 4) (gFor (fiList (fCall sp_ways_of (fCons (fDGet (fFld C_Having "kinds" (fVar 0)) (fVar 4)) fNil))) (.tp [(.nm 5), (.nm 6)]) (gIf (fTest (fOp (rDIn true) (fVar 6) (fVar 2))) (gDPut (fVar 3) (fMeth C_Having "first_not_had" sp_Having_first_not_had (fVar 0) (fCons (fVar 1) (fCons (fVar 2) (fCons (fVar 5) fNil)))) (fC (.bl true))) gNext))) (gRet (fTup (fCons (fCB rSortK (fCons (fVar 2) fNil)) (fCons (fLc (fiList (fCB rSortKT (fCons (fVar 3) fNil))) (.nm 7) (fTest (fOp (rEqD true) (fUnK (fVar 7)) (fUnK (fVar 1)))) (fMeth C_Having "tree" sp_Having_tree (fVar 0) (fCons (fVar 7) fNil)) [7]) fNil)))))))
theorem der_Having_tree {P : Program} {w : World} {K : PySem.W.Frag} {mg : Str → Option Value} {base : Heap} {k : Nat} {f : Addr} {sp_Having_had sp_ways_of sp_Having_first_not_had sp_Having_tree : DSp} {C_Having : Addr} {a_Having_had : Addr} {fd_Having_had : FuncData} (n_Having_had : Mt K C_Having "had" "Having.had" s_Having_had P_Having_had a_Having_had fd_Having_had) (G_Having_had : FnOk P w K mg base CX0 k a_Having_had fd_Having_had P_Having_had (liftSp K sp_Having_had)) {a_ways_of : Addr} {fd_ways_of : FuncData} (n_ways_of : Fn K mg "ways_of" s_ways_of P_ways_of a_ways_of fd_ways_of) (G_ways_of : FnOk P w K mg base CX0 k a_ways_of fd_ways_of P_ways_of (liftSp K sp_ways_of)) {a_Having_first_not_had : Addr} {fd_Having_first_not_had : FuncData} (n_Having_first_not_had : Mt K C_Having "first_not_had" "Having.first_not_had" s_Having_first_not_had P_Having_first_not_had a_Having_first_not_had fd_Having_first_not_had) (G_Having_first_not_had : FnOk P w K mg base CX0 k a_Having_first_not_had fd_Having_first_not_had P_Having_first_not_had (liftSp K sp_Having_first_not_had)) {a_Having_tree : Addr} {fd_Having_tree : FuncData} (n_Having_tree : Mt K C_Having "tree" "Having.tree" s_Having_tree P_Having_tree a_Having_tree fd_Having_tree) (G_Having_tree : FnOk P w K mg base CX0 k a_Having_tree fd_Having_tree P_Having_tree (liftSp K sp_Having_tree)) (m_sorted : mg "sorted" = none) (cl_Having : Cls K C_Having) (na_Having_kinds : NoAttr K C_Having "kinds")
    (cdv : Value) (A : Around) (outer : List Env) (s : Shared) (H : Hp) (E : XK) (hr : Room k (A.deeper (envOfC "Having.tree" (defScope s_Having_tree) s.heap.objs.size f cdv))) :
    DSs MT (cxOf CX0 P w K mg base N_Having_tree "Having.tree" (defScope s_Having_tree) f cdv A outer s H E).nox (defBody s_Having_tree) (g_Having_tree sp_Having_had sp_ways_of sp_Having_first_not_had sp_Having_tree C_Having) :=
  (dss_cons (ds_set (i := 2) sc_Having_tree.nd rfl (by first | exact Or.inl rfl | exact Or.inr rfl) (de_meth cl_Having n_Having_had G_Having_had hr (de_var 0) (da_cons (de_var 1) da_nil))) (dss_cons (ds_set (i := 3) sc_Having_tree.nd rfl (by first | exact Or.inl rfl | exact Or.inr rfl) de_dicT) (dss_cons (ds_for PassesOwn.never rfl (di_tup (de_unK (de_var 1))) (dp_name (i := 4) sc_Having_tree.nd (by rfl) (by first | exact Or.inl rfl | exact Or.inr rfl)) (dss_one (ds_for PassesOwn.never rfl (di_list (de_callN n_ways_of G_ways_of hr (by rfl) (da_cons (de_dget hr.u200 (de_fld cl_Having na_Having_kinds (de_var 0)) (de_var 4)) da_nil))) (dp_tup (by rfl) (dps_cons (dp_name (i := 5) sc_Having_tree.nd (by rfl) (by first | exact Or.inl rfl | exact Or.inr rfl)) (dps_cons (dp_name (i := 6) sc_Having_tree.nd (by rfl) (by first | exact Or.inl rfl | exact Or.inr rfl)) dps_nil))) (dss_one (ds_if (dt_cmp (od_dnotin hr.u200) (de_var 6) (de_var 2) (by rfl)) (dss_one (ds_dput hr.u200 (de_var 3) (de_meth cl_Having n_Having_first_not_had G_Having_first_not_had hr (de_var 0) (da_cons (de_var 1) (da_cons (de_var 2) (da_cons (de_var 5) da_nil)))) de_bl)) dss_nil))))) (dss_one (ds_ret (de_tup (da_cons (de_callB (cd_sortedK (by rfl)) (by rfl) m_sorted bb_sorted (da_cons (de_var 2) da_nil)) (da_cons (de_lc (by rfl) sc_Having_tree.nd (di_list (de_callB (cd_sortedKT (by rfl) hr.u200) (by rfl) m_sorted bb_sorted (da_cons (de_var 3) da_nil))) (blkOk_by (own := [("there", 7)]) (N := N_Having_tree) (sc := defScope s_Having_tree) (by decide +kernel)) (fun _ _ _ _ _ => (dp_name (i := 7) sc_Having_tree.nd (by rfl) (by first | exact Or.inl rfl | exact Or.inr rfl))) (fun _ _ _ _ _ => (dts_one (dt_cmp (od_ne hr.u200) (de_unK (de_var 7)) (de_unK (de_var 1)) (nomark _)))) (fun _ _ _ _ _ => (de_meth cl_Having n_Having_tree G_Having_tree hr (de_var 0) (da_cons (de_var 7) da_nil)))) da_nil))))))))
/-! ### barring -/
abbrev s_barring : Stmt := topS 23
abbrev N_barring : List Str := ["row", "kind", "having", "texts", "there", "name", "given"]
abbrev P_barring : List Str := ["row", "kind"]
theorem sc_barring : FnScope N_barring P_barring (defScope s_barring) := ⟨rfl, rfl, rfl, by decide +kernel, rfl, by decide +kernel, by decide +kernel⟩
def g_barring (sp_Having___init__ sp_Having_with_more sp_Having_lack_of sp_Having_had sp_Having_tree : DSp) (C_Having : Addr) : GS :=
  (gSeq (gSet (fMake C_Having sp_Having___init__ fNil) 2) (gSeq (gSet (fMeth C_Having "with_more" sp_Having_with_more (fVar 2) (fCons (fTup fNil) (fCons (fLc (fiList (fVar 0)) (.tp [(.nm 5), (.nm 6)]) fYes (fVar 6) [5, 6]) fNil))) 3) (gSeq (gSet (fMeth C_Having "lack_of" sp_Having_lack_of (fVar 2) (fCons (fVar 3) (fCons (fMeth C_Having "had" sp_Having_had (fVar 2) (fCons (fVar 3) fNil)) (fCons (fVar 1) fNil)))) 4) (gSeq (gIf (fTest (fOp (rIsN false) (fVar 4) (fC .non))) (gRet (fC .non)) gNext) (gRet (fMeth C_Having "tree" sp_Having_tree (fVar 2) (fCons (fVar 4) fNil)))))))
theorem der_barring {P : Program} {w : World} {K : PySem.W.Frag} {mg : Str → Option Value} {base : Heap} {k : Nat} {f : Addr} {sp_Having___init__ sp_Having_with_more sp_Having_lack_of sp_Having_had sp_Having_tree : DSp} {C_Having : Addr} {a_Having___init__ : Addr} {fd_Having___init__ : FuncData} (n_Having___init__ : Mt K C_Having "__init__" "Having.__init__" s_Having___init__ P_Having___init__ a_Having___init__ fd_Having___init__) (G_Having___init__ : FnOk P w K mg base CX0 (k - 1) a_Having___init__ fd_Having___init__ P_Having___init__ (liftSp K sp_Having___init__)) (hk_Having___init__ : 1 ≤ k) {a_Having_with_more : Addr} {fd_Having_with_more : FuncData} (n_Having_with_more : Mt K C_Having "with_more" "Having.with_more" s_Having_with_more P_Having_with_more a_Having_with_more fd_Having_with_more) (G_Having_with_more : FnOk P w K mg base CX0 k a_Having_with_more fd_Having_with_more P_Having_with_more (liftSp K sp_Having_with_more)) {a_Having_lack_of : Addr} {fd_Having_lack_of : FuncData} (n_Having_lack_of : Mt K C_Having "lack_of" "Having.lack_of" s_Having_lack_of P_Having_lack_of a_Having_lack_of fd_Having_lack_of) (G_Having_lack_of : FnOk P w K mg base CX0 k a_Having_lack_of fd_Having_lack_of P_Having_lack_of (liftSp K sp_Having_lack_of)) {a_Having_had : Addr} {fd_Having_had : FuncData} (n_Having_had : Mt K C_Having "had" "Having.had" s_Having_had P_Having_had a_Having_had fd_Having_had) (G_Having_had : FnOk P w K mg base CX0 k a_Having_had fd_Having_had P_Having_had (liftSp K sp_Having_had)) {a_Having_tree : Addr} {fd_Having_tree : FuncData} (n_Having_tree : Mt K C_Having "tree" "Having.tree" s_Having_tree P_Having_tree a_Having_tree fd_Having_tree) (G_Having_tree : FnOk P w K mg base CX0 k a_Having_tree fd_Having_tree P_Having_tree (liftSp K sp_Having_tree)) (cl_Having : Cls K C_Having) (mk_Having : MkN K mg "Having" C_Having a_Having___init__)
    (cdv : Value) (A : Around) (outer : List Env) (s : Shared) (H : Hp) (E : XK) (hr : Room k (A.deeper (envOfC "barring" (defScope s_barring) s.heap.objs.size f cdv))) :
    DSs MT (cxOf CX0 P w K mg base N_barring "barring" (defScope s_barring) f cdv A outer s H E).nox (defBody s_barring) (g_barring sp_Having___init__ sp_Having_with_more sp_Having_lack_of sp_Having_had sp_Having_tree C_Having) :=
  (dss_cons (ds_set (i := 2) sc_barring.nd rfl (by first | exact Or.inl rfl | exact Or.inr rfl) (de_make0 mk_Having n_Having___init__ G_Having___init__ (hr.mono (by omega)) (by rfl))) (dss_cons (ds_set (i := 3) sc_barring.nd rfl (by first | exact Or.inl rfl | exact Or.inr rfl) (de_meth cl_Having n_Having_with_more G_Having_with_more hr (de_var 2) (da_cons (de_tup da_nil) (da_cons (de_lc (by rfl) sc_barring.nd (di_list (de_var 0)) (blkOk_by (own := [("name", 5), ("given", 6)]) (N := N_barring) (sc := defScope s_barring) (by decide +kernel)) (fun _ _ _ _ _ => (dp_tup (by rfl) (dps_cons (dp_name (i := 5) sc_barring.nd (by rfl) (by first | exact Or.inl rfl | exact Or.inr rfl)) (dps_cons (dp_name (i := 6) sc_barring.nd (by rfl) (by first | exact Or.inl rfl | exact Or.inr rfl)) dps_nil)))) (fun _ _ _ _ _ => dts_nil) (fun _ _ _ _ _ => (de_var 6))) da_nil)))) (dss_cons (ds_set (i := 4) sc_barring.nd rfl (by first | exact Or.inl rfl | exact Or.inr rfl) (de_meth cl_Having n_Having_lack_of G_Having_lack_of hr (de_var 2) (da_cons (de_var 3) (da_cons (de_meth cl_Having n_Having_had G_Having_had hr (de_var 2) (da_cons (de_var 3) da_nil)) (da_cons (de_var 1) da_nil))))) (dss_cons (ds_if (dt_cmp od_is (de_var 4) de_non (nomark _)) (dss_one (ds_ret de_non)) dss_nil) (dss_one (ds_ret (de_meth cl_Having n_Having_tree G_Having_tree hr (de_var 2) (da_cons (de_var 4) da_nil))))))))
/-! ### _law_pool -/
abbrev s__law_pool : Stmt := topS 25
abbrev N__law_pool : List Str := ["_law_script", "_law_k", "_law_cell", "_law_number"]
abbrev P__law_pool : List Str := ["_law_script", "_law_k"]
theorem sc__law_pool : FnScope N__law_pool P__law_pool (defScope s__law_pool) := ⟨rfl, rfl, rfl, by decide +kernel, rfl, by decide +kernel, by decide +kernel⟩
def g__law_pool : GS :=
  (gSeq (gSet (fC (.int 0)) 2) (gSeq (gIf (fTest (fOp rLtD (fVar 1) (fCB rLenD (fCons (fVar 0) fNil)))) (gSet (fOp rIxD (fVar 0) (fVar 1)) 2) gNext) (gSeq (gSet (fOp rModD (fOp rPowD (fOp rAddD (fOp rAddD (fOp rModD (fVar 2) (fC (.int 2147483629))) (fOp rMulD (fOp rMulD (fC (.int 104729)) (fVar 1)) (fVar 1))) (fC (.int 11))) (fC (.int 3))) (fC (.int 2147483647))) 3) (gSeq (gIf (fTest (fOp rLtD (fVar 2) (fOp rPowD (fC (.int 10)) (fC (.int 18))))) (gSet (fC (.int 0)) 2) gNext) (gRet (fPool (fCons (fVar 2) (fCons (fVar 3) fNil))))))))
theorem der__law_pool {P : Program} {w : World} {K : PySem.W.Frag} {mg : Str → Option Value} {base : Heap} {k : Nat} {f : Addr} (m_len : mg "len" = none)
    (cdv : Value) (A : Around) (outer : List Env) (s : Shared) (H : Hp) (E : XK) (hr : Room k (A.deeper (envOfC "_law_pool" (defScope s__law_pool) s.heap.objs.size f cdv))) :
    DSs MT (cxOf CX0 P w K mg base N__law_pool "_law_pool" (defScope s__law_pool) f cdv A outer s H E).nox (defBody s__law_pool) (g__law_pool) :=
  (dss_cons (ds_set (i := 2) sc__law_pool.nd rfl (by first | exact Or.inl rfl | exact Or.inr rfl) de_int) (dss_cons (ds_if (dt_cmp od_lt (de_var 1) (de_callB cd_len (by rfl) m_len bb_len (da_cons (de_var 0) da_nil)) (nomark _)) (dss_one (ds_set (i := 2) sc__law_pool.nd rfl (by first | exact Or.inl rfl | exact Or.inr rfl) (de_ix (de_var 0) (de_var 1)))) dss_nil) (dss_cons (ds_set (i := 3) sc__law_pool.nd rfl (by first | exact Or.inl rfl | exact Or.inr rfl) (de_op od_mod (de_op od_pow (de_op od_add (de_op od_add (de_op od_mod (de_var 2) de_int) (de_op od_mul (de_op od_mul de_int (de_var 1)) (de_var 1))) de_int) de_int) de_int)) (dss_cons (ds_if (dt_cmp od_lt (de_var 2) (de_op od_pow de_int de_int) (nomark _)) (dss_one (ds_set (i := 2) sc__law_pool.nd rfl (by first | exact Or.inl rfl | exact Or.inr rfl) de_int)) dss_nil) (dss_one (ds_ret (de_pool (da_cons (de_var 2) (da_cons (de_var 3) da_nil)))))))))
/-! ### _law_take -/
abbrev s__law_take : Stmt := topS 26
abbrev N__law_take : List Str := ["_law_pool_here", "_law_many", "_law_found"]
abbrev P__law_take : List Str := ["_law_pool_here", "_law_many"]
theorem sc__law_take : FnScope N__law_take P__law_take (defScope s__law_take) := ⟨rfl, rfl, rfl, by decide +kernel, rfl, by decide +kernel, by decide +kernel⟩
def g__law_take : GS :=
  (gSeq (gIf (fTest (fOp rGtD (fOp rIxD (fVar 0) (fC (.int 0))) (fC (.int 0)))) (gSeq (gSet (fOp rModD (fOp rIxD (fVar 0) (fC (.int 0))) (fVar 1)) 2) (gSeq (gSetIx (fVar 0) (fC (.int 0)) (fOp rDivD (fOp rIxD (fVar 0) (fC (.int 0))) (fVar 1))) (gRet (fVar 2)))) gNext) (gSeq (gSetIx (fVar 0) (fC (.int 1)) (fOp rModD (fOp rAddD (fOp rMulD (fOp rIxD (fVar 0) (fC (.int 1))) (fC (.int 48271))) (fC (.int 11))) (fC (.int 2147483647)))) (gRet (fOp rModD (fOp rDivD (fOp rModD (fOp rMulD (fOp rIxD (fVar 0) (fC (.int 1))) (fOp rIxD (fVar 0) (fC (.int 1)))) (fC (.int 2147483629))) (fC (.int 64))) (fVar 1)))))
theorem der__law_take {P : Program} {w : World} {K : PySem.W.Frag} {mg : Str → Option Value} {base : Heap} {k : Nat} {f : Addr} 
    (cdv : Value) (A : Around) (outer : List Env) (s : Shared) (H : Hp) (E : XK) (hr : Room k (A.deeper (envOfC "_law_take" (defScope s__law_take) s.heap.objs.size f cdv))) :
    DSs MT (cxOf CX0 P w K mg base N__law_take "_law_take" (defScope s__law_take) f cdv A outer s H E).nox (defBody s__law_take) (g__law_take) :=
  (dss_cons (ds_if (dt_cmp od_gt (de_ix (de_var 0) de_int) de_int (nomark _)) (dss_cons (ds_set (i := 2) sc__law_take.nd rfl (by first | exact Or.inl rfl | exact Or.inr rfl) (de_op od_mod (de_ix (de_var 0) de_int) (de_var 1))) (dss_cons (ds_setIx (de_var 0) de_int (de_op od_div (de_ix (de_var 0) de_int) (de_var 1))) (dss_one (ds_ret (de_var 2))))) dss_nil) (dss_cons (ds_setIx (de_var 0) de_int (de_op od_mod (de_op od_add (de_op od_mul (de_ix (de_var 0) de_int) de_int) de_int) de_int)) (dss_one (ds_ret (de_op od_mod (de_op od_div (de_op od_mod (de_op od_mul (de_ix (de_var 0) de_int) (de_ix (de_var 0) de_int)) de_int) de_int) (de_var 1))))))
/-! ### _law_marks -/
abbrev s__law_marks : Stmt := topS 27
abbrev N__law_marks : List Str := ["_law_pool_here", "_law_size", "_law_at", "_law_signs", "_law_found", "_law_k", "_law_places", "_law_j", "_law_place"]
abbrev P__law_marks : List Str := ["_law_pool_here"]
theorem sc__law_marks : FnScope N__law_marks P__law_marks (defScope s__law_marks) := ⟨rfl, rfl, rfl, by decide +kernel, rfl, by decide +kernel, by decide +kernel⟩
def g__law_marks (sp__law_take : DSp) : GS :=
  (gSeq (gSet (fOp rAddD (fC (.int 1)) (fCall sp__law_take (fCons (fVar 0) (fCons (fC (.int 6)) fNil)))) 1) (gSeq (gSet (fCall sp__law_take (fCons (fVar 0) (fCons (fVar 1) fNil))) 2) (gSeq (gSet (fLc (fiRng1 (fCons (fVar 1) fNil)) (.nm 7) fYes (fCall sp__law_take (fCons (fVar 0) (fCons (fC (.int 26)) fNil))) [7]) 3) (gSeq (gSet (fLstO fNil) 4) (gSeq (gFor (fiRng1 (fCons (fOp rAddD (fC (.int 1)) (fCall sp__law_take (fCons (fVar 0) (fCons (fC (.int 4)) fNil)))) fNil)) (.nm 5) (gSeq (gSet (fLc (fiRng1 (fCons (fVar 1) fNil)) (.nm 7) fYes (fOp rModD (fOp rAddD (fOp rIxD (fVar 3) (fVar 7)) (fOp rMulD (fOp rMulD (fC (.int 5)) (fVar 5)) (fCB rInt1 (fCons (fOp (rEqD false) (fVar 7) (fVar 2)) fNil)))) (fC (.int 26))) [7]) 6) (gDrop (fBM "list" rAppendD (fVar 4) (fCons (fBM "str" rJoinD (fC (.str "")) (fCons (fLc (fiList (fVar 6)) (.nm 8) fYes (fOp rIxD (fC (.str "abcdefghijklmnopqrstuvwxyz")) (fVar 8)) [8]) fNil)) fNil))))) (gRetF (fVar 4)))))))
theorem der__law_marks {P : Program} {w : World} {K : PySem.W.Frag} {mg : Str → Option Value} {base : Heap} {k : Nat} {f : Addr} {sp__law_take : DSp} {a__law_take : Addr} {fd__law_take : FuncData} (n__law_take : Fn K mg "_law_take" s__law_take P__law_take a__law_take fd__law_take) (G__law_take : FnOk P w K mg base CX0 k a__law_take fd__law_take P__law_take (liftSp K sp__law_take)) (m_range : mg "range" = none) (m_int : mg "int" = none)
    (cdv : Value) (A : Around) (outer : List Env) (s : Shared) (H : Hp) (E : XK) (hr : Room k (A.deeper (envOfC "_law_marks" (defScope s__law_marks) s.heap.objs.size f cdv))) :
    DSs MT (cxOf CX0 P w K mg base N__law_marks "_law_marks" (defScope s__law_marks) f cdv A outer s H E).nox (defBody s__law_marks) (g__law_marks sp__law_take) :=
  (dss_cons (ds_set (i := 1) sc__law_marks.nd rfl (by first | exact Or.inl rfl | exact Or.inr rfl) (de_op od_add de_int (de_callN n__law_take G__law_take hr (by rfl) (da_cons (de_var 0) (da_cons de_int da_nil))))) (dss_cons (ds_set (i := 2) sc__law_marks.nd rfl (by first | exact Or.inl rfl | exact Or.inr rfl) (de_callN n__law_take G__law_take hr (by rfl) (da_cons (de_var 0) (da_cons (de_var 1) da_nil)))) (dss_cons (ds_set (i := 3) sc__law_marks.nd rfl (by first | exact Or.inl rfl | exact Or.inr rfl) (de_lc (by rfl) sc__law_marks.nd (di_range1 (by rfl) m_range (da_cons (de_var 1) da_nil)) (blkOk_by (own := [("_law_j", 7)]) (N := N__law_marks) (sc := defScope s__law_marks) (by decide +kernel)) (fun _ _ _ _ _ => (dp_name (i := 7) sc__law_marks.nd (by rfl) (by first | exact Or.inl rfl | exact Or.inr rfl))) (fun _ _ _ _ _ => dts_nil) (fun _ _ _ _ _ => (de_callN n__law_take G__law_take hr (by rfl) (da_cons (de_var 0) (da_cons de_int da_nil)))))) (dss_cons (ds_set (i := 4) sc__law_marks.nd rfl (by first | exact Or.inl rfl | exact Or.inr rfl) (de_lstO da_nil)) (dss_cons (ds_for PassesOwn.never rfl (di_range1 (by rfl) m_range (da_cons (de_op od_add de_int (de_callN n__law_take G__law_take hr (by rfl) (da_cons (de_var 0) (da_cons de_int da_nil)))) da_nil)) (dp_name (i := 5) sc__law_marks.nd (by rfl) (by first | exact Or.inl rfl | exact Or.inr rfl)) (dss_cons (ds_setLc (i := 6) rfl sc__law_marks.nd rfl rfl (sw_true rfl rfl rfl (by decide +kernel)) (di_range1 (by rfl) m_range (da_cons (de_var 1) da_nil)) (blkOk_by (own := [("_law_j", 7)]) (N := N__law_marks) (sc := defScope s__law_marks) (by decide +kernel)) (fun _ _ _ _ _ => (dp_name (i := 7) sc__law_marks.nd (by rfl) (by first | exact Or.inl rfl | exact Or.inr rfl))) (fun _ _ _ _ _ => dts_nil) (fun _ _ _ _ _ => (de_op od_mod (de_op od_add (de_ix (de_var 3) (de_var 7)) (de_op od_mul (de_op od_mul de_int (de_var 5)) (de_callTy cd_int1 (by rfl) m_int bb_int (da_cons (de_cmp (od_eq hr.u200) (de_var 7) (de_var 2) (nomark _)) da_nil)))) de_int))) (dss_one (ds_expr (de_bm PySem.F.plainAttrs_list PySem.F.slot_list_append PySem.F.type_list_append md_append (de_var 4) (da_cons (de_bm PySem.F.plainAttrs_str PySem.F.slot_str_join PySem.F.type_str_join md_join de_str (da_cons (de_lc (by rfl) sc__law_marks.nd (di_list (de_var 6)) (blkOk_by (own := [("_law_place", 8)]) (N := N__law_marks) (sc := defScope s__law_marks) (by decide +kernel)) (fun _ _ _ _ _ => (dp_name (i := 8) sc__law_marks.nd (by rfl) (by first | exact Or.inl rfl | exact Or.inr rfl))) (fun _ _ _ _ _ => dts_nil) (fun _ _ _ _ _ => (de_ix de_str (de_var 8)))) da_nil)) da_nil)))))) (dss_one (ds_retF (de_var 4))))))))
/-! ### _law_kind -/
abbrev s__law_kind : Stmt := topS 28
abbrev N__law_kind : List Str := ["_law_pool_here", "_law_leaves_here", "_law_marks_here", "_law_first", "_law_one", "_law_other"]
abbrev P__law_kind : List Str := ["_law_pool_here", "_law_leaves_here", "_law_marks_here"]
theorem sc__law_kind : FnScope N__law_kind P__law_kind (defScope s__law_kind) := ⟨rfl, rfl, rfl, by decide +kernel, rfl, by decide +kernel, by decide +kernel⟩
def g__law_kind (sp__law_take sp__law_kind : DSp) : GS :=
  (gSeq (gIf (fTest (fOp (rEqD false) (fVar 1) (fC (.int 1)))) (gSeq (gIf (fTest (fOp (rEqD false) (fCall sp__law_take (fCons (fVar 0) (fCons (fC (.int 6)) fNil))) (fC (.int 0)))) (gRet (fTup (fCons (fC (.str "one")) fNil))) gNext) (gRet (fTup (fCons (fC (.str "mark")) (fCons (fOp rIxD (fVar 2) (fCall sp__law_take (fCons (fVar 0) (fCons (fCB rLenD (fCons (fVar 2) fNil)) fNil)))) fNil))))) gNext) (gSeq (gSet (fOp rAddD (fC (.int 1)) (fCall sp__law_take (fCons (fVar 0) (fCons (fOp rSubD (fVar 1) (fC (.int 1))) fNil)))) 3) (gSeq (gSet (fCall sp__law_kind (fCons (fVar 0) (fCons (fVar 3) (fCons (fVar 2) fNil)))) 4) (gSeq (gSet (fCall sp__law_kind (fCons (fVar 0) (fCons (fOp rSubD (fVar 1) (fVar 3)) (fCons (fVar 2) fNil)))) 5) (gRet (fTup (fCons (fOp rIxD (fLst (fCons (fC (.str "to")) (fCons (fC (.str "to")) (fCons (fC (.str "to")) (fCons (fC (.str "both")) fNil))))) (fCall sp__law_take (fCons (fVar 0) (fCons (fC (.int 4)) fNil)))) (fCons (fVar 4) (fCons (fVar 5) fNil)))))))))
theorem der__law_kind {P : Program} {w : World} {K : PySem.W.Frag} {mg : Str → Option Value} {base : Heap} {k : Nat} {f : Addr} {sp__law_take sp__law_kind : DSp} {a__law_take : Addr} {fd__law_take : FuncData} (n__law_take : Fn K mg "_law_take" s__law_take P__law_take a__law_take fd__law_take) (G__law_take : FnOk P w K mg base CX0 k a__law_take fd__law_take P__law_take (liftSp K sp__law_take)) {a__law_kind : Addr} {fd__law_kind : FuncData} (n__law_kind : Fn K mg "_law_kind" s__law_kind P__law_kind a__law_kind fd__law_kind) (G__law_kind : FnOk P w K mg base CX0 k a__law_kind fd__law_kind P__law_kind (liftSp K sp__law_kind)) (m_len : mg "len" = none)
    (cdv : Value) (A : Around) (outer : List Env) (s : Shared) (H : Hp) (E : XK) (hr : Room k (A.deeper (envOfC "_law_kind" (defScope s__law_kind) s.heap.objs.size f cdv))) :
    DSs MT (cxOf CX0 P w K mg base N__law_kind "_law_kind" (defScope s__law_kind) f cdv A outer s H E).nox (defBody s__law_kind) (g__law_kind sp__law_take sp__law_kind) :=
  (dss_cons (ds_if (dt_cmp (od_eq hr.u200) (de_var 1) de_int (nomark _)) (dss_cons (ds_if (dt_cmp (od_eq hr.u200) (de_callN n__law_take G__law_take hr (by rfl) (da_cons (de_var 0) (da_cons de_int da_nil))) de_int (nomark _)) (dss_one (ds_ret (de_tup (da_cons de_str da_nil)))) dss_nil) (dss_one (ds_ret (de_tup (da_cons de_str (da_cons (de_ix (de_var 2) (de_callN n__law_take G__law_take hr (by rfl) (da_cons (de_var 0) (da_cons (de_callB cd_len (by rfl) m_len bb_len (da_cons (de_var 2) da_nil)) da_nil)))) da_nil)))))) dss_nil) (dss_cons (ds_set (i := 3) sc__law_kind.nd rfl (by first | exact Or.inl rfl | exact Or.inr rfl) (de_op od_add de_int (de_callN n__law_take G__law_take hr (by rfl) (da_cons (de_var 0) (da_cons (de_op od_sub (de_var 1) de_int) da_nil))))) (dss_cons (ds_set (i := 4) sc__law_kind.nd rfl (by first | exact Or.inl rfl | exact Or.inr rfl) (de_callN n__law_kind G__law_kind hr (by rfl) (da_cons (de_var 0) (da_cons (de_var 3) (da_cons (de_var 2) da_nil))))) (dss_cons (ds_set (i := 5) sc__law_kind.nd rfl (by first | exact Or.inl rfl | exact Or.inr rfl) (de_callN n__law_kind G__law_kind hr (by rfl) (da_cons (de_var 0) (da_cons (de_op od_sub (de_var 1) (de_var 3)) (da_cons (de_var 2) da_nil))))) (dss_one (ds_ret (de_tup (da_cons (de_ix (de_lst (da_cons de_str (da_cons de_str (da_cons de_str (da_cons de_str da_nil))))) (de_callN n__law_take G__law_take hr (by rfl) (da_cons (de_var 0) (da_cons de_int da_nil)))) (da_cons (de_var 4) (da_cons (de_var 5) da_nil))))))))))
/-! ### _law_row -/
abbrev s__law_row : Stmt := topS 29
abbrev N__law_row : List Str := ["_law_pool_here", "_law_marks_here", "_law_left", "_law_row_here", "_law_name", "_law_leaves_here"]
abbrev P__law_row : List Str := ["_law_pool_here", "_law_marks_here", "_law_left"]
theorem sc__law_row : FnScope N__law_row P__law_row (defScope s__law_row) := ⟨rfl, rfl, rfl, by decide +kernel, rfl, by decide +kernel, by decide +kernel⟩
def g__law_row (sp__law_take sp__law_kind : DSp) : GS :=
  (gSeq (gSet (fLstO fNil) 3) (gSeq (gFor (fiList (fSl rSlD (fLst (fCons (fC (.str "f")) (fCons (fC (.str "gg")) (fCons (fC (.str "hat")) (fCons (fC (.str "k")) fNil))))) fNoPart (fPart (fCall sp__law_take (fCons (fVar 0) (fCons (fC (.int 5)) fNil)))))) (.nm 4) (gSeq (gSet (fOp rAddD (fC (.int 1)) (fCall sp__law_take (fCons (fVar 0) (fCons (fC (.int 4)) fNil)))) 5) (gIf (fTest (fOp rLeD (fVar 5) (fVar 2))) (gSeq (gDrop (fBM "list" rAppendD (fVar 3) (fCons (fTup (fCons (fVar 4) (fCons (fCall sp__law_kind (fCons (fVar 0) (fCons (fVar 5) (fCons (fVar 1) fNil)))) fNil))) fNil))) (gSet (fOp rSubD (fVar 2) (fVar 5)) 2)) gNext))) (gRetF (fVar 3))))
theorem der__law_row {P : Program} {w : World} {K : PySem.W.Frag} {mg : Str → Option Value} {base : Heap} {k : Nat} {f : Addr} {sp__law_take sp__law_kind : DSp} {a__law_take : Addr} {fd__law_take : FuncData} (n__law_take : Fn K mg "_law_take" s__law_take P__law_take a__law_take fd__law_take) (G__law_take : FnOk P w K mg base CX0 k a__law_take fd__law_take P__law_take (liftSp K sp__law_take)) {a__law_kind : Addr} {fd__law_kind : FuncData} (n__law_kind : Fn K mg "_law_kind" s__law_kind P__law_kind a__law_kind fd__law_kind) (G__law_kind : FnOk P w K mg base CX0 k a__law_kind fd__law_kind P__law_kind (liftSp K sp__law_kind))
    (cdv : Value) (A : Around) (outer : List Env) (s : Shared) (H : Hp) (E : XK) (hr : Room k (A.deeper (envOfC "_law_row" (defScope s__law_row) s.heap.objs.size f cdv))) :
    DSs MT (cxOf CX0 P w K mg base N__law_row "_law_row" (defScope s__law_row) f cdv A outer s H E).nox (defBody s__law_row) (g__law_row sp__law_take sp__law_kind) :=
  (dss_cons (ds_set (i := 3) sc__law_row.nd rfl (by first | exact Or.inl rfl | exact Or.inr rfl) (de_lstO da_nil)) (dss_cons (ds_for PassesOwn.never rfl (di_list (de_slice (de_lst (da_cons de_str (da_cons de_str (da_cons de_str (da_cons de_str da_nil))))) do_none (do_some (de_callN n__law_take G__law_take hr (by rfl) (da_cons (de_var 0) (da_cons de_int da_nil)))))) (dp_name (i := 4) sc__law_row.nd (by rfl) (by first | exact Or.inl rfl | exact Or.inr rfl)) (dss_cons (ds_set (i := 5) sc__law_row.nd rfl (by first | exact Or.inl rfl | exact Or.inr rfl) (de_op od_add de_int (de_callN n__law_take G__law_take hr (by rfl) (da_cons (de_var 0) (da_cons de_int da_nil))))) (dss_one (ds_if (dt_cmp od_le (de_var 5) (de_var 2) (nomark _)) (dss_cons (ds_expr (de_bm PySem.F.plainAttrs_list PySem.F.slot_list_append PySem.F.type_list_append md_append (de_var 3) (da_cons (de_tup (da_cons (de_var 4) (da_cons (de_callN n__law_kind G__law_kind hr (by rfl) (da_cons (de_var 0) (da_cons (de_var 5) (da_cons (de_var 1) da_nil)))) da_nil))) da_nil))) (dss_one (ds_set (i := 2) sc__law_row.nd rfl (by first | exact Or.inl rfl | exact Or.inr rfl) (de_op od_sub (de_var 2) (de_var 5))))) dss_nil)))) (dss_one (ds_retF (de_var 3)))))
/-! ### _law_tree -/
abbrev s__law_tree : Stmt := topS 30
abbrev N__law_tree : List Str := ["_law_pool_here", "_law_marks_here", "_law_had", "_law_room", "_law_own", "_law_many", "_law_mark", "_law_k"]
abbrev P__law_tree : List Str := ["_law_pool_here", "_law_marks_here", "_law_had", "_law_room"]
theorem sc__law_tree : FnScope N__law_tree P__law_tree (defScope s__law_tree) := ⟨rfl, rfl, rfl, by decide +kernel, rfl, by decide +kernel, by decide +kernel⟩
def g__law_tree (sp__law_take sp__law_tree : DSp) : GS :=
  (gSeq (gSet (fLc (fiList (fCB rSortD (fCons (fVar 1) fNil))) (.nm 6) (fOr (fTest (fOp (rInD false) (fVar 6) (fVar 2))) (fTest (fOp (rEqD false) (fCall sp__law_take (fCons (fVar 0) (fCons (fC (.int 3)) fNil))) (fC (.int 0))))) (fVar 6) [6]) 4) (gSeq (gSet (fOp rMulD (fCall sp__law_take (fCons (fVar 0) (fCons (fC (.int 3)) fNil))) (fCB rInt1 (fCons (fOp rGtD (fVar 3) (fC (.int 0))) fNil))) 5) (gRet (fTup (fCons (fVar 4) (fCons (fLc (fiRng1 (fCons (fVar 5) fNil)) (.nm 7) fYes (fCall sp__law_tree (fCons (fVar 0) (fCons (fVar 1) (fCons (fVar 4) (fCons (fOp rSubD (fVar 3) (fC (.int 1))) fNil))))) [7]) fNil))))))
theorem der__law_tree {P : Program} {w : World} {K : PySem.W.Frag} {mg : Str → Option Value} {base : Heap} {k : Nat} {f : Addr} {sp__law_take sp__law_tree : DSp} {a__law_take : Addr} {fd__law_take : FuncData} (n__law_take : Fn K mg "_law_take" s__law_take P__law_take a__law_take fd__law_take) (G__law_take : FnOk P w K mg base CX0 k a__law_take fd__law_take P__law_take (liftSp K sp__law_take)) {a__law_tree : Addr} {fd__law_tree : FuncData} (n__law_tree : Fn K mg "_law_tree" s__law_tree P__law_tree a__law_tree fd__law_tree) (G__law_tree : FnOk P w K mg base CX0 k a__law_tree fd__law_tree P__law_tree (liftSp K sp__law_tree)) (m_sorted : mg "sorted" = none) (m_int : mg "int" = none) (m_range : mg "range" = none)
    (cdv : Value) (A : Around) (outer : List Env) (s : Shared) (H : Hp) (E : XK) (hr : Room k (A.deeper (envOfC "_law_tree" (defScope s__law_tree) s.heap.objs.size f cdv))) :
    DSs MT (cxOf CX0 P w K mg base N__law_tree "_law_tree" (defScope s__law_tree) f cdv A outer s H E).nox (defBody s__law_tree) (g__law_tree sp__law_take sp__law_tree) :=
  (dss_cons (ds_set (i := 4) sc__law_tree.nd rfl (by first | exact Or.inl rfl | exact Or.inr rfl) (de_lc (by rfl) sc__law_tree.nd (di_list (de_callB cd_sorted (by rfl) m_sorted bb_sorted (da_cons (de_var 1) da_nil))) (blkOk_by (own := [("_law_mark", 6)]) (N := N__law_tree) (sc := defScope s__law_tree) (by decide +kernel)) (fun _ _ _ _ _ => (dp_name (i := 6) sc__law_tree.nd (by rfl) (by first | exact Or.inl rfl | exact Or.inr rfl))) (fun _ _ _ _ _ => (dts_one (dt_of (dw_or (dt_cmp (od_in hr.u200) (de_var 6) (de_var 2) (by rfl)) (dw_or1 (dt_cmp (od_eq hr.u200) (de_callN n__law_take G__law_take hr (by rfl) (da_cons (de_var 0) (da_cons de_int da_nil))) de_int (nomark _))))))) (fun _ _ _ _ _ => (de_var 6)))) (dss_cons (ds_set (i := 5) sc__law_tree.nd rfl (by first | exact Or.inl rfl | exact Or.inr rfl) (de_op od_mul (de_callN n__law_take G__law_take hr (by rfl) (da_cons (de_var 0) (da_cons de_int da_nil))) (de_callTy cd_int1 (by rfl) m_int bb_int (da_cons (de_cmp od_gt (de_var 3) de_int (nomark _)) da_nil)))) (dss_one (ds_ret (de_tup (da_cons (de_var 4) (da_cons (de_lc (by rfl) sc__law_tree.nd (di_range1 (by rfl) m_range (da_cons (de_var 5) da_nil)) (blkOk_by (own := [("_law_k", 7)]) (N := N__law_tree) (sc := defScope s__law_tree) (by decide +kernel)) (fun _ _ _ _ _ => (dp_name (i := 7) sc__law_tree.nd (by rfl) (by first | exact Or.inl rfl | exact Or.inr rfl))) (fun _ _ _ _ _ => dts_nil) (fun _ _ _ _ _ => (de_callN n__law_tree G__law_tree hr (by rfl) (da_cons (de_var 0) (da_cons (de_var 1) (da_cons (de_var 4) (da_cons (de_op od_sub (de_var 3) de_int) da_nil))))))) da_nil)))))))
/-! ### _law_leaves -/
abbrev s__law_leaves : Stmt := topS 31
abbrev N__law_leaves : List Str := ["_law_kind_here"]
abbrev P__law_leaves : List Str := ["_law_kind_here"]
theorem sc__law_leaves : FnScope N__law_leaves P__law_leaves (defScope s__law_leaves) := ⟨rfl, rfl, rfl, by decide +kernel, rfl, by decide +kernel, by decide +kernel⟩
def g__law_leaves (sp__law_leaves : DSp) : GS :=
  (gSeq (gIf (fTest (fOp rLtD (fCB rLenD (fCons (fVar 0) fNil)) (fC (.int 3)))) (gRet (fC (.int 1))) gNext) (gRet (fOp rAddD (fCall sp__law_leaves (fCons (fOp rIxD (fVar 0) (fC (.int 1))) fNil)) (fCall sp__law_leaves (fCons (fOp rIxD (fVar 0) (fC (.int 2))) fNil)))))
theorem der__law_leaves {P : Program} {w : World} {K : PySem.W.Frag} {mg : Str → Option Value} {base : Heap} {k : Nat} {f : Addr} {sp__law_leaves : DSp} {a__law_leaves : Addr} {fd__law_leaves : FuncData} (n__law_leaves : Fn K mg "_law_leaves" s__law_leaves P__law_leaves a__law_leaves fd__law_leaves) (G__law_leaves : FnOk P w K mg base CX0 k a__law_leaves fd__law_leaves P__law_leaves (liftSp K sp__law_leaves)) (m_len : mg "len" = none)
    (cdv : Value) (A : Around) (outer : List Env) (s : Shared) (H : Hp) (E : XK) (hr : Room k (A.deeper (envOfC "_law_leaves" (defScope s__law_leaves) s.heap.objs.size f cdv))) :
    DSs MT (cxOf CX0 P w K mg base N__law_leaves "_law_leaves" (defScope s__law_leaves) f cdv A outer s H E).nox (defBody s__law_leaves) (g__law_leaves sp__law_leaves) :=
  (dss_cons (ds_if (dt_cmp od_lt (de_callB cd_len (by rfl) m_len bb_len (da_cons (de_var 0) da_nil)) de_int (nomark _)) (dss_one (ds_ret de_int)) dss_nil) (dss_one (ds_ret (de_op od_add (de_callN n__law_leaves G__law_leaves hr (by rfl) (da_cons (de_ix (de_var 0) de_int) da_nil)) (de_callN n__law_leaves G__law_leaves hr (by rfl) (da_cons (de_ix (de_var 0) de_int) da_nil))))))
/-! ### _law_told -/
abbrev s__law_told : Stmt := topS 32
abbrev N__law_told : List Str := ["_law_known", "_law_found", "_law_kind_here"]
abbrev P__law_told : List Str := ["_law_known"]
theorem sc__law_told : FnScope N__law_told P__law_told (defScope s__law_told) := ⟨rfl, rfl, rfl, by decide +kernel, rfl, by decide +kernel, by decide +kernel⟩
def g__law_told : GS :=
  (gSeq (gSet (fCB rList1O (fCons (fVar 0) fNil)) 1) (gSeq (gFor (fiList (fVar 0)) (.nm 2) (gSeq (gIf (fTest (fOp (rEqD false) (fOp rIxD (fVar 2) (fC (.int 0))) (fC (.str "both")))) (gSet (fOp rCatO (fVar 1) (fLst (fCons (fOp rIxD (fVar 2) (fC (.int 1))) (fCons (fOp rIxD (fVar 2) (fC (.int 2))) fNil)))) 1) gNext) (gIf (fAnd (fTest (fOp (rEqD false) (fOp rIxD (fVar 2) (fC (.int 0))) (fC (.str "to")))) (fTest (fOp (rInD false) (fOp rIxD (fVar 2) (fC (.int 1))) (fVar 0)))) (gDrop (fBM "list" rAppendD (fVar 1) (fCons (fOp rIxD (fVar 2) (fC (.int 2))) fNil))) gNext))) (gRetF (fVar 1))))
theorem der__law_told {P : Program} {w : World} {K : PySem.W.Frag} {mg : Str → Option Value} {base : Heap} {k : Nat} {f : Addr} (m_list : mg "list" = none)
    (cdv : Value) (A : Around) (outer : List Env) (s : Shared) (H : Hp) (E : XK) (hr : Room k (A.deeper (envOfC "_law_told" (defScope s__law_told) s.heap.objs.size f cdv))) :
    DSs MT (cxOf CX0 P w K mg base N__law_told "_law_told" (defScope s__law_told) f cdv A outer s H E).nox (defBody s__law_told) (g__law_told) :=
  (dss_cons (ds_set (i := 1) sc__law_told.nd rfl (by first | exact Or.inl rfl | exact Or.inr rfl) (de_callTy cd_list1O (by rfl) m_list bb_list (da_cons (de_var 0) da_nil))) (dss_cons (ds_for PassesOwn.never rfl (di_list (de_var 0)) (dp_name (i := 2) sc__law_told.nd (by rfl) (by first | exact Or.inl rfl | exact Or.inr rfl)) (dss_cons (ds_if (dt_cmp (od_eq hr.u200) (de_ix (de_var 2) de_int) de_str (nomark _)) (dss_one (ds_set (i := 1) sc__law_told.nd rfl (by first | exact Or.inl rfl | exact Or.inr rfl) (de_op od_catO (de_var 1) (de_lst (da_cons (de_ix (de_var 2) de_int) (da_cons (de_ix (de_var 2) de_int) da_nil)))))) dss_nil) (dss_one (ds_if (dt_of (dw_and (dt_cmp (od_eq hr.u200) (de_ix (de_var 2) de_int) de_str (nomark _)) (dw_and1 (dt_cmp (od_in hr.u200) (de_ix (de_var 2) de_int) (de_var 0) (by rfl))))) (dss_one (ds_expr (de_bm PySem.F.plainAttrs_list PySem.F.slot_list_append PySem.F.type_list_append md_append (de_var 1) (da_cons (de_ix (de_var 2) de_int) da_nil)))) dss_nil)))) (dss_one (ds_retF (de_var 1)))))
/-! ### _law_made -/
abbrev s__law_made : Stmt := topS 33
abbrev N__law_made : List Str := ["_law_pool_here", "_law_known", "_law_marks_here", "_law_room", "_law_way", "_law_some", "_law_taken"]
abbrev P__law_made : List Str := ["_law_pool_here", "_law_known", "_law_marks_here", "_law_room"]
theorem sc__law_made : FnScope N__law_made P__law_made (defScope s__law_made) := ⟨rfl, rfl, rfl, by decide +kernel, rfl, by decide +kernel, by decide +kernel⟩
def g__law_made (sp__law_take sp__law_told sp__law_made sp__law_kind : DSp) : GS :=
  (gSeq (gSet (fCall sp__law_take (fCons (fVar 0) (fCons (fC (.int 5)) fNil))) 4) (gSeq (gIf (fOr (fTest (fOp (rEqD false) (fVar 3) (fC (.int 0)))) (fTest (fOp rLtD (fVar 4) (fC (.int 2))))) (gSeq (gSet (fOp rAddD (fCall sp__law_told (fCons (fCall sp__law_told (fCons (fVar 1) fNil)) fNil)) (fLst (fCons (fTup (fCons (fC (.str "one")) fNil)) fNil))) 5) (gRet (fOp rIxD (fVar 5) (fCall sp__law_take (fCons (fVar 0) (fCons (fCB rLenD (fCons (fVar 5) fNil)) fNil)))))) gNext) (gSeq (gIf (fTest (fOp (rEqD false) (fVar 4) (fC (.int 2)))) (gRet (fTup (fCons (fC (.str "both")) (fCons (fCall sp__law_made (fCons (fVar 0) (fCons (fVar 1) (fCons (fVar 2) (fCons (fOp rSubD (fVar 3) (fC (.int 1))) fNil))))) (fCons (fCall sp__law_made (fCons (fVar 0) (fCons (fVar 1) (fCons (fVar 2) (fCons (fOp rSubD (fVar 3) (fC (.int 1))) fNil))))) fNil))))) gNext) (gSeq (gSet (fCall sp__law_kind (fCons (fVar 0) (fCons (fOp rAddD (fC (.int 1)) (fCall sp__law_take (fCons (fVar 0) (fCons (fC (.int 3)) fNil)))) (fCons (fVar 2) fNil)))) 6) (gRet (fTup (fCons (fC (.str "to")) (fCons (fVar 6) (fCons (fCall sp__law_made (fCons (fVar 0) (fCons (fOp rAddD (fVar 1) (fLst (fCons (fVar 6) fNil))) (fCons (fVar 2) (fCons (fOp rSubD (fVar 3) (fC (.int 1))) fNil))))) fNil)))))))))
theorem der__law_made {P : Program} {w : World} {K : PySem.W.Frag} {mg : Str → Option Value} {base : Heap} {k : Nat} {f : Addr} {sp__law_take sp__law_told sp__law_made sp__law_kind : DSp} {a__law_take : Addr} {fd__law_take : FuncData} (n__law_take : Fn K mg "_law_take" s__law_take P__law_take a__law_take fd__law_take) (G__law_take : FnOk P w K mg base CX0 k a__law_take fd__law_take P__law_take (liftSp K sp__law_take)) {a__law_told : Addr} {fd__law_told : FuncData} (n__law_told : Fn K mg "_law_told" s__law_told P__law_told a__law_told fd__law_told) (G__law_told : FnOk P w K mg base CX0 k a__law_told fd__law_told P__law_told (liftSp K sp__law_told)) {a__law_made : Addr} {fd__law_made : FuncData} (n__law_made : Fn K mg "_law_made" s__law_made P__law_made a__law_made fd__law_made) (G__law_made : FnOk P w K mg base CX0 k a__law_made fd__law_made P__law_made (liftSp K sp__law_made)) {a__law_kind : Addr} {fd__law_kind : FuncData} (n__law_kind : Fn K mg "_law_kind" s__law_kind P__law_kind a__law_kind fd__law_kind) (G__law_kind : FnOk P w K mg base CX0 k a__law_kind fd__law_kind P__law_kind (liftSp K sp__law_kind)) (m_len : mg "len" = none)
    (cdv : Value) (A : Around) (outer : List Env) (s : Shared) (H : Hp) (E : XK) (hr : Room k (A.deeper (envOfC "_law_made" (defScope s__law_made) s.heap.objs.size f cdv))) :
    DSs MT (cxOf CX0 P w K mg base N__law_made "_law_made" (defScope s__law_made) f cdv A outer s H E).nox (defBody s__law_made) (g__law_made sp__law_take sp__law_told sp__law_made sp__law_kind) :=
  (dss_cons (ds_set (i := 4) sc__law_made.nd rfl (by first | exact Or.inl rfl | exact Or.inr rfl) (de_callN n__law_take G__law_take hr (by rfl) (da_cons (de_var 0) (da_cons de_int da_nil)))) (dss_cons (ds_if (dt_of (dw_or (dt_cmp (od_eq hr.u200) (de_var 3) de_int (nomark _)) (dw_or1 (dt_cmp od_lt (de_var 4) de_int (nomark _))))) (dss_cons (ds_set (i := 5) sc__law_made.nd rfl (by first | exact Or.inl rfl | exact Or.inr rfl) (de_op od_add (de_callN n__law_told G__law_told hr (by rfl) (da_cons (de_callN n__law_told G__law_told hr (by rfl) (da_cons (de_var 1) da_nil)) da_nil)) (de_lst (da_cons (de_tup (da_cons de_str da_nil)) da_nil)))) (dss_one (ds_ret (de_ix (de_var 5) (de_callN n__law_take G__law_take hr (by rfl) (da_cons (de_var 0) (da_cons (de_callB cd_len (by rfl) m_len bb_len (da_cons (de_var 5) da_nil)) da_nil))))))) dss_nil) (dss_cons (ds_if (dt_cmp (od_eq hr.u200) (de_var 4) de_int (nomark _)) (dss_one (ds_ret (de_tup (da_cons de_str (da_cons (de_callN n__law_made G__law_made hr (by rfl) (da_cons (de_var 0) (da_cons (de_var 1) (da_cons (de_var 2) (da_cons (de_op od_sub (de_var 3) de_int) da_nil))))) (da_cons (de_callN n__law_made G__law_made hr (by rfl) (da_cons (de_var 0) (da_cons (de_var 1) (da_cons (de_var 2) (da_cons (de_op od_sub (de_var 3) de_int) da_nil))))) da_nil)))))) dss_nil) (dss_cons (ds_set (i := 6) sc__law_made.nd rfl (by first | exact Or.inl rfl | exact Or.inr rfl) (de_callN n__law_kind G__law_kind hr (by rfl) (da_cons (de_var 0) (da_cons (de_op od_add de_int (de_callN n__law_take G__law_take hr (by rfl) (da_cons (de_var 0) (da_cons de_int da_nil)))) (da_cons (de_var 2) da_nil))))) (dss_one (ds_ret (de_tup (da_cons de_str (da_cons (de_var 6) (da_cons (de_callN n__law_made G__law_made hr (by rfl) (da_cons (de_var 0) (da_cons (de_op od_add (de_var 1) (de_lst (da_cons (de_var 6) da_nil))) (da_cons (de_var 2) (da_cons (de_op od_sub (de_var 3) de_int) da_nil))))) da_nil))))))))))
/-! ### law -/
abbrev s_law : Stmt := topS 34
abbrev N_law : List Str := ["_law_script", "_law_k", "_law_pool_here", "_law_marks_here", "_law_row_here", "_law_kind_here", "_law_turn", "_law_tree_here", "_law_amiss", "_law_name", "_law_given"]
abbrev P_law : List Str := ["_law_script"]
theorem sc_law : FnScope N_law P_law (defScope s_law) := ⟨rfl, rfl, rfl, by decide +kernel, rfl, by decide +kernel, by decide +kernel⟩
def g_law (sp__law_pool sp__law_marks sp__law_row sp__law_made sp__law_leaves sp_barring sp__law_tree sp_holds sp_bars : DSp) : GS :=
  (gSeq (gFor (fiRng1 (fCons (fCB rMax2 (fCons (fC (.int 1)) (fCons (fCB rMin2 (fCons (fCB rLenD (fCons (fVar 0) fNil)) (fCons (fC (.int 12)) fNil))) fNil))) fNil)) (.nm 1) (gSeq (gSet (fCall sp__law_pool (fCons (fVar 0) (fCons (fVar 1) fNil))) 2) (gSeq (gSet (fCall sp__law_marks (fCons (fVar 2) fNil)) 3) (gSeq (gSet (fCall sp__law_row (fCons (fVar 2) (fCons (fVar 3) (fCons (fC (.int 6)) fNil)))) 4) (gSeq (gSet (fCall sp__law_made (fCons (fVar 2) (fCons (fLc (fiList (fVar 4)) (.tp [(.nm 9), (.nm 10)]) fYes (fVar 10) [9, 10]) (fCons (fVar 3) (fCons (fC (.int 3)) fNil))))) 5) (gIf (fTest (fOp rLeD (fOp rAddD (fCB rSumD (fCons (fLc (fiList (fVar 4)) (.tp [(.nm 9), (.nm 10)]) fYes (fCall sp__law_leaves (fCons (fVar 10) fNil)) [9, 10]) fNil)) (fCall sp__law_leaves (fCons (fVar 5) fNil))) (fC (.int 12)))) (gSeq (gIf (fTest (fOp (rIsN true) (fCall sp_barring (fCons (fVar 4) (fCons (fVar 5) fNil))) (fC .non))) (gRet (fC (.bl false))) gNext) (gFor (fiRng1 (fCons (fC (.int 3)) fNil)) (.nm 6) (gSeq (gSet (fCall sp__law_tree (fCons (fVar 2) (fCons (fVar 3) (fCons (fLst fNil) (fCons (fC (.int 3)) fNil))))) 7) (gSeq (gSet (fLc (fiList (fVar 4)) (.tp [(.nm 9), (.nm 10)]) (fNot (fTest (fCall sp_holds (fCons (fVar 7) (fCons (fVar 10) fNil))))) (fVar 9) [9, 10]) 8) (gIf (fOr (fTest (fOp (rIsB true) (fCall sp_bars (fCons (fVar 4) (fCons (fVar 5) (fCons (fVar 7) fNil)))) (fC (.bl false)))) (fAnd (fTest (fOp (rEqD false) (fVar 8) (fLst fNil))) (fNot (fTest (fCall sp_holds (fCons (fVar 7) (fCons (fVar 5) fNil))))))) (gRet (fC (.bl false))) gNext))))) gNext)))))) (gRet (fC (.bl true))))
theorem der_law {P : Program} {w : World} {K : PySem.W.Frag} {mg : Str → Option Value} {base : Heap} {k : Nat} {f : Addr} {sp__law_pool sp__law_marks sp__law_row sp__law_made sp__law_leaves sp_barring sp__law_tree sp_holds sp_bars : DSp} {a__law_pool : Addr} {fd__law_pool : FuncData} (n__law_pool : Fn K mg "_law_pool" s__law_pool P__law_pool a__law_pool fd__law_pool) (G__law_pool : FnOk P w K mg base CX0 k a__law_pool fd__law_pool P__law_pool (liftSp K sp__law_pool)) {a__law_marks : Addr} {fd__law_marks : FuncData} (n__law_marks : Fn K mg "_law_marks" s__law_marks P__law_marks a__law_marks fd__law_marks) (G__law_marks : FnOk P w K mg base CX0 k a__law_marks fd__law_marks P__law_marks (liftSp K sp__law_marks)) {a__law_row : Addr} {fd__law_row : FuncData} (n__law_row : Fn K mg "_law_row" s__law_row P__law_row a__law_row fd__law_row) (G__law_row : FnOk P w K mg base CX0 k a__law_row fd__law_row P__law_row (liftSp K sp__law_row)) {a__law_made : Addr} {fd__law_made : FuncData} (n__law_made : Fn K mg "_law_made" s__law_made P__law_made a__law_made fd__law_made) (G__law_made : FnOk P w K mg base CX0 k a__law_made fd__law_made P__law_made (liftSp K sp__law_made)) {a__law_leaves : Addr} {fd__law_leaves : FuncData} (n__law_leaves : Fn K mg "_law_leaves" s__law_leaves P__law_leaves a__law_leaves fd__law_leaves) (G__law_leaves : FnOk P w K mg base CX0 k a__law_leaves fd__law_leaves P__law_leaves (liftSp K sp__law_leaves)) {a_barring : Addr} {fd_barring : FuncData} (n_barring : Fn K mg "barring" s_barring P_barring a_barring fd_barring) (G_barring : FnOk P w K mg base CX0 k a_barring fd_barring P_barring (liftSp K sp_barring)) {a__law_tree : Addr} {fd__law_tree : FuncData} (n__law_tree : Fn K mg "_law_tree" s__law_tree P__law_tree a__law_tree fd__law_tree) (G__law_tree : FnOk P w K mg base CX0 k a__law_tree fd__law_tree P__law_tree (liftSp K sp__law_tree)) {a_holds : Addr} {fd_holds : FuncData} (n_holds : Fn K mg "holds" s_holds P_holds a_holds fd_holds) (G_holds : FnOk P w K mg base CX0 k a_holds fd_holds P_holds (liftSp K sp_holds)) {a_bars : Addr} {fd_bars : FuncData} (n_bars : Fn K mg "bars" s_bars P_bars a_bars fd_bars) (G_bars : FnOk P w K mg base CX0 k a_bars fd_bars P_bars (liftSp K sp_bars)) (m_range : mg "range" = none) (m_len : mg "len" = none) (m_min : mg "min" = none) (m_max : mg "max" = none) (m_sum : mg "sum" = none)
    (cdv : Value) (A : Around) (outer : List Env) (s : Shared) (H : Hp) (E : XK) (hr : Room k (A.deeper (envOfC "law" (defScope s_law) s.heap.objs.size f cdv))) :
    DSs MT (cxOf CX0 P w K mg base N_law "law" (defScope s_law) f cdv A outer s H E).nox (defBody s_law) (g_law sp__law_pool sp__law_marks sp__law_row sp__law_made sp__law_leaves sp_barring sp__law_tree sp_holds sp_bars) :=
  (dss_cons (ds_for PassesOwn.never rfl (di_range1 (by rfl) m_range (da_cons (de_callB (cd_max2 (by rfl)) (by rfl) m_max bb_max (da_cons de_int (da_cons (de_callB (cd_min2 (by rfl)) (by rfl) m_min bb_min (da_cons (de_callB cd_len (by rfl) m_len bb_len (da_cons (de_var 0) da_nil)) (da_cons de_int da_nil))) da_nil))) da_nil)) (dp_name (i := 1) sc_law.nd (by rfl) (by first | exact Or.inl rfl | exact Or.inr rfl)) (dss_cons (ds_set (i := 2) sc_law.nd rfl (by first | exact Or.inl rfl | exact Or.inr rfl) (de_callN n__law_pool G__law_pool hr (by rfl) (da_cons (de_var 0) (da_cons (de_var 1) da_nil)))) (dss_cons (ds_set (i := 3) sc_law.nd rfl (by first | exact Or.inl rfl | exact Or.inr rfl) (de_callN n__law_marks G__law_marks hr (by rfl) (da_cons (de_var 2) da_nil))) (dss_cons (ds_set (i := 4) sc_law.nd rfl (by first | exact Or.inl rfl | exact Or.inr rfl) (de_callN n__law_row G__law_row hr (by rfl) (da_cons (de_var 2) (da_cons (de_var 3) (da_cons de_int da_nil))))) (dss_cons (ds_set (i := 5) sc_law.nd rfl (by first | exact Or.inl rfl | exact Or.inr rfl) (de_callN n__law_made G__law_made hr (by rfl) (da_cons (de_var 2) (da_cons (de_lc (by rfl) sc_law.nd (di_list (de_var 4)) (blkOk_by (own := [("_law_name", 9), ("_law_given", 10)]) (N := N_law) (sc := defScope s_law) (by decide +kernel)) (fun _ _ _ _ _ => (dp_tup (by rfl) (dps_cons (dp_name (i := 9) sc_law.nd (by rfl) (by first | exact Or.inl rfl | exact Or.inr rfl)) (dps_cons (dp_name (i := 10) sc_law.nd (by rfl) (by first | exact Or.inl rfl | exact Or.inr rfl)) dps_nil)))) (fun _ _ _ _ _ => dts_nil) (fun _ _ _ _ _ => (de_var 10))) (da_cons (de_var 3) (da_cons de_int da_nil)))))) (dss_one (ds_if (dt_cmp od_le (de_op od_add (de_callB (cd_sum (by rfl)) (by rfl) m_sum bb_sum (da_cons (de_lc (by rfl) sc_law.nd (di_list (de_var 4)) (blkOk_by (own := [("_law_name", 9), ("_law_given", 10)]) (N := N_law) (sc := defScope s_law) (by decide +kernel)) (fun _ _ _ _ _ => (dp_tup (by rfl) (dps_cons (dp_name (i := 9) sc_law.nd (by rfl) (by first | exact Or.inl rfl | exact Or.inr rfl)) (dps_cons (dp_name (i := 10) sc_law.nd (by rfl) (by first | exact Or.inl rfl | exact Or.inr rfl)) dps_nil)))) (fun _ _ _ _ _ => dts_nil) (fun _ _ _ _ _ => (de_callN n__law_leaves G__law_leaves hr (by rfl) (da_cons (de_var 10) da_nil)))) da_nil)) (de_callN n__law_leaves G__law_leaves hr (by rfl) (da_cons (de_var 5) da_nil))) de_int (nomark _)) (dss_cons (ds_if (dt_cmp od_isnot (de_callN n_barring G_barring hr (by rfl) (da_cons (de_var 4) (da_cons (de_var 5) da_nil))) de_non (nomark _)) (dss_one (ds_ret de_bl)) dss_nil) (dss_one (ds_for PassesOwn.never rfl (di_range1 (by rfl) m_range (da_cons de_int da_nil)) (dp_name (i := 6) sc_law.nd (by rfl) (by first | exact Or.inl rfl | exact Or.inr rfl)) (dss_cons (ds_set (i := 7) sc_law.nd rfl (by first | exact Or.inl rfl | exact Or.inr rfl) (de_callN n__law_tree G__law_tree hr (by rfl) (da_cons (de_var 2) (da_cons (de_var 3) (da_cons (de_lst da_nil) (da_cons de_int da_nil)))))) (dss_cons (ds_setLc (i := 8) rfl sc_law.nd rfl rfl (sw_true rfl rfl rfl (by decide +kernel)) (di_list (de_var 4)) (blkOk_by (own := [("_law_name", 9), ("_law_given", 10)]) (N := N_law) (sc := defScope s_law) (by decide +kernel)) (fun _ _ _ _ _ => (dp_tup (by rfl) (dps_cons (dp_name (i := 9) sc_law.nd (by rfl) (by first | exact Or.inl rfl | exact Or.inr rfl)) (dps_cons (dp_name (i := 10) sc_law.nd (by rfl) (by first | exact Or.inl rfl | exact Or.inr rfl)) dps_nil)))) (fun _ _ _ _ _ => (dts_one (dt_not (dt_val (de_callN n_holds G_holds hr (by rfl) (da_cons (de_var 7) (da_cons (de_var 10) da_nil))))))) (fun _ _ _ _ _ => (de_var 9))) (dss_one (ds_if (dt_of (dw_or (dt_cmp od_isnotB (de_callN n_bars G_bars hr (by rfl) (da_cons (de_var 4) (da_cons (de_var 5) (da_cons (de_var 7) da_nil)))) de_bl (nomark _)) (dw_or1 (dt_of (dw_and (dt_cmp (od_eq hr.u200) (de_var 8) (de_lst da_nil) (nomark _)) (dw_and1 (dt_not (dt_val (de_callN n_holds G_holds hr (by rfl) (da_cons (de_var 7) (da_cons (de_var 5) da_nil))))))))))) (dss_one (ds_ret de_bl)) dss_nil))))))) dss_nil))))))) (dss_one (ds_ret de_bl)))
/-! ### all facts of the text -/
structure Tx (K : PySem.W.Frag) (mg : Str → Option Value) where
  C_Having : Addr
  cl_Having : Cls K C_Having
  na_Having_kinds : NoAttr K C_Having "kinds"
  na_Having_found : NoAttr K C_Having "found"
  a_is_mark : Addr
  fd_is_mark : FuncData
  n_is_mark : Fn K mg "is_mark" s_is_mark P_is_mark a_is_mark fd_is_mark
  a_ends_of : Addr
  fd_ends_of : FuncData
  n_ends_of : Fn K mg "ends_of" s_ends_of P_ends_of a_ends_of fd_ends_of
  a_ways_of : Addr
  fd_ways_of : FuncData
  n_ways_of : Fn K mg "ways_of" s_ways_of P_ways_of a_ways_of fd_ways_of
  a_shown_kind : Addr
  fd_shown_kind : FuncData
  n_shown_kind : Fn K mg "shown_kind" s_shown_kind P_shown_kind a_shown_kind fd_shown_kind
  a_are_marks : Addr
  fd_are_marks : FuncData
  n_are_marks : Fn K mg "are_marks" s_are_marks P_are_marks a_are_marks fd_are_marks
  a_has_tree_form : Addr
  fd_has_tree_form : FuncData
  n_has_tree_form : Fn K mg "has_tree_form" s_has_tree_form P_has_tree_form a_has_tree_form fd_has_tree_form
  a_is_tree : Addr
  fd_is_tree : FuncData
  n_is_tree : Fn K mg "is_tree" s_is_tree P_is_tree a_is_tree fd_is_tree
  a_put_worlds : Addr
  fd_put_worlds : FuncData
  n_put_worlds : Fn K mg "put_worlds" s_put_worlds P_put_worlds a_put_worlds fd_put_worlds
  a_worlds_in : Addr
  fd_worlds_in : FuncData
  n_worlds_in : Fn K mg "worlds_in" s_worlds_in P_worlds_in a_worlds_in fd_worlds_in
  a_led_on : Addr
  fd_led_on : FuncData
  n_led_on : Fn K mg "led_on" s_led_on P_led_on a_led_on fd_led_on
  a_truths : Addr
  fd_truths : FuncData
  n_truths : Fn K mg "truths" s_truths P_truths a_truths fd_truths
  a_holds : Addr
  fd_holds : FuncData
  n_holds : Fn K mg "holds" s_holds P_holds a_holds fd_holds
  a_bars : Addr
  fd_bars : FuncData
  n_bars : Fn K mg "bars" s_bars P_bars a_bars fd_bars
  a_Having___init__ : Addr
  fd_Having___init__ : FuncData
  n_Having___init__ : Mt K C_Having "__init__" "Having.__init__" s_Having___init__ P_Having___init__ a_Having___init__ fd_Having___init__
  a_Having_with_more : Addr
  fd_Having_with_more : FuncData
  n_Having_with_more : Mt K C_Having "with_more" "Having.with_more" s_Having_with_more P_Having_with_more a_Having_with_more fd_Having_with_more
  a_Having_had : Addr
  fd_Having_had : FuncData
  n_Having_had : Mt K C_Having "had" "Having.had" s_Having_had P_Having_had a_Having_had fd_Having_had
  a_Having_had_more : Addr
  fd_Having_had_more : FuncData
  n_Having_had_more : Mt K C_Having "had_more" "Having.had_more" s_Having_had_more P_Having_had_more a_Having_had_more fd_Having_had_more
  a_Having_first_not_had : Addr
  fd_Having_first_not_had : FuncData
  n_Having_first_not_had : Mt K C_Having "first_not_had" "Having.first_not_had" s_Having_first_not_had P_Having_first_not_had a_Having_first_not_had fd_Having_first_not_had
  a_Having_lack_of : Addr
  fd_Having_lack_of : FuncData
  n_Having_lack_of : Mt K C_Having "lack_of" "Having.lack_of" s_Having_lack_of P_Having_lack_of a_Having_lack_of fd_Having_lack_of
  a_Having_tree : Addr
  fd_Having_tree : FuncData
  n_Having_tree : Mt K C_Having "tree" "Having.tree" s_Having_tree P_Having_tree a_Having_tree fd_Having_tree
  a_barring : Addr
  fd_barring : FuncData
  n_barring : Fn K mg "barring" s_barring P_barring a_barring fd_barring
  a__law_pool : Addr
  fd__law_pool : FuncData
  n__law_pool : Fn K mg "_law_pool" s__law_pool P__law_pool a__law_pool fd__law_pool
  a__law_take : Addr
  fd__law_take : FuncData
  n__law_take : Fn K mg "_law_take" s__law_take P__law_take a__law_take fd__law_take
  a__law_marks : Addr
  fd__law_marks : FuncData
  n__law_marks : Fn K mg "_law_marks" s__law_marks P__law_marks a__law_marks fd__law_marks
  a__law_kind : Addr
  fd__law_kind : FuncData
  n__law_kind : Fn K mg "_law_kind" s__law_kind P__law_kind a__law_kind fd__law_kind
  a__law_row : Addr
  fd__law_row : FuncData
  n__law_row : Fn K mg "_law_row" s__law_row P__law_row a__law_row fd__law_row
  a__law_tree : Addr
  fd__law_tree : FuncData
  n__law_tree : Fn K mg "_law_tree" s__law_tree P__law_tree a__law_tree fd__law_tree
  a__law_leaves : Addr
  fd__law_leaves : FuncData
  n__law_leaves : Fn K mg "_law_leaves" s__law_leaves P__law_leaves a__law_leaves fd__law_leaves
  a__law_told : Addr
  fd__law_told : FuncData
  n__law_told : Fn K mg "_law_told" s__law_told P__law_told a__law_told fd__law_told
  a__law_made : Addr
  fd__law_made : FuncData
  n__law_made : Fn K mg "_law_made" s__law_made P__law_made a__law_made fd__law_made
  a_law : Addr
  fd_law : FuncData
  n_law : Fn K mg "law" s_law P_law a_law fd_law
  m_len : mg "len" = none
  m_list : mg "list" = none
  m_isinstance : mg "isinstance" = none
  m_str : mg "str" = none
  m_tuple : mg "tuple" = none
  m_reversed : mg "reversed" = none
  m_range : mg "range" = none
  m_zip : mg "zip" = none
  m_sorted : mg "sorted" = none
  m_min : mg "min" = none
  m_int : mg "int" = none
  m_max : mg "max" = none
  m_sum : mg "sum" = none
  c_LETTERS : Cst K mg "LETTERS" (.str "abcdefghijklmnopqrstuvwxyz")
  c_LONGEST : Cst K mg "LONGEST" (.int 6)
  c_ONE : Cst K mg "ONE" (.tup [(.str "one")])
  c_DEEPEST : Cst K mg "DEEPEST" (.int 40)
  mk_Having : MkN K mg "Having" C_Having a_Having___init__
section
variable {P : Program} {w : World} {K : PySem.W.Frag} {mg : Str → Option Value} {base : Heap}
abbrev FO_is_mark (P : Program) (w : World) (base : Heap) (T : Tx K mg) (k : Nat) (sp : DSp) : Prop := FnOk P w K mg base CX0 k T.a_is_mark T.fd_is_mark P_is_mark (liftSp K sp)
abbrev FO_ends_of (P : Program) (w : World) (base : Heap) (T : Tx K mg) (k : Nat) (sp : DSp) : Prop := FnOk P w K mg base CX0 k T.a_ends_of T.fd_ends_of P_ends_of (liftSp K sp)
abbrev FO_ways_of (P : Program) (w : World) (base : Heap) (T : Tx K mg) (k : Nat) (sp : DSp) : Prop := FnOk P w K mg base CX0 k T.a_ways_of T.fd_ways_of P_ways_of (liftSp K sp)
abbrev FO_shown_kind (P : Program) (w : World) (base : Heap) (T : Tx K mg) (k : Nat) (sp : DSp) : Prop := FnOk P w K mg base CX0 k T.a_shown_kind T.fd_shown_kind P_shown_kind (liftSp K sp)
abbrev FO_are_marks (P : Program) (w : World) (base : Heap) (T : Tx K mg) (k : Nat) (sp : DSp) : Prop := FnOk P w K mg base CX0 k T.a_are_marks T.fd_are_marks P_are_marks (liftSp K sp)
abbrev FO_has_tree_form (P : Program) (w : World) (base : Heap) (T : Tx K mg) (k : Nat) (sp : DSp) : Prop := FnOk P w K mg base CX0 k T.a_has_tree_form T.fd_has_tree_form P_has_tree_form (liftSp K sp)
abbrev FO_is_tree (P : Program) (w : World) (base : Heap) (T : Tx K mg) (k : Nat) (sp : DSp) : Prop := FnOk P w K mg base CX0 k T.a_is_tree T.fd_is_tree P_is_tree (liftSp K sp)
abbrev FO_put_worlds (P : Program) (w : World) (base : Heap) (T : Tx K mg) (k : Nat) (sp : DSp) : Prop := FnOk P w K mg base CX0 k T.a_put_worlds T.fd_put_worlds P_put_worlds (liftSp K sp)
abbrev FO_worlds_in (P : Program) (w : World) (base : Heap) (T : Tx K mg) (k : Nat) (sp : DSp) : Prop := FnOk P w K mg base CX0 k T.a_worlds_in T.fd_worlds_in P_worlds_in (liftSp K sp)
abbrev FO_led_on (P : Program) (w : World) (base : Heap) (T : Tx K mg) (k : Nat) (sp : DSp) : Prop := FnOk P w K mg base CX0 k T.a_led_on T.fd_led_on P_led_on (liftSp K sp)
abbrev FO_truths (P : Program) (w : World) (base : Heap) (T : Tx K mg) (k : Nat) (sp : DSp) : Prop := FnOk P w K mg base CX0 k T.a_truths T.fd_truths P_truths (liftSp K sp)
abbrev FO_holds (P : Program) (w : World) (base : Heap) (T : Tx K mg) (k : Nat) (sp : DSp) : Prop := FnOk P w K mg base CX0 k T.a_holds T.fd_holds P_holds (liftSp K sp)
abbrev FO_bars (P : Program) (w : World) (base : Heap) (T : Tx K mg) (k : Nat) (sp : DSp) : Prop := FnOk P w K mg base CX0 k T.a_bars T.fd_bars P_bars (liftSp K sp)
abbrev FO_Having___init__ (P : Program) (w : World) (base : Heap) (T : Tx K mg) (k : Nat) (sp : DSp) : Prop := FnOk P w K mg base CX0 k T.a_Having___init__ T.fd_Having___init__ P_Having___init__ (liftSp K sp)
abbrev FO_Having_with_more (P : Program) (w : World) (base : Heap) (T : Tx K mg) (k : Nat) (sp : DSp) : Prop := FnOk P w K mg base CX0 k T.a_Having_with_more T.fd_Having_with_more P_Having_with_more (liftSp K sp)
abbrev FO_Having_had (P : Program) (w : World) (base : Heap) (T : Tx K mg) (k : Nat) (sp : DSp) : Prop := FnOk P w K mg base CX0 k T.a_Having_had T.fd_Having_had P_Having_had (liftSp K sp)
abbrev FO_Having_had_more (P : Program) (w : World) (base : Heap) (T : Tx K mg) (k : Nat) (sp : DSp) : Prop := FnOk P w K mg base CX0 k T.a_Having_had_more T.fd_Having_had_more P_Having_had_more (liftSp K sp)
abbrev FO_Having_first_not_had (P : Program) (w : World) (base : Heap) (T : Tx K mg) (k : Nat) (sp : DSp) : Prop := FnOk P w K mg base CX0 k T.a_Having_first_not_had T.fd_Having_first_not_had P_Having_first_not_had (liftSp K sp)
abbrev FO_Having_lack_of (P : Program) (w : World) (base : Heap) (T : Tx K mg) (k : Nat) (sp : DSp) : Prop := FnOk P w K mg base CX0 k T.a_Having_lack_of T.fd_Having_lack_of P_Having_lack_of (liftSp K sp)
abbrev FO_Having_tree (P : Program) (w : World) (base : Heap) (T : Tx K mg) (k : Nat) (sp : DSp) : Prop := FnOk P w K mg base CX0 k T.a_Having_tree T.fd_Having_tree P_Having_tree (liftSp K sp)
abbrev FO_barring (P : Program) (w : World) (base : Heap) (T : Tx K mg) (k : Nat) (sp : DSp) : Prop := FnOk P w K mg base CX0 k T.a_barring T.fd_barring P_barring (liftSp K sp)
abbrev FO__law_pool (P : Program) (w : World) (base : Heap) (T : Tx K mg) (k : Nat) (sp : DSp) : Prop := FnOk P w K mg base CX0 k T.a__law_pool T.fd__law_pool P__law_pool (liftSp K sp)
abbrev FO__law_take (P : Program) (w : World) (base : Heap) (T : Tx K mg) (k : Nat) (sp : DSp) : Prop := FnOk P w K mg base CX0 k T.a__law_take T.fd__law_take P__law_take (liftSp K sp)
abbrev FO__law_marks (P : Program) (w : World) (base : Heap) (T : Tx K mg) (k : Nat) (sp : DSp) : Prop := FnOk P w K mg base CX0 k T.a__law_marks T.fd__law_marks P__law_marks (liftSp K sp)
abbrev FO__law_kind (P : Program) (w : World) (base : Heap) (T : Tx K mg) (k : Nat) (sp : DSp) : Prop := FnOk P w K mg base CX0 k T.a__law_kind T.fd__law_kind P__law_kind (liftSp K sp)
abbrev FO__law_row (P : Program) (w : World) (base : Heap) (T : Tx K mg) (k : Nat) (sp : DSp) : Prop := FnOk P w K mg base CX0 k T.a__law_row T.fd__law_row P__law_row (liftSp K sp)
abbrev FO__law_tree (P : Program) (w : World) (base : Heap) (T : Tx K mg) (k : Nat) (sp : DSp) : Prop := FnOk P w K mg base CX0 k T.a__law_tree T.fd__law_tree P__law_tree (liftSp K sp)
abbrev FO__law_leaves (P : Program) (w : World) (base : Heap) (T : Tx K mg) (k : Nat) (sp : DSp) : Prop := FnOk P w K mg base CX0 k T.a__law_leaves T.fd__law_leaves P__law_leaves (liftSp K sp)
abbrev FO__law_told (P : Program) (w : World) (base : Heap) (T : Tx K mg) (k : Nat) (sp : DSp) : Prop := FnOk P w K mg base CX0 k T.a__law_told T.fd__law_told P__law_told (liftSp K sp)
abbrev FO__law_made (P : Program) (w : World) (base : Heap) (T : Tx K mg) (k : Nat) (sp : DSp) : Prop := FnOk P w K mg base CX0 k T.a__law_made T.fd__law_made P__law_made (liftSp K sp)
abbrev FO_law (P : Program) (w : World) (base : Heap) (T : Tx K mg) (k : Nat) (sp : DSp) : Prop := FnOk P w K mg base CX0 k T.a_law T.fd_law P_law (liftSp K sp)
theorem fnd_ends_of {k : Nat} {dsp sp_ends_of : DSp} (T : Tx K mg) (G_ends_of : FO_ends_of P w base T k sp_ends_of)
    (len : ∀ ds O R RE, dsp ds O R RE → ds.length = 1) (hread : ∀ ds O R RE, dsp ds O R RE → g_ends_of sp_ends_of (.tup [(.str "one")]) { nx := fun _ O' => R .non O', rt := R } (startD N_ends_of ds) O) : FO_ends_of P w base T (k + 1) dsp :=
  fn_d (g := g_ends_of sp_ends_of (.tup [(.str "one")])) T.n_ends_of.F sc_ends_of len (der_ends_of T.n_ends_of G_ends_of T.c_ONE) hread
theorem fnd_ways_of {k : Nat} {dsp sp_ways_of : DSp} (T : Tx K mg) (G_ways_of : FO_ways_of P w base T k sp_ways_of)
    (len : ∀ ds O R RE, dsp ds O R RE → ds.length = 1) (hread : ∀ ds O R RE, dsp ds O R RE → g_ways_of sp_ways_of (.tup [(.str "one")]) { nx := fun _ O' => R .non O', rt := R } (startD N_ways_of ds) O) : FO_ways_of P w base T (k + 1) dsp :=
  fn_d (g := g_ways_of sp_ways_of (.tup [(.str "one")])) T.n_ways_of.F sc_ways_of len (der_ways_of T.n_ways_of G_ways_of T.c_ONE) hread
theorem fnd_shown_kind {k : Nat} {dsp sp_shown_kind : DSp} (T : Tx K mg) (G_shown_kind : FO_shown_kind P w base T k sp_shown_kind)
    (len : ∀ ds O R RE, dsp ds O R RE → ds.length = 1) (hread : ∀ ds O R RE, dsp ds O R RE → g_shown_kind sp_shown_kind (.tup [(.str "one")]) { nx := fun _ O' => R .non O', rt := R } (startD N_shown_kind ds) O) : FO_shown_kind P w base T (k + 1) dsp :=
  fn_d (g := g_shown_kind sp_shown_kind (.tup [(.str "one")])) T.n_shown_kind.F sc_shown_kind len (der_shown_kind T.n_shown_kind G_shown_kind T.c_ONE) hread
theorem fnd_are_marks {k : Nat} {dsp sp_is_mark : DSp} (T : Tx K mg) (G_is_mark : FO_is_mark P w base T k sp_is_mark)
    (len : ∀ ds O R RE, dsp ds O R RE → ds.length = 1) (hread : ∀ ds O R RE, dsp ds O R RE → g_are_marks sp_is_mark { nx := fun _ O' => R .non O', rt := R } (startD N_are_marks ds) O) : FO_are_marks P w base T (k + 1) dsp :=
  fn_d (g := g_are_marks sp_is_mark) T.n_are_marks.F sc_are_marks len (der_are_marks T.n_is_mark G_is_mark T.m_list T.m_isinstance T.m_str) hread
theorem fnd_has_tree_form {k : Nat} {dsp sp_are_marks sp_has_tree_form : DSp} (T : Tx K mg) (G_are_marks : FO_are_marks P w base T k sp_are_marks) (G_has_tree_form : FO_has_tree_form P w base T k sp_has_tree_form)
    (len : ∀ ds O R RE, dsp ds O R RE → ds.length = 2) (hread : ∀ ds O R RE, dsp ds O R RE → g_has_tree_form sp_are_marks sp_has_tree_form { nx := fun _ O' => R .non O', rt := R } (startD N_has_tree_form ds) O) : FO_has_tree_form P w base T (k + 1) dsp :=
  fn_d (g := g_has_tree_form sp_are_marks sp_has_tree_form) T.n_has_tree_form.F sc_has_tree_form len (der_has_tree_form T.n_are_marks G_are_marks T.n_has_tree_form G_has_tree_form T.m_tuple T.m_isinstance T.m_len T.m_list) hread
theorem fnd_is_tree {k : Nat} {dsp sp_has_tree_form : DSp} (T : Tx K mg) (G_has_tree_form : FO_has_tree_form P w base T k sp_has_tree_form)
    (len : ∀ ds O R RE, dsp ds O R RE → ds.length = 1) (hread : ∀ ds O R RE, dsp ds O R RE → g_is_tree sp_has_tree_form (.int 40) { nx := fun _ O' => R .non O', rt := R } (startD N_is_tree ds) O) : FO_is_tree P w base T (k + 1) dsp :=
  fn_d (g := g_is_tree sp_has_tree_form (.int 40)) T.n_is_tree.F sc_is_tree len (der_is_tree T.n_has_tree_form G_has_tree_form T.c_DEEPEST) hread
theorem fnd_put_worlds {k : Nat} {dsp sp_put_worlds : DSp} (T : Tx K mg) (G_put_worlds : FO_put_worlds P w base T k sp_put_worlds)
    (len : ∀ ds O R RE, dsp ds O R RE → ds.length = 2) (hread : ∀ ds O R RE, dsp ds O R RE → g_put_worlds sp_put_worlds { nx := fun _ O' => R .non O', rt := R } (startD N_put_worlds ds) O) : FO_put_worlds P w base T (k + 1) dsp :=
  fn_d (g := g_put_worlds sp_put_worlds) T.n_put_worlds.F sc_put_worlds len (der_put_worlds T.n_put_worlds G_put_worlds T.m_len) hread
theorem fnd_worlds_in {k : Nat} {dsp sp_put_worlds : DSp} (T : Tx K mg) (G_put_worlds : FO_put_worlds P w base T k sp_put_worlds)
    (len : ∀ ds O R RE, dsp ds O R RE → ds.length = 1) (hread : ∀ ds O R RE, dsp ds O R RE → g_worlds_in sp_put_worlds { nx := fun _ O' => R .non O', rt := R } (startD N_worlds_in ds) O) : FO_worlds_in P w base T (k + 1) dsp :=
  fn_d (g := g_worlds_in sp_put_worlds) T.n_worlds_in.F sc_worlds_in len (der_worlds_in T.n_put_worlds G_put_worlds) hread
theorem fndG_led_on {k : Nat} {dsp  : DSp} (T : Tx K mg) 
    (len : ∀ ds O R RE, dsp ds O R RE → ds.length = 3) (hread : ∀ ds O R RE, dsp ds O R RE → g_led_on  { nx := fun _ O' => VG R .non O', rt := VG R } (startD N_led_on ds) O) : FO_led_on P w base T (k + 1) dsp :=
  fn_dG (g := g_led_on ) T.n_led_on.F sc_led_on len (der_led_on T.m_len T.m_reversed T.m_range) hread
theorem fnd_truths {k : Nat} {dsp sp_truths sp_led_on : DSp} (T : Tx K mg) (G_truths : FO_truths P w base T k sp_truths) (G_led_on : FO_led_on P w base T k sp_led_on)
    (len : ∀ ds O R RE, dsp ds O R RE → ds.length = 2) (hread : ∀ ds O R RE, dsp ds O R RE → g_truths sp_truths sp_led_on (.tup [(.str "one")]) { nx := fun _ O' => R .non O', rt := R } (startD N_truths ds) O) : FO_truths P w base T (k + 1) dsp :=
  fn_d (g := g_truths sp_truths sp_led_on (.tup [(.str "one")])) T.n_truths.F sc_truths len (der_truths T.n_truths G_truths T.n_led_on G_led_on T.m_zip T.c_ONE) hread
theorem fnd_holds {k : Nat} {dsp sp_truths sp_worlds_in : DSp} (T : Tx K mg) (G_truths : FO_truths P w base T k sp_truths) (G_worlds_in : FO_worlds_in P w base T k sp_worlds_in)
    (len : ∀ ds O R RE, dsp ds O R RE → ds.length = 2) (hread : ∀ ds O R RE, dsp ds O R RE → g_holds sp_truths sp_worlds_in { nx := fun _ O' => R .non O', rt := R } (startD N_holds ds) O) : FO_holds P w base T (k + 1) dsp :=
  fn_d (g := g_holds sp_truths sp_worlds_in) T.n_holds.F sc_holds len (der_holds T.n_truths G_truths T.n_worlds_in G_worlds_in) hread
theorem fndG_holds {k : Nat} {dsp sp_truths sp_worlds_in : DSp} (T : Tx K mg) (G_truths : FO_truths P w base T k sp_truths) (G_worlds_in : FO_worlds_in P w base T k sp_worlds_in)
    (len : ∀ ds O R RE, dsp ds O R RE → ds.length = 2) (hread : ∀ ds O R RE, dsp ds O R RE → g_holds sp_truths sp_worlds_in { nx := fun _ O' => VG R .non O', rt := VG R } (startD N_holds ds) O) : FO_holds P w base T (k + 1) dsp :=
  fn_dG (g := g_holds sp_truths sp_worlds_in) T.n_holds.F sc_holds len (der_holds T.n_truths G_truths T.n_worlds_in G_worlds_in) hread
theorem fnd_bars {k : Nat} {dsp sp_is_tree sp_worlds_in sp_truths : DSp} (T : Tx K mg) (G_is_tree : FO_is_tree P w base T k sp_is_tree) (G_worlds_in : FO_worlds_in P w base T k sp_worlds_in) (G_truths : FO_truths P w base T k sp_truths)
    (len : ∀ ds O R RE, dsp ds O R RE → ds.length = 3) (hread : ∀ ds O R RE, dsp ds O R RE → g_bars sp_is_tree sp_worlds_in sp_truths { nx := fun _ O' => R .non O', rt := R } (startD N_bars ds) O) : FO_bars P w base T (k + 1) dsp :=
  fn_d (g := g_bars sp_is_tree sp_worlds_in sp_truths) T.n_bars.F sc_bars len (der_bars T.n_is_tree G_is_tree T.n_worlds_in G_worlds_in T.n_truths G_truths) hread
theorem fnd_Having___init__ {k : Nat} {dsp  : DSp} (T : Tx K mg) 
    (len : ∀ ds O R RE, dsp ds O R RE → ds.length = 1) (hread : ∀ ds O R RE, dsp ds O R RE → g_Having___init__ T.C_Having { nx := fun _ O' => R .non O', rt := R } (startD N_Having___init__ ds) O) : FO_Having___init__ P w base T (k + 1) dsp :=
  fn_d (g := g_Having___init__ T.C_Having) T.n_Having___init__.F sc_Having___init__ len (der_Having___init__ T.cl_Having T.na_Having_kinds T.na_Having_found) hread
theorem fndG_Having_with_more {k : Nat} {dsp sp_shown_kind : DSp} (T : Tx K mg) (G_shown_kind : FO_shown_kind P w base T k sp_shown_kind)
    (len : ∀ ds O R RE, dsp ds O R RE → ds.length = 3) (hread : ∀ ds O R RE, dsp ds O R RE → g_Having_with_more sp_shown_kind T.C_Having { nx := fun _ O' => VG R .non O', rt := VG R } (startD N_Having_with_more ds) O) : FO_Having_with_more P w base T (k + 1) dsp :=
  fn_dG (g := g_Having_with_more sp_shown_kind T.C_Having) T.n_Having_with_more.F sc_Having_with_more len (der_Having_with_more T.n_shown_kind G_shown_kind T.m_sorted T.m_tuple T.cl_Having T.na_Having_kinds) hread
theorem fnd_Having_had {k : Nat} {dsp sp_Having_had_more : DSp} (T : Tx K mg) (G_Having_had_more : FO_Having_had_more P w base T k sp_Having_had_more)
    (len : ∀ ds O R RE, dsp ds O R RE → ds.length = 2) (hread : ∀ ds O R RE, dsp ds O R RE → g_Having_had sp_Having_had_more T.C_Having { nx := fun _ O' => R .non O', rt := R } (startD N_Having_had ds) O) : FO_Having_had P w base T (k + 1) dsp :=
  fn_d (g := g_Having_had sp_Having_had_more T.C_Having) T.n_Having_had.F sc_Having_had len (der_Having_had T.n_Having_had_more G_Having_had_more T.cl_Having T.na_Having_found) hread
theorem fnd_Having_had_more {k : Nat} {dsp sp_ways_of sp_Having_first_not_had : DSp} (T : Tx K mg) (G_ways_of : FO_ways_of P w base T k sp_ways_of) (G_Having_first_not_had : FO_Having_first_not_had P w base T k sp_Having_first_not_had)
    (len : ∀ ds O R RE, dsp ds O R RE → ds.length = 3) (hread : ∀ ds O R RE, dsp ds O R RE → g_Having_had_more sp_ways_of sp_Having_first_not_had T.C_Having { nx := fun _ O' => R .non O', rt := R } (startD N_Having_had_more ds) O) : FO_Having_had_more P w base T (k + 1) dsp :=
  fn_d (g := g_Having_had_more sp_ways_of sp_Having_first_not_had T.C_Having) T.n_Having_had_more.F sc_Having_had_more len (der_Having_had_more T.n_ways_of G_ways_of T.n_Having_first_not_had G_Having_first_not_had T.m_len T.cl_Having T.na_Having_kinds) hread
theorem fnd_Having_first_not_had {k : Nat} {dsp sp_Having_lack_of : DSp} (T : Tx K mg) (G_Having_lack_of : FO_Having_lack_of P w base T k sp_Having_lack_of)
    (len : ∀ ds O R RE, dsp ds O R RE → ds.length = 4) (hread : ∀ ds O R RE, dsp ds O R RE → g_Having_first_not_had sp_Having_lack_of T.C_Having { nx := fun _ O' => R .non O', rt := R } (startD N_Having_first_not_had ds) O) : FO_Having_first_not_had P w base T (k + 1) dsp :=
  fn_d (g := g_Having_first_not_had sp_Having_lack_of T.C_Having) T.n_Having_first_not_had.F sc_Having_first_not_had len (der_Having_first_not_had T.n_Having_lack_of G_Having_lack_of T.m_tuple T.m_isinstance T.m_min T.m_len T.cl_Having) hread
theorem fnd_Having_lack_of {k : Nat} {dsp sp_ends_of sp_Having_with_more sp_Having_had : DSp} (T : Tx K mg) (G_ends_of : FO_ends_of P w base T k sp_ends_of) (G_Having_with_more : FO_Having_with_more P w base T k sp_Having_with_more) (G_Having_had : FO_Having_had P w base T k sp_Having_had)
    (len : ∀ ds O R RE, dsp ds O R RE → ds.length = 4) (hread : ∀ ds O R RE, dsp ds O R RE → g_Having_lack_of sp_ends_of sp_Having_with_more sp_Having_had T.C_Having { nx := fun _ O' => R .non O', rt := R } (startD N_Having_lack_of ds) O) : FO_Having_lack_of P w base T (k + 1) dsp :=
  fn_d (g := g_Having_lack_of sp_ends_of sp_Having_with_more sp_Having_had T.C_Having) T.n_Having_lack_of.F sc_Having_lack_of len (der_Having_lack_of T.n_ends_of G_ends_of T.n_Having_with_more G_Having_with_more T.n_Having_had G_Having_had T.m_min T.m_len T.cl_Having) hread
theorem fnd_Having_tree {k : Nat} {dsp sp_Having_had sp_ways_of sp_Having_first_not_had sp_Having_tree : DSp} (T : Tx K mg) (G_Having_had : FO_Having_had P w base T k sp_Having_had) (G_ways_of : FO_ways_of P w base T k sp_ways_of) (G_Having_first_not_had : FO_Having_first_not_had P w base T k sp_Having_first_not_had) (G_Having_tree : FO_Having_tree P w base T k sp_Having_tree)
    (len : ∀ ds O R RE, dsp ds O R RE → ds.length = 2) (hread : ∀ ds O R RE, dsp ds O R RE → g_Having_tree sp_Having_had sp_ways_of sp_Having_first_not_had sp_Having_tree T.C_Having { nx := fun _ O' => R .non O', rt := R } (startD N_Having_tree ds) O) : FO_Having_tree P w base T (k + 1) dsp :=
  fn_d (g := g_Having_tree sp_Having_had sp_ways_of sp_Having_first_not_had sp_Having_tree T.C_Having) T.n_Having_tree.F sc_Having_tree len (der_Having_tree T.n_Having_had G_Having_had T.n_ways_of G_ways_of T.n_Having_first_not_had G_Having_first_not_had T.n_Having_tree G_Having_tree T.m_sorted T.cl_Having T.na_Having_kinds) hread
theorem fndG_barring {k : Nat} {dsp sp_Having___init__ sp_Having_with_more sp_Having_lack_of sp_Having_had sp_Having_tree : DSp} (T : Tx K mg) (G_Having___init__ : FO_Having___init__ P w base T (k - 1) sp_Having___init__) (hk_Having___init__ : 1 ≤ k) (G_Having_with_more : FO_Having_with_more P w base T k sp_Having_with_more) (G_Having_lack_of : FO_Having_lack_of P w base T k sp_Having_lack_of) (G_Having_had : FO_Having_had P w base T k sp_Having_had) (G_Having_tree : FO_Having_tree P w base T k sp_Having_tree)
    (len : ∀ ds O R RE, dsp ds O R RE → ds.length = 2) (hread : ∀ ds O R RE, dsp ds O R RE → g_barring sp_Having___init__ sp_Having_with_more sp_Having_lack_of sp_Having_had sp_Having_tree T.C_Having { nx := fun _ O' => VG R .non O', rt := VG R } (startD N_barring ds) O) : FO_barring P w base T (k + 1) dsp :=
  fn_dG (g := g_barring sp_Having___init__ sp_Having_with_more sp_Having_lack_of sp_Having_had sp_Having_tree T.C_Having) T.n_barring.F sc_barring len (der_barring T.n_Having___init__ G_Having___init__ hk_Having___init__ T.n_Having_with_more G_Having_with_more T.n_Having_lack_of G_Having_lack_of T.n_Having_had G_Having_had T.n_Having_tree G_Having_tree T.cl_Having T.mk_Having) hread
theorem fnd__law_kind {k : Nat} {dsp sp__law_take sp__law_kind : DSp} (T : Tx K mg) (G__law_take : FO__law_take P w base T k sp__law_take) (G__law_kind : FO__law_kind P w base T k sp__law_kind)
    (len : ∀ ds O R RE, dsp ds O R RE → ds.length = 3) (hread : ∀ ds O R RE, dsp ds O R RE → g__law_kind sp__law_take sp__law_kind { nx := fun _ O' => R .non O', rt := R } (startD N__law_kind ds) O) : FO__law_kind P w base T (k + 1) dsp :=
  fn_d (g := g__law_kind sp__law_take sp__law_kind) T.n__law_kind.F sc__law_kind len (der__law_kind T.n__law_take G__law_take T.n__law_kind G__law_kind T.m_len) hread
theorem fnd__law_row {k : Nat} {dsp sp__law_take sp__law_kind : DSp} (T : Tx K mg) (G__law_take : FO__law_take P w base T k sp__law_take) (G__law_kind : FO__law_kind P w base T k sp__law_kind)
    (len : ∀ ds O R RE, dsp ds O R RE → ds.length = 3) (hread : ∀ ds O R RE, dsp ds O R RE → g__law_row sp__law_take sp__law_kind { nx := fun _ O' => R .non O', rt := R } (startD N__law_row ds) O) : FO__law_row P w base T (k + 1) dsp :=
  fn_d (g := g__law_row sp__law_take sp__law_kind) T.n__law_row.F sc__law_row len (der__law_row T.n__law_take G__law_take T.n__law_kind G__law_kind) hread
theorem fnd__law_tree {k : Nat} {dsp sp__law_take sp__law_tree : DSp} (T : Tx K mg) (G__law_take : FO__law_take P w base T k sp__law_take) (G__law_tree : FO__law_tree P w base T k sp__law_tree)
    (len : ∀ ds O R RE, dsp ds O R RE → ds.length = 4) (hread : ∀ ds O R RE, dsp ds O R RE → g__law_tree sp__law_take sp__law_tree { nx := fun _ O' => R .non O', rt := R } (startD N__law_tree ds) O) : FO__law_tree P w base T (k + 1) dsp :=
  fn_d (g := g__law_tree sp__law_take sp__law_tree) T.n__law_tree.F sc__law_tree len (der__law_tree T.n__law_take G__law_take T.n__law_tree G__law_tree T.m_sorted T.m_int T.m_range) hread
theorem fnd__law_leaves {k : Nat} {dsp sp__law_leaves : DSp} (T : Tx K mg) (G__law_leaves : FO__law_leaves P w base T k sp__law_leaves)
    (len : ∀ ds O R RE, dsp ds O R RE → ds.length = 1) (hread : ∀ ds O R RE, dsp ds O R RE → g__law_leaves sp__law_leaves { nx := fun _ O' => R .non O', rt := R } (startD N__law_leaves ds) O) : FO__law_leaves P w base T (k + 1) dsp :=
  fn_d (g := g__law_leaves sp__law_leaves) T.n__law_leaves.F sc__law_leaves len (der__law_leaves T.n__law_leaves G__law_leaves T.m_len) hread
theorem fndG__law_told {k : Nat} {dsp  : DSp} (T : Tx K mg) 
    (len : ∀ ds O R RE, dsp ds O R RE → ds.length = 1) (hread : ∀ ds O R RE, dsp ds O R RE → g__law_told  { nx := fun _ O' => VG R .non O', rt := VG R } (startD N__law_told ds) O) : FO__law_told P w base T (k + 1) dsp :=
  fn_dG (g := g__law_told ) T.n__law_told.F sc__law_told len (der__law_told T.m_list) hread
theorem fnd__law_made {k : Nat} {dsp sp__law_take sp__law_told sp__law_made sp__law_kind : DSp} (T : Tx K mg) (G__law_take : FO__law_take P w base T k sp__law_take) (G__law_told : FO__law_told P w base T k sp__law_told) (G__law_made : FO__law_made P w base T k sp__law_made) (G__law_kind : FO__law_kind P w base T k sp__law_kind)
    (len : ∀ ds O R RE, dsp ds O R RE → ds.length = 4) (hread : ∀ ds O R RE, dsp ds O R RE → g__law_made sp__law_take sp__law_told sp__law_made sp__law_kind { nx := fun _ O' => R .non O', rt := R } (startD N__law_made ds) O) : FO__law_made P w base T (k + 1) dsp :=
  fn_d (g := g__law_made sp__law_take sp__law_told sp__law_made sp__law_kind) T.n__law_made.F sc__law_made len (der__law_made T.n__law_take G__law_take T.n__law_told G__law_told T.n__law_made G__law_made T.n__law_kind G__law_kind T.m_len) hread
theorem fnd_law {k : Nat} {dsp sp__law_pool sp__law_marks sp__law_row sp__law_made sp__law_leaves sp_barring sp__law_tree sp_holds sp_bars : DSp} (T : Tx K mg) (G__law_pool : FO__law_pool P w base T k sp__law_pool) (G__law_marks : FO__law_marks P w base T k sp__law_marks) (G__law_row : FO__law_row P w base T k sp__law_row) (G__law_made : FO__law_made P w base T k sp__law_made) (G__law_leaves : FO__law_leaves P w base T k sp__law_leaves) (G_barring : FO_barring P w base T k sp_barring) (G__law_tree : FO__law_tree P w base T k sp__law_tree) (G_holds : FO_holds P w base T k sp_holds) (G_bars : FO_bars P w base T k sp_bars)
    (len : ∀ ds O R RE, dsp ds O R RE → ds.length = 1) (hread : ∀ ds O R RE, dsp ds O R RE → g_law sp__law_pool sp__law_marks sp__law_row sp__law_made sp__law_leaves sp_barring sp__law_tree sp_holds sp_bars { nx := fun _ O' => R .non O', rt := R } (startD N_law ds) O) : FO_law P w base T (k + 1) dsp :=
  fn_d (g := g_law sp__law_pool sp__law_marks sp__law_row sp__law_made sp__law_leaves sp_barring sp__law_tree sp_holds sp_bars) T.n_law.F sc_law len (der_law T.n__law_pool G__law_pool T.n__law_marks G__law_marks T.n__law_row G__law_row T.n__law_made G__law_made T.n__law_leaves G__law_leaves T.n_barring G_barring T.n__law_tree G__law_tree T.n_holds G_holds T.n_bars G_bars T.m_range T.m_len T.m_min T.m_max T.m_sum) hread
end
end Kf
namespace Kf
open PySem PySem.Spec L2
open PyProof.Rows hiding St
/-! ### words -/
theorem strOk_iff (z : Str) : PyData.strOk z = true ↔ ∀ c ∈ z.cps.toList, c < 1114112 := by
  unfold PyData.strOk
  rw [Array.all_eq_true_iff_forall_mem]
  simp
theorem len_tl (z : Str) : z.cps.toList.length = z.length := by simp [Str.length]
theorem tl_app (a b : Str) : (a ++ b).cps.toList = a.cps.toList ++ b.cps.toList := by
  show (a.cps ++ b.cps).toList = _
  simp
theorem len_app (a b : Str) : (a ++ b).length = a.length + b.length := Str.length_append a b
/-! ### marks, numbers, names -/
def letB (c : Nat) : Bool := decide (c ∈ abc.cps.toList)
def isMarkB (z : Str) : Bool := z.cps.toList.all letB && (decide (1 ≤ z.length) && decide (z.length ≤ 6))
def spIsMark : DSp := fun ds O R _ => ∃ z : Str, ds = [.str z] ∧ z.length ≤ 1000 ∧ R (.bl (isMarkB z)) O
/-- a walk that goes on as long as the signs are of a text -/
theorem for_in {j : Nat} {alph : Str} {R : DEnds} {ρ : DEnv} {O : Ow} (hj : j < ρ.length) : ∀ (cs : List Nat) (x : Option D),
    (cs.all (fun c => decide (c ∈ alph.cps.toList)) = true → ∀ x, R.nx (ρ.set j x) O) → (cs.all (fun c => decide (c ∈ alph.cps.toList)) = false → R.rt (.bl false) O) →
    forD (.nm j) (gIf (fTest (fOp (rInD true) (fVar j) (fC (.str alph)))) (gRet (fC (.bl false))) gNext) R (cs.map fun c => .str ⟨#[c]⟩) (ρ.set j x) O
  | [], x, h, _ => h rfl x
  | c :: cs, x, h, h' => by
    rw [List.map_cons]
    unfold forD
    rw [patD_nm, patGet_s, List.set_set]
    simp only [gIf, fTest, fOp, fVar, fC, List.getElem?_set_self hj, envGet_s]
    refine ⟨c, rfl, _, rfl, ?_⟩
    rw [List.all_cons] at h h'
    by_cases hc : c ∈ alph.cps.toList
    · simp only [hc, decide_true, notX, Bool.not_true, gNext, Bool.true_and] at h h' ⊢
      rw [if_neg Bool.false_ne_true]
      exact for_in hj cs _ h h'
    · simp only [hc, decide_false, notX, Bool.not_false, gRet, fC, Bool.false_and] at h h' ⊢
      rw [if_pos trivial]
      exact h' trivial
theorem tl_e : (Str.ofString "").cps.toList = [] := by decide +kernel
end Kf
namespace Kf
open PySem PySem.Spec L2
open PyProof.Rows hiding St
/-! ### things that may be kinds -/
def strB : D → Bool
  | .str s => isMarkB s
  | _ => false
def hf : Nat → D → Bool
  | 0, _ => false
  | _ + 1, .tup [x] => deq x (.str "one")
  | _ + 1, .tup [x, y] => deq x (.str "mark") && strB y
  | n + 1, .tup [x, y, z] => (deq x (.str "to") || deq x (.str "both")) && (hf n y && hf n z)
  | _, _ => false
end Kf
/-! Kpg: programs as data. -/
namespace Kf
open PySem PySem.Spec L2
open PyProof.Rows hiding St
/-! ### words -/
section
variable {neg : Bool} {O : Ow} {Q : VD}
theorem rIn_ws {z : Str} {ts : List Str} (hz : PyData.strOk z = true) (h : ∀ t ∈ ts, PyData.strOk t = true) : rInD neg (.str z) (.tup (ts.map .str)) O Q = Q (.bl (neg ^^ decide (z ∈ ts))) O := by
  have h1 : isPys (ts.map D.str) = true := by
    rw [isPys_all, List.all_eq_true]
    intro d hd
    obtain ⟨t, ht, rfl⟩ := List.mem_map.mp hd
    simp only [isPy, h t ht]
  have h2 : (ts.map D.str).any (fun x => PyData.eqv (toPy x) (toPy (.str z))) = decide (z ∈ ts) := by
    clear h h1
    induction ts with
    | nil => simp
    | cons t ts ih =>
      have e : PyData.eqv (toPy (.str t)) (toPy (.str z)) = decide (t = z) := deq_s
      rw [List.map_cons, List.any_cons, ih, e]
      by_cases h : t = z
      · subst h; simp
      · have h' : ¬ z = t := fun q => h q.symm
        simp [h, h']
  simp only [rInD, deref_str, deref_tup, isPy, hz, h1, h2, true_and]
  first | rfl | simp [dp, toPy, PyData.depth]
theorem sw_name : PyData.strOk (Str.ofString "name") = true := by decide +kernel
theorem sw_thing : PyData.strOk (Str.ofString "thing") = true := by decide +kernel
theorem sw_take : PyData.strOk (Str.ofString "take") = true := by decide +kernel
theorem sw_give : PyData.strOk (Str.ofString "give") = true := by decide +kernel
theorem sw_pair : PyData.strOk (Str.ofString "pair") = true := by decide +kernel
theorem sw_first : PyData.strOk (Str.ofString "first") = true := by decide +kernel
theorem sw_second : PyData.strOk (Str.ofString "second") = true := by decide +kernel
theorem sw_mark : PyData.strOk (Str.ofString "mark") = true := by decide +kernel
theorem sw_one : PyData.strOk (Str.ofString "one") = true := by decide +kernel
theorem sw_to : PyData.strOk (Str.ofString "to") = true := by decide +kernel
theorem sw_both : PyData.strOk (Str.ofString "both") = true := by decide +kernel
theorem sw_at : PyData.strOk (Str.ofString "at") = true := by decide +kernel
theorem te_name_take : rEqD neg (.str (Str.ofString "name")) (.str (Str.ofString "take")) O Q = Q (.bl neg) O := by
  rw [rEq_s sw_name sw_take, show decide (Str.ofString "name" = Str.ofString "take") = false by decide +kernel]; cases neg <;> rfl
theorem te_name_give : rEqD neg (.str (Str.ofString "name")) (.str (Str.ofString "give")) O Q = Q (.bl neg) O := by
  rw [rEq_s sw_name sw_give, show decide (Str.ofString "name" = Str.ofString "give") = false by decide +kernel]; cases neg <;> rfl
theorem te_name_pair : rEqD neg (.str (Str.ofString "name")) (.str (Str.ofString "pair")) O Q = Q (.bl neg) O := by
  rw [rEq_s sw_name sw_pair, show decide (Str.ofString "name" = Str.ofString "pair") = false by decide +kernel]; cases neg <;> rfl
theorem te_name_first : rEqD neg (.str (Str.ofString "name")) (.str (Str.ofString "first")) O Q = Q (.bl neg) O := by
  rw [rEq_s sw_name sw_first, show decide (Str.ofString "name" = Str.ofString "first") = false by decide +kernel]; cases neg <;> rfl
theorem te_name_second : rEqD neg (.str (Str.ofString "name")) (.str (Str.ofString "second")) O Q = Q (.bl neg) O := by
  rw [rEq_s sw_name sw_second, show decide (Str.ofString "name" = Str.ofString "second") = false by decide +kernel]; cases neg <;> rfl
theorem te_name_to : rEqD neg (.str (Str.ofString "name")) (.str (Str.ofString "to")) O Q = Q (.bl neg) O := by
  rw [rEq_s sw_name sw_to, show decide (Str.ofString "name" = Str.ofString "to") = false by decide +kernel]; cases neg <;> rfl
theorem te_name_both : rEqD neg (.str (Str.ofString "name")) (.str (Str.ofString "both")) O Q = Q (.bl neg) O := by
  rw [rEq_s sw_name sw_both, show decide (Str.ofString "name" = Str.ofString "both") = false by decide +kernel]; cases neg <;> rfl
theorem te_name_one : rEqD neg (.str (Str.ofString "name")) (.str (Str.ofString "one")) O Q = Q (.bl neg) O := by
  rw [rEq_s sw_name sw_one, show decide (Str.ofString "name" = Str.ofString "one") = false by decide +kernel]; cases neg <;> rfl
theorem te_name_mark : rEqD neg (.str (Str.ofString "name")) (.str (Str.ofString "mark")) O Q = Q (.bl neg) O := by
  rw [rEq_s sw_name sw_mark, show decide (Str.ofString "name" = Str.ofString "mark") = false by decide +kernel]; cases neg <;> rfl
theorem te_name_name : rEqD neg (.str (Str.ofString "name")) (.str (Str.ofString "name")) O Q = Q (.bl !neg) O := by
  rw [rEq_s sw_name sw_name, show decide (Str.ofString "name" = Str.ofString "name") = true by decide +kernel]; cases neg <;> rfl
theorem te_name_thing : rEqD neg (.str (Str.ofString "name")) (.str (Str.ofString "thing")) O Q = Q (.bl neg) O := by
  rw [rEq_s sw_name sw_thing, show decide (Str.ofString "name" = Str.ofString "thing") = false by decide +kernel]; cases neg <;> rfl
theorem te_name_at : rEqD neg (.str (Str.ofString "name")) (.str (Str.ofString "at")) O Q = Q (.bl neg) O := by
  rw [rEq_s sw_name sw_at, show decide (Str.ofString "name" = Str.ofString "at") = false by decide +kernel]; cases neg <;> rfl
theorem te_thing_take : rEqD neg (.str (Str.ofString "thing")) (.str (Str.ofString "take")) O Q = Q (.bl neg) O := by
  rw [rEq_s sw_thing sw_take, show decide (Str.ofString "thing" = Str.ofString "take") = false by decide +kernel]; cases neg <;> rfl
theorem te_thing_give : rEqD neg (.str (Str.ofString "thing")) (.str (Str.ofString "give")) O Q = Q (.bl neg) O := by
  rw [rEq_s sw_thing sw_give, show decide (Str.ofString "thing" = Str.ofString "give") = false by decide +kernel]; cases neg <;> rfl
theorem te_thing_pair : rEqD neg (.str (Str.ofString "thing")) (.str (Str.ofString "pair")) O Q = Q (.bl neg) O := by
  rw [rEq_s sw_thing sw_pair, show decide (Str.ofString "thing" = Str.ofString "pair") = false by decide +kernel]; cases neg <;> rfl
theorem te_thing_first : rEqD neg (.str (Str.ofString "thing")) (.str (Str.ofString "first")) O Q = Q (.bl neg) O := by
  rw [rEq_s sw_thing sw_first, show decide (Str.ofString "thing" = Str.ofString "first") = false by decide +kernel]; cases neg <;> rfl
theorem te_thing_second : rEqD neg (.str (Str.ofString "thing")) (.str (Str.ofString "second")) O Q = Q (.bl neg) O := by
  rw [rEq_s sw_thing sw_second, show decide (Str.ofString "thing" = Str.ofString "second") = false by decide +kernel]; cases neg <;> rfl
theorem te_thing_to : rEqD neg (.str (Str.ofString "thing")) (.str (Str.ofString "to")) O Q = Q (.bl neg) O := by
  rw [rEq_s sw_thing sw_to, show decide (Str.ofString "thing" = Str.ofString "to") = false by decide +kernel]; cases neg <;> rfl
theorem te_thing_both : rEqD neg (.str (Str.ofString "thing")) (.str (Str.ofString "both")) O Q = Q (.bl neg) O := by
  rw [rEq_s sw_thing sw_both, show decide (Str.ofString "thing" = Str.ofString "both") = false by decide +kernel]; cases neg <;> rfl
theorem te_thing_one : rEqD neg (.str (Str.ofString "thing")) (.str (Str.ofString "one")) O Q = Q (.bl neg) O := by
  rw [rEq_s sw_thing sw_one, show decide (Str.ofString "thing" = Str.ofString "one") = false by decide +kernel]; cases neg <;> rfl
theorem te_thing_mark : rEqD neg (.str (Str.ofString "thing")) (.str (Str.ofString "mark")) O Q = Q (.bl neg) O := by
  rw [rEq_s sw_thing sw_mark, show decide (Str.ofString "thing" = Str.ofString "mark") = false by decide +kernel]; cases neg <;> rfl
theorem te_thing_name : rEqD neg (.str (Str.ofString "thing")) (.str (Str.ofString "name")) O Q = Q (.bl neg) O := by
  rw [rEq_s sw_thing sw_name, show decide (Str.ofString "thing" = Str.ofString "name") = false by decide +kernel]; cases neg <;> rfl
theorem te_thing_thing : rEqD neg (.str (Str.ofString "thing")) (.str (Str.ofString "thing")) O Q = Q (.bl !neg) O := by
  rw [rEq_s sw_thing sw_thing, show decide (Str.ofString "thing" = Str.ofString "thing") = true by decide +kernel]; cases neg <;> rfl
theorem te_thing_at : rEqD neg (.str (Str.ofString "thing")) (.str (Str.ofString "at")) O Q = Q (.bl neg) O := by
  rw [rEq_s sw_thing sw_at, show decide (Str.ofString "thing" = Str.ofString "at") = false by decide +kernel]; cases neg <;> rfl
theorem te_take_take : rEqD neg (.str (Str.ofString "take")) (.str (Str.ofString "take")) O Q = Q (.bl !neg) O := by
  rw [rEq_s sw_take sw_take, show decide (Str.ofString "take" = Str.ofString "take") = true by decide +kernel]; cases neg <;> rfl
theorem te_take_give : rEqD neg (.str (Str.ofString "take")) (.str (Str.ofString "give")) O Q = Q (.bl neg) O := by
  rw [rEq_s sw_take sw_give, show decide (Str.ofString "take" = Str.ofString "give") = false by decide +kernel]; cases neg <;> rfl
theorem te_take_pair : rEqD neg (.str (Str.ofString "take")) (.str (Str.ofString "pair")) O Q = Q (.bl neg) O := by
  rw [rEq_s sw_take sw_pair, show decide (Str.ofString "take" = Str.ofString "pair") = false by decide +kernel]; cases neg <;> rfl
theorem te_take_first : rEqD neg (.str (Str.ofString "take")) (.str (Str.ofString "first")) O Q = Q (.bl neg) O := by
  rw [rEq_s sw_take sw_first, show decide (Str.ofString "take" = Str.ofString "first") = false by decide +kernel]; cases neg <;> rfl
theorem te_take_second : rEqD neg (.str (Str.ofString "take")) (.str (Str.ofString "second")) O Q = Q (.bl neg) O := by
  rw [rEq_s sw_take sw_second, show decide (Str.ofString "take" = Str.ofString "second") = false by decide +kernel]; cases neg <;> rfl
theorem te_take_to : rEqD neg (.str (Str.ofString "take")) (.str (Str.ofString "to")) O Q = Q (.bl neg) O := by
  rw [rEq_s sw_take sw_to, show decide (Str.ofString "take" = Str.ofString "to") = false by decide +kernel]; cases neg <;> rfl
theorem te_take_both : rEqD neg (.str (Str.ofString "take")) (.str (Str.ofString "both")) O Q = Q (.bl neg) O := by
  rw [rEq_s sw_take sw_both, show decide (Str.ofString "take" = Str.ofString "both") = false by decide +kernel]; cases neg <;> rfl
theorem te_take_one : rEqD neg (.str (Str.ofString "take")) (.str (Str.ofString "one")) O Q = Q (.bl neg) O := by
  rw [rEq_s sw_take sw_one, show decide (Str.ofString "take" = Str.ofString "one") = false by decide +kernel]; cases neg <;> rfl
theorem te_take_mark : rEqD neg (.str (Str.ofString "take")) (.str (Str.ofString "mark")) O Q = Q (.bl neg) O := by
  rw [rEq_s sw_take sw_mark, show decide (Str.ofString "take" = Str.ofString "mark") = false by decide +kernel]; cases neg <;> rfl
theorem te_take_name : rEqD neg (.str (Str.ofString "take")) (.str (Str.ofString "name")) O Q = Q (.bl neg) O := by
  rw [rEq_s sw_take sw_name, show decide (Str.ofString "take" = Str.ofString "name") = false by decide +kernel]; cases neg <;> rfl
theorem te_take_thing : rEqD neg (.str (Str.ofString "take")) (.str (Str.ofString "thing")) O Q = Q (.bl neg) O := by
  rw [rEq_s sw_take sw_thing, show decide (Str.ofString "take" = Str.ofString "thing") = false by decide +kernel]; cases neg <;> rfl
theorem te_take_at : rEqD neg (.str (Str.ofString "take")) (.str (Str.ofString "at")) O Q = Q (.bl neg) O := by
  rw [rEq_s sw_take sw_at, show decide (Str.ofString "take" = Str.ofString "at") = false by decide +kernel]; cases neg <;> rfl
theorem te_give_take : rEqD neg (.str (Str.ofString "give")) (.str (Str.ofString "take")) O Q = Q (.bl neg) O := by
  rw [rEq_s sw_give sw_take, show decide (Str.ofString "give" = Str.ofString "take") = false by decide +kernel]; cases neg <;> rfl
theorem te_give_give : rEqD neg (.str (Str.ofString "give")) (.str (Str.ofString "give")) O Q = Q (.bl !neg) O := by
  rw [rEq_s sw_give sw_give, show decide (Str.ofString "give" = Str.ofString "give") = true by decide +kernel]; cases neg <;> rfl
theorem te_give_pair : rEqD neg (.str (Str.ofString "give")) (.str (Str.ofString "pair")) O Q = Q (.bl neg) O := by
  rw [rEq_s sw_give sw_pair, show decide (Str.ofString "give" = Str.ofString "pair") = false by decide +kernel]; cases neg <;> rfl
theorem te_give_first : rEqD neg (.str (Str.ofString "give")) (.str (Str.ofString "first")) O Q = Q (.bl neg) O := by
  rw [rEq_s sw_give sw_first, show decide (Str.ofString "give" = Str.ofString "first") = false by decide +kernel]; cases neg <;> rfl
theorem te_give_second : rEqD neg (.str (Str.ofString "give")) (.str (Str.ofString "second")) O Q = Q (.bl neg) O := by
  rw [rEq_s sw_give sw_second, show decide (Str.ofString "give" = Str.ofString "second") = false by decide +kernel]; cases neg <;> rfl
theorem te_give_to : rEqD neg (.str (Str.ofString "give")) (.str (Str.ofString "to")) O Q = Q (.bl neg) O := by
  rw [rEq_s sw_give sw_to, show decide (Str.ofString "give" = Str.ofString "to") = false by decide +kernel]; cases neg <;> rfl
theorem te_give_both : rEqD neg (.str (Str.ofString "give")) (.str (Str.ofString "both")) O Q = Q (.bl neg) O := by
  rw [rEq_s sw_give sw_both, show decide (Str.ofString "give" = Str.ofString "both") = false by decide +kernel]; cases neg <;> rfl
theorem te_give_one : rEqD neg (.str (Str.ofString "give")) (.str (Str.ofString "one")) O Q = Q (.bl neg) O := by
  rw [rEq_s sw_give sw_one, show decide (Str.ofString "give" = Str.ofString "one") = false by decide +kernel]; cases neg <;> rfl
theorem te_give_mark : rEqD neg (.str (Str.ofString "give")) (.str (Str.ofString "mark")) O Q = Q (.bl neg) O := by
  rw [rEq_s sw_give sw_mark, show decide (Str.ofString "give" = Str.ofString "mark") = false by decide +kernel]; cases neg <;> rfl
theorem te_give_name : rEqD neg (.str (Str.ofString "give")) (.str (Str.ofString "name")) O Q = Q (.bl neg) O := by
  rw [rEq_s sw_give sw_name, show decide (Str.ofString "give" = Str.ofString "name") = false by decide +kernel]; cases neg <;> rfl
theorem te_give_thing : rEqD neg (.str (Str.ofString "give")) (.str (Str.ofString "thing")) O Q = Q (.bl neg) O := by
  rw [rEq_s sw_give sw_thing, show decide (Str.ofString "give" = Str.ofString "thing") = false by decide +kernel]; cases neg <;> rfl
theorem te_give_at : rEqD neg (.str (Str.ofString "give")) (.str (Str.ofString "at")) O Q = Q (.bl neg) O := by
  rw [rEq_s sw_give sw_at, show decide (Str.ofString "give" = Str.ofString "at") = false by decide +kernel]; cases neg <;> rfl
theorem te_pair_take : rEqD neg (.str (Str.ofString "pair")) (.str (Str.ofString "take")) O Q = Q (.bl neg) O := by
  rw [rEq_s sw_pair sw_take, show decide (Str.ofString "pair" = Str.ofString "take") = false by decide +kernel]; cases neg <;> rfl
theorem te_pair_give : rEqD neg (.str (Str.ofString "pair")) (.str (Str.ofString "give")) O Q = Q (.bl neg) O := by
  rw [rEq_s sw_pair sw_give, show decide (Str.ofString "pair" = Str.ofString "give") = false by decide +kernel]; cases neg <;> rfl
theorem te_pair_pair : rEqD neg (.str (Str.ofString "pair")) (.str (Str.ofString "pair")) O Q = Q (.bl !neg) O := by
  rw [rEq_s sw_pair sw_pair, show decide (Str.ofString "pair" = Str.ofString "pair") = true by decide +kernel]; cases neg <;> rfl
theorem te_pair_first : rEqD neg (.str (Str.ofString "pair")) (.str (Str.ofString "first")) O Q = Q (.bl neg) O := by
  rw [rEq_s sw_pair sw_first, show decide (Str.ofString "pair" = Str.ofString "first") = false by decide +kernel]; cases neg <;> rfl
theorem te_pair_second : rEqD neg (.str (Str.ofString "pair")) (.str (Str.ofString "second")) O Q = Q (.bl neg) O := by
  rw [rEq_s sw_pair sw_second, show decide (Str.ofString "pair" = Str.ofString "second") = false by decide +kernel]; cases neg <;> rfl
theorem te_pair_to : rEqD neg (.str (Str.ofString "pair")) (.str (Str.ofString "to")) O Q = Q (.bl neg) O := by
  rw [rEq_s sw_pair sw_to, show decide (Str.ofString "pair" = Str.ofString "to") = false by decide +kernel]; cases neg <;> rfl
theorem te_pair_both : rEqD neg (.str (Str.ofString "pair")) (.str (Str.ofString "both")) O Q = Q (.bl neg) O := by
  rw [rEq_s sw_pair sw_both, show decide (Str.ofString "pair" = Str.ofString "both") = false by decide +kernel]; cases neg <;> rfl
theorem te_pair_one : rEqD neg (.str (Str.ofString "pair")) (.str (Str.ofString "one")) O Q = Q (.bl neg) O := by
  rw [rEq_s sw_pair sw_one, show decide (Str.ofString "pair" = Str.ofString "one") = false by decide +kernel]; cases neg <;> rfl
theorem te_pair_mark : rEqD neg (.str (Str.ofString "pair")) (.str (Str.ofString "mark")) O Q = Q (.bl neg) O := by
  rw [rEq_s sw_pair sw_mark, show decide (Str.ofString "pair" = Str.ofString "mark") = false by decide +kernel]; cases neg <;> rfl
theorem te_pair_name : rEqD neg (.str (Str.ofString "pair")) (.str (Str.ofString "name")) O Q = Q (.bl neg) O := by
  rw [rEq_s sw_pair sw_name, show decide (Str.ofString "pair" = Str.ofString "name") = false by decide +kernel]; cases neg <;> rfl
theorem te_pair_thing : rEqD neg (.str (Str.ofString "pair")) (.str (Str.ofString "thing")) O Q = Q (.bl neg) O := by
  rw [rEq_s sw_pair sw_thing, show decide (Str.ofString "pair" = Str.ofString "thing") = false by decide +kernel]; cases neg <;> rfl
theorem te_pair_at : rEqD neg (.str (Str.ofString "pair")) (.str (Str.ofString "at")) O Q = Q (.bl neg) O := by
  rw [rEq_s sw_pair sw_at, show decide (Str.ofString "pair" = Str.ofString "at") = false by decide +kernel]; cases neg <;> rfl
theorem te_first_take : rEqD neg (.str (Str.ofString "first")) (.str (Str.ofString "take")) O Q = Q (.bl neg) O := by
  rw [rEq_s sw_first sw_take, show decide (Str.ofString "first" = Str.ofString "take") = false by decide +kernel]; cases neg <;> rfl
theorem te_first_give : rEqD neg (.str (Str.ofString "first")) (.str (Str.ofString "give")) O Q = Q (.bl neg) O := by
  rw [rEq_s sw_first sw_give, show decide (Str.ofString "first" = Str.ofString "give") = false by decide +kernel]; cases neg <;> rfl
theorem te_first_pair : rEqD neg (.str (Str.ofString "first")) (.str (Str.ofString "pair")) O Q = Q (.bl neg) O := by
  rw [rEq_s sw_first sw_pair, show decide (Str.ofString "first" = Str.ofString "pair") = false by decide +kernel]; cases neg <;> rfl
theorem te_first_first : rEqD neg (.str (Str.ofString "first")) (.str (Str.ofString "first")) O Q = Q (.bl !neg) O := by
  rw [rEq_s sw_first sw_first, show decide (Str.ofString "first" = Str.ofString "first") = true by decide +kernel]; cases neg <;> rfl
theorem te_first_second : rEqD neg (.str (Str.ofString "first")) (.str (Str.ofString "second")) O Q = Q (.bl neg) O := by
  rw [rEq_s sw_first sw_second, show decide (Str.ofString "first" = Str.ofString "second") = false by decide +kernel]; cases neg <;> rfl
theorem te_first_to : rEqD neg (.str (Str.ofString "first")) (.str (Str.ofString "to")) O Q = Q (.bl neg) O := by
  rw [rEq_s sw_first sw_to, show decide (Str.ofString "first" = Str.ofString "to") = false by decide +kernel]; cases neg <;> rfl
theorem te_first_both : rEqD neg (.str (Str.ofString "first")) (.str (Str.ofString "both")) O Q = Q (.bl neg) O := by
  rw [rEq_s sw_first sw_both, show decide (Str.ofString "first" = Str.ofString "both") = false by decide +kernel]; cases neg <;> rfl
theorem te_first_one : rEqD neg (.str (Str.ofString "first")) (.str (Str.ofString "one")) O Q = Q (.bl neg) O := by
  rw [rEq_s sw_first sw_one, show decide (Str.ofString "first" = Str.ofString "one") = false by decide +kernel]; cases neg <;> rfl
theorem te_first_mark : rEqD neg (.str (Str.ofString "first")) (.str (Str.ofString "mark")) O Q = Q (.bl neg) O := by
  rw [rEq_s sw_first sw_mark, show decide (Str.ofString "first" = Str.ofString "mark") = false by decide +kernel]; cases neg <;> rfl
theorem te_first_name : rEqD neg (.str (Str.ofString "first")) (.str (Str.ofString "name")) O Q = Q (.bl neg) O := by
  rw [rEq_s sw_first sw_name, show decide (Str.ofString "first" = Str.ofString "name") = false by decide +kernel]; cases neg <;> rfl
theorem te_first_thing : rEqD neg (.str (Str.ofString "first")) (.str (Str.ofString "thing")) O Q = Q (.bl neg) O := by
  rw [rEq_s sw_first sw_thing, show decide (Str.ofString "first" = Str.ofString "thing") = false by decide +kernel]; cases neg <;> rfl
theorem te_first_at : rEqD neg (.str (Str.ofString "first")) (.str (Str.ofString "at")) O Q = Q (.bl neg) O := by
  rw [rEq_s sw_first sw_at, show decide (Str.ofString "first" = Str.ofString "at") = false by decide +kernel]; cases neg <;> rfl
theorem te_second_take : rEqD neg (.str (Str.ofString "second")) (.str (Str.ofString "take")) O Q = Q (.bl neg) O := by
  rw [rEq_s sw_second sw_take, show decide (Str.ofString "second" = Str.ofString "take") = false by decide +kernel]; cases neg <;> rfl
theorem te_second_give : rEqD neg (.str (Str.ofString "second")) (.str (Str.ofString "give")) O Q = Q (.bl neg) O := by
  rw [rEq_s sw_second sw_give, show decide (Str.ofString "second" = Str.ofString "give") = false by decide +kernel]; cases neg <;> rfl
theorem te_second_pair : rEqD neg (.str (Str.ofString "second")) (.str (Str.ofString "pair")) O Q = Q (.bl neg) O := by
  rw [rEq_s sw_second sw_pair, show decide (Str.ofString "second" = Str.ofString "pair") = false by decide +kernel]; cases neg <;> rfl
theorem te_second_first : rEqD neg (.str (Str.ofString "second")) (.str (Str.ofString "first")) O Q = Q (.bl neg) O := by
  rw [rEq_s sw_second sw_first, show decide (Str.ofString "second" = Str.ofString "first") = false by decide +kernel]; cases neg <;> rfl
theorem te_second_second : rEqD neg (.str (Str.ofString "second")) (.str (Str.ofString "second")) O Q = Q (.bl !neg) O := by
  rw [rEq_s sw_second sw_second, show decide (Str.ofString "second" = Str.ofString "second") = true by decide +kernel]; cases neg <;> rfl
theorem te_second_to : rEqD neg (.str (Str.ofString "second")) (.str (Str.ofString "to")) O Q = Q (.bl neg) O := by
  rw [rEq_s sw_second sw_to, show decide (Str.ofString "second" = Str.ofString "to") = false by decide +kernel]; cases neg <;> rfl
theorem te_second_both : rEqD neg (.str (Str.ofString "second")) (.str (Str.ofString "both")) O Q = Q (.bl neg) O := by
  rw [rEq_s sw_second sw_both, show decide (Str.ofString "second" = Str.ofString "both") = false by decide +kernel]; cases neg <;> rfl
theorem te_second_one : rEqD neg (.str (Str.ofString "second")) (.str (Str.ofString "one")) O Q = Q (.bl neg) O := by
  rw [rEq_s sw_second sw_one, show decide (Str.ofString "second" = Str.ofString "one") = false by decide +kernel]; cases neg <;> rfl
theorem te_second_mark : rEqD neg (.str (Str.ofString "second")) (.str (Str.ofString "mark")) O Q = Q (.bl neg) O := by
  rw [rEq_s sw_second sw_mark, show decide (Str.ofString "second" = Str.ofString "mark") = false by decide +kernel]; cases neg <;> rfl
theorem te_second_name : rEqD neg (.str (Str.ofString "second")) (.str (Str.ofString "name")) O Q = Q (.bl neg) O := by
  rw [rEq_s sw_second sw_name, show decide (Str.ofString "second" = Str.ofString "name") = false by decide +kernel]; cases neg <;> rfl
theorem te_second_thing : rEqD neg (.str (Str.ofString "second")) (.str (Str.ofString "thing")) O Q = Q (.bl neg) O := by
  rw [rEq_s sw_second sw_thing, show decide (Str.ofString "second" = Str.ofString "thing") = false by decide +kernel]; cases neg <;> rfl
theorem te_second_at : rEqD neg (.str (Str.ofString "second")) (.str (Str.ofString "at")) O Q = Q (.bl neg) O := by
  rw [rEq_s sw_second sw_at, show decide (Str.ofString "second" = Str.ofString "at") = false by decide +kernel]; cases neg <;> rfl
theorem te_mark_take : rEqD neg (.str (Str.ofString "mark")) (.str (Str.ofString "take")) O Q = Q (.bl neg) O := by
  rw [rEq_s sw_mark sw_take, show decide (Str.ofString "mark" = Str.ofString "take") = false by decide +kernel]; cases neg <;> rfl
theorem te_mark_give : rEqD neg (.str (Str.ofString "mark")) (.str (Str.ofString "give")) O Q = Q (.bl neg) O := by
  rw [rEq_s sw_mark sw_give, show decide (Str.ofString "mark" = Str.ofString "give") = false by decide +kernel]; cases neg <;> rfl
theorem te_mark_pair : rEqD neg (.str (Str.ofString "mark")) (.str (Str.ofString "pair")) O Q = Q (.bl neg) O := by
  rw [rEq_s sw_mark sw_pair, show decide (Str.ofString "mark" = Str.ofString "pair") = false by decide +kernel]; cases neg <;> rfl
theorem te_mark_first : rEqD neg (.str (Str.ofString "mark")) (.str (Str.ofString "first")) O Q = Q (.bl neg) O := by
  rw [rEq_s sw_mark sw_first, show decide (Str.ofString "mark" = Str.ofString "first") = false by decide +kernel]; cases neg <;> rfl
theorem te_mark_second : rEqD neg (.str (Str.ofString "mark")) (.str (Str.ofString "second")) O Q = Q (.bl neg) O := by
  rw [rEq_s sw_mark sw_second, show decide (Str.ofString "mark" = Str.ofString "second") = false by decide +kernel]; cases neg <;> rfl
theorem te_mark_to : rEqD neg (.str (Str.ofString "mark")) (.str (Str.ofString "to")) O Q = Q (.bl neg) O := by
  rw [rEq_s sw_mark sw_to, show decide (Str.ofString "mark" = Str.ofString "to") = false by decide +kernel]; cases neg <;> rfl
theorem te_mark_both : rEqD neg (.str (Str.ofString "mark")) (.str (Str.ofString "both")) O Q = Q (.bl neg) O := by
  rw [rEq_s sw_mark sw_both, show decide (Str.ofString "mark" = Str.ofString "both") = false by decide +kernel]; cases neg <;> rfl
theorem te_mark_one : rEqD neg (.str (Str.ofString "mark")) (.str (Str.ofString "one")) O Q = Q (.bl neg) O := by
  rw [rEq_s sw_mark sw_one, show decide (Str.ofString "mark" = Str.ofString "one") = false by decide +kernel]; cases neg <;> rfl
theorem te_mark_mark : rEqD neg (.str (Str.ofString "mark")) (.str (Str.ofString "mark")) O Q = Q (.bl !neg) O := by
  rw [rEq_s sw_mark sw_mark, show decide (Str.ofString "mark" = Str.ofString "mark") = true by decide +kernel]; cases neg <;> rfl
theorem te_mark_name : rEqD neg (.str (Str.ofString "mark")) (.str (Str.ofString "name")) O Q = Q (.bl neg) O := by
  rw [rEq_s sw_mark sw_name, show decide (Str.ofString "mark" = Str.ofString "name") = false by decide +kernel]; cases neg <;> rfl
theorem te_mark_thing : rEqD neg (.str (Str.ofString "mark")) (.str (Str.ofString "thing")) O Q = Q (.bl neg) O := by
  rw [rEq_s sw_mark sw_thing, show decide (Str.ofString "mark" = Str.ofString "thing") = false by decide +kernel]; cases neg <;> rfl
theorem te_mark_at : rEqD neg (.str (Str.ofString "mark")) (.str (Str.ofString "at")) O Q = Q (.bl neg) O := by
  rw [rEq_s sw_mark sw_at, show decide (Str.ofString "mark" = Str.ofString "at") = false by decide +kernel]; cases neg <;> rfl
theorem te_one_take : rEqD neg (.str (Str.ofString "one")) (.str (Str.ofString "take")) O Q = Q (.bl neg) O := by
  rw [rEq_s sw_one sw_take, show decide (Str.ofString "one" = Str.ofString "take") = false by decide +kernel]; cases neg <;> rfl
theorem te_one_give : rEqD neg (.str (Str.ofString "one")) (.str (Str.ofString "give")) O Q = Q (.bl neg) O := by
  rw [rEq_s sw_one sw_give, show decide (Str.ofString "one" = Str.ofString "give") = false by decide +kernel]; cases neg <;> rfl
theorem te_one_pair : rEqD neg (.str (Str.ofString "one")) (.str (Str.ofString "pair")) O Q = Q (.bl neg) O := by
  rw [rEq_s sw_one sw_pair, show decide (Str.ofString "one" = Str.ofString "pair") = false by decide +kernel]; cases neg <;> rfl
theorem te_one_first : rEqD neg (.str (Str.ofString "one")) (.str (Str.ofString "first")) O Q = Q (.bl neg) O := by
  rw [rEq_s sw_one sw_first, show decide (Str.ofString "one" = Str.ofString "first") = false by decide +kernel]; cases neg <;> rfl
theorem te_one_second : rEqD neg (.str (Str.ofString "one")) (.str (Str.ofString "second")) O Q = Q (.bl neg) O := by
  rw [rEq_s sw_one sw_second, show decide (Str.ofString "one" = Str.ofString "second") = false by decide +kernel]; cases neg <;> rfl
theorem te_one_to : rEqD neg (.str (Str.ofString "one")) (.str (Str.ofString "to")) O Q = Q (.bl neg) O := by
  rw [rEq_s sw_one sw_to, show decide (Str.ofString "one" = Str.ofString "to") = false by decide +kernel]; cases neg <;> rfl
theorem te_one_both : rEqD neg (.str (Str.ofString "one")) (.str (Str.ofString "both")) O Q = Q (.bl neg) O := by
  rw [rEq_s sw_one sw_both, show decide (Str.ofString "one" = Str.ofString "both") = false by decide +kernel]; cases neg <;> rfl
theorem te_one_one : rEqD neg (.str (Str.ofString "one")) (.str (Str.ofString "one")) O Q = Q (.bl !neg) O := by
  rw [rEq_s sw_one sw_one, show decide (Str.ofString "one" = Str.ofString "one") = true by decide +kernel]; cases neg <;> rfl
theorem te_one_mark : rEqD neg (.str (Str.ofString "one")) (.str (Str.ofString "mark")) O Q = Q (.bl neg) O := by
  rw [rEq_s sw_one sw_mark, show decide (Str.ofString "one" = Str.ofString "mark") = false by decide +kernel]; cases neg <;> rfl
theorem te_one_name : rEqD neg (.str (Str.ofString "one")) (.str (Str.ofString "name")) O Q = Q (.bl neg) O := by
  rw [rEq_s sw_one sw_name, show decide (Str.ofString "one" = Str.ofString "name") = false by decide +kernel]; cases neg <;> rfl
theorem te_one_thing : rEqD neg (.str (Str.ofString "one")) (.str (Str.ofString "thing")) O Q = Q (.bl neg) O := by
  rw [rEq_s sw_one sw_thing, show decide (Str.ofString "one" = Str.ofString "thing") = false by decide +kernel]; cases neg <;> rfl
theorem te_one_at : rEqD neg (.str (Str.ofString "one")) (.str (Str.ofString "at")) O Q = Q (.bl neg) O := by
  rw [rEq_s sw_one sw_at, show decide (Str.ofString "one" = Str.ofString "at") = false by decide +kernel]; cases neg <;> rfl
theorem te_to_take : rEqD neg (.str (Str.ofString "to")) (.str (Str.ofString "take")) O Q = Q (.bl neg) O := by
  rw [rEq_s sw_to sw_take, show decide (Str.ofString "to" = Str.ofString "take") = false by decide +kernel]; cases neg <;> rfl
theorem te_to_give : rEqD neg (.str (Str.ofString "to")) (.str (Str.ofString "give")) O Q = Q (.bl neg) O := by
  rw [rEq_s sw_to sw_give, show decide (Str.ofString "to" = Str.ofString "give") = false by decide +kernel]; cases neg <;> rfl
theorem te_to_pair : rEqD neg (.str (Str.ofString "to")) (.str (Str.ofString "pair")) O Q = Q (.bl neg) O := by
  rw [rEq_s sw_to sw_pair, show decide (Str.ofString "to" = Str.ofString "pair") = false by decide +kernel]; cases neg <;> rfl
theorem te_to_first : rEqD neg (.str (Str.ofString "to")) (.str (Str.ofString "first")) O Q = Q (.bl neg) O := by
  rw [rEq_s sw_to sw_first, show decide (Str.ofString "to" = Str.ofString "first") = false by decide +kernel]; cases neg <;> rfl
theorem te_to_second : rEqD neg (.str (Str.ofString "to")) (.str (Str.ofString "second")) O Q = Q (.bl neg) O := by
  rw [rEq_s sw_to sw_second, show decide (Str.ofString "to" = Str.ofString "second") = false by decide +kernel]; cases neg <;> rfl
theorem te_to_to : rEqD neg (.str (Str.ofString "to")) (.str (Str.ofString "to")) O Q = Q (.bl !neg) O := by
  rw [rEq_s sw_to sw_to, show decide (Str.ofString "to" = Str.ofString "to") = true by decide +kernel]; cases neg <;> rfl
theorem te_to_both : rEqD neg (.str (Str.ofString "to")) (.str (Str.ofString "both")) O Q = Q (.bl neg) O := by
  rw [rEq_s sw_to sw_both, show decide (Str.ofString "to" = Str.ofString "both") = false by decide +kernel]; cases neg <;> rfl
theorem te_to_one : rEqD neg (.str (Str.ofString "to")) (.str (Str.ofString "one")) O Q = Q (.bl neg) O := by
  rw [rEq_s sw_to sw_one, show decide (Str.ofString "to" = Str.ofString "one") = false by decide +kernel]; cases neg <;> rfl
theorem te_to_mark : rEqD neg (.str (Str.ofString "to")) (.str (Str.ofString "mark")) O Q = Q (.bl neg) O := by
  rw [rEq_s sw_to sw_mark, show decide (Str.ofString "to" = Str.ofString "mark") = false by decide +kernel]; cases neg <;> rfl
theorem te_to_name : rEqD neg (.str (Str.ofString "to")) (.str (Str.ofString "name")) O Q = Q (.bl neg) O := by
  rw [rEq_s sw_to sw_name, show decide (Str.ofString "to" = Str.ofString "name") = false by decide +kernel]; cases neg <;> rfl
theorem te_to_thing : rEqD neg (.str (Str.ofString "to")) (.str (Str.ofString "thing")) O Q = Q (.bl neg) O := by
  rw [rEq_s sw_to sw_thing, show decide (Str.ofString "to" = Str.ofString "thing") = false by decide +kernel]; cases neg <;> rfl
theorem te_to_at : rEqD neg (.str (Str.ofString "to")) (.str (Str.ofString "at")) O Q = Q (.bl neg) O := by
  rw [rEq_s sw_to sw_at, show decide (Str.ofString "to" = Str.ofString "at") = false by decide +kernel]; cases neg <;> rfl
theorem te_both_take : rEqD neg (.str (Str.ofString "both")) (.str (Str.ofString "take")) O Q = Q (.bl neg) O := by
  rw [rEq_s sw_both sw_take, show decide (Str.ofString "both" = Str.ofString "take") = false by decide +kernel]; cases neg <;> rfl
theorem te_both_give : rEqD neg (.str (Str.ofString "both")) (.str (Str.ofString "give")) O Q = Q (.bl neg) O := by
  rw [rEq_s sw_both sw_give, show decide (Str.ofString "both" = Str.ofString "give") = false by decide +kernel]; cases neg <;> rfl
theorem te_both_pair : rEqD neg (.str (Str.ofString "both")) (.str (Str.ofString "pair")) O Q = Q (.bl neg) O := by
  rw [rEq_s sw_both sw_pair, show decide (Str.ofString "both" = Str.ofString "pair") = false by decide +kernel]; cases neg <;> rfl
theorem te_both_first : rEqD neg (.str (Str.ofString "both")) (.str (Str.ofString "first")) O Q = Q (.bl neg) O := by
  rw [rEq_s sw_both sw_first, show decide (Str.ofString "both" = Str.ofString "first") = false by decide +kernel]; cases neg <;> rfl
theorem te_both_second : rEqD neg (.str (Str.ofString "both")) (.str (Str.ofString "second")) O Q = Q (.bl neg) O := by
  rw [rEq_s sw_both sw_second, show decide (Str.ofString "both" = Str.ofString "second") = false by decide +kernel]; cases neg <;> rfl
theorem te_both_to : rEqD neg (.str (Str.ofString "both")) (.str (Str.ofString "to")) O Q = Q (.bl neg) O := by
  rw [rEq_s sw_both sw_to, show decide (Str.ofString "both" = Str.ofString "to") = false by decide +kernel]; cases neg <;> rfl
theorem te_both_both : rEqD neg (.str (Str.ofString "both")) (.str (Str.ofString "both")) O Q = Q (.bl !neg) O := by
  rw [rEq_s sw_both sw_both, show decide (Str.ofString "both" = Str.ofString "both") = true by decide +kernel]; cases neg <;> rfl
theorem te_both_one : rEqD neg (.str (Str.ofString "both")) (.str (Str.ofString "one")) O Q = Q (.bl neg) O := by
  rw [rEq_s sw_both sw_one, show decide (Str.ofString "both" = Str.ofString "one") = false by decide +kernel]; cases neg <;> rfl
theorem te_both_mark : rEqD neg (.str (Str.ofString "both")) (.str (Str.ofString "mark")) O Q = Q (.bl neg) O := by
  rw [rEq_s sw_both sw_mark, show decide (Str.ofString "both" = Str.ofString "mark") = false by decide +kernel]; cases neg <;> rfl
theorem te_both_name : rEqD neg (.str (Str.ofString "both")) (.str (Str.ofString "name")) O Q = Q (.bl neg) O := by
  rw [rEq_s sw_both sw_name, show decide (Str.ofString "both" = Str.ofString "name") = false by decide +kernel]; cases neg <;> rfl
theorem te_both_thing : rEqD neg (.str (Str.ofString "both")) (.str (Str.ofString "thing")) O Q = Q (.bl neg) O := by
  rw [rEq_s sw_both sw_thing, show decide (Str.ofString "both" = Str.ofString "thing") = false by decide +kernel]; cases neg <;> rfl
theorem te_both_at : rEqD neg (.str (Str.ofString "both")) (.str (Str.ofString "at")) O Q = Q (.bl neg) O := by
  rw [rEq_s sw_both sw_at, show decide (Str.ofString "both" = Str.ofString "at") = false by decide +kernel]; cases neg <;> rfl
theorem te_at_take : rEqD neg (.str (Str.ofString "at")) (.str (Str.ofString "take")) O Q = Q (.bl neg) O := by
  rw [rEq_s sw_at sw_take, show decide (Str.ofString "at" = Str.ofString "take") = false by decide +kernel]; cases neg <;> rfl
theorem te_at_give : rEqD neg (.str (Str.ofString "at")) (.str (Str.ofString "give")) O Q = Q (.bl neg) O := by
  rw [rEq_s sw_at sw_give, show decide (Str.ofString "at" = Str.ofString "give") = false by decide +kernel]; cases neg <;> rfl
theorem te_at_pair : rEqD neg (.str (Str.ofString "at")) (.str (Str.ofString "pair")) O Q = Q (.bl neg) O := by
  rw [rEq_s sw_at sw_pair, show decide (Str.ofString "at" = Str.ofString "pair") = false by decide +kernel]; cases neg <;> rfl
theorem te_at_first : rEqD neg (.str (Str.ofString "at")) (.str (Str.ofString "first")) O Q = Q (.bl neg) O := by
  rw [rEq_s sw_at sw_first, show decide (Str.ofString "at" = Str.ofString "first") = false by decide +kernel]; cases neg <;> rfl
theorem te_at_second : rEqD neg (.str (Str.ofString "at")) (.str (Str.ofString "second")) O Q = Q (.bl neg) O := by
  rw [rEq_s sw_at sw_second, show decide (Str.ofString "at" = Str.ofString "second") = false by decide +kernel]; cases neg <;> rfl
theorem te_at_to : rEqD neg (.str (Str.ofString "at")) (.str (Str.ofString "to")) O Q = Q (.bl neg) O := by
  rw [rEq_s sw_at sw_to, show decide (Str.ofString "at" = Str.ofString "to") = false by decide +kernel]; cases neg <;> rfl
theorem te_at_both : rEqD neg (.str (Str.ofString "at")) (.str (Str.ofString "both")) O Q = Q (.bl neg) O := by
  rw [rEq_s sw_at sw_both, show decide (Str.ofString "at" = Str.ofString "both") = false by decide +kernel]; cases neg <;> rfl
theorem te_at_one : rEqD neg (.str (Str.ofString "at")) (.str (Str.ofString "one")) O Q = Q (.bl neg) O := by
  rw [rEq_s sw_at sw_one, show decide (Str.ofString "at" = Str.ofString "one") = false by decide +kernel]; cases neg <;> rfl
theorem te_at_mark : rEqD neg (.str (Str.ofString "at")) (.str (Str.ofString "mark")) O Q = Q (.bl neg) O := by
  rw [rEq_s sw_at sw_mark, show decide (Str.ofString "at" = Str.ofString "mark") = false by decide +kernel]; cases neg <;> rfl
theorem te_at_name : rEqD neg (.str (Str.ofString "at")) (.str (Str.ofString "name")) O Q = Q (.bl neg) O := by
  rw [rEq_s sw_at sw_name, show decide (Str.ofString "at" = Str.ofString "name") = false by decide +kernel]; cases neg <;> rfl
theorem te_at_thing : rEqD neg (.str (Str.ofString "at")) (.str (Str.ofString "thing")) O Q = Q (.bl neg) O := by
  rw [rEq_s sw_at sw_thing, show decide (Str.ofString "at" = Str.ofString "thing") = false by decide +kernel]; cases neg <;> rfl
theorem te_at_at : rEqD neg (.str (Str.ofString "at")) (.str (Str.ofString "at")) O Q = Q (.bl !neg) O := by
  rw [rEq_s sw_at sw_at, show decide (Str.ofString "at" = Str.ofString "at") = true by decide +kernel]; cases neg <;> rfl
theorem ti4_name : rInD neg (.str (Str.ofString "name")) (.tup [.str (Str.ofString "give"), .str (Str.ofString "pair"), .str (Str.ofString "first"), .str (Str.ofString "second")]) O Q = Q (.bl neg) O := by
  have e := rIn_ws (neg := neg) (O := O) (Q := Q) (z := Str.ofString "name") (ts := [Str.ofString "give", Str.ofString "pair", Str.ofString "first", Str.ofString "second"]) (by decide +kernel) (by decide +kernel)
  rw [show decide (Str.ofString "name" ∈ ([Str.ofString "give", Str.ofString "pair", Str.ofString "first", Str.ofString "second"] : List Str)) = false by decide +kernel] at e
  exact e.trans (by cases neg <;> rfl)
theorem ti4_thing : rInD neg (.str (Str.ofString "thing")) (.tup [.str (Str.ofString "give"), .str (Str.ofString "pair"), .str (Str.ofString "first"), .str (Str.ofString "second")]) O Q = Q (.bl neg) O := by
  have e := rIn_ws (neg := neg) (O := O) (Q := Q) (z := Str.ofString "thing") (ts := [Str.ofString "give", Str.ofString "pair", Str.ofString "first", Str.ofString "second"]) (by decide +kernel) (by decide +kernel)
  rw [show decide (Str.ofString "thing" ∈ ([Str.ofString "give", Str.ofString "pair", Str.ofString "first", Str.ofString "second"] : List Str)) = false by decide +kernel] at e
  exact e.trans (by cases neg <;> rfl)
theorem ti4_take : rInD neg (.str (Str.ofString "take")) (.tup [.str (Str.ofString "give"), .str (Str.ofString "pair"), .str (Str.ofString "first"), .str (Str.ofString "second")]) O Q = Q (.bl neg) O := by
  have e := rIn_ws (neg := neg) (O := O) (Q := Q) (z := Str.ofString "take") (ts := [Str.ofString "give", Str.ofString "pair", Str.ofString "first", Str.ofString "second"]) (by decide +kernel) (by decide +kernel)
  rw [show decide (Str.ofString "take" ∈ ([Str.ofString "give", Str.ofString "pair", Str.ofString "first", Str.ofString "second"] : List Str)) = false by decide +kernel] at e
  exact e.trans (by cases neg <;> rfl)
theorem ti4_give : rInD neg (.str (Str.ofString "give")) (.tup [.str (Str.ofString "give"), .str (Str.ofString "pair"), .str (Str.ofString "first"), .str (Str.ofString "second")]) O Q = Q (.bl !neg) O := by
  have e := rIn_ws (neg := neg) (O := O) (Q := Q) (z := Str.ofString "give") (ts := [Str.ofString "give", Str.ofString "pair", Str.ofString "first", Str.ofString "second"]) (by decide +kernel) (by decide +kernel)
  rw [show decide (Str.ofString "give" ∈ ([Str.ofString "give", Str.ofString "pair", Str.ofString "first", Str.ofString "second"] : List Str)) = true by decide +kernel] at e
  exact e.trans (by cases neg <;> rfl)
theorem ti4_pair : rInD neg (.str (Str.ofString "pair")) (.tup [.str (Str.ofString "give"), .str (Str.ofString "pair"), .str (Str.ofString "first"), .str (Str.ofString "second")]) O Q = Q (.bl !neg) O := by
  have e := rIn_ws (neg := neg) (O := O) (Q := Q) (z := Str.ofString "pair") (ts := [Str.ofString "give", Str.ofString "pair", Str.ofString "first", Str.ofString "second"]) (by decide +kernel) (by decide +kernel)
  rw [show decide (Str.ofString "pair" ∈ ([Str.ofString "give", Str.ofString "pair", Str.ofString "first", Str.ofString "second"] : List Str)) = true by decide +kernel] at e
  exact e.trans (by cases neg <;> rfl)
theorem ti4_first : rInD neg (.str (Str.ofString "first")) (.tup [.str (Str.ofString "give"), .str (Str.ofString "pair"), .str (Str.ofString "first"), .str (Str.ofString "second")]) O Q = Q (.bl !neg) O := by
  have e := rIn_ws (neg := neg) (O := O) (Q := Q) (z := Str.ofString "first") (ts := [Str.ofString "give", Str.ofString "pair", Str.ofString "first", Str.ofString "second"]) (by decide +kernel) (by decide +kernel)
  rw [show decide (Str.ofString "first" ∈ ([Str.ofString "give", Str.ofString "pair", Str.ofString "first", Str.ofString "second"] : List Str)) = true by decide +kernel] at e
  exact e.trans (by cases neg <;> rfl)
theorem ti4_second : rInD neg (.str (Str.ofString "second")) (.tup [.str (Str.ofString "give"), .str (Str.ofString "pair"), .str (Str.ofString "first"), .str (Str.ofString "second")]) O Q = Q (.bl !neg) O := by
  have e := rIn_ws (neg := neg) (O := O) (Q := Q) (z := Str.ofString "second") (ts := [Str.ofString "give", Str.ofString "pair", Str.ofString "first", Str.ofString "second"]) (by decide +kernel) (by decide +kernel)
  rw [show decide (Str.ofString "second" ∈ ([Str.ofString "give", Str.ofString "pair", Str.ofString "first", Str.ofString "second"] : List Str)) = true by decide +kernel] at e
  exact e.trans (by cases neg <;> rfl)
theorem ti2_name : rInD neg (.str (Str.ofString "name")) (.tup [.str (Str.ofString "first"), .str (Str.ofString "second")]) O Q = Q (.bl neg) O := by
  have e := rIn_ws (neg := neg) (O := O) (Q := Q) (z := Str.ofString "name") (ts := [Str.ofString "first", Str.ofString "second"]) (by decide +kernel) (by decide +kernel)
  rw [show decide (Str.ofString "name" ∈ ([Str.ofString "first", Str.ofString "second"] : List Str)) = false by decide +kernel] at e
  exact e.trans (by cases neg <;> rfl)
theorem ti2_thing : rInD neg (.str (Str.ofString "thing")) (.tup [.str (Str.ofString "first"), .str (Str.ofString "second")]) O Q = Q (.bl neg) O := by
  have e := rIn_ws (neg := neg) (O := O) (Q := Q) (z := Str.ofString "thing") (ts := [Str.ofString "first", Str.ofString "second"]) (by decide +kernel) (by decide +kernel)
  rw [show decide (Str.ofString "thing" ∈ ([Str.ofString "first", Str.ofString "second"] : List Str)) = false by decide +kernel] at e
  exact e.trans (by cases neg <;> rfl)
theorem ti2_take : rInD neg (.str (Str.ofString "take")) (.tup [.str (Str.ofString "first"), .str (Str.ofString "second")]) O Q = Q (.bl neg) O := by
  have e := rIn_ws (neg := neg) (O := O) (Q := Q) (z := Str.ofString "take") (ts := [Str.ofString "first", Str.ofString "second"]) (by decide +kernel) (by decide +kernel)
  rw [show decide (Str.ofString "take" ∈ ([Str.ofString "first", Str.ofString "second"] : List Str)) = false by decide +kernel] at e
  exact e.trans (by cases neg <;> rfl)
theorem ti2_give : rInD neg (.str (Str.ofString "give")) (.tup [.str (Str.ofString "first"), .str (Str.ofString "second")]) O Q = Q (.bl neg) O := by
  have e := rIn_ws (neg := neg) (O := O) (Q := Q) (z := Str.ofString "give") (ts := [Str.ofString "first", Str.ofString "second"]) (by decide +kernel) (by decide +kernel)
  rw [show decide (Str.ofString "give" ∈ ([Str.ofString "first", Str.ofString "second"] : List Str)) = false by decide +kernel] at e
  exact e.trans (by cases neg <;> rfl)
theorem ti2_pair : rInD neg (.str (Str.ofString "pair")) (.tup [.str (Str.ofString "first"), .str (Str.ofString "second")]) O Q = Q (.bl neg) O := by
  have e := rIn_ws (neg := neg) (O := O) (Q := Q) (z := Str.ofString "pair") (ts := [Str.ofString "first", Str.ofString "second"]) (by decide +kernel) (by decide +kernel)
  rw [show decide (Str.ofString "pair" ∈ ([Str.ofString "first", Str.ofString "second"] : List Str)) = false by decide +kernel] at e
  exact e.trans (by cases neg <;> rfl)
theorem ti2_first : rInD neg (.str (Str.ofString "first")) (.tup [.str (Str.ofString "first"), .str (Str.ofString "second")]) O Q = Q (.bl !neg) O := by
  have e := rIn_ws (neg := neg) (O := O) (Q := Q) (z := Str.ofString "first") (ts := [Str.ofString "first", Str.ofString "second"]) (by decide +kernel) (by decide +kernel)
  rw [show decide (Str.ofString "first" ∈ ([Str.ofString "first", Str.ofString "second"] : List Str)) = true by decide +kernel] at e
  exact e.trans (by cases neg <;> rfl)
theorem ti2_second : rInD neg (.str (Str.ofString "second")) (.tup [.str (Str.ofString "first"), .str (Str.ofString "second")]) O Q = Q (.bl !neg) O := by
  have e := rIn_ws (neg := neg) (O := O) (Q := Q) (z := Str.ofString "second") (ts := [Str.ofString "first", Str.ofString "second"]) (by decide +kernel) (by decide +kernel)
  rw [show decide (Str.ofString "second" ∈ ([Str.ofString "first", Str.ofString "second"] : List Str)) = true by decide +kernel] at e
  exact e.trans (by cases neg <;> rfl)
end
/-! ### small sizes -/
theorem szT_0 : ((0 : Nat) ≤ sizeLine) = True := eq_true (sz_small (by decide))
theorem szT_1 : ((1 : Nat) ≤ sizeLine) = True := eq_true (sz_small (by decide))
theorem szT_2 : ((2 : Nat) ≤ sizeLine) = True := eq_true (sz_small (by decide))
theorem szT_3 : ((3 : Nat) ≤ sizeLine) = True := eq_true (sz_small (by decide))
theorem szT_4 : ((4 : Nat) ≤ sizeLine) = True := eq_true (sz_small (by decide))
theorem szT_5 : ((5 : Nat) ≤ sizeLine) = True := eq_true (sz_small (by decide))
theorem szT_6 : ((6 : Nat) ≤ sizeLine) = True := eq_true (sz_small (by decide))
theorem szT_7 : ((7 : Nat) ≤ sizeLine) = True := eq_true (sz_small (by decide))
theorem szT_8 : ((8 : Nat) ≤ sizeLine) = True := eq_true (sz_small (by decide))
theorem szT_9 : ((9 : Nat) ≤ sizeLine) = True := eq_true (sz_small (by decide))
theorem szT_10 : ((10 : Nat) ≤ sizeLine) = True := eq_true (sz_small (by decide))
theorem szT_11 : ((11 : Nat) ≤ sizeLine) = True := eq_true (sz_small (by decide))
theorem szT_12 : ((12 : Nat) ≤ sizeLine) = True := eq_true (sz_small (by decide))
/-! ### programs -/
inductive Pg where
  | nm (x : Str) | thing | take (x : Str) (k : Kd) (b : Pg) | give (f a : Pg) | pair (a b : Pg) | first (p : Pg) | second (p : Pg)
  deriving DecidableEq, Inhabited
def Pg.ins : Pg → List Pg
  | .nm _ => []
  | .thing => []
  | .take _ _ b => [b]
  | .give f a => [f, a]
  | .pair a b => [a, b]
  | .first p => [p]
  | .second p => [p]
def Pg.hgt : Pg → Nat
  | .nm _ => 0
  | .thing => 0
  | .take _ _ b => b.hgt + 1
  | .give f a => max f.hgt a.hgt + 1
  | .pair a b => max a.hgt b.hgt + 1
  | .first p => p.hgt + 1
  | .second p => p.hgt + 1
def Pg.isTake : Pg → Bool
  | .take .. => true
  | _ => false
def Pg.isPair : Pg → Bool
  | .pair .. => true
  | _ => false
def Pg.can : Pg → Bool
  | .give f _ => f.isTake
  | .first p => p.isPair
  | .second p => p.isPair
  | _ => false
theorem sz_21 {n : Nat} (h : n ≤ 4194304) : n ≤ sizeLine := Nat.le_trans h (by decide)
/-! ### rows of names -/
/-- what a name is by a row: the last one counts -/
def envOf (kn : List (Str × Kd)) (x : Str) : Option Kd := (kn.reverse.find? fun q => decide (q.1 = x)).map (·.2)
theorem envOf_snoc (kn : List (Str × Kd)) (y : Str) (k : Kd) (x : Str) : envOf (kn ++ [(y, k)]) x = if y = x then some k else envOf kn x := by
  unfold envOf
  rw [List.reverse_append, List.reverse_singleton, List.singleton_append, List.find?_cons]
  by_cases h : y = x
  · simp [h]
  · simp [h]
end Kf
/-! Klj: walks along lists that may be owned. -/
namespace Kf
open PySem PySem.Spec L2
open PyProof.Rows hiding St
section
variable {p : Pat} {ft : FT} {fe : FE} {ρ : DEnv} {O : Ow} {α β : Type} {A : List (Addr × List D)}
end
end Kf
/-! Kls: lists of lists of numbers, owned ones too. -/
namespace Kf
open PySem PySem.Spec L2
open PyProof.Rows hiding St
section
variable {O : Ow} {neg : Bool} {Q : VD}
end
/-! ### the lists within a thing -/
def Ls (O : Ow) : Nat → D → List Addr → Prop
  | _, .int _, rs => rs = []
  | n + 1, .ref a, rs => ∃ ds rss, O a = some (.lst ds) ∧ Paired (fun d r => Ls O n d r) ds rss ∧ rs = a :: rss.flatten
  | _, _, _ => False
theorem Ls.mono {O O' : Ow} (s : Sub O O') : ∀ {n : Nat} {x : D} {rs : List Addr}, Ls O n x rs → Ls O' n x rs
  | n, .int _, rs, h => by cases n <;> simpa only [Ls] using h
  | n + 1, .ref a, rs, h => by
    simp only [Ls] at h ⊢
    obtain ⟨ds, rss, h1, h2, h3⟩ := h
    exact ⟨ds, rss, s _ _ h1, Paired.mapP h2 fun _ _ z => Ls.mono s z, h3⟩
  | 0, .ref a, rs, h => by simp [Ls] at h
  | n, .non, rs, h => by cases n <;> simp [Ls] at h
  | n, .bl _, rs, h => by cases n <;> simp [Ls] at h
  | n, .str _, rs, h => by cases n <;> simp [Ls] at h
  | n, .tup _, rs, h => by cases n <;> simp [Ls] at h
  | n, .lst _, rs, h => by cases n <;> simp [Ls] at h
  | n, .ty _, rs, h => by cases n <;> simp [Ls] at h
  | n, .scr _, rs, h => by cases n <;> simp [Ls] at h
  | n, .edic, rs, h => by cases n <;> simp [Ls] at h
  | n, .tupK _, rs, h => by cases n <;> simp [Ls] at h
end Kf
namespace Kf
open PySem PySem.Spec L2
open PyProof.Rows hiding St
/-! ### ends, patterns -/
def ends : Kd → List (List Kd × Str)
  | .mk m => [([], m)]
  | .one => []
  | .both a b => ends a ++ ends b
  | .to a b => (ends b).map fun e => (a :: e.1, e.2)
def dEnd (e : List Kd × Str) : D := .tup [.lst (e.1.map dK), .str e.2]
theorem ends_len : ∀ k : Kd, (ends k).length ≤ k.leaves
  | .mk _ => by simp [ends, Kd.leaves]
  | .one => by simp [ends, Kd.leaves]
  | .both a b => by have := ends_len a; have := ends_len b; simp only [ends, Kd.leaves, List.length_append]; omega
  | .to a b => by have := ends_len b; simp only [ends, Kd.leaves, List.length_map]; omega
/-- what is taken is less deep, and has fewer leaves -/
theorem ends_in : ∀ (k : Kd) (e : List Kd × Str), e ∈ ends k → (∀ x ∈ e.1, x.depth < k.depth ∧ (k.ok = true → x.ok = true)) ∧ (e.1.map Kd.leaves).sum < k.leaves ∧ (k.ok = true → PyData.strOk e.2 = true) ∧ e.2 ∈ k.marks
  | .mk m, e, h => by simp [ends] at h; subst h; simp [Kd.leaves, Kd.marks, Kd.ok]
  | .one, e, h => by simp [ends] at h
  | .both a b, e, h => by
    simp only [ends, List.mem_append] at h
    have ha := leaves_pos a
    have hb := leaves_pos b
    rcases h with h | h
    · obtain ⟨h1, h2, h3, h4⟩ := ends_in a e h
      refine ⟨fun x hx => ⟨by have := (h1 x hx).1; simp only [Kd.depth]; omega, fun ho => (h1 x hx).2 (by simp [Kd.ok] at ho; exact ho.1)⟩, by simp only [Kd.leaves]; omega, fun ho => h3 (by simp [Kd.ok] at ho; exact ho.1), by simp [Kd.marks, h4]⟩
    · obtain ⟨h1, h2, h3, h4⟩ := ends_in b e h
      refine ⟨fun x hx => ⟨by have := (h1 x hx).1; simp only [Kd.depth]; omega, fun ho => (h1 x hx).2 (by simp [Kd.ok] at ho; exact ho.2)⟩, by simp only [Kd.leaves]; omega, fun ho => h3 (by simp [Kd.ok] at ho; exact ho.2), by simp [Kd.marks, h4]⟩
  | .to a b, e, h => by
    simp only [ends, List.mem_map] at h
    obtain ⟨e', h, rfl⟩ := h
    obtain ⟨h1, h2, h3, h4⟩ := ends_in b e' h
    refine ⟨fun x hx => ?_, ?_, fun ho => h3 (by simp [Kd.ok] at ho; exact ho.2), by simp [Kd.marks, h4]⟩
    · rcases List.mem_cons.mp hx with rfl | hx
      · exact ⟨by simp only [Kd.depth]; omega, fun ho => by simp [Kd.ok] at ho; exact ho.1⟩
      · exact ⟨by have := (h1 x hx).1; simp only [Kd.depth]; omega, fun ho => (h1 x hx).2 (by simp [Kd.ok] at ho; exact ho.2)⟩
    · simp only [List.map_cons, List.sum_cons, Kd.leaves]; omega
/-! the order of texts -/
def leS (a b : Str) : Bool := !decide (b.cps.toList < a.cps.toList)
def srt (xs : List Str) : List Str := xs.mergeSort leS
theorem leS_iff {a b : Str} : leS a b = true ↔ ¬ b.cps.toList < a.cps.toList := by unfold leS; simp
theorem srt_perm (xs : List Str) : (srt xs).Perm xs := List.mergeSort_perm xs leS
theorem srt_pw (xs : List Str) : (srt xs).Pairwise fun a b => ¬ b.cps.toList < a.cps.toList := by
  have := List.pairwise_mergeSort (le := leS) (fun a b c h1 h2 => leS_iff.mpr (cps_le_trans (leS_iff.mp h1) (leS_iff.mp h2))) (fun a b => by
    simp only [Bool.or_eq_true, leS_iff]
    rcases Decidable.em (b.cps.toList < a.cps.toList) with h | h
    · exact .inr fun q => absurd (List.lt_trans h q) (List.lt_irrefl _)
    · exact .inl h) xs
  exact this.imp fun h => leS_iff.mp h
theorem pw_uniq {a b : List Str} (h : a.Pairwise fun x y => ¬ y.cps.toList < x.cps.toList) (h' : b.Pairwise fun x y => ¬ y.cps.toList < x.cps.toList) (p : a.Perm b) : a = b := by
  refine List.Perm.eq_of_pairwise (le := fun (x y : Str) => ¬ y.cps.toList < x.cps.toList) ?_ h h' p
  intro x y _ _ h1 h2
  exact str_ext (List.le_antisymm (as := x.cps.toList) (bs := y.cps.toList) h1 h2)
theorem srt_congr {xs ys : List Str} (p : xs.Perm ys) : srt xs = srt ys := pw_uniq (srt_pw xs) (srt_pw ys) ((srt_perm xs).trans (p.trans (srt_perm ys).symm))
/-- the text of one end -/
def pat (ins : List Str) (m : Str) : Str := Str.ofString "<" ++ Str.join (Str.ofString " ") (srt ins) ++ Str.ofString ">" ++ m
def epa : Kd → List Str → List Str
  | .mk m, acc => [pat acc m]
  | .one, _ => []
  | .both a b, acc => epa a acc ++ epa b acc
  | .to a b, acc => epa b (acc ++ epa a [])
theorem epa_perm : ∀ (k : Kd) {acc acc' : List Str}, acc.Perm acc' → epa k acc = epa k acc'
  | .mk m, acc, acc', h => by rw [epa, epa, pat, pat, srt_congr h]
  | .one, _, _, _ => rfl
  | .both a b, acc, acc', h => by rw [epa, epa, epa_perm a h, epa_perm b h]
  | .to a b, acc, acc', h => by rw [epa, epa, epa_perm b (h.append_right _)]
/-- kinds that are alike -/
def Iso (k k' : Kd) : Prop := ∀ acc, (epa k acc).Perm (epa k' acc)
theorem Iso.refl (k : Kd) : Iso k k := fun _ => List.Perm.refl _
theorem Iso.symm {a b : Kd} (h : Iso a b) : Iso b a := fun acc => (h acc).symm
theorem Iso.trans {a b c : Kd} (h : Iso a b) (h' : Iso b c) : Iso a c := fun acc => (h acc).trans (h' acc)
theorem Iso.both {a a' b b' : Kd} (h : Iso a a') (h' : Iso b b') : Iso (.both a b) (.both a' b') := fun acc => by
  rw [epa, epa]; exact (h acc).append (h' acc)
theorem Iso.to {a a' b b' : Kd} (h : Iso a a') (h' : Iso b b') : Iso (.to a b) (.to a' b') := fun acc => by
  rw [epa, epa, epa_perm b ((h []).append_left acc)]; exact h' _
/-! how long -/
def spEnds (n : Nat) : DSp := fun ds O R _ => ∃ k : Kd, ds = [dK k] ∧ k.depth < n ∧ k.depth < 190 ∧ k.ok = true ∧ k.leaves ≤ 1000 ∧ R (.lst ((ends k).map dEnd)) O
/-! the word of a kind -/
def Kd.word : Kd → Str
  | .mk _ => "mark"
  | .one => "one"
  | .to _ _ => "to"
  | .both _ _ => "both"
theorem len_sum : ∀ l : List Kd, l.length ≤ (l.map Kd.leaves).sum
  | [] => by simp
  | k :: l => by have := len_sum l; have := leaves_pos k; simp only [List.length_cons, List.map_cons, List.sum_cons]; omega
theorem ends_marks : ∀ (k : Kd) (e : List Kd × Str), e ∈ ends k → ∀ x ∈ e.1, ∀ m ∈ x.marks, m ∈ k.marks
  | .mk m, e, h, x, hx, _, _ => by simp [ends] at h; subst h; cases hx
  | .one, e, h, _, _, _, _ => by simp [ends] at h
  | .both a b, e, h, x, hx, m, hm => by
    simp only [ends, List.mem_append] at h
    simp only [Kd.marks, List.mem_append]
    exact h.imp (fun h => ends_marks a e h x hx m hm) (fun h => ends_marks b e h x hx m hm)
  | .to a b, e, h, x, hx, m, hm => by
    simp only [ends, List.mem_map] at h
    obtain ⟨e', h, rfl⟩ := h
    simp only [Kd.marks, List.mem_append]
    rcases List.mem_cons.mp hx with rfl | hx
    · exact .inl hm
    · exact .inr (ends_marks b e' h x hx m hm)
theorem le_sum {n : Nat} : ∀ {l : List Nat}, n ∈ l → n ≤ l.sum
  | x :: l, h => by
    rw [List.sum_cons]
    rcases List.mem_cons.mp h with rfl | h
    · omega
    · have := le_sum h; omega
end Kf
/-! Kfm: the pattern of a kind and its form tell kinds apart alike. -/
namespace Kf
open PySem PySem.Spec L2
open PyProof.Rows hiding St
/-! ### codes -/
def cds (s : Str) : List Nat := s.cps.toList
def joinL : List (List Nat) → List Nat
  | [] => []
  | [w] => w
  | w :: x :: r => w ++ 32 :: joinL (x :: r)
def plainC (m : List Nat) : Prop := ∀ c ∈ m, c ≠ 32 ∧ c ≠ 60 ∧ c ≠ 62
inductive Lg : List Nat → Prop
  | mk (ws : List (List Nat)) (m : List Nat) : (∀ w ∈ ws, Lg w) → plainC m → Lg (60 :: (joinL ws ++ 62 :: m))
/-! ### trees -/
inductive Ft where
  | nd : List Ft → Str → Ft
mutual
def Ft.gd : Ft → Prop
  | .nd ts m => Fts ts ∧ plainC (cds m) ∧ PyData.strOk m = true
def Fts : List Ft → Prop
  | [] => True
  | t :: r => t.gd ∧ Fts r
end
mutual
def Ft.sz : Ft → Nat
  | .nd ts _ => szs ts + 1
def szs : List Ft → Nat
  | [] => 0
  | t :: r => t.sz + szs r
end
mutual
def Ft.ht : Ft → Nat
  | .nd ts _ => hts ts + 1
def hts : List Ft → Nat
  | [] => 0
  | t :: r => max t.ht (hts r)
end
theorem lvs_pos : ∀ k : Kd, 1 ≤ k.leaves
  | .mk _ => Nat.le_refl _
  | .one => Nat.le_refl _
  | .to a b => by have := lvs_pos a; simp only [Kd.leaves]; omega
  | .both a b => by have := lvs_pos a; simp only [Kd.leaves]; omega
/-! ### texts and forms -/
end Kf
/-! Kfn: texts of trees are alike just where their forms are. -/
namespace Kf
open PySem PySem.Spec L2
open PyProof.Rows hiding St
/-! ### what sorted() asks -/
end Kf
/-! Kfo: forms by ends; marks. -/
namespace Kf
open PySem PySem.Spec L2
open PyProof.Rows hiding St
theorem mem_sum {x : Kd} {l : List Kd} (h : x ∈ l) : x.leaves ≤ (l.map Kd.leaves).sum := le_sum (List.mem_map.mpr ⟨x, h, rfl⟩)
/-! ### nested takes -/
end Kf
/-! Ktx: texts of kinds. -/
namespace Kf
open PySem PySem.Spec L2
open PyProof.Rows hiding St
abbrev bl1 : Str := " "
/-! ### joining and splitting -/
theorem join_app {sep : Str} : ∀ (a b : List Str), a ≠ [] → b ≠ [] → Str.join sep (a ++ b) = Str.join sep a ++ sep ++ Str.join sep b
  | [], _, h, _ => absurd rfl h
  | [x], y :: b, _, _ => rfl
  | [x], [], _, h => absurd rfl h
  | x :: z :: a, b, _, hb => by
    have ih := join_app (sep := sep) (z :: a) b (by simp) hb
    show x ++ sep ++ Str.join sep (z :: (a ++ b)) = (x ++ sep ++ Str.join sep (z :: a)) ++ sep ++ Str.join sep b
    rw [show z :: (a ++ b) = z :: a ++ b from rfl, ih]
    apply str_ext
    simp only [tl_app, List.append_assoc]
theorem split_words {ws : List Str} (h : ws ≠ []) (hp : ∀ w ∈ ws, 32 ∉ w.cps.toList) : Txt.split (Str.join bl1 ws) bl1 = ws := by
  rw [← TL.join_eq]
  exact TL.split_join (y := bl1) (s := 32) (S := []) (by decide +kernel) (by decide +kernel) h hp
/-! ### kinds by words -/
def kwords : Kd → List Str
  | .mk m => [m]
  | .one => ["1"]
  | .to a b => [Str.ofString "("] ++ kwords a ++ [Str.ofString "->"] ++ kwords b ++ [Str.ofString ")"]
  | .both a b => [Str.ofString "("] ++ kwords a ++ [Str.ofString "*"] ++ kwords b ++ [Str.ofString ")"]
def kshow : Kd → Str
  | .mk m => m
  | .one => "1"
  | .to a b => Str.ofString "( " ++ kshow a ++ Str.ofString " " ++ Str.ofString "->" ++ Str.ofString " " ++ kshow b ++ Str.ofString " )"
  | .both a b => Str.ofString "( " ++ kshow a ++ Str.ofString " " ++ Str.ofString "*" ++ Str.ofString " " ++ kshow b ++ Str.ofString " )"
theorem kwords_ne (k : Kd) : kwords k ≠ [] := by cases k <;> simp [kwords]
theorem tlop : (Str.ofString "( ").cps.toList = (Str.ofString "(").cps.toList ++ bl1.cps.toList := by decide +kernel
theorem tlcl : (Str.ofString " )").cps.toList = bl1.cps.toList ++ (Str.ofString ")").cps.toList := by decide +kernel
theorem join5 (a b : List Str) (s : Str) (ha : a ≠ []) (hb : b ≠ []) : Str.join bl1 ([Str.ofString "("] ++ a ++ [s] ++ b ++ [Str.ofString ")"]) = Str.ofString "( " ++ Str.join bl1 a ++ Str.ofString " " ++ s ++ Str.ofString " " ++ Str.join bl1 b ++ Str.ofString " )" := by
  rw [join_app _ _ (by simp) (by simp), join_app _ _ (by simp) hb, join_app _ _ (by simp) (by simp), join_app _ _ (by simp) ha]
  show Str.ofString "(" ++ bl1 ++ _ ++ bl1 ++ s ++ bl1 ++ _ ++ bl1 ++ Str.ofString ")" = _
  apply str_ext
  simp only [tl_app, tlop, tlcl, List.append_assoc]
theorem kshow_eq : ∀ k : Kd, kshow k = Str.join bl1 (kwords k)
  | .mk _ => rfl
  | .one => rfl
  | .to a b => by simp only [kshow, kwords, kshow_eq a, kshow_eq b]; rw [join5 _ _ _ (kwords_ne a) (kwords_ne b)]
  | .both a b => by simp only [kshow, kwords, kshow_eq a, kshow_eq b]; rw [join5 _ _ _ (kwords_ne a) (kwords_ne b)]
def Kd.mks (k : Kd) : Prop := ∀ m ∈ k.marks, isMarkB m = true
theorem mark_sp {m : Str} (h : isMarkB m = true) : 32 ∉ m.cps.toList := by
  unfold isMarkB at h
  simp only [Bool.and_eq_true, List.all_eq_true] at h
  intro h2
  have := h.1 32 h2
  revert this
  decide +kernel
theorem kwords_sp : ∀ k : Kd, k.mks → ∀ w ∈ kwords k, 32 ∉ w.cps.toList
  | .mk m, h, w, hw => by
    simp only [kwords, List.mem_singleton] at hw
    subst hw
    exact mark_sp (h w (by simp [Kd.marks]))
  | .one, h, w, hw => by
    simp only [kwords, List.mem_singleton] at hw
    subst hw
    decide +kernel
  | .to a b, h, w, hw => by
    simp only [kwords, List.mem_append, List.mem_singleton] at hw
    rcases hw with (((rfl | hw) | rfl) | hw) | rfl
    · decide +kernel
    · exact kwords_sp a (fun m hm => h m (by simp [Kd.marks, hm])) w hw
    · decide +kernel
    · exact kwords_sp b (fun m hm => h m (by simp [Kd.marks, hm])) w hw
    · decide +kernel
  | .both a b, h, w, hw => by
    simp only [kwords, List.mem_append, List.mem_singleton] at hw
    rcases hw with (((rfl | hw) | rfl) | hw) | rfl
    · decide +kernel
    · exact kwords_sp a (fun m hm => h m (by simp [Kd.marks, hm])) w hw
    · decide +kernel
    · exact kwords_sp b (fun m hm => h m (by simp [Kd.marks, hm])) w hw
    · decide +kernel
theorem split_kshow {k : Kd} (h : k.mks) : Txt.split (kshow k) bl1 = kwords k := by rw [kshow_eq, split_words (kwords_ne k) (kwords_sp k h)]
theorem mark_len {m : Str} (h : isMarkB m = true) : m.length ≤ 6 := by
  unfold isMarkB at h
  simp only [Bool.and_eq_true, decide_eq_true_eq] at h
  exact h.2.2
theorem kshow_len : ∀ k : Kd, k.mks → (kshow k).length + 8 ≤ 14 * k.leaves
  | .mk m, h => by have := mark_len (h m (by simp [Kd.marks])); simp only [kshow, Kd.leaves]; omega
  | .one, _ => by simp only [kshow, Kd.leaves]; decide +kernel
  | .to a b, h => by
    have h1 := kshow_len a fun m hm => h m (by simp [Kd.marks, hm])
    have h2 := kshow_len b fun m hm => h m (by simp [Kd.marks, hm])
    have e1 : (Str.ofString "( ").length = 2 := by decide +kernel
    have e2 : (Str.ofString " ").length = 1 := by decide +kernel
    have e3 : (Str.ofString "->").length = 2 := by decide +kernel
    have e4 : (Str.ofString " )").length = 2 := by decide +kernel
    simp only [kshow, Kd.leaves, len_app, e1, e2, e3, e4]; omega
  | .both a b, h => by
    have h1 := kshow_len a fun m hm => h m (by simp [Kd.marks, hm])
    have h2 := kshow_len b fun m hm => h m (by simp [Kd.marks, hm])
    have e1 : (Str.ofString "( ").length = 2 := by decide +kernel
    have e2 : (Str.ofString " ").length = 1 := by decide +kernel
    have e3 : (Str.ofString "*").length = 1 := by decide +kernel
    have e4 : (Str.ofString " )").length = 2 := by decide +kernel
    simp only [kshow, Kd.leaves, len_app, e1, e2, e3, e4]; omega
/-! ### reading -/
def sg (s : Str) : Option (Kd → Kd → Kd) := if s = "->" then some .to else if s = "*" then some .both else none
/-- a leaf's word -/
def lfw (w : Str) : Option Kd := if w = "1" then some .one else if isMarkB w = true then some (.mk w) else none
def kp : Nat → List Str → Option (Kd × List Str)
  | _, [] => none
  | 0, w :: r => (lfw w).map fun k => (k, r)
  | n + 1, w :: r => match lfw w with
    | some k => some (k, r)
    | none => if w = "(" then match kp n r with
        | some (a, s :: r2) => match sg s with
          | some f => match kp n r2 with
            | some (b, c :: r3) => if c = ")" then some (f a b, r3) else none
            | _ => none
          | none => none
        | _ => none
      else none
theorem lfw_op : lfw "(" = none := by decide +kernel
theorem lfw_mk {m : Str} (h : isMarkB m = true) : lfw m = some (.mk m) := by
  unfold lfw
  rw [if_neg, if_pos h]
  rintro rfl
  revert h
  decide +kernel
/-- a kind's words are read -/
theorem kp_read : ∀ (k : Kd) (n : Nat) (r : List Str), k.mks → k.depth ≤ n → kp n (kwords k ++ r) = some (k, r)
  | .mk m, n, r, h, _ => by
    have := lfw_mk (h m (by simp [Kd.marks]))
    cases n <;> simp [kwords, kp, this]
  | .one, n, r, h, _ => by
    have : lfw "1" = some .one := by decide +kernel
    cases n <;> simp [kwords, kp, this]
  | .to a b, n, r, h, hd => by
    cases n with
    | zero => simp [Kd.depth] at hd
    | succ n =>
      simp only [Kd.depth] at hd
      have i1 := kp_read a n ([Str.ofString "->"] ++ (kwords b ++ ([Str.ofString ")"] ++ r))) (fun m hm => h m (by simp [Kd.marks, hm])) (by omega)
      have i2 := kp_read b n ([Str.ofString ")"] ++ r) (fun m hm => h m (by simp [Kd.marks, hm])) (by omega)
      have e : kwords (.to a b) ++ r = Str.ofString "(" :: (kwords a ++ ([Str.ofString "->"] ++ (kwords b ++ ([Str.ofString ")"] ++ r)))) := by simp [kwords]
      have hs : sg "->" = some .to := by unfold sg; rw [if_pos rfl]
      rw [e]
      unfold kp
      rw [lfw_op]
      simp only [if_true, i1]
      simp only [List.singleton_append, hs, List.append_eq]
      rw [List.singleton_append] at i2
      rw [i2]
      simp
  | .both a b, n, r, h, hd => by
    cases n with
    | zero => simp [Kd.depth] at hd
    | succ n =>
      simp only [Kd.depth] at hd
      have i1 := kp_read a n ([Str.ofString "*"] ++ (kwords b ++ ([Str.ofString ")"] ++ r))) (fun m hm => h m (by simp [Kd.marks, hm])) (by omega)
      have i2 := kp_read b n ([Str.ofString ")"] ++ r) (fun m hm => h m (by simp [Kd.marks, hm])) (by omega)
      have e : kwords (.both a b) ++ r = Str.ofString "(" :: (kwords a ++ ([Str.ofString "*"] ++ (kwords b ++ ([Str.ofString ")"] ++ r)))) := by simp [kwords]
      have hs : sg "*" = some .both := by unfold sg; rw [if_neg (by decide +kernel), if_pos rfl]
      rw [e]
      unfold kp
      rw [lfw_op]
      simp only [if_true, i1]
      simp only [List.singleton_append, hs, List.append_eq]
      rw [List.singleton_append] at i2
      rw [i2]
      simp
theorem mark_so {m : Str} (h : isMarkB m = true) : PyData.strOk m = true := by
  rw [strOk_iff]
  unfold isMarkB at h
  simp only [Bool.and_eq_true, List.all_eq_true] at h
  intro c hc
  have h1 := h.1 c hc
  unfold letB at h1
  have h2 : ∀ c ∈ abc.cps.toList, c < 1114112 := by decide +kernel
  exact h2 c (of_decide_eq_true h1)
theorem mks_ok : ∀ k : Kd, k.mks → k.ok = true
  | .mk m, h => mark_so (h m (by simp [Kd.marks]))
  | .one, _ => rfl
  | .to a b, h => by simp only [Kd.ok, mks_ok a fun m hm => h m (by simp [Kd.marks, hm]), mks_ok b fun m hm => h m (by simp [Kd.marks, hm]), Bool.and_self]
  | .both a b, h => by simp only [Kd.ok, mks_ok a fun m hm => h m (by simp [Kd.marks, hm]), mks_ok b fun m hm => h m (by simp [Kd.marks, hm]), Bool.and_self]
end Kf
/-! Kdc: tables, rows of names. -/
namespace Kf
open PySem PySem.Spec L2
open PyProof.Rows hiding St
theorem valD_pos {κ : Type} [DecidableEq κ] {p : κ × D} {r : List (κ × D)} {k : κ} (e : p.1 = k) : valD (p :: r) k = some p.2 := by simp [valD, List.find?_cons, e]
theorem valD_neg {κ : Type} [DecidableEq κ] {p : κ × D} {r : List (κ × D)} {k : κ} (e : ¬ p.1 = k) : valD (p :: r) k = valD r k := by simp [valD, List.find?_cons, e]
theorem valD_any {κ : Type} [DecidableEq κ] (k : κ) : ∀ kvs : List (κ × D), (kvs.any fun kv => decide (kv.1 = k)) = (valD kvs k).isSome
  | [] => rfl
  | p :: r => by
    rw [List.any_cons]
    by_cases e : p.1 = k
    · simp only [valD_pos e, decide_eq_true e, Bool.true_or, Option.isSome_some]
    · rw [valD_neg e, decide_eq_false e, Bool.false_or]; exact valD_any k r
theorem valD_map {κ : Type} [DecidableEq κ] (k j : κ) (y : D) : ∀ kvs : List (κ × D), valD (kvs.map fun kv => if kv.1 = k then (kv.1, y) else kv) j = (valD kvs j).map fun x => if j = k then y else x
  | [] => rfl
  | p :: r => by
    have ih := valD_map k j y r
    rw [List.map_cons]
    by_cases h : p.1 = k
    · rw [if_pos h]
      by_cases e : p.1 = j
      · rw [valD_pos (p := (p.1, y)) e, valD_pos e, Option.map_some, if_pos (e.symm.trans h)]
      · rw [valD_neg (p := (p.1, y)) e, valD_neg e, ih]
    · rw [if_neg h]
      by_cases e : p.1 = j
      · rw [valD_pos (p := p) e, valD_pos e, Option.map_some, if_neg (fun z => h (e.trans z))]
      · rw [valD_neg (p := p) e, valD_neg e, ih]
theorem valD_snoc {κ : Type} [DecidableEq κ] (k j : κ) (y : D) : ∀ kvs : List (κ × D), valD kvs k = none → valD (kvs ++ [(k, y)]) j = if j = k then some y else valD kvs j
  | [], _ => by
    by_cases e : k = j
    · rw [if_pos e.symm]; exact valD_pos (p := (k, y)) e
    · rw [if_neg (fun z => e z.symm)]; exact valD_neg (p := (k, y)) e
  | p :: r, hn => by
    rw [List.cons_append]
    have hk : ¬ p.1 = k := fun z => by rw [valD_pos z] at hn; cases hn
    rw [valD_neg hk] at hn
    have ih := valD_snoc k j y r hn
    by_cases e : p.1 = j
    · rw [valD_pos e, valD_pos e, if_neg (fun z => hk (e.trans z))]
    · rw [valD_neg e, valD_neg e, ih]
theorem valD_put {κ : Type} [DecidableEq κ] (kvs : List (κ × D)) (k j : κ) (d : D) : valD (putD kvs k d) j = if j = k then some d else valD kvs j := by
  unfold putD
  rw [valD_any]
  cases h : valD kvs k with
  | none => rw [if_neg (by simp)]; exact valD_snoc k j d kvs h
  | some x =>
    rw [if_pos (by rfl), valD_map]
    by_cases e : j = k
    · subst e; rw [if_pos rfl, h]; simp
    · rw [if_neg e]; simp [e]
theorem keys_put {κ : Type} [DecidableEq κ] (kvs : List (κ × D)) (k : κ) (d : D) : (putD kvs k d).map (·.1) = if (valD kvs k).isSome then kvs.map (·.1) else kvs.map (·.1) ++ [k] := by
  unfold putD
  rw [valD_any]
  split
  · rw [List.map_map]
    refine List.map_congr_left fun p _ => ?_
    show (if p.1 = k then (p.1, d) else p).1 = p.1
    split <;> rfl
  · rw [List.map_append]; rfl
theorem valD_mem {κ : Type} [DecidableEq κ] {kvs : List (κ × D)} {k : κ} : k ∈ kvs.map (·.1) ↔ (valD kvs k).isSome = true := by
  rw [← valD_any, List.any_eq_true, List.mem_map]
  constructor
  · rintro ⟨p, h1, h2⟩; exact ⟨p, h1, decide_eq_true h2⟩
  · rintro ⟨p, h1, h2⟩; exact ⟨p, h1, of_decide_eq_true h2⟩
theorem nodup_le {α : Type} [DecidableEq α] : ∀ {ts us : List α}, ts.Nodup → (∀ t ∈ ts, t ∈ us) → ts.length ≤ us.length
  | [], _, _, _ => Nat.zero_le _
  | t :: ts, us, hn, h => by
    have h1 := List.nodup_cons.mp hn
    have ht := h t List.mem_cons_self
    have ih := nodup_le (us := us.erase t) h1.2 fun u hu => by
      have hne : u ≠ t := fun q => h1.1 (q ▸ hu)
      exact (List.mem_erase_of_ne hne).mpr (h u (List.mem_cons_of_mem _ hu))
    rw [List.length_erase_of_mem ht] at ih
    have := List.length_pos_of_mem ht
    rw [List.length_cons]; omega
/-! ### rows -/
abbrev kv (q : Str × Kd) : D := .tup [.str q.1, dK q.2]
def ANames : List Str := ["pa", "fa", "pb", "fb", "x0", "x1", "x2", "y", "z", "x7"]
def XNames : List Str := ["x0", "x1", "x2", "y", "z", "x7"]
abbrev AB : List Str := ["a", "b"]
theorem xnames : ∀ x ∈ XNames, x ∈ ANames ∧ x ≠ "pa" ∧ x ≠ "pb" ∧ x ≠ "fa" ∧ x ≠ "fb" := by decide +kernel
structure RowOk (kn : List (Str × Kd)) : Prop where
  nm : ∀ q ∈ kn, q.1 ∈ ANames ∧ q.2.over AB ∧ q.2.leaves ≤ 3
  pa : envOf kn "pa" = some (.mk "a")
  pb : envOf kn "pb" = some (.mk "b")
  fa : envOf kn "fa" = some (.to (.mk "a") (.mk "a"))
  fb : envOf kn "fb" = some (.to (.mk "b") (.mk "b"))
theorem RowOk.snoc {kn : List (Str × Kd)} (h : RowOk kn) {x : Str} {k : Kd} (hx : x ∈ XNames) (ho : k.over AB) (hl : k.leaves ≤ 3) : RowOk (kn ++ [(x, k)]) := by
  obtain ⟨h0, h1, h2, h3, h4⟩ := xnames x hx
  refine ⟨fun q hq => ?_, ?_, ?_, ?_, ?_⟩
  · rcases List.mem_append.mp hq with hq | hq
    · exact h.nm q hq
    · rw [List.mem_singleton.mp hq]; exact ⟨h0, ho, hl⟩
  · rw [envOf_snoc, if_neg h1]; exact h.pa
  · rw [envOf_snoc, if_neg h2]; exact h.pb
  · rw [envOf_snoc, if_neg h3]; exact h.fa
  · rw [envOf_snoc, if_neg h4]; exact h.fb
/-- what the names' table holds behind a row's first ones -/
structure DInv (pre : List (Str × Kd)) (kvs : List (Key × D)) (ts : List Str) : Prop where
  ks : kvs.map (·.1) = ts.map Sum.inr
  nd : ts.Nodup
  an : ∀ t ∈ ts, t ∈ ANames
  vl : ∀ x : Str, valD kvs (.inr x) = (envOf pre x).map dK
theorem DInv.nil : DInv [] [] [] := ⟨rfl, List.nodup_nil, fun _ h => (nomatch h), fun _ => rfl⟩
theorem DInv.len {pre : List (Str × Kd)} {kvs : List (Key × D)} {ts : List Str} (h : DInv pre kvs ts) : ts.length ≤ 10 ∧ kvs.length ≤ 10 := by
  have h1 : ts.length ≤ 10 := nodup_le (us := ANames) h.nd h.an
  have h2 : kvs.length = ts.length := by have := congrArg List.length h.ks; simpa using this
  omega
theorem DInv.put {pre : List (Str × Kd)} {kvs : List (Key × D)} {ts : List Str} (h : DInv pre kvs ts) {x : Str} {k : Kd} (hx : x ∈ ANames) : ∃ ts', DInv (pre ++ [(x, k)]) (putD kvs (.inr x) (dK k)) ts' := by
  have hv : ∀ y : Str, valD (putD kvs (.inr x) (dK k)) (.inr y) = (envOf (pre ++ [(x, k)]) y).map dK := fun y => by
    rw [valD_put, envOf_snoc]
    by_cases e : x = y
    · subst e; simp
    · rw [if_neg (fun q => e (Sum.inr.inj q).symm), if_neg e, h.vl]
  have hk := keys_put kvs (.inr x) (dK k)
  by_cases c : (valD kvs (.inr x)).isSome = true
  · rw [if_pos c] at hk
    exact ⟨ts, hk.trans h.ks, h.nd, h.an, hv⟩
  · rw [if_neg c] at hk
    refine ⟨ts ++ [x], by rw [hk, h.ks, List.map_append]; rfl, ?_, ?_, hv⟩
    · refine List.nodup_append.mpr ⟨h.nd, by simp, fun a ha b hb e => c ?_⟩
      rw [List.mem_singleton.mp hb] at e
      subst e
      exact valD_mem.mp (by rw [h.ks]; exact List.mem_map.mpr ⟨a, ha, rfl⟩)
    · intro t ht
      rcases List.mem_append.mp ht with ht | ht
      · exact h.an t ht
      · rw [List.mem_singleton.mp ht]; exact hx
theorem DInv.has {pre : List (Str × Kd)} {kvs : List (Key × D)} {ts : List Str} (h : DInv pre kvs ts) {x : Str} (hx : x ∈ ts) : ∃ k, envOf pre x = some k := by
  have h1 := valD_mem.mp (show Sum.inr x ∈ kvs.map (·.1) by rw [h.ks]; exact List.mem_map.mpr ⟨x, hx, rfl⟩)
  rw [h.vl] at h1
  cases e : envOf pre x with
  | none => rw [e] at h1; simp at h1
  | some k => exact ⟨k, rfl⟩
end Kf
/-! Kdw: as Kdb, to 512: programs with names told by how many takes stand between; steps. -/
namespace Kf
open PySem PySem.Spec L2
open PyProof.Rows hiding St
inductive Db where
  | at (i : Nat) | nm (x : Str) | thing | take (k : Kd) (b : Db) | give (f a : Db) | pair (a b : Db) | first (p : Db) | second (p : Db)
  deriving DecidableEq, Inhabited
/-- x and a number -/
def xn (k : Nat) : Str := Str.ofString "x" ++ Str.ofString (toString (k : Int))
/-- a name that is none of these -/
def Fr (x : Str) : Prop := ∀ k, k < 512 → xn k ≠ x
/-- the nearest one called x, the nearest first -/
def ri : List Str → Str → Option Nat
  | [], _ => none
  | y :: r, x => if y = x then some 0 else (ri r x).map (· + 1)
def bare : Pg → List Str → Db
  | .nm x, c => match ri c x with
    | some i => .at i
    | none => .nm x
  | .thing, _ => .thing
  | .take x k b, c => .take k (bare b (x :: c))
  | .give f a, c => .give (bare f c) (bare a c)
  | .pair a b, c => .pair (bare a c) (bare b c)
  | .first p, c => .first (bare p c)
  | .second p, c => .second (bare p c)
def moved : Db → Nat → Nat → Db
  | .at i, f, n => .at (i + if f ≤ i then n else 0)
  | .nm x, _, _ => .nm x
  | .thing, _, _ => .thing
  | .take k b, f, n => .take k (moved b (f + 1) n)
  | .give g a, f, n => .give (moved g f n) (moved a f n)
  | .pair a b, f, n => .pair (moved a f n) (moved b f n)
  | .first p, f, n => .first (moved p f n)
  | .second p, f, n => .second (moved p f n)
def put : Db → Nat → Db → Db
  | .at i, t, g => if i = t then moved g 0 t else .at (i - if t < i then 1 else 0)
  | .nm x, _, _ => .nm x
  | .thing, _, _ => .thing
  | .take k b, t, g => .take k (put b (t + 1) g)
  | .give f a, t, g => .give (put f t g) (put a t g)
  | .pair a b, t, g => .pair (put a t g) (put b t g)
  | .first p, t, g => .first (put p t g)
  | .second p, t, g => .second (put p t g)
def Wf : Db → Nat → Prop
  | .at i, m => i < m
  | .nm x, _ => Fr x
  | .thing, _ => True
  | .take _ b, m => Wf b (m + 1)
  | .give f a, m => Wf f m ∧ Wf a m
  | .pair a b, m => Wf a m ∧ Wf b m
  | .first p, m => Wf p m
  | .second p, m => Wf p m
/-! ### where names stand -/
def xr : Nat → List Str
  | 0 => []
  | m + 1 => xn m :: xr m
def mid (m : Nat) : Nat → List Str
  | 0 => xr m
  | j + 1 => xn (m + j + 1) :: mid m j
def own (m j : Nat) : Nat → List Str
  | 0 => mid m j
  | e + 1 => xn (m + e) :: own m j e
/-! ### dressed and bare again -/
/-! ### steps -/
/-! ### places -/
/-! ### well formed -/
end Kf
/-! Kpw: the parts of a program, put back. -/
namespace Kf
open PySem PySem.Spec L2
open PyProof.Rows hiding St
end Kf
/-! Krn: steps one behind another, names told by numbers; how many parts. -/
namespace Kf
open PySem PySem.Spec L2
open PyProof.Rows hiding St
def Db.hgt : Db → Nat
  | .at _ => 0
  | .nm _ => 0
  | .thing => 0
  | .take _ b => b.hgt + 1
  | .give f a => max f.hgt a.hgt + 1
  | .pair a b => max a.hgt b.hgt + 1
  | .first p => p.hgt + 1
  | .second p => p.hgt + 1
/-! ### steps with names told by numbers -/
def Db.ins : Db → List Db
  | .take _ b => [b]
  | .give f a => [f, a]
  | .pair a b => [a, b]
  | .first p => [p]
  | .second p => [p]
  | _ => []
def Db.isTake : Db → Bool
  | .take .. => true
  | _ => false
def Db.isPair : Db → Bool
  | .pair .. => true
  | _ => false
def Db.can : Db → Bool
  | .give f _ => f.isTake
  | .first p => p.isPair
  | .second p => p.isPair
  | _ => false
/-! ### how many parts -/
def Pg.psz : Pg → Nat
  | .nm _ => 1
  | .thing => 1
  | .take _ _ b => b.psz + 1
  | .give f a => f.psz + a.psz + 1
  | .pair a b => a.psz + b.psz + 1
  | .first p => p.psz + 1
  | .second p => p.psz + 1
def Db.psz : Db → Nat
  | .at _ => 1
  | .nm _ => 1
  | .thing => 1
  | .take _ b => b.psz + 1
  | .give f a => f.psz + a.psz + 1
  | .pair a b => a.psz + b.psz + 1
  | .first p => p.psz + 1
  | .second p => p.psz + 1
/-! ### names and kinds are right ones -/
def Db.ok : Db → Prop
  | .at _ => True
  | .nm x => PyData.strOk x = true
  | .thing => True
  | .take k b => k.ok = true ∧ k.depth ≤ 12 ∧ b.ok
  | .give f a => f.ok ∧ a.ok
  | .pair f a => f.ok ∧ a.ok
  | .first p => p.ok
  | .second p => p.ok
/-! ### runs -/
structure Good (b : Db) : Prop where
  wf : Wf b 0
  ok : b.ok
  hg : b.hgt ≤ 100
  sz : b.psz ≤ 4194304
end Kf
/-! Kcf: whichever steps are done, the end is one. -/
namespace Kf
open PySem PySem.Spec L2
open PyProof.Rows hiding St
theorem mv_at_lo {i f n : Nat} (h : i < f) : moved (.at i) f n = .at i := by simp only [moved]; rw [if_neg (by omega)]; rfl
theorem mv_at_hi {i f n : Nat} (h : f ≤ i) : moved (.at i) f n = .at (i + n) := by simp only [moved]; rw [if_pos h]
theorem pt_at_lo {i t : Nat} {g : Db} (h : i < t) : put (.at i) t g = .at i := by simp only [put]; rw [if_neg (by omega), if_neg (by omega)]; rfl
theorem pt_at_eq {t : Nat} {g : Db} : put (.at t) t g = moved g 0 t := by simp [put]
theorem pt_at_hi {i t : Nat} {g : Db} (h : t < i) : put (.at i) t g = .at (i - 1) := by simp only [put]; rw [if_neg (by omega), if_pos h]
theorem mv_mv : ∀ (a : Db) {f f' n m : Nat}, f ≤ f' → f' ≤ f + n → moved (moved a f n) f' m = moved a f (n + m)
  | .at i, f, f', n, m, h1, h2 => by
    by_cases c : f ≤ i
    · rw [mv_at_hi c, mv_at_hi c, mv_at_hi (by omega)]; congr 1; omega
    · rw [mv_at_lo (by omega), mv_at_lo (by omega), mv_at_lo (by omega)]
  | .nm x, _, _, _, _, _, _ => rfl
  | .thing, _, _, _, _, _, _ => rfl
  | .take k b, f, f', n, m, h1, h2 => by simp only [moved]; rw [mv_mv b (by omega) (by omega)]
  | .give g a, f, f', n, m, h1, h2 => by simp only [moved]; rw [mv_mv g h1 h2, mv_mv a h1 h2]
  | .pair g a, f, f', n, m, h1, h2 => by simp only [moved]; rw [mv_mv g h1 h2, mv_mv a h1 h2]
  | .first p, f, f', n, m, h1, h2 => by simp only [moved]; rw [mv_mv p h1 h2]
  | .second p, f, f', n, m, h1, h2 => by simp only [moved]; rw [mv_mv p h1 h2]
theorem mv_comm : ∀ (a : Db) {e f j n : Nat}, e ≤ f → moved (moved a e j) (f + j) n = moved (moved a f n) e j
  | .at i, e, f, j, n, h => by
    by_cases c : f ≤ i
    · rw [mv_at_hi (show e ≤ i by omega), mv_at_hi c, mv_at_hi (by omega), mv_at_hi (by omega)]; congr 1; omega
    · rw [mv_at_lo (show i < f by omega)]
      by_cases d : e ≤ i
      · rw [mv_at_hi d, mv_at_lo (by omega)]
      · rw [mv_at_lo (by omega), mv_at_lo (by omega)]
  | .nm x, _, _, _, _, _ => rfl
  | .thing, _, _, _, _, _ => rfl
  | .take k b, e, f, j, n, h => by
    simp only [moved]
    have := mv_comm b (e := e + 1) (f := f + 1) (j := j) (n := n) (by omega)
    rw [show f + j + 1 = f + 1 + j by omega, this]
  | .give g a, e, f, j, n, h => by simp only [moved]; rw [mv_comm g h, mv_comm a h]
  | .pair g a, e, f, j, n, h => by simp only [moved]; rw [mv_comm g h, mv_comm a h]
  | .first p, e, f, j, n, h => by simp only [moved]; rw [mv_comm p h]
  | .second p, e, f, j, n, h => by simp only [moved]; rw [mv_comm p h]
theorem mv_put : ∀ (b : Db) {a : Db} {j f n : Nat}, moved (put b j a) (f + j) n = put (moved b (f + 1 + j) n) j (moved a f n)
  | .at i, a, j, f, n => by
    by_cases c : i = j
    · subst c
      rw [pt_at_eq, mv_at_lo (show i < f + 1 + i by omega), pt_at_eq, mv_comm a (Nat.zero_le _)]
    · by_cases d : i < j
      · rw [pt_at_lo d, mv_at_lo (by omega), mv_at_lo (by omega), pt_at_lo d]
      · rw [pt_at_hi (by omega)]
        by_cases e : f + 1 + j ≤ i
        · rw [mv_at_hi (by omega), mv_at_hi e, pt_at_hi (by omega)]; congr 1; omega
        · rw [mv_at_lo (by omega), mv_at_lo (by omega), pt_at_hi (by omega)]
  | .nm x, _, _, _, _ => rfl
  | .thing, _, _, _, _ => rfl
  | .take k b, a, j, f, n => by
    simp only [moved, put]
    have := mv_put b (a := a) (j := j + 1) (f := f) (n := n)
    rw [show f + j + 1 = f + (j + 1) by omega, this, show f + 1 + (j + 1) = f + 1 + j + 1 by omega]
  | .give g c, a, j, f, n => by simp only [moved, put]; rw [mv_put g, mv_put c]
  | .pair g c, a, j, f, n => by simp only [moved, put]; rw [mv_put g, mv_put c]
  | .first p, a, j, f, n => by simp only [moved, put]; rw [mv_put p]
  | .second p, a, j, f, n => by simp only [moved, put]; rw [mv_put p]
theorem pt_mv : ∀ (a : Db) {g : Db} {e n t : Nat}, e ≤ t → t ≤ e + n → put (moved a e (n + 1)) t g = moved a e n
  | .at i, g, e, n, t, h1, h2 => by
    by_cases c : e ≤ i
    · rw [mv_at_hi c, mv_at_hi c, pt_at_hi (by omega)]; congr 1
    · rw [mv_at_lo (by omega), mv_at_lo (by omega), pt_at_lo (by omega)]
  | .nm x, _, _, _, _, _, _ => rfl
  | .thing, _, _, _, _, _, _ => rfl
  | .take k b, g, e, n, t, h1, h2 => by simp only [moved, put]; rw [pt_mv b (by omega) (by omega)]
  | .give f a, g, e, n, t, h1, h2 => by simp only [moved, put]; rw [pt_mv f h1 h2, pt_mv a h1 h2]
  | .pair f a, g, e, n, t, h1, h2 => by simp only [moved, put]; rw [pt_mv f h1 h2, pt_mv a h1 h2]
  | .first p, g, e, n, t, h1, h2 => by simp only [moved, put]; rw [pt_mv p h1 h2]
  | .second p, g, e, n, t, h1, h2 => by simp only [moved, put]; rw [pt_mv p h1 h2]
theorem pt_mv2 : ∀ (a : Db) {g : Db} {e j t : Nat}, e ≤ t → put (moved a e j) (t + j) g = moved (put a t g) e j
  | .at i, g, e, j, t, h => by
    by_cases c : i = t
    · subst c
      rw [mv_at_hi h, pt_at_eq, pt_at_eq, mv_mv g (Nat.zero_le _) (by omega)]
    · by_cases d : i < t
      · rw [pt_at_lo d]
        by_cases e' : e ≤ i
        · rw [mv_at_hi e', pt_at_lo (by omega)]
        · rw [mv_at_lo (by omega), pt_at_lo (by omega)]
      · rw [pt_at_hi (by omega), mv_at_hi (by omega), mv_at_hi (by omega), pt_at_hi (by omega)]; congr 1; omega
  | .nm x, _, _, _, _, _ => rfl
  | .thing, _, _, _, _, _ => rfl
  | .take k b, g, e, j, t, h => by
    simp only [moved, put]
    have := pt_mv2 b (g := g) (e := e + 1) (j := j) (t := t + 1) (by omega)
    rw [show t + j + 1 = t + 1 + j by omega, this]
  | .give f a, g, e, j, t, h => by simp only [moved, put]; rw [pt_mv2 f h, pt_mv2 a h]
  | .pair f a, g, e, j, t, h => by simp only [moved, put]; rw [pt_mv2 f h, pt_mv2 a h]
  | .first p, g, e, j, t, h => by simp only [moved, put]; rw [pt_mv2 p h]
  | .second p, g, e, j, t, h => by simp only [moved, put]; rw [pt_mv2 p h]
theorem pt_pt : ∀ (b : Db) {a g : Db} {j t : Nat}, put (put b j a) (t + j) g = put (put b (t + j + 1) g) j (put a t g)
  | .at i, a, g, j, t => by
    by_cases c : i = j
    · subst c
      rw [pt_at_eq, pt_at_lo (show i < t + i + 1 by omega), pt_at_eq, pt_mv2 a (Nat.zero_le _)]
    · by_cases d : i < j
      · rw [pt_at_lo d, pt_at_lo (by omega), pt_at_lo (by omega), pt_at_lo d]
      · rw [pt_at_hi (show j < i by omega)]
        by_cases e : i = t + j + 1
        · subst e
          rw [show t + j + 1 - 1 = t + j by omega, pt_at_eq, pt_at_eq, pt_mv g (Nat.zero_le _) (by omega)]
        · by_cases e2 : i < t + j + 1
          · rw [pt_at_lo (by omega), pt_at_lo (by omega), pt_at_hi (by omega)]
          · rw [pt_at_hi (by omega), pt_at_hi (by omega), pt_at_hi (by omega)]
  | .nm x, _, _, _, _ => rfl
  | .thing, _, _, _, _ => rfl
  | .take k b, a, g, j, t => by
    simp only [put]
    have := pt_pt b (a := a) (g := g) (j := j + 1) (t := t)
    rw [show t + j + 1 = t + (j + 1) by omega, this]
  | .give f c, a, g, j, t => by simp only [put]; rw [pt_pt f, pt_pt c]
  | .pair f c, a, g, j, t => by simp only [put]; rw [pt_pt f, pt_pt c]
  | .first p, a, g, j, t => by simp only [put]; rw [pt_pt p]
  | .second p, a, g, j, t => by simp only [put]; rw [pt_pt p]
/-- some of the steps that can be done, all at once -/
inductive Par : Db → Db → Prop
  | at (i : Nat) : Par (.at i) (.at i)
  | nm (x : Str) : Par (.nm x) (.nm x)
  | thing : Par .thing .thing
  | take (k : Kd) {b b' : Db} : Par b b' → Par (.take k b) (.take k b')
  | give {f f' a a' : Db} : Par f f' → Par a a' → Par (.give f a) (.give f' a')
  | pair {f f' a a' : Db} : Par f f' → Par a a' → Par (.pair f a) (.pair f' a')
  | first {p p' : Db} : Par p p' → Par (.first p) (.first p')
  | second {p p' : Db} : Par p p' → Par (.second p) (.second p')
  | beta (k : Kd) {b b' a a' : Db} : Par b b' → Par a a' → Par (.give (.take k b) a) (put b' 0 a')
  | fst {a a' : Db} (c : Db) : Par a a' → Par (.first (.pair a c)) a'
  | snd {a a' : Db} (c : Db) : Par a a' → Par (.second (.pair c a)) a'
theorem Par.refl : ∀ b : Db, Par b b
  | .at i => .at i
  | .nm x => .nm x
  | .thing => .thing
  | .take k b => .take k (Par.refl b)
  | .give f a => .give (Par.refl f) (Par.refl a)
  | .pair f a => .pair (Par.refl f) (Par.refl a)
  | .first p => .first (Par.refl p)
  | .second p => .second (Par.refl p)
theorem Par.mv {b b' : Db} (h : Par b b') : ∀ (f n : Nat), Par (moved b f n) (moved b' f n) := by
  induction h with
  | «at» i => intro f n; exact Par.refl _
  | nm x => intro f n; exact Par.refl _
  | thing => intro f n; exact Par.refl _
  | take k _ ih => intro f n; exact .take k (ih (f + 1) n)
  | give _ _ ih1 ih2 => intro f n; exact .give (ih1 f n) (ih2 f n)
  | pair _ _ ih1 ih2 => intro f n; exact .pair (ih1 f n) (ih2 f n)
  | first _ ih => intro f n; exact .first (ih f n)
  | second _ ih => intro f n; exact .second (ih f n)
  | @beta k b b' a a' _ _ ih1 ih2 =>
    intro f n
    have e := mv_put b' (a := a') (j := 0) (f := f) (n := n)
    rw [Nat.add_zero, Nat.add_zero] at e
    rw [e]
    exact .beta k (ih1 (f + 1) n) (ih2 f n)
  | fst c _ ih => intro f n; exact .fst _ (ih f n)
  | snd c _ ih => intro f n; exact .snd _ (ih f n)
theorem Par.pt {b b' : Db} (h : Par b b') : ∀ {a a' : Db} (t : Nat), Par a a' → Par (put b t a) (put b' t a') := by
  induction h with
  | «at» i =>
    intro a a' t ha
    by_cases c : i = t
    · subst c; rw [pt_at_eq, pt_at_eq]; exact ha.mv 0 i
    · by_cases d : i < t
      · rw [pt_at_lo d, pt_at_lo d]; exact .at i
      · rw [pt_at_hi (by omega), pt_at_hi (by omega)]; exact .at _
  | nm x => intro a a' t ha; exact .nm x
  | thing => intro a a' t ha; exact .thing
  | take k _ ih => intro a a' t ha; exact .take k (ih (t + 1) ha)
  | give _ _ ih1 ih2 => intro a a' t ha; exact .give (ih1 t ha) (ih2 t ha)
  | pair _ _ ih1 ih2 => intro a a' t ha; exact .pair (ih1 t ha) (ih2 t ha)
  | first _ ih => intro a a' t ha; exact .first (ih t ha)
  | second _ ih => intro a a' t ha; exact .second (ih t ha)
  | @beta k b b' c c' _ _ ih1 ih2 =>
    intro a a' t ha
    have e := pt_pt b' (a := c') (g := a') (j := 0) (t := t)
    rw [Nat.add_zero] at e
    rw [e]
    exact .beta k (ih1 (t + 1) ha) (ih2 t ha)
  | fst c _ ih => intro a a' t ha; exact .fst _ (ih t ha)
  | snd c _ ih => intro a a' t ha; exact .snd _ (ih t ha)
/-- one after another -/
inductive Pars : Db → Db → Prop
  | nil (b : Db) : Pars b b
  | cons {a b c : Db} : Par a b → Pars b c → Pars a c
theorem Pars.trans {a b c : Db} (h : Pars a b) (h' : Pars b c) : Pars a c := by
  induction h with
  | nil _ => exact h'
  | cons h1 _ ih => exact .cons h1 (ih h')
end Kf
/-! Ksz: how great a program becomes by one step; places of a tidied program. -/
namespace Kf
open PySem PySem.Spec L2
open PyProof.Rows hiding St
end Kf
/-! Kty: kinds of programs whose names are numbers; steps keep them. -/
namespace Kf
open PySem PySem.Spec L2
open PyProof.Rows hiding St
section
variable {e : Str → Option Kd}
/-! ### kinds are small -/
def EOk (e : Str → Option Kd) : Prop := ∀ x k, e x = some k → k.ok = true ∧ k.depth ≤ 12
theorem EOk.ext {e : Str → Option Kd} (h : EOk e) {x : Str} {a : Kd} (h1 : a.ok = true) (h2 : a.depth ≤ 12) : EOk (fun y => if x = y then some a else e y) := fun y k q => by
  dsimp only at q
  split at q
  · cases q; exact ⟨h1, h2⟩
  · exact h y k q
/-! ### the kind here -/
/-! ### going along a run -/
end
end Kf
/-! Kgen: what the laws about any programs draw. -/
namespace Kf
open PySem PySem.Spec L2
open PyProof.Rows hiding St
def UN : List Str := ["p", "q", "f", "g", "u", "v", "x0", "x7"]
def TN : List Str := ["u", "v", "x0", "x7", "f"]
theorem tn_un : ∀ t ∈ TN, t ∈ UN ∧ t ≠ "p" ∧ t ≠ "q" := by decide +kernel
structure RowU (kn : List (Str × Kd)) : Prop where
  nm : ∀ q ∈ kn, q.1 ∈ UN ∧ q.2.over AB ∧ q.2.leaves ≤ 4
  ep : envOf kn "p" = some (.mk "a")
  eq : envOf kn "q" = some (.mk "b")
theorem RowU.snoc {kn : List (Str × Kd)} (h : RowU kn) {x : Str} {k : Kd} (hx : x ∈ TN) (ho : k.over AB) (hl : k.leaves ≤ 4) : RowU (kn ++ [(x, k)]) := by
  obtain ⟨h1, h2, h3⟩ := tn_un x hx
  refine ⟨fun q hq => ?_, ?_, ?_⟩
  · rcases List.mem_append.mp hq with hq | hq
    · exact h.nm q hq
    · rw [List.mem_singleton.mp hq]; exact ⟨h1, ho, hl⟩
  · rw [envOf_snoc, if_neg h2]; exact h.ep
  · rw [envOf_snoc, if_neg h3]; exact h.eq
/-- what the names' table holds behind a row's first ones -/
structure DInvU (pre : List (Str × Kd)) (kvs : List (Key × D)) (ts : List Str) : Prop where
  ks : kvs.map (·.1) = ts.map Sum.inr
  nd : ts.Nodup
  an : ∀ t ∈ ts, t ∈ UN
  vl : ∀ x : Str, valD kvs (.inr x) = (envOf pre x).map dK
theorem DInvU.nil : DInvU [] [] [] := ⟨rfl, List.nodup_nil, fun _ h => (nomatch h), fun _ => rfl⟩
theorem DInvU.len {pre : List (Str × Kd)} {kvs : List (Key × D)} {ts : List Str} (h : DInvU pre kvs ts) : ts.length ≤ 8 ∧ kvs.length ≤ 8 := by
  have h1 : ts.length ≤ 8 := nodup_le (us := UN) h.nd h.an
  have h2 : kvs.length = ts.length := by have := congrArg List.length h.ks; simpa using this
  omega
theorem DInvU.put {pre : List (Str × Kd)} {kvs : List (Key × D)} {ts : List Str} (h : DInvU pre kvs ts) {x : Str} {k : Kd} (hx : x ∈ UN) : ∃ ts', DInvU (pre ++ [(x, k)]) (putD kvs (.inr x) (dK k)) ts' := by
  have hv : ∀ y : Str, valD (putD kvs (.inr x) (dK k)) (.inr y) = (envOf (pre ++ [(x, k)]) y).map dK := fun y => by
    rw [valD_put, envOf_snoc]
    by_cases e : x = y
    · subst e; simp
    · rw [if_neg (fun q => e (Sum.inr.inj q).symm), if_neg e, h.vl]
  have hk := keys_put kvs (.inr x) (dK k)
  by_cases c : (valD kvs (.inr x)).isSome = true
  · rw [if_pos c] at hk
    exact ⟨ts, hk.trans h.ks, h.nd, h.an, hv⟩
  · rw [if_neg c] at hk
    refine ⟨ts ++ [x], by rw [hk, h.ks, List.map_append]; rfl, ?_, ?_, hv⟩
    · refine List.nodup_append.mpr ⟨h.nd, by simp, fun a ha b hb e => c ?_⟩
      rw [List.mem_singleton.mp hb] at e
      subst e
      exact valD_mem.mp (by rw [h.ks]; exact List.mem_map.mpr ⟨a, ha, rfl⟩)
    · intro t ht
      rcases List.mem_append.mp ht with ht | ht
      · exact h.an t ht
      · rw [List.mem_singleton.mp ht]; exact hx
theorem DInvU.has {pre : List (Str × Kd)} {kvs : List (Key × D)} {ts : List Str} (h : DInvU pre kvs ts) {x : Str} (hx : x ∈ ts) : ∃ k, envOf pre x = some k := by
  have h1 := valD_mem.mp (show Sum.inr x ∈ kvs.map (·.1) by rw [h.ks]; exact List.mem_map.mpr ⟨x, hx, rfl⟩)
  rw [h.vl] at h1
  cases e : envOf pre x with
  | none => rw [e] at h1; simp at h1
  | some k => exact ⟨k, rfl⟩
/-! ### uses of a name -/
inductive Mv where
  | k (k : Kd) | one | two
def dMv : Mv → D
  | .k k => dK k
  | .one => .int 1
  | .two => .int 2
/-! ### names and kinds as drawn -/
/-! ### a program's word, a kind's word -/
section
variable {O : Ow} {Q : VD} {neg : Bool}
theorem isi_dK {k : Kd} : rIsiD [dK k, .ty "tuple"] O Q = Q (.bl true) O := by cases k <;> exact isi_t_tuple
end
end Kf
/-! Klg: plain long programs, ways, spellings. -/
namespace Kf
open PySem PySem.Spec L2
open PyProof.Rows hiding St
/-- the ways of a kind -/
def wys : Kd → List (List Mv × Str)
  | .one => []
  | .mk m => [([], m)]
  | .to a b => (wys b).map fun w => (Mv.k a :: w.1, w.2)
  | .both a b => (wys a).map (fun w => (Mv.one :: w.1, w.2)) ++ (wys b).map (fun w => (Mv.two :: w.1, w.2))
section
variable (kn : List (Str × Kd)) (t : Nat)
end
/-! ### how a name is gone along -/
inductive Sp1 where
  | one | two | gv (a : Pg)
def Pg.hd : Pg → Str
  | .nm x => x
  | .first q => q.hd
  | .second q => q.hd
  | .give f _ => f.hd
  | _ => Str.ofString ""
def Pg.st : Pg → List Sp1
  | .first q => q.st ++ [.one]
  | .second q => q.st ++ [.two]
  | .give f a => f.st ++ [.gv a]
  | _ => []
/-! ### spellings -/
end Kf
/-! Kct: how many plain long programs; they depend on the forms of what is there alone. -/
namespace Kf
open PySem PySem.Spec L2
open PyProof.Rows hiding St
/-! ### sums -/
def sm : Nat → (Nat → Nat) → Nat
  | 0, _ => 0
  | n + 1, f => sm n f + f n
/-! ### ways to share a size -/
/-! ### how many programs -/
/-! ### by the forms alone -/
end Kf
/-! Kcu: bounds for counts and for the work, the text by which a count is kept. -/
namespace Kf
open PySem PySem.Spec L2
open PyProof.Rows hiding St
/-! ### the key -/
def LK (L : List Kd) : Prop := ∀ k ∈ L, k.mks ∧ k.depth ≤ 12
theorem kshow_inj {k k' : Kd} (h : k.mks ∧ k.depth ≤ 12) (h' : k'.mks ∧ k'.depth ≤ 12) (e : kshow k = kshow k') : k = k' := by
  have h1 := split_kshow h.1
  rw [e, split_kshow h'.1] at h1
  have r1 := kp_read k 12 [] h.1 h.2
  have r2 := kp_read k' 12 [] h'.1 h'.2
  rw [h1, r1] at r2
  simp only [Option.some.injEq, Prod.mk.injEq, and_true] at r2
  exact r2
/-! ### bounds -/
def lvs (L : List Kd) : Nat := (L.map Kd.leaves).sum
theorem lvs_app (a b : List Kd) : lvs (a ++ b) = lvs a + lvs b := by simp [lvs]
theorem lvs_len : ∀ L : List Kd, L.length ≤ lvs L
  | [] => Nat.le_refl _
  | k :: r => by
    have := lvs_len r
    have := lvs_pos k
    simp only [lvs, List.length_cons, List.map_cons, List.sum_cons] at *; omega
theorem flat_ends_len : ∀ L : List Kd, (L.flatMap ends).length ≤ lvs L
  | [] => Nat.le_refl _
  | k :: r => by
    have := flat_ends_len r
    have := ends_len k
    simp only [lvs, List.flatMap_cons, List.length_append, List.map_cons, List.sum_cons] at *; omega
/-- what there is: the most leaves of one, of all together -/
structure LB (v e : Nat) (L : List Kd) : Prop where
  lk : LK L
  v : ∀ k ∈ L, k.leaves ≤ v
  e : lvs L ≤ e
/-- one of the tasks of a way -/
structure TB (v : Nat) (t : List Kd × Str) : Prop where
  lb : LB v v t.1
  m : isMarkB t.2 = true
/-! numbers that bound -/
def mb (g : Nat → Nat) : Nat → Nat → Nat
  | 0, _ => 1
  | f + 1, s => if s = 0 then 1 else sm s fun a => g (a + 1) * mb g f (s - 1 - a)
def cb : Nat → Nat → Nat → Nat → Nat
  | 0, _, _, _ => 0
  | f + 1, v, e, n => e * mb (cb f v (e + v)) f (n - 1)
/-- how often something is asked -/
def mc (g : Nat → Nat) : Nat → Nat → Nat
  | 0, _ => 0
  | f + 1, s => sm s fun a => g (a + 1) + mc g f (s - 1 - a)
def cc : Nat → Nat → Nat → Nat → Nat
  | 0, _, _, _ => 0
  | f + 1, v, e, n => 1 + e + e * mc (cc f v (e + v)) f (n - 1)
theorem n1 : cb 5 6 6 5 < 2 ^ 60 ∧ mc (cc 5 6 6) 5 5 < 2 ^ 21 := by decide +kernel
end Kf
/-! Khv: what can be had from kinds that are there; trees that bar. -/
namespace Kf
open PySem PySem.Spec L2
open PyProof.Rows hiding St
/-! ### had -/
inductive Had : List Kd → Str → Prop
  | mk {S : List Kd} {k : Kd} {e : List Kd × Str} (hk : k ∈ S) (he : e ∈ ends k) (h : ∀ a ∈ e.1, ∀ t ∈ ends a, Had (S ++ t.1) t.2) : Had S e.2
def HadK (S : List Kd) (k : Kd) : Prop := ∀ t ∈ ends k, Had (S ++ t.1) t.2
theorem Had.weak {S S' : List Kd} {m : Str} (h : Had S m) : (∀ x ∈ S, x ∈ S') → Had S' m := by
  induction h generalizing S' with
  | mk hk he _ ih =>
    intro s
    refine .mk (s _ hk) he fun a ha t ht => ih a ha t ht fun x hx => ?_
    rcases List.mem_append.mp hx with hx | hx
    · exact List.mem_append_left _ (s x hx)
    · exact List.mem_append_right _ hx
theorem HadK.weak {S S' : List Kd} {k : Kd} (h : HadK S k) (s : ∀ x ∈ S, x ∈ S') : HadK S' k := fun t ht => (h t ht).weak fun x hx => (List.mem_append.mp hx).elim (fun hx => List.mem_append_left _ (s x hx)) (List.mem_append_right _)
def SameK (S S' : List Kd) : Prop := ∀ x, x ∈ S ↔ x ∈ S'
/-! ### what holds, by the ends -/
theorem forces_ends : ∀ (k : Kd) (t : Tr), MonoT t → (forces k t = true ↔ ∀ e ∈ ends k, ∀ s ∈ subs t, (∀ x ∈ e.1, forces x s = true) → e.2 ∈ s.ms)
  | .mk m, t, mt => by
    simp only [forces, decide_eq_true_iff, ends, List.mem_singleton, forall_eq]
    constructor
    · intro h s hs _
      exact (mono_sub t s mt hs).2 m h
    · intro h
      exact h t (subs_self t) (fun x hx => by cases hx)
  | .one, t, _ => by simp [forces, ends]
  | .both a b, t, mt => by
    simp only [forces, Bool.and_eq_true, forces_ends a t mt, forces_ends b t mt, ends, List.mem_append]
    constructor
    · rintro ⟨h1, h2⟩ e (he | he)
      · exact h1 e he
      · exact h2 e he
    · exact fun h => ⟨fun e he => h e (.inl he), fun e he => h e (.inr he)⟩
  | .to a b, t, mt => by
    rw [forces_to]
    simp only [ends, List.mem_map]
    constructor
    · rintro h e ⟨e', he', rfl⟩ s hs hx
      have h1 := h s hs (hx a List.mem_cons_self)
      exact (forces_ends b s (mono_sub t s mt hs).1).mp h1 e' he' s (subs_self s) fun x hx' => hx x (List.mem_cons_of_mem _ hx')
    · intro h s hs ha
      refine (forces_ends b s (mono_sub t s mt hs).1).mpr fun e he u hu hx => ?_
      refine h (a :: e.1, e.2) ⟨e, he, rfl⟩ u (subs_trans t s u hs hu) fun x hx' => ?_
      rcases List.mem_cons.mp hx' with rfl | hx'
      · exact forces_mono _ s u (mono_sub t s mt hs).1 ha hu
      · exact hx x hx'
/-- what can be had holds wherever what is there holds -/
theorem Had.sound {S : List Kd} {m : Str} (h : Had S m) : ∀ t, MonoT t → (∀ x ∈ S, forces x t = true) → m ∈ t.ms := by
  induction h with
  | mk hk he _ ih =>
    intro t mt hS
    refine (forces_ends _ t mt).mp (hS _ hk) _ he t (subs_self t) fun a ha => ?_
    refine (forces_ends a t mt).mpr fun t' ht' s hs hx => ?_
    refine ih a ha t' ht' s (mono_sub t s mt hs).1 fun x hx' => ?_
    rcases List.mem_append.mp hx' with hx' | hx'
    · exact forces_mono x t s mt (hS x hx') hs
    · exact hx x hx'
theorem HadK.sound {S : List Kd} {k : Kd} (h : HadK S k) {t : Tr} (mt : MonoT t) (hS : ∀ x ∈ S, forces x t = true) : forces k t = true :=
  (forces_ends k t mt).mpr fun e he s hs hx => (h e he).sound s (mono_sub t s mt hs).1 fun x hx' => (List.mem_append.mp hx').elim (fun q => forces_mono x t s mt (hS x q) hs) (hx x)
/-! ### trees told with what is there -/
inductive ST where
  | nd (S : List Kd) (ms : List Str) (ts : List ST)
def ST.S : ST → List Kd
  | .nd S _ _ => S
def ST.ms : ST → List Str
  | .nd _ ms _ => ms
def ST.ts : ST → List ST
  | .nd _ _ ts => ts
mutual
def stT : ST → Tr
  | .nd _ ms ts => .nd ms (stTs ts)
def stTs : List ST → List Tr
  | [] => []
  | t :: ts => stT t :: stTs ts
end
theorem stTs_map : ∀ ts : List ST, stTs ts = ts.map stT
  | [] => rfl
  | t :: ts => by rw [stTs, stTs_map ts, List.map_cons]
mutual
def sbs : ST → List ST
  | .nd S ms ts => .nd S ms ts :: sbss ts
def sbss : List ST → List ST
  | [] => []
  | t :: ts => sbs t ++ sbss ts
end
theorem sbs_self (t : ST) : t ∈ sbs t := by cases t; rw [sbs]; exact List.mem_cons_self
theorem mem_sbss {s : ST} : ∀ {ts : List ST}, s ∈ sbss ts ↔ ∃ t ∈ ts, s ∈ sbs t
  | [] => by simp [sbss]
  | t :: ts => by rw [sbss, List.mem_append, mem_sbss]; simp
mutual
theorem subs_stT : ∀ t : ST, subs (stT t) = (sbs t).map stT
  | .nd S ms ts => by rw [stT, subs, sbs, List.map_cons, subss_stTs ts, stT]
theorem subss_stTs : ∀ ts : List ST, subss (stTs ts) = (sbss ts).map stT
  | [] => rfl
  | t :: ts => by rw [stTs, subss, sbss, List.map_append, subs_stT t, subss_stTs ts]
end
theorem stT_ms (t : ST) : (stT t).ms = t.ms := by cases t; rfl
mutual
theorem sbs_trans : ∀ (t s u : ST), s ∈ sbs t → u ∈ sbs s → u ∈ sbs t
  | .nd S ms ts, s, u, h, k => by
    rw [sbs] at h
    rcases List.mem_cons.mp h with rfl | h
    · exact k
    · rw [sbs]; exact List.mem_cons_of_mem _ (sbss_trans ts s u h k)
theorem sbss_trans : ∀ (ts : List ST) (s u : ST), s ∈ sbss ts → u ∈ sbs s → u ∈ sbss ts
  | [], s, u, h, k => by rw [sbss] at h; cases h
  | t :: ts, s, u, h, k => by
    rw [sbss] at h ⊢
    rcases List.mem_append.mp h with h | h
    · exact List.mem_append_left _ (sbs_trans t s u h k)
    · exact List.mem_append_right _ (sbss_trans ts s u h k)
end
/-- one world is as it should be -/
structure Loc (u : ST) : Prop where
  ms : ∀ m, m ∈ u.ms ↔ Had u.S m
  up : ∀ c ∈ u.ts, ∀ x ∈ u.S, x ∈ c.S
  no : ∀ k ∈ u.S, ∀ e ∈ ends k, ¬ Had u.S e.2 → ∃ a ∈ e.1, ∃ t ∈ ends a, ¬ Had (u.S ++ t.1) t.2 ∧ ((∀ x ∈ t.1, x ∈ u.S) ∨ ∃ c ∈ u.ts, SameK c.S (u.S ++ t.1))
def GoodS (t : ST) : Prop := ∀ u ∈ sbs t, Loc u
theorem GoodS.sub {t u : ST} (h : GoodS t) (hu : u ∈ sbs t) : GoodS u := fun v hv => h v (sbs_trans t u v hu hv)
theorem ts_sbs {t c : ST} (h : c ∈ t.ts) : c ∈ sbs t := by
  cases t with
  | nd S ms ts => rw [sbs]; exact List.mem_cons_of_mem _ (mem_sbss.mpr ⟨c, h, sbs_self c⟩)
mutual
theorem good_up : ∀ (t : ST), GoodS t → ∀ u ∈ sbs t, ∀ x ∈ t.S, x ∈ u.S
  | .nd S ms ts, h, u, hu, x, hx => by
    rw [sbs] at hu
    rcases List.mem_cons.mp hu with rfl | hu
    · exact hx
    · exact goods_up ts S (fun c hc => (h _ (sbs_self _)).up c hc) (fun c hc => h.sub (ts_sbs hc)) u hu x hx
theorem goods_up : ∀ (ts : List ST) (S : List Kd), (∀ c ∈ ts, ∀ x ∈ S, x ∈ c.S) → (∀ c ∈ ts, GoodS c) → ∀ u ∈ sbss ts, ∀ x ∈ S, x ∈ u.S
  | [], S, _, _, u, hu, x, hx => by rw [sbss] at hu; cases hu
  | t :: ts, S, h1, h2, u, hu, x, hx => by
    rw [sbss] at hu
    rcases List.mem_append.mp hu with hu | hu
    · exact good_up t (h2 t List.mem_cons_self) u hu x (h1 t List.mem_cons_self x hx)
    · exact goods_up ts S (fun c hc => h1 c (List.mem_cons_of_mem _ hc)) (fun c hc => h2 c (List.mem_cons_of_mem _ hc)) u hu x hx
end
mutual
theorem good_mono : ∀ (t : ST), GoodS t → MonoT (stT t)
  | .nd S ms ts, h => by
    rw [stT, MonoT]
    have h0 := h _ (sbs_self _)
    refine goods_mono ts ms (fun c hc m hm => ?_) (fun c hc => h.sub (ts_sbs hc))
    exact ((h.sub (ts_sbs (t := .nd S ms ts) hc)) c (sbs_self c)).ms m |>.mpr (((h0.ms m).mp hm).weak (h0.up c hc))
theorem goods_mono : ∀ (ts : List ST) (ms : List Str), (∀ c ∈ ts, ∀ m ∈ ms, m ∈ c.ms) → (∀ c ∈ ts, GoodS c) → MonoTs ms (stTs ts)
  | [], ms, _, _ => by rw [stTs, MonoTs]; trivial
  | t :: ts, ms, h1, h2 => by
    rw [stTs, MonoTs]
    exact ⟨by rw [stT_ms]; exact h1 t List.mem_cons_self, good_mono t (h2 t List.mem_cons_self), goods_mono ts ms (fun c hc => h1 c (List.mem_cons_of_mem _ hc)) (fun c hc => h2 c (List.mem_cons_of_mem _ hc))⟩
end
/-! ### in such a tree all that is there holds -/
def ksz : Kd → Nat
  | .mk _ => 1
  | .one => 1
  | .to a b => ksz a + ksz b + 1
  | .both a b => ksz a + ksz b + 1
theorem ends_ksz : ∀ (k : Kd) (e : List Kd × Str), e ∈ ends k → ∀ x ∈ e.1, ksz x < ksz k
  | .mk m, e, h, x, hx => by rw [ends, List.mem_singleton] at h; subst h; cases hx
  | .one, e, h, x, hx => by rw [ends] at h; cases h
  | .both a b, e, h, x, hx => by
    rw [ends, List.mem_append] at h
    rw [ksz]
    rcases h with h | h
    · have := ends_ksz a e h x hx; omega
    · have := ends_ksz b e h x hx; omega
  | .to a b, e, h, x, hx => by
    rw [ends, List.mem_map] at h
    obtain ⟨e', he', rfl⟩ := h
    rw [ksz]
    rcases List.mem_cons.mp hx with rfl | hx
    · omega
    · have := ends_ksz b e' he' x hx; omega
theorem good_holds {st : ST} (h : GoodS st) : ∀ (n : Nat) (x : Kd), ksz x ≤ n → ∀ u ∈ sbs st, x ∈ u.S → forces x (stT u) = true := by
  intro n
  induction n with
  | zero => intro x hx; cases x <;> simp [ksz] at hx
  | succ n ih =>
    intro x hx u hu hxu
    refine (forces_ends x _ (good_mono u (h.sub hu))).mpr fun e he s hs hy => ?_
    rw [subs_stT] at hs
    obtain ⟨v, hv, rfl⟩ := List.mem_map.mp hs
    have hv' : v ∈ sbs st := sbs_trans st u v hu hv
    have hxv := good_up u (h.sub hu) v hv x hxu
    have hl := h v hv'
    rw [stT_ms]
    refine (hl.ms _).mpr (Classical.byContradiction fun hn => ?_)
    obtain ⟨a, ha, t, ht, hnot, hc⟩ := hl.no x hxv e he hn
    have hsa := ends_ksz x e he a ha
    have hfa := (forces_ends a _ (good_mono v (h.sub hv'))).mp (hy a ha) t ht
    rcases hc with hc | ⟨c, hc, hS⟩
    · have h1 := hfa (stT v) (subs_self _) fun y hy' => by
        have := ends_ksz a t ht y hy'
        exact ih y (by omega) v hv' (hc y hy')
      rw [stT_ms] at h1
      exact hnot (((hl.ms _).mp h1).weak fun x hx => List.mem_append_left _ hx)
    · have hcv := ts_sbs hc
      have hcs : c ∈ sbs st := sbs_trans st v c hv' hcv
      have h1 := hfa (stT c) (by rw [subs_stT]; exact List.mem_map_of_mem hcv) fun y hy' => by
        have := ends_ksz a t ht y hy'
        exact ih y (by omega) c hcs ((hS y).mpr (List.mem_append_right _ hy'))
      rw [stT_ms] at h1
      exact hnot ((((h c hcs).ms _).mp h1).weak fun x hx => (hS x).mp hx)
/-- a tree of what is there with an end's taken bars the kind -/
theorem good_bars {st : ST} (h : GoodS st) {S : List Kd} {k : Kd} {t : List Kd × Str} (ht : t ∈ ends k) (hS : SameK st.S (S ++ t.1)) (hn : ¬ Had (S ++ t.1) t.2) : (∀ x ∈ S, forces x (stT st) = true) ∧ forces k (stT st) = false := by
  have h0 : ∀ x ∈ S ++ t.1, forces x (stT st) = true := fun x hx => good_holds h _ x (Nat.le_refl _) st (sbs_self st) ((hS x).mpr hx)
  refine ⟨fun x hx => h0 x (List.mem_append_left _ hx), ?_⟩
  cases e : forces k (stT st) with
  | false => rfl
  | true =>
    have h1 := (forces_ends k _ (good_mono st h)).mp e t ht _ (subs_self _) fun x hx => h0 x (List.mem_append_right _ hx)
    rw [stT_ms] at h1
    exact absurd ((((h st (sbs_self st)).ms _).mp h1).weak fun x hx => (hS x).mp hx) hn
/-! ### what may be put in -/
def hd : Kd → Bool
  | .mk _ => true
  | .one => false
  | .to _ _ => false
  | .both a b => hd a || hd b
mutual
def tyR : Kd → List (List Kd)
  | .mk _ => []
  | .one => []
  | .both a b => tyR a ++ tyR b
  | .to a b => tyI [] a ++ tyR b
def tyI : List Kd → Kd → List (List Kd)
  | _, .mk _ => []
  | _, .one => []
  | p, .both a b => tyI p a ++ tyI p b
  | p, .to c d => tyR c ++ ((if hd d = true then [p ++ [c]] else []) ++ tyI (p ++ [c]) d)
end
mutual
theorem tyR_len : ∀ k : Kd, 2 * (tyR k).length + 1 ≤ k.leaves
  | .mk _ => by simp [tyR, Kd.leaves]
  | .one => by simp [tyR, Kd.leaves]
  | .both a b => by
    have := tyR_len a; have := tyR_len b
    simp only [tyR, Kd.leaves, List.length_append]; omega
  | .to a b => by
    have := tyI_len [] a; have := tyR_len b
    simp only [tyR, Kd.leaves, List.length_append]; omega
theorem tyI_len : ∀ (p : List Kd) (k : Kd), 2 * (tyI p k).length + (if hd k = true then 1 else 0) ≤ k.leaves
  | p, .mk _ => by simp [tyI, hd, Kd.leaves]
  | p, .one => by simp [tyI, hd, Kd.leaves]
  | p, .both a b => by
    have := tyI_len p a; have := tyI_len p b
    simp only [tyI, hd, Kd.leaves, List.length_append, Bool.or_eq_true]
    split
    · rename_i h
      rcases h with h | h
      · rw [if_pos h] at *; omega
      · rw [if_pos h] at *; omega
    · omega
  | p, .to c d => by
    have := tyR_len c; have := tyI_len (p ++ [c]) d
    simp only [tyI, hd, Kd.leaves, List.length_append]
    cases h : hd d <;> simp [h] at * <;> omega
end
theorem end_ty : ∀ (p : List Kd) (k : Kd) (t : List Kd × Str), t ∈ ends k → (t.1 = [] ∧ hd k = true) ∨ p ++ t.1 ∈ tyI p k
  | p, .mk m, t, h => by rw [ends, List.mem_singleton] at h; subst h; exact .inl ⟨rfl, rfl⟩
  | p, .one, t, h => by rw [ends] at h; cases h
  | p, .both a b, t, h => by
    rw [ends, List.mem_append] at h
    rw [tyI, hd]
    rcases h with h | h
    · rcases end_ty p a t h with ⟨h1, h2⟩ | h1
      · exact .inl ⟨h1, by rw [h2]; rfl⟩
      · exact .inr (List.mem_append_left _ h1)
    · rcases end_ty p b t h with ⟨h1, h2⟩ | h1
      · exact .inl ⟨h1, by rw [h2, Bool.or_true]⟩
      · exact .inr (List.mem_append_right _ h1)
  | p, .to c d, t, h => by
    rw [ends, List.mem_map] at h
    obtain ⟨e, he, rfl⟩ := h
    rw [tyI]
    refine .inr (List.mem_append_right _ ?_)
    have e1 : p ++ (c :: e.1) = (p ++ [c]) ++ e.1 := by simp
    show p ++ (c :: e.1) ∈ _
    rw [e1]
    rcases end_ty (p ++ [c]) d e he with ⟨h1, h2⟩ | h1
    · rw [h1, List.append_nil, if_pos h2]; exact List.mem_append_left _ (List.mem_singleton.mpr rfl)
    · exact List.mem_append_right _ h1
/-- what is taken in an end brings nothing new -/
theorem end_sub : ∀ (p : List Kd) (k : Kd) (t : List Kd × Str), t ∈ ends k → ∀ x ∈ t.1, ∀ r ∈ tyR x, r ∈ tyI p k
  | p, .mk m, t, h, x, hx, r, hr => by rw [ends, List.mem_singleton] at h; subst h; cases hx
  | p, .one, t, h, x, hx, r, hr => by rw [ends] at h; cases h
  | p, .both a b, t, h, x, hx, r, hr => by
    rw [ends, List.mem_append] at h
    rw [tyI]
    rcases h with h | h
    · exact List.mem_append_left _ (end_sub p a t h x hx r hr)
    · exact List.mem_append_right _ (end_sub p b t h x hx r hr)
  | p, .to c d, t, h, x, hx, r, hr => by
    rw [ends, List.mem_map] at h
    obtain ⟨e, he, rfl⟩ := h
    rw [tyI]
    rcases List.mem_cons.mp hx with rfl | hx
    · exact List.mem_append_left _ hr
    · exact List.mem_append_right _ (List.mem_append_right _ (end_sub (p ++ [c]) d e he x hx r hr))
/-- the ways' kinds -/
theorem way_ty : ∀ (k : Kd) (e : List Kd × Str), e ∈ ends k → ∀ a ∈ e.1, ∀ r ∈ tyI [] a, r ∈ tyR k
  | .mk m, e, h, a, ha, r, hr => by rw [ends, List.mem_singleton] at h; subst h; cases ha
  | .one, e, h, a, ha, r, hr => by rw [ends] at h; cases h
  | .both c d, e, h, a, ha, r, hr => by
    rw [ends, List.mem_append] at h
    rw [tyR]
    rcases h with h | h
    · exact List.mem_append_left _ (way_ty c e h a ha r hr)
    · exact List.mem_append_right _ (way_ty d e h a ha r hr)
  | .to c d, e, h, a, ha, r, hr => by
    rw [ends, List.mem_map] at h
    obtain ⟨e', he, rfl⟩ := h
    rw [tyR]
    rcases List.mem_cons.mp ha with rfl | ha
    · exact List.mem_append_left _ hr
    · exact List.mem_append_right _ (way_ty d e' he a ha r hr)
/-- what is there, with what may be put in -/
def ClT (Ts : List (List Kd)) (S : List Kd) : Prop := ∀ k ∈ S, ∀ r ∈ tyR k, r ∈ Ts
theorem ClT.app {Ts : List (List Kd)} {S : List Kd} (h : ClT Ts S) {k : Kd} (hk : k ∈ S) {e : List Kd × Str} (he : e ∈ ends k) {a : Kd} (ha : a ∈ e.1) {t : List Kd × Str} (ht : t ∈ ends a) : ClT Ts (S ++ t.1) := fun x hx r hr => by
  rcases List.mem_append.mp hx with hx | hx
  · exact h x hx r hr
  · exact h k hk r (way_ty k e he a ha r (end_sub [] a t ht x hx r hr))
theorem ClT.ty {Ts : List (List Kd)} {S : List Kd} (h : ClT Ts S) {k : Kd} (hk : k ∈ S) {e : List Kd × Str} (he : e ∈ ends k) {a : Kd} (ha : a ∈ e.1) {t : List Kd × Str} (ht : t ∈ ends a) : t.1 = [] ∨ t.1 ∈ Ts := by
  rcases end_ty [] a t ht with h1 | h1
  · exact .inl h1.1
  · exact .inr (h k hk _ (way_ty k e he a ha _ h1))
end Kf
/-! Khx: the kinds among moves; ways and ends. -/
namespace Kf
open PySem PySem.Spec L2
open PyProof.Rows hiding St
def mvT : List Mv → List Kd
  | [] => []
  | .k a :: r => a :: mvT r
  | .one :: r => mvT r
  | .two :: r => mvT r
theorem mvT_app : ∀ a b : List Mv, mvT (a ++ b) = mvT a ++ mvT b
  | [], _ => rfl
  | .k _ :: r, b => by simp only [List.cons_append, mvT, mvT_app r b]
  | .one :: r, b => by simp only [List.cons_append, mvT, mvT_app r b]
  | .two :: r, b => by simp only [List.cons_append, mvT, mvT_app r b]
def wyE (w : List Mv × Str) : List Kd × Str := (mvT w.1, w.2)
theorem wys_ends : ∀ k : Kd, (wys k).map wyE = ends k
  | .one => rfl
  | .mk _ => rfl
  | .to a b => by rw [wys, ends, ← wys_ends b, List.map_map, List.map_map]; rfl
  | .both a b => by rw [wys, ends, ← wys_ends a, ← wys_ends b, List.map_append, List.map_map, List.map_map]; rfl
end Kf
/-! Khw: what is there told by texts; how many such tellings there are. -/
namespace Kf
open PySem PySem.Spec L2
open PyProof.Rows hiding St
/-! ### counting without doubles -/
def bools : Nat → List (List Bool)
  | 0 => [[]]
  | n + 1 => (bools n).map (true :: ·) ++ (bools n).map (false :: ·)
theorem bools_len : ∀ n, (bools n).length = 2 ^ n
  | 0 => rfl
  | n + 1 => by rw [bools, List.length_append, List.length_map, List.length_map, bools_len n, Nat.pow_succ]; omega
theorem bools_mem : ∀ l : List Bool, l ∈ bools l.length
  | [] => by simp [bools]
  | true :: r => by rw [List.length_cons, bools]; exact List.mem_append_left _ (List.mem_map_of_mem (bools_mem r))
  | false :: r => by rw [List.length_cons, bools]; exact List.mem_append_right _ (List.mem_map_of_mem (bools_mem r))
theorem nodup_map_on {α β : Type} {f : α → β} : ∀ {l : List α}, l.Nodup → (∀ x ∈ l, ∀ y ∈ l, f x = f y → x = y) → (l.map f).Nodup
  | [], _, _ => by simp
  | x :: r, h, g => by
    obtain ⟨h1, h2⟩ := List.nodup_cons.mp h
    rw [List.map_cons, List.nodup_cons]
    refine ⟨fun hx => ?_, nodup_map_on h2 fun y hy z hz => g y (List.mem_cons_of_mem _ hy) z (List.mem_cons_of_mem _ hz)⟩
    obtain ⟨y, hy, e⟩ := List.mem_map.mp hx
    exact h1 (g x List.mem_cons_self y (List.mem_cons_of_mem _ hy) e.symm ▸ hy)
theorem kwords_soK : ∀ k : Kd, k.mks → ∀ w ∈ kwords k, PyData.strOk w = true
  | .mk m, h, w, hw => by
    simp only [kwords, List.mem_singleton] at hw
    subst hw
    exact mark_so (h w (by simp [Kd.marks]))
  | .one, h, w, hw => by
    simp only [kwords, List.mem_singleton] at hw
    subst hw
    decide +kernel
  | .to a b, h, w, hw => by
    simp only [kwords, List.mem_append, List.mem_singleton] at hw
    rcases hw with (((rfl | hw) | rfl) | hw) | rfl
    · decide +kernel
    · exact kwords_soK a (fun m hm => h m (by simp [Kd.marks, hm])) w hw
    · decide +kernel
    · exact kwords_soK b (fun m hm => h m (by simp [Kd.marks, hm])) w hw
    · decide +kernel
  | .both a b, h, w, hw => by
    simp only [kwords, List.mem_append, List.mem_singleton] at hw
    rcases hw with (((rfl | hw) | rfl) | hw) | rfl
    · decide +kernel
    · exact kwords_soK a (fun m hm => h m (by simp [Kd.marks, hm])) w hw
    · decide +kernel
    · exact kwords_soK b (fun m hm => h m (by simp [Kd.marks, hm])) w hw
    · decide +kernel
theorem kshow_soK {k : Kd} (hm : k.mks) : PyData.strOk (kshow k) = true := by
  rw [kshow_eq]; exact okJoin (by decide +kernel) fun w hw => kwords_soK k hm w hw
theorem nodup_of_map {α β : Type} {f : α → β} : ∀ {l : List α}, (l.map f).Nodup → l.Nodup
  | [], _ => by simp
  | x :: r, h => by
    rw [List.map_cons, List.nodup_cons] at h
    exact List.nodup_cons.mpr ⟨fun q => h.1 (List.mem_map_of_mem q), nodup_of_map h.2⟩
/-! ### what is there, as texts -/
def KyOf (S : List Kd) (l : List Str) : Prop := Up l ∧ ∀ x, x ∈ l ↔ ∃ k ∈ S, kshow k = x
theorem Up.nodup {l : List Str} (h : Up l) : l.Nodup := List.Pairwise.imp (fun {a b} h e => by subst e; exact absurd h (List.lt_irrefl _)) h
theorem LK.mono {S S' : List Kd} (h : LK S) (s : ∀ x ∈ S', x ∈ S) : LK S' := fun k hk => h k (s k hk)
theorem LK.app {S S' : List Kd} (h : LK S) (h' : LK S') : LK (S ++ S') := fun k hk => (List.mem_append.mp hk).elim (h k) (h' k)
theorem KyOf.mem {S : List Kd} {l : List Str} (h : KyOf S l) (hS : LK S) {k : Kd} (hk : k.mks ∧ k.depth ≤ 12) : kshow k ∈ l ↔ k ∈ S := by
  rw [h.2]
  constructor
  · rintro ⟨k', hk', e⟩
    rw [← kshow_inj (hS k' hk') hk e]; exact hk'
  · exact fun h => ⟨k, h, rfl⟩
theorem KyOf.same {S S' : List Kd} {l l' : List Str} (h : KyOf S l) (h' : KyOf S' l') (hS : LK S) (hS' : LK S') : l = l' ↔ SameK S S' := by
  constructor
  · rintro rfl x
    constructor
    · exact fun hx => (h'.mem hS' (hS x hx)).mp ((h.mem hS (hS x hx)).mpr hx)
    · exact fun hx => (h.mem hS (hS' x hx)).mp ((h'.mem hS' (hS' x hx)).mpr hx)
  · intro s
    refine up_uniq h.1 h'.1 ((List.perm_ext_iff_of_nodup h.1.nodup h'.1.nodup).mpr fun x => ?_)
    rw [h.2, h'.2]
    constructor
    · rintro ⟨k, hk, e⟩; exact ⟨k, (s k).mp hk, e⟩
    · rintro ⟨k, hk, e⟩; exact ⟨k, (s k).mpr hk, e⟩
theorem KyOf.cong {S S' : List Kd} {l : List Str} (h : KyOf S l) (s : SameK S S') : KyOf S' l := ⟨h.1, fun x => by
  rw [h.2]
  constructor
  · rintro ⟨k, hk, e⟩; exact ⟨k, (s k).mp hk, e⟩
  · rintro ⟨k, hk, e⟩; exact ⟨k, (s k).mpr hk, e⟩⟩
theorem KyOf.so {S : List Kd} {l : List Str} (h : KyOf S l) (hS : LK S) : ∀ s ∈ l, PyData.strOk s = true := fun s hs => by
  obtain ⟨k, hk, rfl⟩ := (h.2 s).mp hs
  exact kshow_soK (hS k hk).1
theorem KyOf.len {S : List Kd} {l : List Str} (h : KyOf S l) : l.length ≤ S.length := by
  have := nodup_le (us := S.map kshow) h.1.nodup fun x hx => by
    obtain ⟨k, hk, e⟩ := (h.2 x).mp hx
    exact List.mem_map.mpr ⟨k, hk, e⟩
  rwa [List.length_map] at this
/-! ### all that can be there -/
structure Un (U S0 : List Kd) (Ts : List (List Kd)) : Prop where
  lk : LK U
  ul : U.length < 60
  lv : lvs U ≤ 1000
  sub : ∀ x ∈ S0 ++ Ts.flatten, x ∈ U
  cl : ClT Ts (S0 ++ Ts.flatten)
  ts : Ts.length ≤ 9
  l24 : ∀ k ∈ U, k.leaves ≤ 24
  mrk : ∃ L : List Str, L.length < 60 ∧ ∀ m ∈ (U.flatMap ends).map (·.2), m ∈ L
/-- one of the things that can be there -/
def InU (S0 : List Kd) (Ts : List (List Kd)) (S : List Kd) : Prop := (∀ x ∈ S0, x ∈ S) ∧ ∀ x ∈ S, x ∈ S0 ∨ ∃ r ∈ Ts, x ∈ r ∧ ∀ y ∈ r, y ∈ S
section
variable {U S0 : List Kd} {Ts : List (List Kd)} {S : List Kd}
theorem InU.self : InU S0 Ts S0 := ⟨fun _ h => h, fun _ h => .inl h⟩
theorem InU.mem (h : InU S0 Ts S) : ∀ x ∈ S, x ∈ S0 ++ Ts.flatten := fun x hx => by
  rcases h.2 x hx with h | ⟨r, hr, h, _⟩
  · exact List.mem_append_left _ h
  · exact List.mem_append_right _ (List.mem_flatten.mpr ⟨r, hr, h⟩)
theorem InU.u (h : InU S0 Ts S) (u : Un U S0 Ts) : ∀ x ∈ S, x ∈ U := fun x hx => u.sub x (h.mem x hx)
theorem InU.lk (h : InU S0 Ts S) (u : Un U S0 Ts) : LK S := u.lk.mono (h.u u)
theorem InU.cl (h : InU S0 Ts S) (u : Un U S0 Ts) : ClT Ts S := fun k hk => u.cl k (h.mem k hk)
theorem InU.put (h : InU S0 Ts S) {r : List Kd} (hr : r = [] ∨ r ∈ Ts) : InU S0 Ts (S ++ r) := by
  refine ⟨fun x hx => List.mem_append_left _ (h.1 x hx), fun x hx => ?_⟩
  rcases List.mem_append.mp hx with hx | hx
  · rcases h.2 x hx with q | ⟨r', h1, h2, h3⟩
    · exact .inl q
    · exact .inr ⟨r', h1, h2, fun y hy => List.mem_append_left _ (h3 y hy)⟩
  · rcases hr with rfl | hr
    · cases hx
    · exact .inr ⟨r, hr, hx, fun y hy => List.mem_append_right _ hy⟩
theorem InU.cong {S' : List Kd} (h : InU S0 Ts S) (s : SameK S S') : InU S0 Ts S' := by
  refine ⟨fun x hx => (s x).mp (h.1 x hx), fun x hx => ?_⟩
  rcases h.2 x ((s x).mpr hx) with q | ⟨r, h1, h2, h3⟩
  · exact .inl q
  · exact .inr ⟨r, h1, h2, fun y hy => (s y).mp (h3 y hy)⟩
def bv (Ts : List (List Kd)) (l : List Str) : List Bool := Ts.map fun r => r.all fun x => decide (kshow x ∈ l)
theorem bv_inj {S' : List Kd} {l l' : List Str} (u : Un U S0 Ts) (h : InU S0 Ts S) (h' : InU S0 Ts S') (k : KyOf S l) (k' : KyOf S' l') (e : bv Ts l = bv Ts l') : l = l' := by
  have key : ∀ {S S' : List Kd} {l l' : List Str}, InU S0 Ts S → InU S0 Ts S' → KyOf S l → KyOf S' l' → bv Ts l = bv Ts l' → ∀ x ∈ S, x ∈ S' := fun {S S' l l'} h h' k k' e x hx => by
    rcases h.2 x hx with q | ⟨r, h1, h2, h3⟩
    · exact h'.1 x q
    · have hr := List.map_inj_left.mp e r h1
      have h4 : (r.all fun x => decide (kshow x ∈ l)) = true := List.all_eq_true.mpr fun y hy => by
        rw [decide_eq_true_iff, k.mem (h.lk u) (h.lk u y (h3 y hy))]; exact h3 y hy
      rw [h4] at hr
      have h5 := List.all_eq_true.mp hr.symm x h2
      rw [decide_eq_true_iff] at h5
      exact (k'.mem (h'.lk u) (h.lk u x hx)).mp h5
  exact (k.same k' (h.lk u) (h'.lk u)).mpr fun x => ⟨key h h' k k' e x, key h' h k' k e.symm x⟩
/-- so many keys at most -/
theorem keys_le (u : Un U S0 Ts) {ls : List (List Str)} (hn : ls.Nodup) (h : ∀ l ∈ ls, ∃ S, InU S0 Ts S ∧ KyOf S l) : ls.length ≤ 2 ^ Ts.length := by
  have h1 : (ls.map (bv Ts)).Nodup := nodup_map_on hn fun x hx y hy e => by
    obtain ⟨S, a1, a2⟩ := h x hx
    obtain ⟨S', b1, b2⟩ := h y hy
    exact bv_inj u a1 b1 a2 b2 e
  have h2 := nodup_le h1 (us := bools Ts.length) fun v hv => by
    obtain ⟨l, _, rfl⟩ := List.mem_map.mp hv
    have := bools_mem (bv Ts l)
    rwa [show (bv Ts l).length = Ts.length from List.length_map ..] at this
  rwa [List.length_map, bools_len] at h2
/-- how many may still be put in -/
def lft (Ts : List (List Kd)) (S : List Kd) : Nat := (Ts.filter fun r => !r.all fun x => decide (x ∈ S)).length
theorem lft_le : lft Ts S ≤ Ts.length := List.length_filter_le _ _
theorem filter_lt {α : Type} {p q : α → Bool} : ∀ {l : List α} {x : α}, x ∈ l → (∀ y, q y = true → p y = true) → p x = true → q x = false → (l.filter q).length < (l.filter p).length
  | y :: r, x, hx, h, h1, h2 => by
    have hle : ∀ r : List α, (r.filter q).length ≤ (r.filter p).length := fun r => by
      induction r with
      | nil => exact Nat.le_refl _
      | cons z r ih =>
        rw [List.filter_cons, List.filter_cons]
        by_cases c : q z = true
        · rw [if_pos c, if_pos (h z c)]; simp only [List.length_cons]; omega
        · rw [if_neg c]; split
          · simp only [List.length_cons]; omega
          · exact ih
    rw [List.filter_cons, List.filter_cons]
    rcases List.mem_cons.mp hx with rfl | hx
    · rw [if_pos h1, if_neg (by rw [h2]; decide)]
      have := hle r
      simp only [List.length_cons]; omega
    · have ih := filter_lt hx h h1 h2
      by_cases c : q y = true
      · rw [if_pos c, if_pos (h y c)]; simp only [List.length_cons]; omega
      · rw [if_neg c]; split
        · simp only [List.length_cons]; omega
        · exact ih
theorem lft_put {r : List Kd} (hr : r ∈ Ts) (hn : ¬ SameK (S ++ r) S) : lft Ts (S ++ r) < lft Ts S := by
  refine filter_lt hr (fun y hy => ?_) ?_ ?_
  · simp only [Bool.not_eq_true', List.all_eq_false, decide_eq_true_iff] at hy ⊢
    obtain ⟨x, hx, h⟩ := hy
    exact ⟨x, hx, fun q => h (List.mem_append_left _ q)⟩
  · simp only [Bool.not_eq_true', List.all_eq_false, decide_eq_true_iff]
    refine Classical.byContradiction fun h => hn fun x => ⟨fun hx => ?_, List.mem_append_left _⟩
    rcases List.mem_append.mp hx with hx | hx
    · exact hx
    · exact Classical.byContradiction fun q => h ⟨x, hx, q⟩
  · simp only [Bool.not_eq_false', List.all_eq_true, decide_eq_true_iff]
    exact fun x hx => List.mem_append_right _ hx
end
/-! ### marks that can be had -/
def mkS (U : List Kd) : List Str := (U.flatMap ends).map (·.2)
section
variable {U S0 : List Kd} {Ts : List (List Kd)}
theorem mkS_len (u : Un U S0 Ts) : (mkS U).length ≤ 1000 := by
  unfold mkS
  rw [List.length_map]
  have := flat_ends_len U
  have := u.lv
  omega
theorem mkS_mem (u : Un U S0 Ts) {S : List Kd} (h : InU S0 Ts S) {k : Kd} (hk : k ∈ S) {e : List Kd × Str} (he : e ∈ ends k) : e.2 ∈ mkS U := List.mem_map.mpr ⟨e, List.mem_flatMap.mpr ⟨k, h.u u k hk, he⟩, rfl⟩
theorem mkS_so (u : Un U S0 Ts) : ∀ m ∈ mkS U, isMarkB m = true := fun m hm => by
  obtain ⟨e, he, rfl⟩ := List.mem_map.mp hm
  obtain ⟨k, hk, he⟩ := List.mem_flatMap.mp he
  exact (u.lk k hk).1 _ (ends_in k e he).2.2.2
theorem had_mkS (u : Un U S0 Ts) {S : List Kd} (h : InU S0 Ts S) {m : Str} (hm : Had S m) : m ∈ mkS U := by
  cases hm with
  | mk hk he _ => exact mkS_mem u h hk he
end
/-! ### dicts of True -/
def mkE (m : Str) : Key × D := (.inr m, .bl true)
theorem valE (ls : List Str) (t : Str) : (valD (ls.map mkE) (.inr t)).isSome = decide (t ∈ ls) := by
  rw [← valD_any, List.any_map, Bool.eq_iff_iff, List.any_eq_true, decide_eq_true_iff]
  constructor
  · rintro ⟨x, hx, h⟩
    have : Sum.inr x = (Sum.inr t : Key) := of_decide_eq_true h
    cases this; exact hx
  · exact fun h => ⟨t, h, decide_eq_true rfl⟩
theorem putE (ls : List Str) (t : Str) : putD (ls.map mkE) (.inr t) (.bl true) = (if t ∈ ls then ls else ls ++ [t]).map mkE := by
  unfold putD
  rw [valD_any, valE]
  by_cases c : t ∈ ls
  · rw [if_pos c, if_pos (decide_eq_true c), List.map_map]
    refine List.map_congr_left fun x _ => ?_
    show (if (Sum.inr x : Key) = .inr t then (Sum.inr x, D.bl true) else (Sum.inr x, D.bl true)) = (Sum.inr x, D.bl true)
    split <;> rfl
  · rw [if_neg c, if_neg (by simpa using c), List.map_append]; rfl
/-! ### the one that knows what can be had -/
def MsOf (S : List Kd) (ms : List Str) : Prop := ms.Nodup ∧ ∀ m, m ∈ ms ↔ Had S m
def hvI (C dK dF : Addr) : Cell := .ins C [(Str.ofString "kinds", .ref dK), (Str.ofString "found", .ref dF)]
structure HvC (C s aK aF : Addr) (U S0 : List Kd) (Ts : List (List Kd)) (kk : List (Key × D)) (kf : List (List Key × D)) (O : Ow) : Prop where
  i : O s = some (hvI C aK aF)
  k : O aK = some (.dic kk)
  f : O aF = some (.dicT kf)
  kn : (kk.map (·.1)).Nodup
  ku : ∀ key ∈ kk.map (·.1), ∃ k ∈ U, key = .inr (kshow k)
  kv : ∀ k ∈ U, ∀ d, valD kk (.inr (kshow k)) = some d → d = dK k
  fn : (kf.map (·.1)).Nodup
  fu : ∀ key ∈ kf.map (·.1), ∃ S l, key = tsK l ∧ InU S0 Ts S ∧ KyOf S l
  fv : ∀ S l, InU S0 Ts S → KyOf S l → ∀ d, valD kf (tsK l) = some d → ∃ a ms, d = .ref a ∧ O a = some (.dic (ms.map mkE)) ∧ MsOf S ms ∧ a ≠ aK
/-- what may change -/
structure HvTo (aK aF : Addr) (E : List Addr) (O : Ow) (kk : List (Key × D)) (kf : List (List Key × D)) (O' : Ow) (kk' : List (Key × D)) (kf' : List (List Key × D)) : Prop where
  fr : ∀ a c, O a = some c → a ≠ aK → a ≠ aF → a ∉ E → O' a = some c
  gk : ∀ k d, valD kk k = some d → valD kk' k = some d
  gf : ∀ k d, valD kf' k = some d → valD kf k = some d ∨ ∃ a, d = .ref a ∧ O a = none
section
variable {C s aK aF : Addr} {U S0 : List Kd} {Ts : List (List Kd)} {kk kk' kk'' : List (Key × D)} {kf kf' kf'' : List (List Key × D)} {O O' O'' : Ow}
theorem HvTo.refl {E : List Addr} : HvTo aK aF E O kk kf O kk kf := ⟨fun _ _ h _ _ _ => h, fun _ _ h => h, fun _ _ h => .inl h⟩
theorem HvTo.trans {E : List Addr} (h : HvTo aK aF E O kk kf O' kk' kf') (h' : HvTo aK aF E O' kk' kf' O'' kk'' kf'') (e1 : O' aK ≠ none) (e2 : O' aF ≠ none) (e0 : ∀ a ∈ E, O' a ≠ none := by intro a h; cases h) : HvTo aK aF E O kk kf O'' kk'' kf'' := by
  refine ⟨fun a c e n1 n2 n3 => h'.fr a c (h.fr a c e n1 n2 n3) n1 n2 n3, fun k d e => h'.gk k d (h.gk k d e), fun k d e => ?_⟩
  rcases h'.gf k d e with e | ⟨a, rfl, e3⟩
  · exact h.gf k d e
  · refine .inr ⟨a, rfl, ?_⟩
    cases q : O a with
    | none => rfl
    | some c =>
      by_cases n1 : a = aK
      · subst n1; exact absurd e3 e1
      · by_cases n2 : a = aF
        · subst n2; exact absurd e3 e2
        · by_cases n3 : a ∈ E
          · exact absurd e3 (e0 a n3)
          · rw [h.fr a c q n1 n2 n3] at e3; cases e3
theorem HvTo.more {E E' : List Addr} (h : HvTo aK aF E O kk kf O' kk' kf') (s : ∀ a ∈ E, a ∈ E') : HvTo aK aF E' O kk kf O' kk' kf' := ⟨fun a c e n1 n2 n3 => h.fr a c e n1 n2 fun q => n3 (s a q), h.gk, h.gf⟩
/-- what was not there needs not be kept -/
theorem HvTo.new {E : List Addr} {p : Addr} {c : Cell} (h : HvTo aK aF (p :: E) (updO O p c) kk kf O' kk' kf') (hp : O p = none) : HvTo aK aF E O kk kf O' kk' kf' := by
  refine ⟨fun a c' e n1 n2 n3 => ?_, h.gk, fun k d e => ?_⟩
  · have n : a ≠ p := fun q => by rw [q, hp] at e; cases e
    refine h.fr a c' (by rw [updO_ne n]; exact e) n1 n2 fun q => ?_
    rcases List.mem_cons.mp q with q | q
    · exact n q
    · exact n3 q
  · rcases h.gf k d e with e | ⟨a, rfl, e3⟩
    · exact .inl e
    · refine .inr ⟨a, rfl, ?_⟩
      by_cases n : a = p
      · rw [n, updO_same] at e3; cases e3
      · rwa [updO_ne n] at e3
theorem HvTo.set {E : List Addr} {p : Addr} {c : Cell} (h : HvTo aK aF E O kk kf O' kk' kf') (hp : p ∈ E) : HvTo aK aF E O kk kf (updO O' p c) kk' kf' := ⟨fun a c' e n1 n2 n3 => by
    rw [updO_ne (fun q => n3 (by rw [q]; exact hp))]; exact h.fr a c' e n1 n2 n3, h.gk, h.gf⟩
theorem HvC.nk (h : HvC C s aK aF U S0 Ts kk kf O) : O aK ≠ none := by rw [h.k]; simp
theorem HvC.nf (h : HvC C s aK aF U S0 Ts kk kf O) : O aF ≠ none := by rw [h.f]; simp
theorem HvC.n1 (h : HvC C s aK aF U S0 Ts kk kf O) : aK ≠ aF := fun e => by have := h.k; rw [e, h.f] at this; cases this
theorem HvC.n2 (h : HvC C s aK aF U S0 Ts kk kf O) : s ≠ aK := fun e => by have := h.i; rw [e, h.k] at this; cases this
theorem HvC.n3 (h : HvC C s aK aF U S0 Ts kk kf O) : s ≠ aF := fun e => by have := h.i; rw [e, h.f] at this; cases this
theorem HvC.klen (h : HvC C s aK aF U S0 Ts kk kf O) (u : Un U S0 Ts) : kk.length < 60 := by
  have h1 := nodup_le (us := U.map fun k => (Sum.inr (kshow k) : Key)) h.kn fun x hx => by
    obtain ⟨k, hk, e⟩ := h.ku x hx
    exact List.mem_map.mpr ⟨k, hk, e.symm⟩
  rw [List.length_map, List.length_map] at h1
  have := u.ul
  omega
theorem tsK_inj {l l' : List Str} (e : tsK l = tsK l') : l = l' := by
  unfold tsK at e
  exact List.map_inj_right (fun a b q => by cases q; rfl) |>.mp e
theorem HvC.flen (h : HvC C s aK aF U S0 Ts kk kf O) (u : Un U S0 Ts) : kf.length ≤ 512 := by
  obtain ⟨ls, hl⟩ : ∃ ls : List (List Str), kf.map (·.1) = ls.map tsK := by
    have : ∀ L : List (List Key), (∀ x ∈ L, ∃ l, x = tsK l) → ∃ ls : List (List Str), L = ls.map tsK := by
      intro L
      induction L with
      | nil => exact fun _ => ⟨[], rfl⟩
      | cons x r ih =>
        intro q
        obtain ⟨l, rfl⟩ := q x List.mem_cons_self
        obtain ⟨ls, rfl⟩ := ih fun y hy => q y (List.mem_cons_of_mem _ hy)
        exact ⟨l :: ls, rfl⟩
    exact this _ fun x hx => by
      obtain ⟨S, l, e, _⟩ := h.fu x hx
      exact ⟨l, e⟩
  have hn : ls.Nodup := by
    have := h.fn
    rw [hl] at this
    exact nodup_of_map this
  have h1 := keys_le u hn fun l hl' => by
    obtain ⟨S, l', e, h1, h2⟩ := h.fu (tsK l) (by rw [hl]; exact List.mem_map_of_mem hl')
    rw [tsK_inj e]; exact ⟨S, h1, h2⟩
  have h2 := congrArg List.length hl
  rw [List.length_map, List.length_map] at h2
  have h3 : 2 ^ Ts.length ≤ 2 ^ 9 := Nat.pow_le_pow_right (by decide) u.ts
  omega
/-- a cell that is none of its own changes -/
theorem HvC.else (h : HvC C s aK aF U S0 Ts kk kf O) {p : Addr} {c : Cell} (n1 : p ≠ s) (n2 : p ≠ aK) (n3 : p ≠ aF) (n4 : ∀ k d, valD kf k = some d → d ≠ .ref p) : HvC C s aK aF U S0 Ts kk kf (updO O p c) := by
  refine ⟨by rw [updO_ne (Ne.symm n1)]; exact h.i, by rw [updO_ne (Ne.symm n2)]; exact h.k, by rw [updO_ne (Ne.symm n3)]; exact h.f, h.kn, h.ku, h.kv, h.fn, h.fu, fun S l h1 h2 d e => ?_⟩
  obtain ⟨a, ms, rfl, h3, h4, h5⟩ := h.fv S l h1 h2 d e
  exact ⟨a, ms, rfl, by rw [updO_ne (fun q => n4 _ _ e (by rw [q]))]; exact h3, h4, h5⟩
/-- no set of marks kept is one that is no dict, or new -/
theorem HvC.nof (h : HvC C s aK aF U S0 Ts kk kf O) {p : Addr} (hp : ∀ ms : List Str, O p ≠ some (.dic (ms.map mkE))) : ∀ k d, valD kf k = some d → d ≠ .ref p := fun k d e q => by
  have h1 : k ∈ kf.map (·.1) := valD_mem.mpr (by rw [e]; rfl)
  obtain ⟨S', l', rfl, h2, h3⟩ := h.fu k h1
  obtain ⟨a, ms, e2, h4, _⟩ := h.fv S' l' h2 h3 d e
  rw [e2] at q
  cases q
  exact hp ms h4
/-- one kind more is told -/
theorem HvC.putK (h : HvC C s aK aF U S0 Ts kk kf O) (u : Un U S0 Ts) {k : Kd} (hk : k ∈ U) : HvC C s aK aF U S0 Ts (putD kk (.inr (kshow k)) (dK k)) kf (updO O aK (.dic (putD kk (.inr (kshow k)) (dK k)))) := by
  refine ⟨by rw [updO_ne h.n2]; exact h.i, updO_same, by rw [updO_ne h.n1.symm]; exact h.f, ?_, ?_, ?_, h.fn, h.fu, ?_⟩
  · rw [keys_put]
    split
    · exact h.kn
    · rename_i q
      refine List.nodup_append.mpr ⟨h.kn, by simp, fun x hx y hy e => q ?_⟩
      rw [List.mem_singleton] at hy
      rw [← valD_mem, ← hy, ← e]; exact hx
  · intro x hx
    rw [keys_put] at hx
    split at hx
    · exact h.ku x hx
    · rcases List.mem_append.mp hx with hx | hx
      · exact h.ku x hx
      · exact ⟨k, hk, List.mem_singleton.mp hx⟩
  · intro k' hk' d e
    rw [valD_put] at e
    split at e
    · rename_i q
      injection q with q
      injection e with e
      rw [← e, kshow_inj (u.lk k' hk') (u.lk k hk) q]
    · exact h.kv k' hk' d e
  · intro S l h1 h2 d e
    obtain ⟨a, ms, rfl, h3, h4, h5⟩ := h.fv S l h1 h2 d e
    exact ⟨a, ms, rfl, by rw [updO_ne h5]; exact h3, h4, h5⟩
theorem HvC.toK (h : HvC C s aK aF U S0 Ts kk kf O) (u : Un U S0 Ts) {k : Kd} (hk : k ∈ U) : HvTo aK aF [] O kk kf (updO O aK (.dic (putD kk (.inr (kshow k)) (dK k)))) (putD kk (.inr (kshow k)) (dK k)) kf := by
  refine ⟨fun a c e n1 _ _ => by rw [updO_ne n1]; exact e, fun x d e => ?_, fun _ _ e => .inl e⟩
  rw [valD_put]
  split
  · rename_i q
    subst q
    rw [h.kv k hk d e]
  · exact e
/-- what a set of kinds comes to is kept -/
theorem HvC.putF (h : HvC C s aK aF U S0 Ts kk kf O) (u : Un U S0 Ts) {S : List Kd} {l : List Str} (hS : InU S0 Ts S) (hl : KyOf S l) {p : Addr} {ms : List Str} (hp : O p = some (.dic (ms.map mkE))) (hm : MsOf S ms) (np : p ≠ aK) : HvC C s aK aF U S0 Ts kk (putD kf (tsK l) (.ref p)) (updO O aF (.dicT (putD kf (tsK l) (.ref p)))) := by
  have pf : ∀ {a : Addr} {kvs : List (Key × D)}, O a = some (.dic kvs) → a ≠ aF := fun {a kvs} e q => by rw [q, h.f] at e; cases e
  refine ⟨by rw [updO_ne h.n3]; exact h.i, by rw [updO_ne h.n1]; exact h.k, updO_same, h.kn, h.ku, h.kv, ?_, ?_, ?_⟩
  · rw [keys_put]
    split
    · exact h.fn
    · rename_i q
      refine List.nodup_append.mpr ⟨h.fn, by simp, fun x hx y hy e => q ?_⟩
      rw [List.mem_singleton] at hy
      rw [← valD_mem, ← hy, ← e]; exact hx
  · intro x hx
    rw [keys_put] at hx
    split at hx
    · exact h.fu x hx
    · rcases List.mem_append.mp hx with hx | hx
      · exact h.fu x hx
      · exact ⟨S, l, List.mem_singleton.mp hx, hS, hl⟩
  · intro S' l' h1 h2 d e
    rw [valD_put] at e
    split at e
    · rename_i q
      have q := tsK_inj q
      subst q
      injection e with e
      subst e
      have hs := (h2.same hl (h1.lk u) (hS.lk u)).mp rfl
      refine ⟨p, ms, rfl, by rw [updO_ne (pf hp)]; exact hp, ⟨hm.1, fun m => (hm.2 m).trans ⟨fun q => q.weak fun x hx => (hs x).mpr hx, fun q => q.weak fun x hx => (hs x).mp hx⟩⟩, np⟩
    · obtain ⟨a, ms', rfl, h3, h4, h5⟩ := h.fv S' l' h1 h2 d e
      exact ⟨a, ms', rfl, by rw [updO_ne (pf h3)]; exact h3, h4, h5⟩
end
/-! ### when a way's kind is had, by marks found so far -/
def okE' (S : List Kd) (M : List Str) (t : List Kd × Str) : Prop := (SameK (S ++ t.1) S ∧ t.2 ∈ M) ∨ (¬ SameK (S ++ t.1) S ∧ Had (S ++ t.1) t.2)
theorem okE'.had {S : List Kd} {M : List Str} {t : List Kd × Str} (h : okE' S M t) (hM : ∀ m ∈ M, Had S m) : Had (S ++ t.1) t.2 := by
  rcases h with ⟨s, h⟩ | ⟨_, h⟩
  · exact (hM _ h).weak fun x hx => List.mem_append_left _ hx
  · exact h
/-- nothing is left -/
theorem had_closed {S : List Kd} {M : List Str} (hM : ∀ k ∈ S, ∀ e ∈ ends k, (∀ a ∈ e.1, ∀ t ∈ ends a, okE' S M t) → e.2 ∈ M) : ∀ m, Had S m → m ∈ M := by
  have key : ∀ S' m, Had S' m → SameK S' S → m ∈ M := by
    intro S' m h
    induction h with
    | mk hk he hs ih =>
      rename_i S1 k e
      intro s
      refine hM k ((s k).mp hk) e he fun a ha t ht => ?_
      have s2 : SameK (S1 ++ t.1) (S ++ t.1) := fun x => by
        rw [List.mem_append, List.mem_append, s x]
      by_cases c : SameK (S ++ t.1) S
      · exact .inl ⟨c, ih a ha t ht fun x => (s2 x).trans (c x)⟩
      · exact .inr ⟨c, (hs a ha t ht).weak fun x hx => (s2 x).mp hx⟩
  exact fun m h => key S m h fun x => Iff.rfl
/-! ### the tree's walk -/
def mkT (l : List Str) : List Key × D := (tsK l, .bl true)
theorem keysT (L : List (List Str)) : (L.map mkT).map (·.1) = L.map tsK := by rw [List.map_map]; rfl
theorem valT (L : List (List Str)) (t : List Str) : (valD (L.map mkT) (tsK t)).isSome = decide (t ∈ L) := by
  rw [← valD_any, List.any_map, Bool.eq_iff_iff, List.any_eq_true, decide_eq_true_iff]
  constructor
  · rintro ⟨x, hx, h⟩
    have : tsK x = tsK t := of_decide_eq_true h
    rw [← tsK_inj this]; exact hx
  · exact fun h => ⟨t, h, decide_eq_true rfl⟩
theorem putT (L : List (List Str)) (t : List Str) : putD (L.map mkT) (tsK t) (.bl true) = (if t ∈ L then L else L ++ [t]).map mkT := by
  unfold putD
  rw [valD_any, valT]
  by_cases c : t ∈ L
  · rw [if_pos c, if_pos (decide_eq_true c), List.map_map]
    refine List.map_congr_left fun x _ => ?_
    show (if tsK x = tsK t then (tsK x, D.bl true) else (tsK x, D.bl true)) = (tsK x, D.bl true)
    split <;> rfl
  · rw [if_neg c, if_neg (by simpa using c), List.map_append]; rfl
def Wn : Nat → Nat
  | 0 => 1
  | r + 1 => 1 + (r + 1) * Wn r
theorem Wn_mono : ∀ {a b : Nat}, a ≤ b → Wn a ≤ Wn b
  | a, 0, h => by have : a = 0 := by omega
                  subst this; exact Nat.le_refl _
  | a, b + 1, h => by
    by_cases c : a = b + 1
    · subst c; exact Nat.le_refl _
    · have := Wn_mono (a := a) (b := b) (by omega)
      have h2 : 1 * Wn b ≤ (b + 1) * Wn b := Nat.mul_le_mul_right _ (by omega)
      rw [Wn]; omega
theorem sbss_len {v : Nat} : ∀ {cs : List ST}, (∀ c ∈ cs, (sbs c).length ≤ v) → (sbss cs).length ≤ cs.length * v
  | [], _ => by simp [sbss]
  | c :: cs, h => by
    have h1 := h c List.mem_cons_self
    have h2 := sbss_len (cs := cs) fun c hc => h c (List.mem_cons_of_mem _ hc)
    rw [sbss, List.length_append, List.length_cons, Nat.add_mul]; omega
theorem deps_le {v : Nat} : ∀ {ts : List Tr}, (∀ t ∈ ts, t.dep ≤ v) → deps ts ≤ v
  | [], _ => by rw [deps]; exact Nat.zero_le _
  | t :: ts, h => by
    have h1 := h t List.mem_cons_self
    have h2 := deps_le (ts := ts) fun c hc => h c (List.mem_cons_of_mem _ hc)
    rw [deps]; omega
/-- so many worlds straight above, at most -/
theorem above_le {S : List Kd} {Rs : List (List Kd)} {L : List (List Str)} (hS : ∀ l ∈ L, ∃ r ∈ Rs, KyOf (S ++ r) l ∧ LK (S ++ r) ∧ ¬ SameK (S ++ r) S) (hn : L.Nodup) : L.length ≤ lft Rs S := by
  have hx : ∀ l, ∃ r, l ∈ L → r ∈ Rs ∧ KyOf (S ++ r) l ∧ LK (S ++ r) ∧ ¬ SameK (S ++ r) S := fun l => by
    by_cases c : l ∈ L
    · obtain ⟨r, h1, h2⟩ := hS l c
      exact ⟨r, fun _ => ⟨h1, h2⟩⟩
    · exact ⟨[], fun h => absurd h c⟩
  obtain ⟨f, hf⟩ : ∃ f : List Str → List Kd, ∀ l, l ∈ L → f l ∈ Rs ∧ KyOf (S ++ f l) l ∧ LK (S ++ f l) ∧ ¬ SameK (S ++ f l) S := ⟨fun l => (hx l).choose, fun l => (hx l).choose_spec⟩
  have h1 : (L.map f).Nodup := nodup_map_on hn fun x hx y hy e => by
    obtain ⟨_, a2, a3, _⟩ := hf x hx
    obtain ⟨_, b2, b3, _⟩ := hf y hy
    rw [← e] at b2 b3
    exact (a2.same b2 a3 b3).mpr fun _ => Iff.rfl
  have h2 := nodup_le h1 (us := Rs.filter fun r => !r.all fun x => decide (x ∈ S)) fun r hr => by
    obtain ⟨l, hl, rfl⟩ := List.mem_map.mp hr
    obtain ⟨h3, _, _, h4⟩ := hf l hl
    refine List.mem_filter.mpr ⟨h3, ?_⟩
    simp only [Bool.not_eq_true', List.all_eq_false, decide_eq_true_iff]
    refine Classical.byContradiction fun q => h4 fun x => ⟨fun hx => ?_, List.mem_append_left _⟩
    rcases List.mem_append.mp hx with hx | hx
    · exact hx
    · exact Classical.byContradiction fun z => q ⟨x, hx, z⟩
  rwa [List.length_map] at h2
/-- marks and their order, in all worlds -/
def MkS (U : List Kd) (st : ST) : Prop := ∀ u ∈ sbs st, Up u.ms ∧ ∀ m ∈ u.ms, m ∈ mkS U
theorem flat_nodup_le {α β : Type} [DecidableEq α] (f : α → List β) : ∀ {ks S : List α}, ks.Nodup → (∀ k ∈ ks, k ∈ S) → (ks.flatMap f).length ≤ (S.flatMap f).length
  | [], _, _, _ => Nat.zero_le _
  | k :: ks, S, h, g => by
    obtain ⟨h1, h2⟩ := List.nodup_cons.mp h
    have hk := g k List.mem_cons_self
    have ih := flat_nodup_le f (ks := ks) (S := S.erase k) h2 fun y hy => (List.mem_erase_of_ne (fun e => h1 (by rw [← e]; exact hy))).mpr (g y (List.mem_cons_of_mem _ hy))
    have hp := (List.perm_cons_erase hk).flatMap_right f
    have hl := hp.length_eq
    rw [List.flatMap_cons, List.length_append] at hl ⊢
    omega
/-! ### the types of a row and a kind -/
def subK : Kd → List Kd
  | .mk m => [.mk m]
  | .one => [.one]
  | .to a b => .to a b :: (subK a ++ subK b)
  | .both a b => .both a b :: (subK a ++ subK b)
theorem subK_len : ∀ k : Kd, (subK k).length + 1 = 2 * k.leaves
  | .mk _ => rfl
  | .one => rfl
  | .to a b => by have := subK_len a; have := subK_len b; simp only [subK, Kd.leaves, List.length_cons, List.length_append]; omega
  | .both a b => by have := subK_len a; have := subK_len b; simp only [subK, Kd.leaves, List.length_cons, List.length_append]; omega
theorem subK_self (k : Kd) : k ∈ subK k := by cases k <;> simp [subK]
theorem subK_in : ∀ (k x : Kd), x ∈ subK k → x.leaves ≤ k.leaves ∧ x.depth ≤ k.depth ∧ ∀ m ∈ x.marks, m ∈ k.marks
  | .mk m, x, h => by rw [subK, List.mem_singleton] at h; subst h; exact ⟨Nat.le_refl _, Nat.le_refl _, fun _ h => h⟩
  | .one, x, h => by rw [subK, List.mem_singleton] at h; subst h; exact ⟨Nat.le_refl _, Nat.le_refl _, fun _ h => h⟩
  | .to a b, x, h => by
    rw [subK] at h
    rcases List.mem_cons.mp h with rfl | h
    · exact ⟨Nat.le_refl _, Nat.le_refl _, fun _ h => h⟩
    · simp only [Kd.leaves, Kd.depth, Kd.marks]
      rcases List.mem_append.mp h with h | h
      · obtain ⟨h1, h2, h3⟩ := subK_in a x h
        exact ⟨by omega, by omega, fun m hm => List.mem_append_left _ (h3 m hm)⟩
      · obtain ⟨h1, h2, h3⟩ := subK_in b x h
        exact ⟨by omega, by omega, fun m hm => List.mem_append_right _ (h3 m hm)⟩
  | .both a b, x, h => by
    rw [subK] at h
    rcases List.mem_cons.mp h with rfl | h
    · exact ⟨Nat.le_refl _, Nat.le_refl _, fun _ h => h⟩
    · simp only [Kd.leaves, Kd.depth, Kd.marks]
      rcases List.mem_append.mp h with h | h
      · obtain ⟨h1, h2, h3⟩ := subK_in a x h
        exact ⟨by omega, by omega, fun m hm => List.mem_append_left _ (h3 m hm)⟩
      · obtain ⟨h1, h2, h3⟩ := subK_in b x h
        exact ⟨by omega, by omega, fun m hm => List.mem_append_right _ (h3 m hm)⟩
mutual
theorem tyR_mem : ∀ (k : Kd) (r : List Kd), r ∈ tyR k → ∀ x ∈ r, x ∈ subK k ∧ ∀ z ∈ tyR x, z ∈ tyR k
  | .mk _, r, h, x, hx => by rw [tyR] at h; cases h
  | .one, r, h, x, hx => by rw [tyR] at h; cases h
  | .both a b, r, h, x, hx => by
    rw [tyR] at h ⊢
    rw [subK]
    rcases List.mem_append.mp h with h | h
    · obtain ⟨h1, h2⟩ := tyR_mem a r h x hx
      exact ⟨by simp [h1], fun z hz => List.mem_append_left _ (h2 z hz)⟩
    · obtain ⟨h1, h2⟩ := tyR_mem b r h x hx
      exact ⟨by simp [h1], fun z hz => List.mem_append_right _ (h2 z hz)⟩
  | .to a b, r, h, x, hx => by
    rw [tyR] at h ⊢
    rw [subK]
    rcases List.mem_append.mp h with h | h
    · rcases tyI_mem [] a r h x hx with h | ⟨h1, h2⟩
      · cases h
      · exact ⟨by simp [h1], fun z hz => List.mem_append_left _ (h2 z hz)⟩
    · obtain ⟨h1, h2⟩ := tyR_mem b r h x hx
      exact ⟨by simp [h1], fun z hz => List.mem_append_right _ (h2 z hz)⟩
theorem tyI_mem : ∀ (p : List Kd) (k : Kd) (r : List Kd), r ∈ tyI p k → ∀ x ∈ r, x ∈ p ∨ (x ∈ subK k ∧ ∀ z ∈ tyR x, z ∈ tyI p k)
  | p, .mk _, r, h, x, hx => by rw [tyI] at h; cases h
  | p, .one, r, h, x, hx => by rw [tyI] at h; cases h
  | p, .both a b, r, h, x, hx => by
    rw [tyI] at h ⊢
    rw [subK]
    rcases List.mem_append.mp h with h | h
    · rcases tyI_mem p a r h x hx with h | ⟨h1, h2⟩
      · exact .inl h
      · exact .inr ⟨by simp [h1], fun z hz => List.mem_append_left _ (h2 z hz)⟩
    · rcases tyI_mem p b r h x hx with h | ⟨h1, h2⟩
      · exact .inl h
      · exact .inr ⟨by simp [h1], fun z hz => List.mem_append_right _ (h2 z hz)⟩
  | p, .to c d, r, h, x, hx => by
    rw [tyI] at h ⊢
    rw [subK]
    have put : ∀ x, x ∈ p ++ [c] → x ∈ p ∨ (x ∈ Kd.to c d :: (subK c ++ subK d) ∧ ∀ z ∈ tyR x, z ∈ tyR c ++ ((if hd d = true then [p ++ [c]] else []) ++ tyI (p ++ [c]) d)) := fun x hx => by
      rcases List.mem_append.mp hx with hx | hx
      · exact .inl hx
      · rw [List.mem_singleton.mp hx]
        exact .inr ⟨by simp [subK_self], fun z hz => List.mem_append_left _ hz⟩
    rcases List.mem_append.mp h with h | h
    · obtain ⟨h1, h2⟩ := tyR_mem c r h x hx
      exact .inr ⟨by simp [h1], fun z hz => List.mem_append_left _ (h2 z hz)⟩
    · rcases List.mem_append.mp h with h | h
      · split at h
        · rw [List.mem_singleton.mp h] at hx
          exact put x hx
        · cases h
      · rcases tyI_mem (p ++ [c]) d r h x hx with h | ⟨h1, h2⟩
        · exact put x h
        · exact .inr ⟨by simp [h1], fun z hz => List.mem_append_right _ (List.mem_append_right _ (h2 z hz))⟩
end
theorem flat_tyR : ∀ S : List Kd, 2 * (S.flatMap tyR).length + S.length ≤ lvs S
  | [] => by simp [lvs]
  | k :: S => by
    have h1 := tyR_len k
    have h2 := flat_tyR S
    simp only [lvs, List.flatMap_cons, List.length_append, List.length_cons, List.map_cons, List.sum_cons] at *
    omega
def tsOf (S0 : List Kd) (k : Kd) : List (List Kd) := S0.flatMap tyR ++ tyI [] k
def uOf (S0 : List Kd) (k : Kd) : List Kd := (S0 ++ [k]).flatMap subK
theorem flat_subK : ∀ S : List Kd, (S.flatMap subK).length + S.length = 2 * lvs S
  | [] => rfl
  | k :: S => by
    have h1 := subK_len k
    have h2 := flat_subK S
    simp only [lvs, List.flatMap_cons, List.length_append, List.length_cons, List.map_cons, List.sum_cons] at *
    omega
theorem lvs_le {v : Nat} : ∀ {L : List Kd}, (∀ x ∈ L, x.leaves ≤ v) → lvs L ≤ L.length * v
  | [], _ => by simp [lvs]
  | k :: L, h => by
    have h1 := h k List.mem_cons_self
    have h2 := lvs_le (L := L) fun x hx => h x (List.mem_cons_of_mem _ hx)
    simp only [lvs, List.map_cons, List.sum_cons, List.length_cons, Nat.add_mul] at *
    omega
theorem marks_lenK : ∀ k : Kd, k.marks.length ≤ k.leaves
  | .mk _ => by simp [Kd.marks, Kd.leaves]
  | .one => by simp [Kd.marks, Kd.leaves]
  | .to a b => by have := marks_lenK a; have := marks_lenK b; simp only [Kd.marks, Kd.leaves, List.length_append]; omega
  | .both a b => by have := marks_lenK a; have := marks_lenK b; simp only [Kd.marks, Kd.leaves, List.length_append]; omega
theorem flat_marks : ∀ S : List Kd, (S.flatMap Kd.marks).length ≤ lvs S
  | [] => by simp [lvs]
  | k :: S => by
    have h1 := marks_lenK k
    have h2 := flat_marks S
    simp only [lvs, List.flatMap_cons, List.length_append, List.map_cons, List.sum_cons] at *
    omega
theorem un_of {S0 : List Kd} {k : Kd} (hk : LK (S0 ++ [k])) (hl : lvs S0 + k.leaves ≤ 18) : Un (uOf S0 k) S0 (tsOf S0 k) := by
  have hlv : lvs (S0 ++ [k]) ≤ 18 := by rw [lvs_app]; simp [lvs] at *; omega
  have h24 : ∀ x ∈ uOf S0 k, ∃ y ∈ S0 ++ [k], x ∈ subK y := fun x hx => by
    obtain ⟨y, hy, hx⟩ := List.mem_flatMap.mp hx
    exact ⟨y, hy, hx⟩
  have hle : ∀ y ∈ S0 ++ [k], y.leaves ≤ 18 := fun y hy => by
    have : y.leaves ≤ lvs (S0 ++ [k]) := mem_sum hy
    omega
  have hul : (uOf S0 k).length + (S0 ++ [k]).length = 2 * lvs (S0 ++ [k]) := flat_subK _
  have hkl := subK_self k
  refine ⟨fun x hx => ?_, by omega, ?_, fun x hx => ?_, fun x hx r hr => ?_, ?_, fun x hx => ?_, (S0 ++ [k]).flatMap Kd.marks, ?_, fun m hm => ?_⟩
  · obtain ⟨y, hy, hx⟩ := h24 x hx
    obtain ⟨_, h2, h3⟩ := subK_in y x hx
    exact ⟨fun m hm => (hk y hy).1 m (h3 m hm), by have := (hk y hy).2; omega⟩
  · have h1 := lvs_le (v := 18) (L := uOf S0 k) fun x hx => by
      obtain ⟨y, hy, hx⟩ := h24 x hx
      have := (subK_in y x hx).1
      have := hle y hy
      omega
    have h2 : (uOf S0 k).length * 18 ≤ 36 * 18 := Nat.mul_le_mul_right _ (by omega)
    omega
  · rcases List.mem_append.mp hx with hx | hx
    · exact List.mem_flatMap.mpr ⟨x, List.mem_append_left _ hx, subK_self x⟩
    · obtain ⟨r, hr, hx⟩ := List.mem_flatten.mp hx
      rcases List.mem_append.mp hr with hr | hr
      · obtain ⟨y, hy, hr⟩ := List.mem_flatMap.mp hr
        exact List.mem_flatMap.mpr ⟨y, List.mem_append_left _ hy, (tyR_mem y r hr x hx).1⟩
      · rcases tyI_mem [] k r hr x hx with h | h
        · cases h
        · exact List.mem_flatMap.mpr ⟨k, by simp, h.1⟩
  · rcases List.mem_append.mp hx with hx | hx
    · exact List.mem_append_left _ (List.mem_flatMap.mpr ⟨x, hx, hr⟩)
    · obtain ⟨r', hr', hx⟩ := List.mem_flatten.mp hx
      rcases List.mem_append.mp hr' with hr' | hr'
      · obtain ⟨y, hy, hr'⟩ := List.mem_flatMap.mp hr'
        exact List.mem_append_left _ (List.mem_flatMap.mpr ⟨y, hy, (tyR_mem y r' hr' x hx).2 r hr⟩)
      · rcases tyI_mem [] k r' hr' x hx with h | h
        · cases h
        · exact List.mem_append_right _ (h.2 r hr)
  · have h1 := flat_tyR S0
    have h2 := tyI_len [] k
    unfold tsOf
    rw [List.length_append]
    omega
  · obtain ⟨y, hy, hx⟩ := h24 x hx
    have := (subK_in y x hx).1
    have := hle y hy
    omega
  · have := flat_marks (S0 ++ [k])
    omega
  · obtain ⟨e, he, rfl⟩ := List.mem_map.mp hm
    obtain ⟨x, hx, he⟩ := List.mem_flatMap.mp he
    obtain ⟨y, hy, hx⟩ := h24 x hx
    exact List.mem_flatMap.mpr ⟨y, hy, (subK_in y x hx).2.2 _ (ends_in x e he).2.2.2⟩
/-- the tree's own types -/
theorem clT_own (S : List Kd) : ClT (S.flatMap tyR) S := fun k hk r hr => List.mem_flatMap.mpr ⟨k, hk, hr⟩
theorem tyR_ways : ∀ k : Kd, 2 * (tyR k).length + (ends k).length ≤ k.leaves
  | .mk _ => by simp [tyR, ends, Kd.leaves]
  | .one => by simp [tyR, ends, Kd.leaves]
  | .both a b => by
    have := tyR_ways a; have := tyR_ways b
    simp only [tyR, ends, Kd.leaves, List.length_append]; omega
  | .to a b => by
    have := tyI_len [] a; have := tyR_ways b
    simp only [tyR, ends, Kd.leaves, List.length_append, List.length_map]; omega
theorem flat_ways : ∀ S : List Kd, 2 * (S.flatMap tyR).length + (S.flatMap ends).length ≤ lvs S
  | [] => by simp [lvs]
  | k :: S => by
    have h1 := tyR_ways k
    have h2 := flat_ways S
    simp only [lvs, List.flatMap_cons, List.length_append, List.map_cons, List.sum_cons] at *
    omega
/-- at most so many worlds -/
theorem worlds_le {S : List Kd} {n r : Nat} (hl : lvs S ≤ 11) (hr : r ≤ (S.flatMap tyR).length) (h1 : n ≤ Wn r) (h2 : n ≤ 1 + (S.flatMap ends).length * Wn (r - 1)) : n ≤ 66 := by
  have h3 := flat_ways S
  by_cases c : r ≤ 4
  · have := Wn_mono c
    have e : Wn 4 = 65 := by decide
    omega
  · have hr5 : r = 5 := by omega
    subst hr5
    have e : Wn (5 - 1) = 65 := by decide
    rw [e] at h2
    have : (S.flatMap ends).length * 65 ≤ 1 * 65 := Nat.mul_le_mul_right _ (by omega)
    omega
theorem mkS_in {S0 : List Kd} {k : Kd} : ∀ m ∈ mkS (uOf S0 k), m ∈ (S0 ++ [k]).flatMap Kd.marks := fun m hm => by
  obtain ⟨e, he, rfl⟩ := List.mem_map.mp hm
  obtain ⟨x, hx, he⟩ := List.mem_flatMap.mp he
  obtain ⟨y, hy, hx⟩ := List.mem_flatMap.mp hx
  exact List.mem_flatMap.mpr ⟨y, hy, (subK_in y x hx).2.2 _ (ends_in x e he).2.2.2⟩
/-! ### a tree that bars -/
def BarsT (S0 : List Kd) (k : Kd) (st : ST) : Prop := GoodS st ∧ (∀ u ∈ sbs st, Up u.ms ∧ u.ms.length ≤ 12 ∧ ∀ m ∈ u.ms, isMarkB m = true) ∧ (stT st).dep ≤ 10 ∧ (sbs st).length ≤ 66 ∧ ∃ t ∈ ends k, SameK st.S (S0 ++ t.1) ∧ ¬ Had (S0 ++ t.1) t.2
theorem BarsT.no {S0 : List Kd} {k : Kd} {st : ST} (h : BarsT S0 k st) : ¬ HadK S0 k := fun q => by
  obtain ⟨_, _, _, _, t, ht, _, hn⟩ := h
  exact hn (q t ht)
theorem BarsT.bars {S0 : List Kd} {k : Kd} {st : ST} (h : BarsT S0 k st) : (∀ x ∈ S0, forces x (stT st) = true) ∧ forces k (stT st) = false := by
  obtain ⟨h1, _, _, _, t, ht, hs, hn⟩ := h
  exact good_bars h1 ht hs hn
theorem BarsT.ws {S0 : List Kd} {k : Kd} {st : ST} (h : BarsT S0 k st) : ∀ s ∈ subs (stT st), Up s.ms ∧ s.ms.length ≤ 12 ∧ ∀ m ∈ s.ms, isMarkB m = true := fun s hs => by
  rw [subs_stT] at hs
  obtain ⟨u, hu, rfl⟩ := List.mem_map.mp hs
  rw [stT_ms]
  exact h.2.1 u hu
theorem BarsT.len {S0 : List Kd} {k : Kd} {st : ST} (h : BarsT S0 k st) : (subs (stT st)).length ≤ 66 := by
  rw [subs_stT, List.length_map]; exact h.2.2.2.1
/-! ### what can be had, moved over -/
theorem hadK_to (S : List Kd) (a b : Kd) : HadK S (.to a b) ↔ HadK (S ++ [a]) b := by
  unfold HadK
  rw [ends]
  constructor
  · intro h t ht
    have := h (a :: t.1, t.2) (List.mem_map.mpr ⟨t, ht, rfl⟩)
    rw [List.append_assoc]; exact this
  · intro h t ht
    obtain ⟨e, he, rfl⟩ := List.mem_map.mp ht
    have := h e he
    rw [List.append_assoc] at this; exact this
theorem hadK_both (S : List Kd) (a b : Kd) : HadK S (.both a b) ↔ HadK S a ∧ HadK S b := by
  unfold HadK
  rw [ends]
  exact ⟨fun h => ⟨fun t ht => h t (List.mem_append_left _ ht), fun t ht => h t (List.mem_append_right _ ht)⟩, fun h t ht => (List.mem_append.mp ht).elim (h.1 t) (h.2 t)⟩
theorem hadK_one (S : List Kd) : HadK S .one := fun t ht => by rw [ends] at ht; cases ht
theorem hadK_mem : ∀ (n : Nat) (k : Kd), ksz k ≤ n → ∀ S : List Kd, k ∈ S → HadK S k
  | 0, k, h, _, _ => by cases k <;> simp [ksz] at h
  | n + 1, k, h, S, hk => fun t ht => Had.mk (e := t) (List.mem_append_left _ hk) ht fun a ha => hadK_mem n a (by have := ends_ksz k t ht a ha; omega) (S ++ t.1) (List.mem_append_right _ ha)
theorem hadK_there {S : List Kd} {k : Kd} (h : k ∈ S) : HadK S k := hadK_mem _ k (Nat.le_refl _) S h
noncomputable def hadB (S : List Kd) (k : Kd) : Bool := @decide (HadK S k) (Classical.propDecidable _)
theorem hadB_iff {S : List Kd} {k : Kd} : hadB S k = true ↔ HadK S k := @decide_eq_true_iff _ (Classical.propDecidable _)
end Kf
namespace Kf
open PySem PySem.Spec L2
open PyProof.Rows hiding St
local macro_rules | `(tactic| walk_at "kf") => `(tactic| simp (config := { failIfUnchanged := false }) only [startD, ap_fiEnumT, asT1_t, ap_fKGet, asStr_s, ap_fKIn, ap_fKIx, ap_gAsgL, rUnl_l, ap_fiRng3, asR3_i, rSplitO_s, ap_fOrL, rOrL_l, ap_fLcK, ap_gForK, ap_fMaxD, rMaxD_l, rMaxL_l, ap_fCallXD, ap_gForE, asLE_l, ap_fFrz, ap_fDicO, ap_fDGet, ap_fDGet1, ap_fDGet2, ap_gDPut, ap_fIsiT, ap_gForR, rRep_l, isT_i, isT_s, isT_b, isT_n, isT_t, isT_l, ap_gSeq, ap_gIf, ap_gRet, ap_gNext, ap_gSet, ap_gAsg, ap_gPar, ap_gDrop, ap_gRetF, ap_gRetN, ap_gFor, ap_gSetIx, ap_gBreak, ap_fRev, ap_fiRevR, asIR_i, rRev_l, ap_fCallX, ap_gRaise, ap_gTry, ap_gTryAs, ap_gNever, ap_fEdic, ap_fTest, ap_fOp, ap_fVar, envGet_s, patGet_s, ap_fC, ap_fCB, ap_fCons, ap_fNil, ap_fCall, ap_fAnd, ap_fOr, ap_fNot, ap_fAndV, ap_fOrV, ap_fNotV, ap_fIf, ap_fTup, ap_fLst, ap_fLstO, ap_fChain, ap_fUn, ap_fBM, ap_fBM0, ap_fPool, rPool_i, ap_fSl, ap_fPart, ap_fNoPart, asI_i, rSl_l, ap_fiRng1, ap_fiRng2, ap_fiList, ap_fiTup, ap_fiStr, ap_fiEnum, ap_fiZip, ap_fiRev, asL_l, asT_t, asSg_s, asR1_i, asR2_i, asL1_l, asL2_l, ap_fLc, ap_fLcO, ap_fYes, wipeD, lcD, isi_i_int, isi_i_bool, isi_i_str, isi_i_tuple, isi_i_list, isi_i_dict, isi_b_int, isi_b_bool, isi_b_str, isi_b_tuple, isi_b_list, isi_b_dict, isi_s_int, isi_s_bool, isi_s_str, isi_s_tuple, isi_s_list, isi_s_dict, isi_t_int, isi_t_bool, isi_t_str, isi_t_tuple, isi_t_list, isi_t_dict, isi_l_int, isi_l_bool, isi_l_str, isi_l_tuple, isi_l_list, isi_l_dict, isi_n_int, isi_n_bool, isi_n_str, isi_n_tuple, isi_n_list, isi_n_dict, isi_d_int, isi_d_bool, isi_d_str, isi_d_tuple, isi_d_list, isi_d_dict,
  deref_tup, deref_lst, deref_int, deref_str, deref_bl, deref_non, deref_scr, rLt_i, rLt_s, rLe_i, rLe_s, rInts_i, rInts0_i, rAdd_i, rAdd_s, rAdd_l, rAdd_t, rCatO_l, rNeg_i, rLen_t, rLen_l, rLen_c, rLen_s, rMax_i, rMin_i, rInt_i, rInt_b, rDivmod_i, ap_gAug, rStr_i, rList_l, rList_t, rListO_l, rListO_t, rTup_l, rTup_t,
  rIx_t0, rIx_t1, rIx_t2, rIx_t3, rIx_l0, rIx_l1, rIx_l2, rIsN_x, isNon_t, isNon_n, isNon_i, isNon_s, isNon_l, rEq_i, rEq_b, rEq_i2, rEq_b2, rJoin_m, rSplit_s, tyOk_l, tyOk_s, patD_nm, patD_tp, patDs_nil, patDs_cons, Option.bind_some, notX, notX',
  List.map_cons, List.map_nil, List.length_cons, List.length_nil, List.cons_append, List.nil_append, List.append_nil, List.replicate, List.getElem?_cons_zero, List.getElem?_cons_succ, List.set_cons_zero, List.set_cons_succ, updO_same, updO_updO,
  Nat.reduceSub, Nat.reduceAdd, Nat.reduceLeDiff, Nat.zero_add, Int.cast_ofNat_Int, Int.natCast_zero, Int.natCast_one, Int.reduceLT, Int.reduceLE, Int.reduceEq, Int.reduceAdd, Int.reduceSub, Int.reduceNeg, decide_true, decide_false, if_true, if_false, Bool.false_eq_true, eq_self, reduceIte, Bool.true_eq_false, decide_eq_true_eq, Bool.not_true, Bool.not_false, Bool.not_eq_true', decide_eq_false_iff_not, exists_eq_left', exists_eq_left, D.bl.injEq, true_and, and_true, not_true_eq_false, not_false_eq_true])
local macro_rules | `(tactic| walk_at "len") => `(tactic| (intro ds O R RE h; first | (obtain ⟨e, _⟩ := h; subst e; rfl) | (obtain ⟨_, e, _⟩ := h; subst e; rfl) | (obtain ⟨_, _, e, _⟩ := h; subst e; rfl) | (obtain ⟨_, _, _, e, _⟩ := h; subst e; rfl) | (obtain ⟨_, _, _, _, e, _⟩ := h; subst e; rfl) | (obtain ⟨_, _, _, _, _, e, _⟩ := h; subst e; rfl) | (obtain ⟨_, _, _, _, _, _, e, _⟩ := h; subst e; rfl) | (obtain ⟨_, _, _, _, _, _, _, e, _⟩ := h; subst e; rfl) | (obtain ⟨_, _, _, _, _, _, _, _, e, _⟩ := h; subst e; rfl) | (obtain ⟨_, _, _, _, _, _, _, _, _, e, _⟩ := h; subst e; rfl)))
local macro_rules | `(tactic| walk_at "kf1") => `(tactic| simp (config := { failIfUnchanged := false }) only [startD, ap_fiEnumT, asT1_t, ap_fKGet, asStr_s, ap_fKIn, ap_fKIx, ap_gAsgL, rUnl_l, ap_fiRng3, asR3_i, rSplitO_s, ap_fOrL, rOrL_l, ap_fLcK, ap_gForK, ap_fMaxD, rMaxD_l, rMaxL_l, ap_fCallXD, ap_gForE, asLE_l, ap_fFrz, ap_fDicO, ap_fDGet, ap_fDGet1, ap_fDGet2, ap_gDPut, ap_fIsiT, ap_gForR, rRep_l, isT_i, isT_s, isT_b, isT_n, isT_t, isT_l, ap_gIf, ap_gRet, ap_gNext, ap_gSet, ap_gAsg, ap_gPar, ap_gDrop, ap_gRetF, ap_gRetN, ap_gFor, ap_gSetIx, ap_gBreak, ap_fRev, ap_fiRevR, asIR_i, rRev_l, ap_fCallX, ap_gRaise, ap_gTry, ap_gTryAs, ap_gNever, ap_fEdic, ap_fTest, ap_fOp, ap_fVar, envGet_s, patGet_s, ap_fC, ap_fCB, ap_fCons, ap_fNil, ap_fCall, ap_fAnd, ap_fOr, ap_fNot, ap_fAndV, ap_fOrV, ap_fNotV, ap_fIf, ap_fTup, ap_fLst, ap_fLstO, ap_fChain, ap_fUn, ap_fBM, ap_fBM0, ap_fPool, rPool_i, ap_fSl, ap_fPart, ap_fNoPart, asI_i, rSl_l, ap_fiRng1, ap_fiRng2, ap_fiList, ap_fiTup, ap_fiStr, ap_fiEnum, ap_fiZip, ap_fiRev, asL_l, asT_t, asSg_s, asR1_i, asR2_i, asL1_l, asL2_l, ap_fLc, ap_fLcO, ap_fYes, wipeD, lcD, isi_i_int, isi_i_bool, isi_i_str, isi_i_tuple, isi_i_list, isi_i_dict, isi_b_int, isi_b_bool, isi_b_str, isi_b_tuple, isi_b_list, isi_b_dict, isi_s_int, isi_s_bool, isi_s_str, isi_s_tuple, isi_s_list, isi_s_dict, isi_t_int, isi_t_bool, isi_t_str, isi_t_tuple, isi_t_list, isi_t_dict, isi_l_int, isi_l_bool, isi_l_str, isi_l_tuple, isi_l_list, isi_l_dict, isi_n_int, isi_n_bool, isi_n_str, isi_n_tuple, isi_n_list, isi_n_dict, isi_d_int, isi_d_bool, isi_d_str, isi_d_tuple, isi_d_list, isi_d_dict,
  deref_tup, deref_lst, deref_int, deref_str, deref_bl, deref_non, deref_scr, rLt_i, rLt_s, rLe_i, rLe_s, rInts_i, rInts0_i, rAdd_i, rAdd_s, rAdd_l, rAdd_t, rCatO_l, rNeg_i, rLen_t, rLen_l, rLen_c, rLen_s, rMax_i, rMin_i, rInt_i, rInt_b, rDivmod_i, ap_gAug, rStr_i, rList_l, rList_t, rListO_l, rListO_t, rTup_l, rTup_t,
  rIx_t0, rIx_t1, rIx_t2, rIx_t3, rIx_l0, rIx_l1, rIx_l2, rIsN_x, isNon_t, isNon_n, isNon_i, isNon_s, isNon_l, rEq_i, rEq_b, rEq_i2, rEq_b2, rJoin_m, rSplit_s, tyOk_l, tyOk_s, patD_nm, patD_tp, patDs_nil, patDs_cons, Option.bind_some, notX, notX',
  List.map_cons, List.map_nil, List.length_cons, List.length_nil, List.cons_append, List.nil_append, List.append_nil, List.replicate, List.getElem?_cons_zero, List.getElem?_cons_succ, List.set_cons_zero, List.set_cons_succ, updO_same, updO_updO,
  Nat.reduceSub, Nat.reduceAdd, Nat.reduceLeDiff, Nat.zero_add, Int.cast_ofNat_Int, Int.natCast_zero, Int.natCast_one, Int.reduceLT, Int.reduceLE, Int.reduceEq, Int.reduceAdd, Int.reduceSub, Int.reduceNeg, decide_true, decide_false, if_true, if_false, Bool.false_eq_true, eq_self, reduceIte, Bool.true_eq_false, decide_eq_true_eq, Bool.not_true, Bool.not_false, Bool.not_eq_true', decide_eq_false_iff_not, exists_eq_left', exists_eq_left, D.bl.injEq, true_and, and_true, not_true_eq_false, not_false_eq_true])
section
variable {P : Program} {w : World} {K : PySem.W.Frag} {mg : Str → Option Value} {base : Heap}
local macro_rules | `(tactic| walk_at "tg") => `(tactic| simp (config := { failIfUnchanged := false }) only [te_name_take, te_name_give, te_name_pair, te_name_first, te_name_second, te_name_to, te_name_both, te_name_one, te_name_mark, te_name_name, te_name_thing, te_name_at, te_thing_take, te_thing_give, te_thing_pair, te_thing_first, te_thing_second, te_thing_to, te_thing_both, te_thing_one, te_thing_mark, te_thing_name, te_thing_thing, te_thing_at, te_take_take, te_take_give, te_take_pair, te_take_first, te_take_second, te_take_to, te_take_both, te_take_one, te_take_mark, te_take_name, te_take_thing, te_take_at, te_give_take, te_give_give, te_give_pair, te_give_first, te_give_second, te_give_to, te_give_both, te_give_one, te_give_mark, te_give_name, te_give_thing, te_give_at, te_pair_take, te_pair_give, te_pair_pair, te_pair_first, te_pair_second, te_pair_to, te_pair_both, te_pair_one, te_pair_mark, te_pair_name, te_pair_thing, te_pair_at, te_first_take, te_first_give, te_first_pair, te_first_first, te_first_second, te_first_to, te_first_both, te_first_one, te_first_mark, te_first_name, te_first_thing, te_first_at, te_second_take, te_second_give, te_second_pair, te_second_first, te_second_second, te_second_to, te_second_both, te_second_one, te_second_mark, te_second_name, te_second_thing, te_second_at, te_mark_take, te_mark_give, te_mark_pair, te_mark_first, te_mark_second, te_mark_to, te_mark_both, te_mark_one, te_mark_mark, te_mark_name, te_mark_thing, te_mark_at, te_one_take, te_one_give, te_one_pair, te_one_first, te_one_second, te_one_to, te_one_both, te_one_one, te_one_mark, te_one_name, te_one_thing, te_one_at, te_to_take, te_to_give, te_to_pair, te_to_first, te_to_second, te_to_to, te_to_both, te_to_one, te_to_mark, te_to_name, te_to_thing, te_to_at, te_both_take, te_both_give, te_both_pair, te_both_first, te_both_second, te_both_to, te_both_both, te_both_one, te_both_mark, te_both_name, te_both_thing, te_both_at, te_at_take, te_at_give, te_at_pair, te_at_first, te_at_second, te_at_to, te_at_both, te_at_one, te_at_mark, te_at_name, te_at_thing, te_at_at, ti4_name, ti4_thing, ti4_take, ti4_give, ti4_pair, ti4_first, ti4_second, ti2_name, ti2_thing, ti2_take, ti2_give, ti2_pair, ti2_first, ti2_second, szT_0, szT_1, szT_2, szT_3, szT_4, szT_5, szT_6, szT_7, szT_8, szT_9, szT_10, szT_11, szT_12, Bool.not_true, Bool.not_false, true_and])
theorem ok_pool {a : Addr} {fd : FuncData} {k : Nat} (N : Fn K mg "_law_pool" s__law_pool P__law_pool a fd) (m_len : mg "len" = none) : FnOk P w K mg base CX0 (k + 1) a fd P__law_pool (liftSp K spPool) := by
  refine fn_d (g := g__law_pool) N.F sc__law_pool (fun ds O R RE ⟨ns, k, e, _⟩ => by rw [e]; rfl) (der__law_pool m_len) ?_
  rintro ds O R RE ⟨ns, k, rfl, h0, h1, hR⟩
  unfold g__law_pool
  walk_at "kf"
  have c1 : CMul 104729 k := Or.inl ⟨by decide, by decide⟩
  have c2 : CMul (104729 * k) k := Or.inr ⟨by omega, by omega⟩
  have c3 : CPow 10 18 := ⟨by decide, by decide, by decide⟩
  have e18 : (10 : Int) ^ Int.toNat 18 = 1000000000000000000 := by decide
  split
  · obtain ⟨n, e1, _⟩ := atI_some (xs := ns) h0 (by assumption)
    simp only [rIx_c e1]
    walk_at "kf"
    refine ⟨c1, c2, poolNum n h0 h1, c3, ?_⟩
    rw [e18]
    split
    · exact ⟨(poolMod _).1, (poolMod _).2, hR⟩
    · exact ⟨by omega, (poolMod _).1, (poolMod _).2, hR⟩
  · refine ⟨c1, c2, poolNum 0 h0 h1, c3, (poolMod _).1, (poolMod _).2, hR⟩
theorem ok_take {a : Addr} {fd : FuncData} {k : Nat} (N : Fn K mg "_law_take" s__law_take P__law_take a fd) : FnOk P w K mg base CX0 (k + 1) a fd P__law_take (liftSp K spTake) := by
  refine fn_d (g := g__law_take) N.F sc__law_take (fun ds O R RE ⟨ns, k, e, _⟩ => by rw [e]; rfl) der__law_take ?_
  rintro ds O R RE ⟨p, m, rfl, hp, h0, h1, hR⟩
  unfold g__law_take
  walk_at "kf"
  simp only [rIx_p0 hp, rIx_p1 hp]
  intro x hx
  walk_at "kf"
  split
  · simp only [rIx_p0 hp]
    intro y hy
    walk_at "kf"
    refine ⟨h0, ?_⟩
    simp only [rIx_p0 hp]
    intro z hz
    walk_at "kf"
    refine ⟨⟨h0, h1⟩, ?_⟩
    simp only [rSet_p0 hp]
    exact ⟨Int.ediv_nonneg hz (by omega), hR _ (Int.emod_nonneg _ (by omega)) (Int.emod_lt_of_pos _ h0)⟩
  · simp only [rIx_p1 hp]
    intro y hy hy2
    walk_at "kf"
    refine ⟨Or.inr ⟨by decide, by decide⟩, ?_⟩
    simp only [rSet_p1 hp]
    refine ⟨poolMod _, ?_⟩
    walk_at "kf"
    simp only [rIx_p1 hp]
    intro z hz hz2
    intro u hu hu2
    walk_at "kf"
    exact ⟨Or.inl ⟨by omega, by omega⟩, ⟨by decide, by decide⟩, h0, hR _ (Int.emod_nonneg _ (by omega)) (Int.emod_lt_of_pos _ h0)⟩
theorem ok_is_mark {a : Addr} {fd : FuncData} {k : Nat} (N : Fn K mg "is_mark" s_is_mark P_is_mark a fd) (m_len : mg "len" = none) (c1 : Cst K mg "LETTERS" (.str abc)) (c2 : Cst K mg "LONGEST" (.int 6)) : FnOk P w K mg base CX0 (k + 1) a fd P_is_mark (liftSp K spIsMark) := by
  refine fn_d (g := g_is_mark (.str abc) (.int 6)) N.F sc_is_mark (fun ds O R RE ⟨z, e, _⟩ => by rw [e]; rfl) (der_is_mark m_len c1 c2) ?_
  rintro ds O R RE ⟨z, rfl, hz, hR⟩
  unfold g_is_mark
  simp only [gSeq, gFor]
  walk_at "kf"
  refine for_in (j := 1) (ρ := [some (.str z), none]) (by simp) z.cps.toList none (fun h x => ?_) (fun h => ?_)
  · walk_at "kf"
    refine ⟨sz_small (by omega), ?_⟩
    unfold isMarkB at hR
    rw [show z.cps.toList.all letB = true from h, Bool.true_and] at hR
    by_cases c : (1 : Int) ≤ z.length
    · have c' : 1 ≤ z.length := by omega
      simp only [c, c', decide_true, Bool.true_and, if_true] at hR ⊢
      have e : decide ((z.length : Int) ≤ 6) = decide (z.length ≤ 6) := by
        by_cases q : z.length ≤ 6
        · rw [decide_eq_true q, decide_eq_true (by omega)]
        · rw [decide_eq_false q, decide_eq_false (by omega)]
      rw [e]; exact hR
    · have c' : ¬ 1 ≤ z.length := by omega
      simp only [c, c', decide_false, Bool.false_and] at hR ⊢
      exact hR
  · unfold isMarkB at hR
    rw [show z.cps.toList.all letB = false from h, Bool.false_and] at hR
    exact hR
/-- the law's own kinds: four words -/
def spLKind (n : Nat) : DSp := fun ds O R _ => ∃ (p : Addr) (l : Nat) (ms : List Str), ds = [.ref p, .int l, .lst (ms.map .str)] ∧ O p = some .pool ∧ 1 ≤ l ∧ l ≤ n ∧ l ≤ 1000 ∧ 1 ≤ ms.length ∧ ms.length ≤ 1000 ∧ ∀ k : Kd, k.leaves = l → k.over ms → R (dK k) O
theorem ok_lkind (T : Tx K mg) : ∀ n, FO__law_kind P w base T (n + 1) (spLKind n)
  | 0 => fnUp (none_left fun ds O R RE ⟨p, l, ms, _, _, h1, h2, _⟩ => by omega) (Nat.zero_le _)
  | n + 1 => by
    refine fnd__law_kind T (ok_take T.n__law_take) (ok_lkind T n) (by walk_at "len") ?_
    rintro ds O R RE ⟨p, l, ms, rfl, hp, h1, hn, h1000, hm1, hm2, hR⟩
    unfold g__law_kind
    walk_at "kf"
    by_cases hl : l = 1
    · subst hl
      walk_at "kf"
      refine take_of hp (by decide) (by decide) fun r hr0 hr1 => ?_
      walk_at "kf"
      split
      · exact ⟨sz_small (by decide), hR .one rfl trivial⟩
      · rw [List.length_map]
        refine take_of hp (by omega) (by omega) fun r hr0 hr1 => ?_
        obtain ⟨v, e1, e2⟩ := atI_some (xs := ms) hr0 hr1
        rw [rIx_l (by rw [atI_map, e1]; rfl)]
        exact ⟨sz_small (by decide), hR (.mk v) rfl e2⟩
    · rw [if_neg (by omega)]
      refine take_of hp (by omega) (by omega) fun r hr0 hr1 => ?_
      walk_at "kf"
      obtain ⟨f, hf⟩ : ∃ f : Nat, 1 + r = (f : Int) := ⟨(1 + r).toNat, by omega⟩
      rw [hf]
      refine ⟨p, f, ms, rfl, hp, by omega, by omega, by omega, hm1, hm2, fun k1 hk1 ho1 => ?_⟩
      walk_at "kf"
      rw [show (l : Int) - (f : Int) = ((l - f : Nat) : Int) by omega]
      refine ⟨p, l - f, ms, rfl, hp, by omega, by omega, by omega, hm1, hm2, fun k2 hk2 ho2 => ?_⟩
      walk_at "kf"
      refine ⟨sz_small (by decide), ?_⟩
      refine take_of hp (by decide) (by decide) fun r hr0 hr1 => ?_
      have h4 : r = 0 ∨ r = 1 ∨ r = 2 ∨ r = 3 := by omega
      have hto : R (dK (.to k1 k2)) O := hR _ (by simp only [Kd.leaves]; omega) ⟨ho1, ho2⟩
      have hbo : R (dK (.both k1 k2)) O := hR _ (by simp only [Kd.leaves]; omega) ⟨ho1, ho2⟩
      rcases h4 with rfl | rfl | rfl | rfl <;> walk_at "kf" <;> (try rw [rIx_l (ixC3 _ _ _ _ _)]) <;> first | exact ⟨sz_small (by decide), hto⟩ | exact ⟨sz_small (by decide), hbo⟩
theorem ok_ends (T : Tx K mg) : ∀ n, FO_ends_of P w base T n (spEnds n)
  | 0 => none_left fun ds O R RE ⟨k, _, h, _⟩ => by omega
  | n + 1 => by
    refine fnd_ends_of T (ok_ends T n) (by walk_at "len") ?_
    rintro ds O R RE ⟨k, rfl, hd, h190, hok, hl, hR⟩
    unfold g_ends_of
    walk_at "kf"
    rw [show (D.tup [.str "one"]) = dK .one from rfl, rEq_K (a := k) (b := .one) hok rfl h190]
    cases k with
    | one =>
      walk_at "kf"
      exact ⟨sz_small (by decide), hR⟩
    | mk m =>
      simp only [reduceCtorEq, decide_false, dK]
      walk_at "kf"
      rw [rEq_s so_mark so_mark]
      walk_at "kf"
      exact ⟨sz_small (by decide), sz_small (by decide), sz_small (by decide), hR⟩
    | both a b =>
      simp only [reduceCtorEq, decide_false, dK]
      simp only [Kd.depth, Kd.leaves] at hd h190 hl
      simp only [Kd.ok, Bool.and_eq_true] at hok
      have ha := ends_len a
      have hb := ends_len b
      walk_at "kf"
      rw [rEq_s so_both so_mark, sd_bm]
      walk_at "kf"
      rw [rEq_s so_both so_both]
      walk_at "kf"
      refine ⟨a, rfl, by omega, by omega, hok.1, by omega, ?_⟩
      refine ⟨b, rfl, by omega, by omega, hok.2, by omega, ?_⟩
      walk_at "kf"
      refine ⟨sz_small (by simp only [List.length_map]; omega), ?_⟩
      rw [← List.map_append]
      exact hR
    | to a b =>
      simp only [reduceCtorEq, decide_false, dK]
      simp only [Kd.depth, Kd.leaves] at hd h190 hl
      simp only [Kd.ok, Bool.and_eq_true] at hok
      have hb := ends_len b
      walk_at "kf"
      rw [rEq_s so_to so_mark, sd_tm]
      walk_at "kf"
      rw [rEq_s so_to so_both, sd_tb]
      walk_at "kf"
      refine ⟨b, rfl, by omega, by omega, hok.2, by omega, ?_⟩
      walk_at "kf"
      refine lcA_map dEnd (fun e => dEnd (a :: e.1, e.2)) (ends b) _ _ (sz_small (by simp only [List.length_nil]; omega)) ?_ ?_
      · intro e he Q' hQ
        obtain ⟨h1, h2, h3, h4⟩ := ends_in b e he
        have h5 : e.1.length ≤ (e.1.map Kd.leaves).sum := len_sum e.1
        simp only [dEnd] at hQ ⊢
        walk_at "kf"
        refine ⟨sz_small (by decide), ?_⟩
        refine ⟨sz_small (by simp only [List.length_map, List.length_cons, List.length_nil]; omega), sz_small (by decide), ?_⟩
        exact hQ
      · rw [List.nil_append]
        have e : (ends b).map (fun e => dEnd (a :: e.1, e.2)) = (ends (.to a b)).map dEnd := by rw [ends, List.map_map]; rfl
        rw [e]
        exact hR
def dWy (w : List Mv × Str) : D := .tup [.lst (w.1.map dMv), .str w.2]
theorem wys_len : ∀ k : Kd, (wys k).length ≤ k.leaves
  | .one => Nat.zero_le _
  | .mk _ => Nat.le_refl _
  | .to a b => by have := wys_len b; simp only [wys, List.length_map, Kd.leaves]; omega
  | .both a b => by have := wys_len a; have := wys_len b; simp only [wys, List.length_append, List.length_map, Kd.leaves]; omega
theorem wys_mvl : ∀ (k : Kd), ∀ w ∈ wys k, w.1.length ≤ k.depth
  | .one, w, h => by cases h
  | .mk m, w, h => by simp only [wys, List.mem_singleton] at h; subst h; exact Nat.zero_le _
  | .to a b, w, h => by
    simp only [wys, List.mem_map] at h
    obtain ⟨w', h1, rfl⟩ := h
    have := wys_mvl b w' h1
    simp only [List.length_cons, Kd.depth]; omega
  | .both a b, w, h => by
    simp only [wys, List.mem_append, List.mem_map] at h
    rcases h with ⟨w', h1, rfl⟩ | ⟨w', h1, rfl⟩
    · have := wys_mvl a w' h1
      simp only [List.length_cons, Kd.depth]; omega
    · have := wys_mvl b w' h1
      simp only [List.length_cons, Kd.depth]; omega
def spWys (n : Nat) : DSp := fun ds O R _ => ∃ k : Kd, ds = [dK k] ∧ k.depth < n ∧ k.depth ≤ 100 ∧ k.leaves ≤ 200 ∧ k.ok = true ∧ R (.lst ((wys k).map dWy)) O
theorem ok_ways (T : Tx K mg) : ∀ n, FO_ways_of P w base T (n + 1) (spWys n)
  | 0 => fnUp (none_left fun ds O R RE ⟨k, _, h, _⟩ => by omega) (Nat.zero_le _)
  | n + 1 => by
    refine fnd_ways_of T (ok_ways T n) (by walk_at "len") ?_
    rintro ds O R RE ⟨k, rfl, hd, h100, hl, ho, hR⟩
    unfold g_ways_of
    have hone : ∀ Q : VD, rEqD false (dK k) (.tup [.str (Str.ofString "one")]) O Q = Q (.bl (decide (k = .one))) O := fun Q => by
      rw [show D.tup [.str (Str.ofString "one")] = dK .one from rfl, rEq_K ho rfl (by omega), Bool.false_xor]
    cases k with
    | one =>
      refine gSeq_step ?_
      walk_at "kf1"
      rw [hone]
      simp only [decide_true]
      walk_at "kf1"
      exact ⟨sz_small (by decide), hR⟩
    | mk m =>
      refine gSeq_step ?_
      walk_at "kf1"
      rw [hone]
      simp only [show ¬ Kd.mk m = Kd.one from (fun e => nomatch e), decide_false]
      walk_at "kf1"
      simp only [dK]
      walk_at "kf"
      walk_at "tg"
      walk_at "kf"
      exact hR
    | to a b =>
      refine gSeq_step ?_
      walk_at "kf1"
      rw [hone]
      simp only [show ¬ Kd.to a b = Kd.one from (fun e => nomatch e), decide_false]
      walk_at "kf1"
      simp only [Kd.depth] at hd h100
      simp only [Kd.leaves] at hl
      simp only [Kd.ok, Bool.and_eq_true] at ho
      have hbl := wys_len b
      simp only [dK]
      walk_at "kf"
      walk_at "tg"
      walk_at "kf"
      walk_at "tg"
      walk_at "kf"
      refine ⟨b, rfl, by omega, by omega, by omega, ho.2, ?_⟩
      walk_at "kf"
      refine lcA_map dWy (fun e => dWy (Mv.k a :: e.1, e.2)) (wys b) _ _ (sz_small (by simp only [List.length_nil]; omega)) ?_ ?_
      · intro e he Q' hQ
        have := wys_mvl b e he
        simp only [dWy]
        walk_at "kf"
        exact ⟨sz_small (by decide), sz_small (by simp only [List.length_map, List.length_singleton]; omega), sz_small (by decide), hQ⟩
      · rw [List.nil_append]
        rw [wys, List.map_map] at hR
        exact hR
    | both a b =>
      refine gSeq_step ?_
      walk_at "kf1"
      rw [hone]
      simp only [show ¬ Kd.both a b = Kd.one from (fun e => nomatch e), decide_false]
      walk_at "kf1"
      simp only [Kd.depth] at hd h100
      simp only [Kd.leaves] at hl
      simp only [Kd.ok, Bool.and_eq_true] at ho
      have hal := wys_len a
      have hbl := wys_len b
      simp only [dK]
      walk_at "kf"
      walk_at "tg"
      walk_at "kf"
      walk_at "tg"
      walk_at "kf"
      refine ⟨a, rfl, by omega, by omega, by omega, ho.1, ?_⟩
      walk_at "kf"
      refine lcA_map dWy (fun e => dWy (Mv.one :: e.1, e.2)) (wys a) _ _ (sz_small (by simp only [List.length_nil]; omega)) ?_ ?_
      · intro e he Q' hQ
        have := wys_mvl a e he
        simp only [dWy]
        walk_at "kf"
        exact ⟨sz_small (by decide), sz_small (by simp only [List.length_map, List.length_singleton]; omega), sz_small (by decide), hQ⟩
      · rw [List.nil_append]
        walk_at "kf"
        refine ⟨b, rfl, by omega, by omega, by omega, ho.2, ?_⟩
        walk_at "kf"
        refine lcA_map dWy (fun e => dWy (Mv.two :: e.1, e.2)) (wys b) _ _ (sz_small (by simp only [List.length_nil]; omega)) ?_ ?_
        · intro e he Q' hQ
          have := wys_mvl b e he
          simp only [dWy]
          walk_at "kf"
          exact ⟨sz_small (by decide), sz_small (by simp only [List.length_map, List.length_singleton]; omega), sz_small (by decide), hQ⟩
        · rw [List.nil_append]
          walk_at "kf"
          rw [List.length_map, List.length_map]
          refine ⟨sz_small (by omega), ?_⟩
          rw [wys, List.map_append, List.map_map, List.map_map] at hR
          exact hR
def spShowK (n : Nat) : DSp := fun ds O R _ => ∃ k : Kd, ds = [dK k] ∧ k.depth < n ∧ k.depth ≤ 100 ∧ k.mks ∧ k.leaves ≤ 1000 ∧ R (.str (kshow k)) O
theorem ok_showK (T : Tx K mg) : ∀ n, FO_shown_kind P w base T (n + 1) (spShowK n)
  | 0 => none_left fun ds O R RE ⟨k, _, h, _⟩ => by omega
  | n + 1 => by
    refine fnd_shown_kind T (ok_showK T n) (by walk_at "len") ?_
    rintro ds O R RE ⟨k, rfl, hd, hd2, hm, hl, hR⟩
    unfold g_shown_kind
    have e1 : (Str.ofString "( ").length = 2 := by decide +kernel
    have e2 : (Str.ofString " ").length = 1 := by decide +kernel
    have e3 : (Str.ofString "->").length = 2 := by decide +kernel
    have e3' : (Str.ofString "*").length = 1 := by decide +kernel
    have e4 : (Str.ofString " )").length = 2 := by decide +kernel
    refine gSeq_step ?_
    walk_at "kf1"
    rw [show D.tup [.str (Str.ofString "one")] = dK .one from rfl, rEq_K (mks_ok k hm) rfl (by omega)]
    cases k with
    | mk m =>
      simp only [reduceCtorEq, decide_false, Bool.false_xor]
      simp only [dK, kshow] at hR ⊢; walk_at "kf"; walk_at "tg"; walk_at "kf"; exact hR
    | one =>
      simp only [decide_true, Bool.false_xor]
      walk_at "kf"; exact hR
    | to a b =>
      simp only [Kd.depth, Kd.leaves] at hd hl hd2
      have ma : a.mks := fun m h => hm m (by simp [Kd.marks, h])
      have mb : b.mks := fun m h => hm m (by simp [Kd.marks, h])
      have la := kshow_len a ma
      have lb := kshow_len b mb
      simp only [reduceCtorEq, decide_false, Bool.false_xor]
      simp only [dK, kshow] at hR ⊢
      walk_at "kf"
      walk_at "tg"
      walk_at "kf"
      walk_at "tg"
      walk_at "kf"
      refine ⟨a, rfl, by omega, by omega, ma, by omega, ?_⟩
      walk_at "kf"
      refine ⟨sz_21 (by omega), sz_21 (by simp only [len_app]; omega), sz_21 (by simp only [len_app]; omega), sz_21 (by simp only [len_app]; omega), ?_⟩
      refine ⟨b, rfl, by omega, by omega, mb, by omega, ?_⟩
      walk_at "kf"
      refine ⟨sz_21 (by simp only [len_app]; omega), sz_21 (by simp only [len_app]; omega), ?_⟩
      exact hR
    | both a b =>
      simp only [Kd.depth, Kd.leaves] at hd hl hd2
      have ma : a.mks := fun m h => hm m (by simp [Kd.marks, h])
      have mb : b.mks := fun m h => hm m (by simp [Kd.marks, h])
      have la := kshow_len a ma
      have lb := kshow_len b mb
      simp only [reduceCtorEq, decide_false, Bool.false_xor]
      simp only [dK, kshow] at hR ⊢
      walk_at "kf"
      walk_at "tg"
      walk_at "kf"
      walk_at "tg"
      walk_at "kf"
      refine ⟨a, rfl, by omega, by omega, ma, by omega, ?_⟩
      walk_at "kf"
      refine ⟨sz_21 (by omega), sz_21 (by simp only [len_app]; omega), sz_21 (by simp only [len_app]; omega), sz_21 (by simp only [len_app]; omega), ?_⟩
      refine ⟨b, rfl, by omega, by omega, mb, by omega, ?_⟩
      walk_at "kf"
      refine ⟨sz_21 (by simp only [len_app]; omega), sz_21 (by simp only [len_app]; omega), ?_⟩
      exact hR
end
end Kf
namespace Kf
open PySem PySem.Spec L2
open PyProof.Rows hiding St
local macro_rules | `(tactic| walk_at "kf") => `(tactic| simp (config := { failIfUnchanged := false }) only [startD, ap_fiEnumT, asT1_t, ap_fKGet, asStr_s, ap_fKIn, ap_fKIx, ap_gAsgL, rUnl_l, ap_fiRng3, asR3_i, rSplitO_s, ap_fOrL, rOrL_l, ap_fLcK, ap_gForK, ap_fMaxD, rMaxD_l, rMaxL_l, ap_fCallXD, ap_gForE, asLE_l, ap_fFrz, ap_fDicO, ap_fDGet, ap_fDGet1, ap_fDGet2, ap_gDPut, ap_fIsiT, ap_gForR, rRep_l, isT_i, isT_s, isT_b, isT_n, isT_t, isT_l, ap_gSeq, ap_gIf, ap_gRet, ap_gNext, ap_gSet, ap_gAsg, ap_gPar, ap_gDrop, ap_gRetF, ap_gRetN, ap_gFor, ap_gSetIx, ap_gBreak, ap_fRev, ap_fiRevR, asIR_i, rRev_l, ap_fCallX, ap_gRaise, ap_gTry, ap_gTryAs, ap_gNever, ap_fEdic, ap_fTest, ap_fOp, ap_fVar, envGet_s, patGet_s, ap_fC, ap_fCB, ap_fCons, ap_fNil, ap_fCall, ap_fAnd, ap_fOr, ap_fNot, ap_fAndV, ap_fOrV, ap_fNotV, ap_fIf, ap_fTup, ap_fLst, ap_fLstO, ap_fChain, ap_fUn, ap_fBM, ap_fBM0, ap_fPool, rPool_i, ap_fSl, ap_fPart, ap_fNoPart, asI_i, rSl_l, ap_fiRng1, ap_fiRng2, ap_fiList, ap_fiTup, ap_fiStr, ap_fiEnum, ap_fiZip, ap_fiRev, asL_l, asT_t, asSg_s, asR1_i, asR2_i, asL1_l, asL2_l, ap_fLc, ap_fLcO, ap_fYes, wipeD, lcD, isi_i_int, isi_i_bool, isi_i_str, isi_i_tuple, isi_i_list, isi_i_dict, isi_b_int, isi_b_bool, isi_b_str, isi_b_tuple, isi_b_list, isi_b_dict, isi_s_int, isi_s_bool, isi_s_str, isi_s_tuple, isi_s_list, isi_s_dict, isi_t_int, isi_t_bool, isi_t_str, isi_t_tuple, isi_t_list, isi_t_dict, isi_l_int, isi_l_bool, isi_l_str, isi_l_tuple, isi_l_list, isi_l_dict, isi_n_int, isi_n_bool, isi_n_str, isi_n_tuple, isi_n_list, isi_n_dict, isi_d_int, isi_d_bool, isi_d_str, isi_d_tuple, isi_d_list, isi_d_dict,
  deref_tup, deref_lst, deref_int, deref_str, deref_bl, deref_non, deref_scr, rLt_i, rLt_s, rLe_i, rLe_s, rInts_i, rInts0_i, rAdd_i, rAdd_s, rAdd_l, rAdd_t, rCatO_l, rNeg_i, rLen_t, rLen_l, rLen_c, rLen_s, rMax_i, rMin_i, rInt_i, rInt_b, rDivmod_i, ap_gAug, rStr_i, rList_l, rList_t, rListO_l, rListO_t, rTup_l, rTup_t,
  rIx_t0, rIx_t1, rIx_t2, rIx_t3, rIx_l0, rIx_l1, rIx_l2, rIsN_x, isNon_t, isNon_n, isNon_i, isNon_s, isNon_l, rEq_i, rEq_b, rEq_i2, rEq_b2, rJoin_m, rSplit_s, tyOk_l, tyOk_s, patD_nm, patD_tp, patDs_nil, patDs_cons, Option.bind_some, notX, notX',
  List.map_cons, List.map_nil, List.length_cons, List.length_nil, List.cons_append, List.nil_append, List.append_nil, List.replicate, List.getElem?_cons_zero, List.getElem?_cons_succ, List.set_cons_zero, List.set_cons_succ, updO_same, updO_updO,
  Nat.reduceSub, Nat.reduceAdd, Nat.reduceLeDiff, Nat.zero_add, Int.cast_ofNat_Int, Int.natCast_zero, Int.natCast_one, Int.reduceLT, Int.reduceLE, Int.reduceEq, Int.reduceAdd, Int.reduceSub, Int.reduceNeg, decide_true, decide_false, if_true, if_false, Bool.false_eq_true, eq_self, reduceIte, Bool.true_eq_false, decide_eq_true_eq, Bool.not_true, Bool.not_false, Bool.not_eq_true', decide_eq_false_iff_not, exists_eq_left', exists_eq_left, D.bl.injEq, true_and, and_true, not_true_eq_false, not_false_eq_true])
local macro_rules | `(tactic| walk_at "len") => `(tactic| (intro ds O R RE h; first | (obtain ⟨e, _⟩ := h; subst e; rfl) | (obtain ⟨_, e, _⟩ := h; subst e; rfl) | (obtain ⟨_, _, e, _⟩ := h; subst e; rfl) | (obtain ⟨_, _, _, e, _⟩ := h; subst e; rfl) | (obtain ⟨_, _, _, _, e, _⟩ := h; subst e; rfl) | (obtain ⟨_, _, _, _, _, e, _⟩ := h; subst e; rfl) | (obtain ⟨_, _, _, _, _, _, e, _⟩ := h; subst e; rfl) | (obtain ⟨_, _, _, _, _, _, _, e, _⟩ := h; subst e; rfl) | (obtain ⟨_, _, _, _, _, _, _, _, e, _⟩ := h; subst e; rfl) | (obtain ⟨_, _, _, _, _, _, _, _, _, e, _⟩ := h; subst e; rfl)))
local macro_rules | `(tactic| walk_at "kf1") => `(tactic| simp (config := { failIfUnchanged := false }) only [startD, ap_fiEnumT, asT1_t, ap_fKGet, asStr_s, ap_fKIn, ap_fKIx, ap_gAsgL, rUnl_l, ap_fiRng3, asR3_i, rSplitO_s, ap_fOrL, rOrL_l, ap_fLcK, ap_gForK, ap_fMaxD, rMaxD_l, rMaxL_l, ap_fCallXD, ap_gForE, asLE_l, ap_fFrz, ap_fDicO, ap_fDGet, ap_fDGet1, ap_fDGet2, ap_gDPut, ap_fIsiT, ap_gForR, rRep_l, isT_i, isT_s, isT_b, isT_n, isT_t, isT_l, ap_gIf, ap_gRet, ap_gNext, ap_gSet, ap_gAsg, ap_gPar, ap_gDrop, ap_gRetF, ap_gRetN, ap_gFor, ap_gSetIx, ap_gBreak, ap_fRev, ap_fiRevR, asIR_i, rRev_l, ap_fCallX, ap_gRaise, ap_gTry, ap_gTryAs, ap_gNever, ap_fEdic, ap_fTest, ap_fOp, ap_fVar, envGet_s, patGet_s, ap_fC, ap_fCB, ap_fCons, ap_fNil, ap_fCall, ap_fAnd, ap_fOr, ap_fNot, ap_fAndV, ap_fOrV, ap_fNotV, ap_fIf, ap_fTup, ap_fLst, ap_fLstO, ap_fChain, ap_fUn, ap_fBM, ap_fBM0, ap_fPool, rPool_i, ap_fSl, ap_fPart, ap_fNoPart, asI_i, rSl_l, ap_fiRng1, ap_fiRng2, ap_fiList, ap_fiTup, ap_fiStr, ap_fiEnum, ap_fiZip, ap_fiRev, asL_l, asT_t, asSg_s, asR1_i, asR2_i, asL1_l, asL2_l, ap_fLc, ap_fLcO, ap_fYes, wipeD, lcD, isi_i_int, isi_i_bool, isi_i_str, isi_i_tuple, isi_i_list, isi_i_dict, isi_b_int, isi_b_bool, isi_b_str, isi_b_tuple, isi_b_list, isi_b_dict, isi_s_int, isi_s_bool, isi_s_str, isi_s_tuple, isi_s_list, isi_s_dict, isi_t_int, isi_t_bool, isi_t_str, isi_t_tuple, isi_t_list, isi_t_dict, isi_l_int, isi_l_bool, isi_l_str, isi_l_tuple, isi_l_list, isi_l_dict, isi_n_int, isi_n_bool, isi_n_str, isi_n_tuple, isi_n_list, isi_n_dict, isi_d_int, isi_d_bool, isi_d_str, isi_d_tuple, isi_d_list, isi_d_dict,
  deref_tup, deref_lst, deref_int, deref_str, deref_bl, deref_non, deref_scr, rLt_i, rLt_s, rLe_i, rLe_s, rInts_i, rInts0_i, rAdd_i, rAdd_s, rAdd_l, rAdd_t, rCatO_l, rNeg_i, rLen_t, rLen_l, rLen_c, rLen_s, rMax_i, rMin_i, rInt_i, rInt_b, rDivmod_i, ap_gAug, rStr_i, rList_l, rList_t, rListO_l, rListO_t, rTup_l, rTup_t,
  rIx_t0, rIx_t1, rIx_t2, rIx_t3, rIx_l0, rIx_l1, rIx_l2, rIsN_x, isNon_t, isNon_n, isNon_i, isNon_s, isNon_l, rEq_i, rEq_b, rEq_i2, rEq_b2, rJoin_m, rSplit_s, tyOk_l, tyOk_s, patD_nm, patD_tp, patDs_nil, patDs_cons, Option.bind_some, notX, notX',
  List.map_cons, List.map_nil, List.length_cons, List.length_nil, List.cons_append, List.nil_append, List.append_nil, List.replicate, List.getElem?_cons_zero, List.getElem?_cons_succ, List.set_cons_zero, List.set_cons_succ, updO_same, updO_updO,
  Nat.reduceSub, Nat.reduceAdd, Nat.reduceLeDiff, Nat.zero_add, Int.cast_ofNat_Int, Int.natCast_zero, Int.natCast_one, Int.reduceLT, Int.reduceLE, Int.reduceEq, Int.reduceAdd, Int.reduceSub, Int.reduceNeg, decide_true, decide_false, if_true, if_false, Bool.false_eq_true, eq_self, reduceIte, Bool.true_eq_false, decide_eq_true_eq, Bool.not_true, Bool.not_false, Bool.not_eq_true', decide_eq_false_iff_not, exists_eq_left', exists_eq_left, D.bl.injEq, true_and, and_true, not_true_eq_false, not_false_eq_true])
section
variable {P : Program} {w : World} {K : PySem.W.Frag} {mg : Str → Option Value} {base : Heap}
local macro_rules | `(tactic| walk_at "tg") => `(tactic| simp (config := { failIfUnchanged := false }) only [te_name_take, te_name_give, te_name_pair, te_name_first, te_name_second, te_name_to, te_name_both, te_name_one, te_name_mark, te_name_name, te_name_thing, te_name_at, te_thing_take, te_thing_give, te_thing_pair, te_thing_first, te_thing_second, te_thing_to, te_thing_both, te_thing_one, te_thing_mark, te_thing_name, te_thing_thing, te_thing_at, te_take_take, te_take_give, te_take_pair, te_take_first, te_take_second, te_take_to, te_take_both, te_take_one, te_take_mark, te_take_name, te_take_thing, te_take_at, te_give_take, te_give_give, te_give_pair, te_give_first, te_give_second, te_give_to, te_give_both, te_give_one, te_give_mark, te_give_name, te_give_thing, te_give_at, te_pair_take, te_pair_give, te_pair_pair, te_pair_first, te_pair_second, te_pair_to, te_pair_both, te_pair_one, te_pair_mark, te_pair_name, te_pair_thing, te_pair_at, te_first_take, te_first_give, te_first_pair, te_first_first, te_first_second, te_first_to, te_first_both, te_first_one, te_first_mark, te_first_name, te_first_thing, te_first_at, te_second_take, te_second_give, te_second_pair, te_second_first, te_second_second, te_second_to, te_second_both, te_second_one, te_second_mark, te_second_name, te_second_thing, te_second_at, te_mark_take, te_mark_give, te_mark_pair, te_mark_first, te_mark_second, te_mark_to, te_mark_both, te_mark_one, te_mark_mark, te_mark_name, te_mark_thing, te_mark_at, te_one_take, te_one_give, te_one_pair, te_one_first, te_one_second, te_one_to, te_one_both, te_one_one, te_one_mark, te_one_name, te_one_thing, te_one_at, te_to_take, te_to_give, te_to_pair, te_to_first, te_to_second, te_to_to, te_to_both, te_to_one, te_to_mark, te_to_name, te_to_thing, te_to_at, te_both_take, te_both_give, te_both_pair, te_both_first, te_both_second, te_both_to, te_both_both, te_both_one, te_both_mark, te_both_name, te_both_thing, te_both_at, te_at_take, te_at_give, te_at_pair, te_at_first, te_at_second, te_at_to, te_at_both, te_at_one, te_at_mark, te_at_name, te_at_thing, te_at_at, ti4_name, ti4_thing, ti4_take, ti4_give, ti4_pair, ti4_first, ti4_second, ti2_name, ti2_thing, ti2_take, ti2_give, ti2_pair, ti2_first, ti2_second, szT_0, szT_1, szT_2, szT_3, szT_4, szT_5, szT_6, szT_7, szT_8, szT_9, szT_10, szT_11, szT_12, Bool.not_true, Bool.not_false, true_and])
local macro_rules | `(tactic| walk_at "kh") => `(tactic| (walk_at "kf1"; simp (config := { failIfUnchanged := false }) only [ap_fMeth, ap_fFld, ap_gFld, ap_fMake, ap_fUnK, ap_fDicT, ap_fMinLen]; walk_at "kf1"))
/-- texts of what is there, handed in -/
def TxD (T : D) (l : List Str) : Prop := un T = .tup (l.map .str)
theorem txD_k (l : List Str) : TxD (.tupK (tsK l)) l := by
  show tupD (tsK l) = _
  unfold tupD tsK
  rw [List.map_map]; rfl
theorem txD_nil : TxD (.tup []) [] := rfl
def spWithM (C : Addr) : DSp := fun ds O R _ => ∃ (s aK aF : Addr) (U S0 : List Kd) (Ts : List (List Kd)) (kk : List (Key × D)) (kf : List (List Key × D)) (T : D) (S ts : List Kd) (l : List Str), ds = [.ref s, T, .lst (ts.map dK)] ∧ Un U S0 Ts ∧ HvC C s aK aF U S0 Ts kk kf O ∧ TxD T l ∧ KyOf S l ∧ (∀ x ∈ S ++ ts, x ∈ U) ∧ ts.length < 60 ∧
  ∀ O' kk' l', HvC C s aK aF U S0 Ts kk' kf O' → HvTo aK aF [] O kk kf O' kk' kf → KyOf (S ++ ts) l' → (∀ k ∈ ts, (valD kk' (.inr (kshow k))).isSome = true) → R (.tupK (tsK l')) O'
theorem ok_withM (T : Tx K mg) : FO_Having_with_more P w base T 43 (spWithM T.C_Having) := by
  refine fndG_Having_with_more T (fnUp (ok_showK T 41) (by decide)) (fun ds O R RE ⟨_, _, _, _, _, _, _, _, _, _, _, _, q, _⟩ => by rw [q]; rfl) ?_
  rintro ds O R RE ⟨s, aK, aF, U, S0, Ts, kk, kf, Td, S, ts, l, rfl, u, hc, hT, hl, hU, htl, hR⟩
  unfold g_Having_with_more
  refine gSeq_step ?_
  walk_at "kh"
  intro p hp
  refine gSeq_step ?_
  walk_at "kh"
  rw [hT]
  walk_at "kh"
  have ps : p ≠ s := fun e => by rw [e, hc.i] at hp; cases hp
  have pk : p ≠ aK := fun e => by rw [e, hc.k] at hp; cases hp
  have pf : p ≠ aF := fun e => by rw [e, hc.f] at hp; cases hp
  have hfresh := hc.nof (p := p) fun ms e => by rw [hp] at e; cases e
  have hU1 : ∀ x ∈ S, x ∈ U := fun x hx => hU x (List.mem_append_left _ hx)
  have hll : l.length < 60 := by
    have h1 := nodup_le (us := U.map kshow) hl.1.nodup fun x hx => by
      obtain ⟨y, hy, e⟩ := (hl.2 x).mp hx
      exact List.mem_map.mpr ⟨y, hU1 y hy, e⟩
    rw [List.length_map] at h1
    have := u.ul
    omega
  refine forA_ix D.str (fun pre rest ρ O' => ∃ x4, ρ = [some (.ref s), some Td, some (.lst (ts.map dK)), some (.ref p), x4, none] ∧ O' = updO O p (.dic (pre.map mkE))) l [] _ _ ⟨_, rfl, rfl⟩ ?_ ?_
  · rintro ρ O' ⟨x4, rfl, rfl⟩
    rw [List.nil_append]
    refine gSeq_step ?_
    walk_at "kh"
    refine forA_ix dK (fun pre rest ρ O' => ∃ x5 ls kk' O1, ρ = [some (.ref s), some Td, some (.lst (ts.map dK)), some (.ref p), x4, x5] ∧ O' = updO O1 p (.dic (ls.map mkE)) ∧ O1 p = none ∧ HvC T.C_Having s aK aF U S0 Ts kk' kf O1 ∧ HvTo aK aF [] O kk kf O1 kk' kf ∧ ls.Nodup ∧ (∀ x, x ∈ ls ↔ ∃ k ∈ S ++ pre, kshow k = x) ∧ (∀ k ∈ pre, (valD kk' (.inr (kshow k))).isSome = true)) ts [] _ _ ⟨_, l, kk, O, rfl, rfl, hp, hc, .refl, hl.1.nodup, (by rw [List.append_nil]; exact hl.2), (fun k hk => by cases hk)⟩ ?_ ?_
    · rintro ρ O' ⟨x5, ls, kk', O1, rfl, rfl, hp1, hc1, ht1, hn, hls, hpr⟩
      rw [List.nil_append] at hls hpr
      have hlen : ls.length < 60 := by
        have h1 := nodup_le (us := U.map kshow) hn fun x hx => by
          obtain ⟨y, hy, e⟩ := (hls x).mp hx
          exact List.mem_map.mpr ⟨y, hU y hy, e⟩
        rw [List.length_map] at h1
        have := u.ul
        omega
      walk_at "kh"
      rw [rSortK_r (ts := ls) updO_same (by rw [List.map_map]; rfl)]
      refine ⟨by omega, fun ys hy hs => ?_⟩
      refine rTupK_s ?_
      have hup := up_of hs (hy.nodup_iff.mpr hn)
      refine ⟨O1, fun a c e => ?_, hR O1 kk' ys hc1 ht1 ⟨hup, fun x => (hy.mem_iff).trans (hls x)⟩ hpr⟩
      exact (updO_ne (fun q => by rw [q, hp1] at e; cases e)).trans e
    · rintro pre k rest ep ρ O' ⟨x5, ls, kk', O1, rfl, rfl, hp1, hc1, ht1, hn, hls, hpr⟩ N hN
      rw [List.nil_append] at ep
      have hkU : k ∈ U := hU k (List.mem_append_right _ (by rw [ep]; simp))
      have hkk := u.lk k hkU
      have hkl : k.leaves ≤ 1000 := by
        have : k.leaves ≤ lvs U := mem_sum hkU
        have := u.lv
        omega
      have q1 : p ≠ s := fun e => by rw [e, hc1.i] at hp1; cases hp1
      have q2 : p ≠ aK := fun e => by rw [e, hc1.k] at hp1; cases hp1
      have hcp : HvC T.C_Having s aK aF U S0 Ts kk' kf (updO O1 p (.dic (ls.map mkE))) := hc1.else ps pk pf hfresh
      walk_at "kf1"
      refine gSeq_step ?_
      walk_at "kh"
      refine ⟨isIns_of hcp.i, ?_⟩
      rw [rFld_of hcp.i (d := .ref aK) (by simp [List.lookup])]
      refine ⟨k, rfl, by omega, by omega, hkk.1, hkl, ?_⟩
      dsimp only
      rw [rDPut_s hcp.k]
      have hkn := hcp.klen u
      refine ⟨sz_small (by omega), ?_⟩
      walk_at "kh"
      have hsw : updO (updO O1 p (.dic (ls.map mkE))) aK (.dic (putD kk' (.inr (kshow k)) (dK k))) = updO (updO O1 aK (.dic (putD kk' (.inr (kshow k)) (dK k)))) p (.dic (ls.map mkE)) := by
        funext x
        by_cases e1 : x = aK
        · subst e1; rw [updO_same, updO_ne (Ne.symm q2), updO_same]
        · rw [updO_ne e1]
          by_cases e2 : x = p
          · subst e2; rw [updO_same, updO_same]
          · rw [updO_ne e2, updO_ne e2, updO_ne e1]
      rw [hsw]
      refine ⟨k, rfl, by omega, by omega, hkk.1, hkl, ?_⟩
      dsimp only
      rw [rDPut_s updO_same]
      have hlen : ls.length < 60 := by
        have h1 := nodup_le (us := U.map kshow) hn fun x hx => by
          obtain ⟨y, hy, e⟩ := (hls x).mp hx
          refine List.mem_map.mpr ⟨y, hU y ?_, e⟩
          rw [ep]
          rcases List.mem_append.mp hy with hy | hy
          · exact List.mem_append_left _ hy
          · exact List.mem_append_right _ (List.mem_append_left _ hy)
        rw [List.length_map] at h1
        have := u.ul
        omega
      rw [putE, updO_updO]
      refine ⟨sz_small (by rw [List.length_map]; omega), hN _ _ ⟨_, _, _, _, rfl, rfl, by rw [updO_ne q2]; exact hp1, hc1.putK u hkU, ht1.trans (hc1.toK u hkU) hc1.nk hc1.nf, ?_, fun x => ?_, fun k' hk' => ?_⟩⟩
      · split
        · exact hn
        · rename_i q
          exact List.nodup_append.mpr ⟨hn, by simp, fun x hx y hy e => q (by rw [List.mem_singleton] at hy; rw [← hy, ← e]; exact hx)⟩
      · have : x ∈ (if kshow k ∈ ls then ls else ls ++ [kshow k]) ↔ x ∈ ls ∨ x = kshow k := by
          split
          · rename_i q
            exact ⟨.inl, fun h => h.elim id fun e => e ▸ q⟩
          · simp
        rw [this, hls]
        constructor
        · rintro (⟨y, hy, e⟩ | rfl)
          · exact ⟨y, by rw [← List.append_assoc]; exact List.mem_append_left _ hy, e⟩
          · exact ⟨k, by simp, rfl⟩
        · rintro ⟨y, hy, e⟩
          rw [← List.append_assoc] at hy
          rcases List.mem_append.mp hy with hy | hy
          · exact .inl ⟨y, hy, e⟩
          · rw [List.mem_singleton.mp hy] at e; exact .inr e.symm
      · rw [valD_put]
        split
        · rfl
        · rename_i q
          rcases List.mem_append.mp hk' with hk' | hk'
          · exact hpr k' hk'
          · rw [List.mem_singleton.mp hk'] at q; exact absurd rfl q
  · rintro pre t rest ep ρ O' ⟨x4, rfl, rfl⟩ N hN
    rw [List.nil_append] at ep
    walk_at "kh"
    rw [rDPut_s updO_same, putE, updO_updO]
    have hnt : t ∉ pre := fun q => by
      have := hl.1.nodup
      rw [ep] at this
      exact (List.nodup_append.mp this).2.2 t q t (by simp) rfl
    rw [if_neg hnt]
    have hpl := congrArg List.length ep
    simp only [List.length_append, List.length_cons] at hpl
    exact ⟨sz_small (by rw [List.length_map]; omega), hN _ _ ⟨_, rfl, rfl⟩⟩
end
end Kf
namespace Kf
open PySem PySem.Spec L2
open PyProof.Rows hiding St
local macro_rules | `(tactic| walk_at "kf") => `(tactic| simp (config := { failIfUnchanged := false }) only [startD, ap_fiEnumT, asT1_t, ap_fKGet, asStr_s, ap_fKIn, ap_fKIx, ap_gAsgL, rUnl_l, ap_fiRng3, asR3_i, rSplitO_s, ap_fOrL, rOrL_l, ap_fLcK, ap_gForK, ap_fMaxD, rMaxD_l, rMaxL_l, ap_fCallXD, ap_gForE, asLE_l, ap_fFrz, ap_fDicO, ap_fDGet, ap_fDGet1, ap_fDGet2, ap_gDPut, ap_fIsiT, ap_gForR, rRep_l, isT_i, isT_s, isT_b, isT_n, isT_t, isT_l, ap_gSeq, ap_gIf, ap_gRet, ap_gNext, ap_gSet, ap_gAsg, ap_gPar, ap_gDrop, ap_gRetF, ap_gRetN, ap_gFor, ap_gSetIx, ap_gBreak, ap_fRev, ap_fiRevR, asIR_i, rRev_l, ap_fCallX, ap_gRaise, ap_gTry, ap_gTryAs, ap_gNever, ap_fEdic, ap_fTest, ap_fOp, ap_fVar, envGet_s, patGet_s, ap_fC, ap_fCB, ap_fCons, ap_fNil, ap_fCall, ap_fAnd, ap_fOr, ap_fNot, ap_fAndV, ap_fOrV, ap_fNotV, ap_fIf, ap_fTup, ap_fLst, ap_fLstO, ap_fChain, ap_fUn, ap_fBM, ap_fBM0, ap_fPool, rPool_i, ap_fSl, ap_fPart, ap_fNoPart, asI_i, rSl_l, ap_fiRng1, ap_fiRng2, ap_fiList, ap_fiTup, ap_fiStr, ap_fiEnum, ap_fiZip, ap_fiRev, asL_l, asT_t, asSg_s, asR1_i, asR2_i, asL1_l, asL2_l, ap_fLc, ap_fLcO, ap_fYes, wipeD, lcD, isi_i_int, isi_i_bool, isi_i_str, isi_i_tuple, isi_i_list, isi_i_dict, isi_b_int, isi_b_bool, isi_b_str, isi_b_tuple, isi_b_list, isi_b_dict, isi_s_int, isi_s_bool, isi_s_str, isi_s_tuple, isi_s_list, isi_s_dict, isi_t_int, isi_t_bool, isi_t_str, isi_t_tuple, isi_t_list, isi_t_dict, isi_l_int, isi_l_bool, isi_l_str, isi_l_tuple, isi_l_list, isi_l_dict, isi_n_int, isi_n_bool, isi_n_str, isi_n_tuple, isi_n_list, isi_n_dict, isi_d_int, isi_d_bool, isi_d_str, isi_d_tuple, isi_d_list, isi_d_dict,
  deref_tup, deref_lst, deref_int, deref_str, deref_bl, deref_non, deref_scr, rLt_i, rLt_s, rLe_i, rLe_s, rInts_i, rInts0_i, rAdd_i, rAdd_s, rAdd_l, rAdd_t, rCatO_l, rNeg_i, rLen_t, rLen_l, rLen_c, rLen_s, rMax_i, rMin_i, rInt_i, rInt_b, rDivmod_i, ap_gAug, rStr_i, rList_l, rList_t, rListO_l, rListO_t, rTup_l, rTup_t,
  rIx_t0, rIx_t1, rIx_t2, rIx_t3, rIx_l0, rIx_l1, rIx_l2, rIsN_x, isNon_t, isNon_n, isNon_i, isNon_s, isNon_l, rEq_i, rEq_b, rEq_i2, rEq_b2, rJoin_m, rSplit_s, tyOk_l, tyOk_s, patD_nm, patD_tp, patDs_nil, patDs_cons, Option.bind_some, notX, notX',
  List.map_cons, List.map_nil, List.length_cons, List.length_nil, List.cons_append, List.nil_append, List.append_nil, List.replicate, List.getElem?_cons_zero, List.getElem?_cons_succ, List.set_cons_zero, List.set_cons_succ, updO_same, updO_updO,
  Nat.reduceSub, Nat.reduceAdd, Nat.reduceLeDiff, Nat.zero_add, Int.cast_ofNat_Int, Int.natCast_zero, Int.natCast_one, Int.reduceLT, Int.reduceLE, Int.reduceEq, Int.reduceAdd, Int.reduceSub, Int.reduceNeg, decide_true, decide_false, if_true, if_false, Bool.false_eq_true, eq_self, reduceIte, Bool.true_eq_false, decide_eq_true_eq, Bool.not_true, Bool.not_false, Bool.not_eq_true', decide_eq_false_iff_not, exists_eq_left', exists_eq_left, D.bl.injEq, true_and, and_true, not_true_eq_false, not_false_eq_true])
local macro_rules | `(tactic| walk_at "len") => `(tactic| (intro ds O R RE h; first | (obtain ⟨e, _⟩ := h; subst e; rfl) | (obtain ⟨_, e, _⟩ := h; subst e; rfl) | (obtain ⟨_, _, e, _⟩ := h; subst e; rfl) | (obtain ⟨_, _, _, e, _⟩ := h; subst e; rfl) | (obtain ⟨_, _, _, _, e, _⟩ := h; subst e; rfl) | (obtain ⟨_, _, _, _, _, e, _⟩ := h; subst e; rfl) | (obtain ⟨_, _, _, _, _, _, e, _⟩ := h; subst e; rfl) | (obtain ⟨_, _, _, _, _, _, _, e, _⟩ := h; subst e; rfl) | (obtain ⟨_, _, _, _, _, _, _, _, e, _⟩ := h; subst e; rfl) | (obtain ⟨_, _, _, _, _, _, _, _, _, e, _⟩ := h; subst e; rfl)))
local macro_rules | `(tactic| walk_at "kf1") => `(tactic| simp (config := { failIfUnchanged := false }) only [startD, ap_fiEnumT, asT1_t, ap_fKGet, asStr_s, ap_fKIn, ap_fKIx, ap_gAsgL, rUnl_l, ap_fiRng3, asR3_i, rSplitO_s, ap_fOrL, rOrL_l, ap_fLcK, ap_gForK, ap_fMaxD, rMaxD_l, rMaxL_l, ap_fCallXD, ap_gForE, asLE_l, ap_fFrz, ap_fDicO, ap_fDGet, ap_fDGet1, ap_fDGet2, ap_gDPut, ap_fIsiT, ap_gForR, rRep_l, isT_i, isT_s, isT_b, isT_n, isT_t, isT_l, ap_gIf, ap_gRet, ap_gNext, ap_gSet, ap_gAsg, ap_gPar, ap_gDrop, ap_gRetF, ap_gRetN, ap_gFor, ap_gSetIx, ap_gBreak, ap_fRev, ap_fiRevR, asIR_i, rRev_l, ap_fCallX, ap_gRaise, ap_gTry, ap_gTryAs, ap_gNever, ap_fEdic, ap_fTest, ap_fOp, ap_fVar, envGet_s, patGet_s, ap_fC, ap_fCB, ap_fCons, ap_fNil, ap_fCall, ap_fAnd, ap_fOr, ap_fNot, ap_fAndV, ap_fOrV, ap_fNotV, ap_fIf, ap_fTup, ap_fLst, ap_fLstO, ap_fChain, ap_fUn, ap_fBM, ap_fBM0, ap_fPool, rPool_i, ap_fSl, ap_fPart, ap_fNoPart, asI_i, rSl_l, ap_fiRng1, ap_fiRng2, ap_fiList, ap_fiTup, ap_fiStr, ap_fiEnum, ap_fiZip, ap_fiRev, asL_l, asT_t, asSg_s, asR1_i, asR2_i, asL1_l, asL2_l, ap_fLc, ap_fLcO, ap_fYes, wipeD, lcD, isi_i_int, isi_i_bool, isi_i_str, isi_i_tuple, isi_i_list, isi_i_dict, isi_b_int, isi_b_bool, isi_b_str, isi_b_tuple, isi_b_list, isi_b_dict, isi_s_int, isi_s_bool, isi_s_str, isi_s_tuple, isi_s_list, isi_s_dict, isi_t_int, isi_t_bool, isi_t_str, isi_t_tuple, isi_t_list, isi_t_dict, isi_l_int, isi_l_bool, isi_l_str, isi_l_tuple, isi_l_list, isi_l_dict, isi_n_int, isi_n_bool, isi_n_str, isi_n_tuple, isi_n_list, isi_n_dict, isi_d_int, isi_d_bool, isi_d_str, isi_d_tuple, isi_d_list, isi_d_dict,
  deref_tup, deref_lst, deref_int, deref_str, deref_bl, deref_non, deref_scr, rLt_i, rLt_s, rLe_i, rLe_s, rInts_i, rInts0_i, rAdd_i, rAdd_s, rAdd_l, rAdd_t, rCatO_l, rNeg_i, rLen_t, rLen_l, rLen_c, rLen_s, rMax_i, rMin_i, rInt_i, rInt_b, rDivmod_i, ap_gAug, rStr_i, rList_l, rList_t, rListO_l, rListO_t, rTup_l, rTup_t,
  rIx_t0, rIx_t1, rIx_t2, rIx_t3, rIx_l0, rIx_l1, rIx_l2, rIsN_x, isNon_t, isNon_n, isNon_i, isNon_s, isNon_l, rEq_i, rEq_b, rEq_i2, rEq_b2, rJoin_m, rSplit_s, tyOk_l, tyOk_s, patD_nm, patD_tp, patDs_nil, patDs_cons, Option.bind_some, notX, notX',
  List.map_cons, List.map_nil, List.length_cons, List.length_nil, List.cons_append, List.nil_append, List.append_nil, List.replicate, List.getElem?_cons_zero, List.getElem?_cons_succ, List.set_cons_zero, List.set_cons_succ, updO_same, updO_updO,
  Nat.reduceSub, Nat.reduceAdd, Nat.reduceLeDiff, Nat.zero_add, Int.cast_ofNat_Int, Int.natCast_zero, Int.natCast_one, Int.reduceLT, Int.reduceLE, Int.reduceEq, Int.reduceAdd, Int.reduceSub, Int.reduceNeg, decide_true, decide_false, if_true, if_false, Bool.false_eq_true, eq_self, reduceIte, Bool.true_eq_false, decide_eq_true_eq, Bool.not_true, Bool.not_false, Bool.not_eq_true', decide_eq_false_iff_not, exists_eq_left', exists_eq_left, D.bl.injEq, true_and, and_true, not_true_eq_false, not_false_eq_true])
section
variable {P : Program} {w : World} {K : PySem.W.Frag} {mg : Str → Option Value} {base : Heap}
local macro_rules | `(tactic| walk_at "tg") => `(tactic| simp (config := { failIfUnchanged := false }) only [te_name_take, te_name_give, te_name_pair, te_name_first, te_name_second, te_name_to, te_name_both, te_name_one, te_name_mark, te_name_name, te_name_thing, te_name_at, te_thing_take, te_thing_give, te_thing_pair, te_thing_first, te_thing_second, te_thing_to, te_thing_both, te_thing_one, te_thing_mark, te_thing_name, te_thing_thing, te_thing_at, te_take_take, te_take_give, te_take_pair, te_take_first, te_take_second, te_take_to, te_take_both, te_take_one, te_take_mark, te_take_name, te_take_thing, te_take_at, te_give_take, te_give_give, te_give_pair, te_give_first, te_give_second, te_give_to, te_give_both, te_give_one, te_give_mark, te_give_name, te_give_thing, te_give_at, te_pair_take, te_pair_give, te_pair_pair, te_pair_first, te_pair_second, te_pair_to, te_pair_both, te_pair_one, te_pair_mark, te_pair_name, te_pair_thing, te_pair_at, te_first_take, te_first_give, te_first_pair, te_first_first, te_first_second, te_first_to, te_first_both, te_first_one, te_first_mark, te_first_name, te_first_thing, te_first_at, te_second_take, te_second_give, te_second_pair, te_second_first, te_second_second, te_second_to, te_second_both, te_second_one, te_second_mark, te_second_name, te_second_thing, te_second_at, te_mark_take, te_mark_give, te_mark_pair, te_mark_first, te_mark_second, te_mark_to, te_mark_both, te_mark_one, te_mark_mark, te_mark_name, te_mark_thing, te_mark_at, te_one_take, te_one_give, te_one_pair, te_one_first, te_one_second, te_one_to, te_one_both, te_one_one, te_one_mark, te_one_name, te_one_thing, te_one_at, te_to_take, te_to_give, te_to_pair, te_to_first, te_to_second, te_to_to, te_to_both, te_to_one, te_to_mark, te_to_name, te_to_thing, te_to_at, te_both_take, te_both_give, te_both_pair, te_both_first, te_both_second, te_both_to, te_both_both, te_both_one, te_both_mark, te_both_name, te_both_thing, te_both_at, te_at_take, te_at_give, te_at_pair, te_at_first, te_at_second, te_at_to, te_at_both, te_at_one, te_at_mark, te_at_name, te_at_thing, te_at_at, ti4_name, ti4_thing, ti4_take, ti4_give, ti4_pair, ti4_first, ti4_second, ti2_name, ti2_thing, ti2_take, ti2_give, ti2_pair, ti2_first, ti2_second, szT_0, szT_1, szT_2, szT_3, szT_4, szT_5, szT_6, szT_7, szT_8, szT_9, szT_10, szT_11, szT_12, Bool.not_true, Bool.not_false, true_and])
local macro_rules | `(tactic| walk_at "kh") => `(tactic| (walk_at "kf1"; simp (config := { failIfUnchanged := false }) only [ap_fMeth, ap_fFld, ap_gFld, ap_fMake, ap_fUnK, ap_fDicT, ap_fMinLen]; walk_at "kf1"))
/-- what is there as a kind is asked that can't be had -/
def LackR (S : List Kd) (M : List Str) (ks : List Kd) (kk : List (Key × D)) (r : D) : Prop :=
  (r = .non ∧ ∀ a ∈ ks, ∀ t ∈ ends a, okE' S M t) ∨ ∃ a ∈ ks, ∃ t ∈ ends a, ∃ l, ¬ okE' S M t ∧ KyOf (S ++ t.1) l ∧ (∀ k ∈ S ++ t.1, (valD kk (.inr (kshow k))).isSome = true) ∧ r = .tupK (tsK l)
def Pres (kk : List (Key × D)) (S : List Kd) : Prop := ∀ k ∈ S, (valD kk (.inr (kshow k))).isSome = true
theorem Pres.grow {kk kk' : List (Key × D)} {S : List Kd} (h : Pres kk S) (g : ∀ k d, valD kk k = some d → valD kk' k = some d) : Pres kk' S := fun k hk => by
  obtain ⟨d, e⟩ := Option.isSome_iff_exists.mp (h k hk)
  rw [g _ _ e]; rfl
theorem hv_no {C s aK aF : Addr} {U S0 : List Kd} {Ts : List (List Kd)} {kk : List (Key × D)} {kf : List (List Key × D)} {O : Ow} {m : Str} (h : HvC C s aK aF U S0 Ts kk kf O) (e1 : (m == Str.ofString "kinds") = false) (e2 : (m == Str.ofString "found") = false) : insNo C m (.ref s) O := insNo_of h.i (by simp [List.lookup, e1, e2])
def spHad (C : Addr) (n : Nat) : DSp := fun ds O R _ => ∃ (s aK aF : Addr) (U S0 : List Kd) (Ts : List (List Kd)) (kk : List (Key × D)) (kf : List (List Key × D)) (S : List Kd) (l : List Str), ds = [.ref s, .tupK (tsK l)] ∧ Un U S0 Ts ∧ HvC C s aK aF U S0 Ts kk kf O ∧ InU S0 Ts S ∧ KyOf S l ∧ Pres kk S ∧ lft Ts S < n ∧
  ∀ O' kk' kf' a ms, HvC C s aK aF U S0 Ts kk' kf' O' → HvTo aK aF [] O kk kf O' kk' kf' → O' a = some (.dic (ms.map mkE)) → MsOf S ms → a ≠ aK → R (.ref a) O'
def spLack (C : Addr) (n : Nat) : DSp := fun ds O R _ => ∃ (s aK aF p : Addr) (U S0 : List Kd) (Ts : List (List Kd)) (kk : List (Key × D)) (kf : List (List Key × D)) (S : List Kd) (l M : List Str) (k : Kd), ds = [.ref s, .tupK (tsK l), .ref p, dK k] ∧ Un U S0 Ts ∧ HvC C s aK aF U S0 Ts kk kf O ∧ InU S0 Ts S ∧ KyOf S l ∧ Pres kk S ∧ lft Ts S < n + 1 ∧
  O p = some (.dic (M.map mkE)) ∧ p ≠ aK ∧ (∀ t ∈ ends k, t.1 = [] ∨ t.1 ∈ Ts) ∧ k.mks ∧ k.depth ≤ 12 ∧ k.leaves ≤ 1000 ∧ (∀ t ∈ ends k, t.1.length < 60) ∧
  ∀ O' kk' kf' r, HvC C s aK aF U S0 Ts kk' kf' O' → HvTo aK aF [] O kk kf O' kk' kf' → LackR S M [k] kk' r → R r O'
theorem kyso {U S0 : List Kd} {Ts : List (List Kd)} {S : List Kd} {l : List Str} (u : Un U S0 Ts) (h : InU S0 Ts S) (k : KyOf S l) : ∀ s ∈ l, PyData.strOk s = true := k.so (h.lk u)
theorem ok_lackS (T : Tx K mg) {n : Nat} (H : FO_Having_had P w base T (4 * n + 44) (spHad T.C_Having n)) : FO_Having_lack_of P w base T (4 * n + 45) (spLack T.C_Having n) := by
  refine fnd_Having_lack_of T (fnUp (ok_ends T 40) (by omega)) (fnUp (ok_withM T) (by omega)) H (fun ds O R RE ⟨_, _, _, _, _, _, _, _, _, _, _, _, _, q, _⟩ => by rw [q]; rfl) ?_
  rintro ds O R RE ⟨s, aK, aF, p, U, S0, Ts, kk, kf, S, l, M, k, rfl, u, hc, hS, hl, hpr, hlf, hp, npk, hty, hkm, hkd, hkl, htl, hR⟩
  unfold g_Having_lack_of
  refine gSeq_step ?_
  walk_at "kh"
  refine ⟨sz_small (by decide), fun q hq => ?_⟩
  have npf : p ≠ aF := fun e => by rw [e, hc.f] at hp; cases hp
  have npq : p ≠ q := fun e => by rw [e, hq] at hp; cases hp
  have qs : q ≠ s := fun e => by rw [e, hc.i] at hq; cases hq
  have qk : q ≠ aK := fun e => by rw [e, hc.k] at hq; cases hq
  have qf : q ≠ aF := fun e => by rw [e, hc.f] at hq; cases hq
  refine gSeq_step ?_
  walk_at "kh"
  refine ⟨k, rfl, by omega, by omega, mks_ok k hkm, hkl, ?_⟩
  dsimp only
  walk_at "kh"
  refine forA_ix dEnd (fun pre rest ρ O' => ∃ x5 x6 x7 kk' kf' L, ρ = [some (.ref s), some (.tupK (tsK l)), some (.ref p), some (dK k), some (.ref q), x5, x6, x7] ∧ O' q = some (.lst (L.map fun l => .tupK (tsK l))) ∧ HvC T.C_Having s aK aF U S0 Ts kk' kf' O' ∧ HvTo aK aF [] O kk kf O' kk' kf' ∧ L.length ≤ pre.length ∧ (L = [] → ∀ t ∈ pre, okE' S M t) ∧ ∀ l' ∈ L, ∃ t ∈ pre, ¬ okE' S M t ∧ KyOf (S ++ t.1) l' ∧ Pres kk' (S ++ t.1)) (ends k) [] _ _ ⟨_, _, _, kk, kf, [], rfl, updO_same, hc.else qs qk qf (hc.nof fun ms e => by rw [hq] at e; cases e), ⟨fun a c e _ _ _ => by rw [updO_ne (fun z => by rw [z, hq] at e; cases e)]; exact e, fun _ _ h => h, fun _ _ h => .inl h⟩, Nat.le_refl _, (fun _ t ht => by cases ht), (fun l' hl' => by cases hl')⟩ ?_ ?_
  · rintro ρ O' ⟨x5, x6, x7, kk', kf', L, rfl, hq', hc', ht', hLl, hL0, hL⟩
    rw [List.nil_append] at hL0 hL
    have hLso : ∀ l' ∈ L, ∀ s ∈ l', PyData.strOk s = true := fun l' hl' => by
      obtain ⟨t, ht, _, h3, _⟩ := hL l' hl'
      exact kyso u (hS.put (hty t ht)) h3
    refine gSeq_step ?_
    walk_at "kh"
    refine gSeq_step ?_
    walk_at "kh"
    refine rInK_of (L := L) (y := .ref q) (O := O') (by simp only [deref, hq']) (kyso u hS hl) hLso ?_
    rw [Bool.false_xor]
    by_cases c : l ∈ L
    · rw [decide_eq_true c]
      walk_at "kh"
      obtain ⟨t, ht, h2, h3, h4⟩ := hL l c
      exact hR O' kk' kf' _ hc' ht' (.inr ⟨k, by simp, t, ht, l, h2, h3, h4, rfl⟩)
    · rw [decide_eq_false c]
      walk_at "kh"
      refine rMinLen_l (L := L.map tsK) (x := .ref q) (O := O') (by simp only [deref, hq', List.map_map]; rfl) (fun e => ?_) fun ks hks => ?_
      · have e : L = [] := by cases L with
          | nil => rfl
          | cons => cases e
        exact hR O' kk' kf' _ hc' ht' (.inl ⟨rfl, fun a ha t ht => by rw [List.mem_singleton.mp ha] at ht; exact hL0 e t ht⟩)
      · obtain ⟨l', hl', rfl⟩ := List.mem_map.mp hks
        obtain ⟨t, ht, h2, h3, h4⟩ := hL l' hl'
        exact hR O' kk' kf' _ hc' ht' (.inr ⟨k, by simp, t, ht, l', h2, h3, h4, rfl⟩)
  · rintro pre t rest ep ρ O' ⟨x5, x6, x7, kk', kf', L, rfl, hq', hc', ht', hLl, hL0, hL⟩ N hN
    rw [List.nil_append] at ep
    have ht : t ∈ ends k := by rw [ep]; simp
    have hin := hS.put (hty t ht)
    have hm : isMarkB t.2 = true := hkm _ (ends_in k t ht).2.2.2
    simp only [dEnd]
    walk_at "kf1"
    refine gSeq_step ?_
    walk_at "kh"
    have hno : ∀ {O2 : Ow} {kk2 : List (Key × D)} {kf2 : List (List Key × D)} (m : Str), HvC T.C_Having s aK aF U S0 Ts kk2 kf2 O2 → (m == Str.ofString "kinds") = false → (m == Str.ofString "found") = false → insNo T.C_Having m (.ref s) O2 := fun m h e1 e2 => insNo_of h.i (by simp [List.lookup, e1, e2])
    refine ⟨hno _ hc' (by decide +kernel) (by decide +kernel), ?_⟩
    walk_at "kh"
    refine ⟨s, aK, aF, U, S0, Ts, kk', kf', .tupK (tsK l), S, t.1, l, rfl, u, hc', txD_k l, hl, hin.u u, htl t ht, fun O2 kk2 lt hc2 ht2 hlt hp2 => ?_⟩
    dsimp only
    have hpr2 : Pres kk2 (S ++ t.1) := fun x hx => (List.mem_append.mp hx).elim (((hpr.grow ht'.gk).grow ht2.gk) x) (hp2 x)
    have hq2 := ht2.fr q _ hq' qk qf (by simp)
    have hpO2 := ht2.fr p _ (ht'.fr p _ hp npk npf (by simp)) npk npf (by simp)
    have T2 := ht'.trans ht2 hc'.nk hc'.nf
    have hLl2 : L.length < 1000 := by
      have h1 := congrArg List.length ep
      have h2 := ends_len k
      simp only [List.length_append, List.length_cons] at h1
      omega
    have hsame := hlt.same hl (hin.lk u) (hS.lk u)
    -- not had: put behind the others
    have app : ∀ {O3 : Ow} {kk3 : List (Key × D)} {kf3 : List (List Key × D)}, HvC T.C_Having s aK aF U S0 Ts kk3 kf3 O3 → HvTo aK aF [] O2 kk2 kf' O3 kk3 kf3 → ¬ okE' S M t → (tyOk "list" O3 (.ref q) = true ∧ rAppendD (.ref q) [.tupK (tsK lt)] O3 fun x O1 => N [some (.ref s), some (.tupK (tsK l)), some (.ref p), some (dK k), some (.ref q), some (.lst (t.1.map dK)), some (.str t.2), some (.tupK (tsK lt))] O1) := fun {O3 kk3 kf3} hc3 ht3 hno => by
      have hq3 := ht3.fr q _ hq2 qk qf (by simp)
      refine ⟨tyOk_r hq3, ?_⟩
      rw [rApp_r hq3]
      have T3 := T2.trans ht3 hc2.nk hc2.nf
      refine ⟨sz_small (by rw [List.length_map]; omega), hN _ _ ⟨_, _, _, kk3, kf3, L ++ [lt], rfl, ?_, hc3.else qs qk qf (hc3.nof fun ms e => by rw [hq3] at e; cases e), ⟨fun a c e n1 n2 n3 => ?_, T3.gk, T3.gf⟩, ?_, fun e => by simp at e, fun l' hl' => ?_⟩⟩
      · rw [updO_same, List.map_append]; rfl
      · rw [updO_ne (fun z => by rw [z, hq] at e; cases e)]; exact T3.fr a c e n1 n2 n3
      · rw [List.length_append, List.length_append]; simp only [List.length_singleton]; omega
      · rcases List.mem_append.mp hl' with h | h
        · obtain ⟨t', h1, h2, h3, h4⟩ := hL l' h
          exact ⟨t', List.mem_append_left _ h1, h2, h3, (h4.grow ht2.gk).grow ht3.gk⟩
        · rw [List.mem_singleton.mp h]
          exact ⟨t, by simp, hno, hlt, hpr2.grow ht3.gk⟩
    -- had: nothing to do
    have keep : ∀ {O3 : Ow} {kk3 : List (Key × D)} {kf3 : List (List Key × D)}, HvC T.C_Having s aK aF U S0 Ts kk3 kf3 O3 → HvTo aK aF [] O2 kk2 kf' O3 kk3 kf3 → okE' S M t → N [some (.ref s), some (.tupK (tsK l)), some (.ref p), some (dK k), some (.ref q), some (.lst (t.1.map dK)), some (.str t.2), some (.tupK (tsK lt))] O3 := fun {O3 kk3 kf3} hc3 ht3 hok => by
      refine hN _ _ ⟨_, _, _, kk3, kf3, L, rfl, ht3.fr q _ hq2 qk qf (by simp), hc3, T2.trans ht3 hc2.nk hc2.nf, by rw [List.length_append]; omega, fun e t' ht' => ?_, fun l' hl' => ?_⟩
      · rcases List.mem_append.mp ht' with h | h
        · exact hL0 e t' h
        · rw [List.mem_singleton.mp h]; exact hok
      · obtain ⟨t', h1, h2, h3, h4⟩ := hL l' hl'
        exact ⟨t', List.mem_append_left _ h1, h2, h3, (h4.grow ht2.gk).grow ht3.gk⟩
    refine rEqK_of (kyso u hin hlt) (kyso u hS hl) ?_
    rw [Bool.false_xor]
    by_cases c : lt = l
    · rw [decide_eq_true c]
      refine ⟨_, rfl, ?_⟩
      rw [if_pos rfl]
      simp only [rDIn, rKey_s hpO2, valE]
      refine ⟨_, rfl, ?_⟩
      by_cases m : t.2 ∈ M
      · rw [decide_eq_true m]
        rw [if_neg (by decide)]
        refine rEqK_of (kyso u hin hlt) (kyso u hS hl) ?_
        rw [decide_eq_true c]
        refine ⟨_, rfl, ?_⟩
        rw [if_neg (by decide)]
        exact keep hc2 .refl (.inl ⟨hsame.mp c, m⟩)
      · rw [decide_eq_false m]
        rw [if_pos (by decide)]
        exact app hc2 .refl fun h => h.elim (fun h => m h.2) fun h => h.1 (hsame.mp c)
    · rw [decide_eq_false c]
      refine ⟨_, rfl, ?_⟩
      rw [if_neg (by decide)]
      refine rEqK_of (kyso u hin hlt) (kyso u hS hl) ?_
      rw [decide_eq_false c]
      refine ⟨_, rfl, ?_⟩
      rw [if_pos (by decide)]
      have hns : ¬ SameK (S ++ t.1) S := fun h => c (hsame.mpr h)
      refine ⟨hno _ hc2 (by decide +kernel) (by decide +kernel), ?_⟩
      have hlf2 : lft Ts (S ++ t.1) < n := by
        rcases hty t ht with h | h
        · exact absurd (fun x => by rw [h, List.append_nil]) hns
        · have := lft_put h hns
          omega
      refine ⟨s, aK, aF, U, S0, Ts, kk2, kf', S ++ t.1, lt, rfl, u, hc2, hin, hlt, hpr2, hlf2, fun O3 kk3 kf3 a ms hc3 ht3 ha hms hna => ?_⟩
      simp only [rDIn, rKey_s ha, valE]
      refine ⟨_, rfl, ?_⟩
      by_cases m : t.2 ∈ ms
      · rw [decide_eq_true m]
        rw [if_neg (by decide)]
        exact keep hc3 ht3 (.inr ⟨hns, (hms.2 _).mp m⟩)
      · rw [decide_eq_false m]
        rw [if_pos (by decide)]
        exact app hc3 ht3 fun h => h.elim (fun h => hns h.1) fun h => m ((hms.2 _).mpr h.2)
end
end Kf
namespace Kf
open PySem PySem.Spec L2
open PyProof.Rows hiding St
local macro_rules | `(tactic| walk_at "kf") => `(tactic| simp (config := { failIfUnchanged := false }) only [startD, ap_fiEnumT, asT1_t, ap_fKGet, asStr_s, ap_fKIn, ap_fKIx, ap_gAsgL, rUnl_l, ap_fiRng3, asR3_i, rSplitO_s, ap_fOrL, rOrL_l, ap_fLcK, ap_gForK, ap_fMaxD, rMaxD_l, rMaxL_l, ap_fCallXD, ap_gForE, asLE_l, ap_fFrz, ap_fDicO, ap_fDGet, ap_fDGet1, ap_fDGet2, ap_gDPut, ap_fIsiT, ap_gForR, rRep_l, isT_i, isT_s, isT_b, isT_n, isT_t, isT_l, ap_gSeq, ap_gIf, ap_gRet, ap_gNext, ap_gSet, ap_gAsg, ap_gPar, ap_gDrop, ap_gRetF, ap_gRetN, ap_gFor, ap_gSetIx, ap_gBreak, ap_fRev, ap_fiRevR, asIR_i, rRev_l, ap_fCallX, ap_gRaise, ap_gTry, ap_gTryAs, ap_gNever, ap_fEdic, ap_fTest, ap_fOp, ap_fVar, envGet_s, patGet_s, ap_fC, ap_fCB, ap_fCons, ap_fNil, ap_fCall, ap_fAnd, ap_fOr, ap_fNot, ap_fAndV, ap_fOrV, ap_fNotV, ap_fIf, ap_fTup, ap_fLst, ap_fLstO, ap_fChain, ap_fUn, ap_fBM, ap_fBM0, ap_fPool, rPool_i, ap_fSl, ap_fPart, ap_fNoPart, asI_i, rSl_l, ap_fiRng1, ap_fiRng2, ap_fiList, ap_fiTup, ap_fiStr, ap_fiEnum, ap_fiZip, ap_fiRev, asL_l, asT_t, asSg_s, asR1_i, asR2_i, asL1_l, asL2_l, ap_fLc, ap_fLcO, ap_fYes, wipeD, lcD, isi_i_int, isi_i_bool, isi_i_str, isi_i_tuple, isi_i_list, isi_i_dict, isi_b_int, isi_b_bool, isi_b_str, isi_b_tuple, isi_b_list, isi_b_dict, isi_s_int, isi_s_bool, isi_s_str, isi_s_tuple, isi_s_list, isi_s_dict, isi_t_int, isi_t_bool, isi_t_str, isi_t_tuple, isi_t_list, isi_t_dict, isi_l_int, isi_l_bool, isi_l_str, isi_l_tuple, isi_l_list, isi_l_dict, isi_n_int, isi_n_bool, isi_n_str, isi_n_tuple, isi_n_list, isi_n_dict, isi_d_int, isi_d_bool, isi_d_str, isi_d_tuple, isi_d_list, isi_d_dict,
  deref_tup, deref_lst, deref_int, deref_str, deref_bl, deref_non, deref_scr, rLt_i, rLt_s, rLe_i, rLe_s, rInts_i, rInts0_i, rAdd_i, rAdd_s, rAdd_l, rAdd_t, rCatO_l, rNeg_i, rLen_t, rLen_l, rLen_c, rLen_s, rMax_i, rMin_i, rInt_i, rInt_b, rDivmod_i, ap_gAug, rStr_i, rList_l, rList_t, rListO_l, rListO_t, rTup_l, rTup_t,
  rIx_t0, rIx_t1, rIx_t2, rIx_t3, rIx_l0, rIx_l1, rIx_l2, rIsN_x, isNon_t, isNon_n, isNon_i, isNon_s, isNon_l, rEq_i, rEq_b, rEq_i2, rEq_b2, rJoin_m, rSplit_s, tyOk_l, tyOk_s, patD_nm, patD_tp, patDs_nil, patDs_cons, Option.bind_some, notX, notX',
  List.map_cons, List.map_nil, List.length_cons, List.length_nil, List.cons_append, List.nil_append, List.append_nil, List.replicate, List.getElem?_cons_zero, List.getElem?_cons_succ, List.set_cons_zero, List.set_cons_succ, updO_same, updO_updO,
  Nat.reduceSub, Nat.reduceAdd, Nat.reduceLeDiff, Nat.zero_add, Int.cast_ofNat_Int, Int.natCast_zero, Int.natCast_one, Int.reduceLT, Int.reduceLE, Int.reduceEq, Int.reduceAdd, Int.reduceSub, Int.reduceNeg, decide_true, decide_false, if_true, if_false, Bool.false_eq_true, eq_self, reduceIte, Bool.true_eq_false, decide_eq_true_eq, Bool.not_true, Bool.not_false, Bool.not_eq_true', decide_eq_false_iff_not, exists_eq_left', exists_eq_left, D.bl.injEq, true_and, and_true, not_true_eq_false, not_false_eq_true])
local macro_rules | `(tactic| walk_at "len") => `(tactic| (intro ds O R RE h; first | (obtain ⟨e, _⟩ := h; subst e; rfl) | (obtain ⟨_, e, _⟩ := h; subst e; rfl) | (obtain ⟨_, _, e, _⟩ := h; subst e; rfl) | (obtain ⟨_, _, _, e, _⟩ := h; subst e; rfl) | (obtain ⟨_, _, _, _, e, _⟩ := h; subst e; rfl) | (obtain ⟨_, _, _, _, _, e, _⟩ := h; subst e; rfl) | (obtain ⟨_, _, _, _, _, _, e, _⟩ := h; subst e; rfl) | (obtain ⟨_, _, _, _, _, _, _, e, _⟩ := h; subst e; rfl) | (obtain ⟨_, _, _, _, _, _, _, _, e, _⟩ := h; subst e; rfl) | (obtain ⟨_, _, _, _, _, _, _, _, _, e, _⟩ := h; subst e; rfl)))
local macro_rules | `(tactic| walk_at "kf1") => `(tactic| simp (config := { failIfUnchanged := false }) only [startD, ap_fiEnumT, asT1_t, ap_fKGet, asStr_s, ap_fKIn, ap_fKIx, ap_gAsgL, rUnl_l, ap_fiRng3, asR3_i, rSplitO_s, ap_fOrL, rOrL_l, ap_fLcK, ap_gForK, ap_fMaxD, rMaxD_l, rMaxL_l, ap_fCallXD, ap_gForE, asLE_l, ap_fFrz, ap_fDicO, ap_fDGet, ap_fDGet1, ap_fDGet2, ap_gDPut, ap_fIsiT, ap_gForR, rRep_l, isT_i, isT_s, isT_b, isT_n, isT_t, isT_l, ap_gIf, ap_gRet, ap_gNext, ap_gSet, ap_gAsg, ap_gPar, ap_gDrop, ap_gRetF, ap_gRetN, ap_gFor, ap_gSetIx, ap_gBreak, ap_fRev, ap_fiRevR, asIR_i, rRev_l, ap_fCallX, ap_gRaise, ap_gTry, ap_gTryAs, ap_gNever, ap_fEdic, ap_fTest, ap_fOp, ap_fVar, envGet_s, patGet_s, ap_fC, ap_fCB, ap_fCons, ap_fNil, ap_fCall, ap_fAnd, ap_fOr, ap_fNot, ap_fAndV, ap_fOrV, ap_fNotV, ap_fIf, ap_fTup, ap_fLst, ap_fLstO, ap_fChain, ap_fUn, ap_fBM, ap_fBM0, ap_fPool, rPool_i, ap_fSl, ap_fPart, ap_fNoPart, asI_i, rSl_l, ap_fiRng1, ap_fiRng2, ap_fiList, ap_fiTup, ap_fiStr, ap_fiEnum, ap_fiZip, ap_fiRev, asL_l, asT_t, asSg_s, asR1_i, asR2_i, asL1_l, asL2_l, ap_fLc, ap_fLcO, ap_fYes, wipeD, lcD, isi_i_int, isi_i_bool, isi_i_str, isi_i_tuple, isi_i_list, isi_i_dict, isi_b_int, isi_b_bool, isi_b_str, isi_b_tuple, isi_b_list, isi_b_dict, isi_s_int, isi_s_bool, isi_s_str, isi_s_tuple, isi_s_list, isi_s_dict, isi_t_int, isi_t_bool, isi_t_str, isi_t_tuple, isi_t_list, isi_t_dict, isi_l_int, isi_l_bool, isi_l_str, isi_l_tuple, isi_l_list, isi_l_dict, isi_n_int, isi_n_bool, isi_n_str, isi_n_tuple, isi_n_list, isi_n_dict, isi_d_int, isi_d_bool, isi_d_str, isi_d_tuple, isi_d_list, isi_d_dict,
  deref_tup, deref_lst, deref_int, deref_str, deref_bl, deref_non, deref_scr, rLt_i, rLt_s, rLe_i, rLe_s, rInts_i, rInts0_i, rAdd_i, rAdd_s, rAdd_l, rAdd_t, rCatO_l, rNeg_i, rLen_t, rLen_l, rLen_c, rLen_s, rMax_i, rMin_i, rInt_i, rInt_b, rDivmod_i, ap_gAug, rStr_i, rList_l, rList_t, rListO_l, rListO_t, rTup_l, rTup_t,
  rIx_t0, rIx_t1, rIx_t2, rIx_t3, rIx_l0, rIx_l1, rIx_l2, rIsN_x, isNon_t, isNon_n, isNon_i, isNon_s, isNon_l, rEq_i, rEq_b, rEq_i2, rEq_b2, rJoin_m, rSplit_s, tyOk_l, tyOk_s, patD_nm, patD_tp, patDs_nil, patDs_cons, Option.bind_some, notX, notX',
  List.map_cons, List.map_nil, List.length_cons, List.length_nil, List.cons_append, List.nil_append, List.append_nil, List.replicate, List.getElem?_cons_zero, List.getElem?_cons_succ, List.set_cons_zero, List.set_cons_succ, updO_same, updO_updO,
  Nat.reduceSub, Nat.reduceAdd, Nat.reduceLeDiff, Nat.zero_add, Int.cast_ofNat_Int, Int.natCast_zero, Int.natCast_one, Int.reduceLT, Int.reduceLE, Int.reduceEq, Int.reduceAdd, Int.reduceSub, Int.reduceNeg, decide_true, decide_false, if_true, if_false, Bool.false_eq_true, eq_self, reduceIte, Bool.true_eq_false, decide_eq_true_eq, Bool.not_true, Bool.not_false, Bool.not_eq_true', decide_eq_false_iff_not, exists_eq_left', exists_eq_left, D.bl.injEq, true_and, and_true, not_true_eq_false, not_false_eq_true])
section
variable {P : Program} {w : World} {K : PySem.W.Frag} {mg : Str → Option Value} {base : Heap}
local macro_rules | `(tactic| walk_at "tg") => `(tactic| simp (config := { failIfUnchanged := false }) only [te_name_take, te_name_give, te_name_pair, te_name_first, te_name_second, te_name_to, te_name_both, te_name_one, te_name_mark, te_name_name, te_name_thing, te_name_at, te_thing_take, te_thing_give, te_thing_pair, te_thing_first, te_thing_second, te_thing_to, te_thing_both, te_thing_one, te_thing_mark, te_thing_name, te_thing_thing, te_thing_at, te_take_take, te_take_give, te_take_pair, te_take_first, te_take_second, te_take_to, te_take_both, te_take_one, te_take_mark, te_take_name, te_take_thing, te_take_at, te_give_take, te_give_give, te_give_pair, te_give_first, te_give_second, te_give_to, te_give_both, te_give_one, te_give_mark, te_give_name, te_give_thing, te_give_at, te_pair_take, te_pair_give, te_pair_pair, te_pair_first, te_pair_second, te_pair_to, te_pair_both, te_pair_one, te_pair_mark, te_pair_name, te_pair_thing, te_pair_at, te_first_take, te_first_give, te_first_pair, te_first_first, te_first_second, te_first_to, te_first_both, te_first_one, te_first_mark, te_first_name, te_first_thing, te_first_at, te_second_take, te_second_give, te_second_pair, te_second_first, te_second_second, te_second_to, te_second_both, te_second_one, te_second_mark, te_second_name, te_second_thing, te_second_at, te_mark_take, te_mark_give, te_mark_pair, te_mark_first, te_mark_second, te_mark_to, te_mark_both, te_mark_one, te_mark_mark, te_mark_name, te_mark_thing, te_mark_at, te_one_take, te_one_give, te_one_pair, te_one_first, te_one_second, te_one_to, te_one_both, te_one_one, te_one_mark, te_one_name, te_one_thing, te_one_at, te_to_take, te_to_give, te_to_pair, te_to_first, te_to_second, te_to_to, te_to_both, te_to_one, te_to_mark, te_to_name, te_to_thing, te_to_at, te_both_take, te_both_give, te_both_pair, te_both_first, te_both_second, te_both_to, te_both_both, te_both_one, te_both_mark, te_both_name, te_both_thing, te_both_at, te_at_take, te_at_give, te_at_pair, te_at_first, te_at_second, te_at_to, te_at_both, te_at_one, te_at_mark, te_at_name, te_at_thing, te_at_at, ti4_name, ti4_thing, ti4_take, ti4_give, ti4_pair, ti4_first, ti4_second, ti2_name, ti2_thing, ti2_take, ti2_give, ti2_pair, ti2_first, ti2_second, szT_0, szT_1, szT_2, szT_3, szT_4, szT_5, szT_6, szT_7, szT_8, szT_9, szT_10, szT_11, szT_12, Bool.not_true, Bool.not_false, true_and])
local macro_rules | `(tactic| walk_at "kh") => `(tactic| (walk_at "kf1"; simp (config := { failIfUnchanged := false }) only [ap_fMeth, ap_fFld, ap_gFld, ap_fMake, ap_fUnK, ap_fDicT, ap_fMinLen]; walk_at "kf1"))
/-- a comprehension with a state, told by what is done and what is told so far -/
theorem lcA_invH {p : Pat} {ft : FT} {fe : FE} {ρ : DEnv} {α : Type} (f : α → D) (J : List α → List D → Ow → Prop) (all : List α) : ∀ (xs pre : List α) (acc : List D) (O : Ow) (Q : List D → Ow → Prop), all = pre ++ xs → J pre acc O → acc.length ≤ pre.length → all.length ≤ sizeLine →
    (∀ pre x rest acc O, all = pre ++ x :: rest → J pre acc O → ∀ (N1 : VD) (N2 : Ow → Prop), (∀ y O', J (pre ++ [x]) (acc ++ [y]) O' → N1 y O') → (∀ O', J (pre ++ [x]) acc O' → N2 O') → patGet (patD p (f x) ρ) fun ρ1 => ft ρ1 O fun b O1 => if b = true then fe ρ1 O1 N1 else N2 O1) →
    (∀ acc O, J all acc O → Q acc O) → lcD p ft fe ρ (xs.map f) acc O Q
  | [], pre, acc, O, Q, e, h, _, _, _, q => by
    rw [List.append_nil] at e
    subst e
    exact q acc O h
  | x :: xs, pre, acc, O, Q, e, h, hl, ha, hs, q => by
    have hlen := congrArg List.length e
    simp only [List.length_append, List.length_cons] at hlen
    have e2 : all = (pre ++ [x]) ++ xs := by rw [e]; simp
    have z := hs pre x xs acc O e h (fun y O2 => acc.length < sizeLine ∧ lcD p ft fe ρ (xs.map f) (acc ++ [y]) O2 Q) (fun O2 => lcD p ft fe ρ (xs.map f) acc O2 Q)
      (fun y O2 h2 => ⟨by omega, lcA_invH f J all xs (pre ++ [x]) _ O2 Q e2 h2 (by simp only [List.length_append, List.length_singleton]; omega) ha hs q⟩)
      (fun O2 h2 => lcA_invH f J all xs (pre ++ [x]) _ O2 Q e2 h2 (by simp only [List.length_append, List.length_singleton]; omega) ha hs q)
    rw [List.map_cons]
    unfold lcD
    exact z
/-- kinds that may be asked -/
def AskOk (Ts : List (List Kd)) (k : Kd) : Prop := (∀ t ∈ ends k, (t.1 = [] ∨ t.1 ∈ Ts) ∧ t.1.length < 60) ∧ k.mks ∧ k.depth ≤ 12 ∧ k.leaves ≤ 1000
def spFirst (C : Addr) (n : Nat) : DSp := fun ds O R _ => ∃ (s aK aF p : Addr) (U S0 : List Kd) (Ts : List (List Kd)) (kk : List (Key × D)) (kf : List (List Key × D)) (S : List Kd) (l M : List Str) (w : List Mv), ds = [.ref s, .tupK (tsK l), .ref p, .lst (w.map dMv)] ∧ Un U S0 Ts ∧ HvC C s aK aF U S0 Ts kk kf O ∧ InU S0 Ts S ∧ KyOf S l ∧ Pres kk S ∧ lft Ts S < n + 1 ∧
  O p = some (.dic (M.map mkE)) ∧ p ≠ aK ∧ (∀ a ∈ mvT w, AskOk Ts a) ∧ w.length ≤ 1000 ∧
  ∀ O' kk' kf' r, HvC C s aK aF U S0 Ts kk' kf' O' → HvTo aK aF [] O kk kf O' kk' kf' → LackR S M (mvT w) kk' r → R r O'
theorem only_keys {P : List Str → Prop} : ∀ {rs : List D}, (∀ r ∈ rs, r = .non ∨ ∃ l, r = .tupK (tsK l) ∧ P l) → ∃ L : List (List Str), rs.filter (fun r => !isNon r) = L.map (fun l => .tupK (tsK l)) ∧ (∀ l ∈ L, P l) ∧ (L = [] → ∀ r ∈ rs, r = .non)
  | [], _ => ⟨[], rfl, (fun l h => by cases h), (fun _ r h => by cases h)⟩
  | r :: rs, h => by
    obtain ⟨L, h1, h2, h3⟩ := only_keys (rs := rs) fun r hr => h r (List.mem_cons_of_mem _ hr)
    rcases h r List.mem_cons_self with rfl | ⟨l, rfl, hl⟩
    · refine ⟨L, by rw [List.filter_cons, if_neg (by decide)]; exact h1, h2, fun e r hr => ?_⟩
      rcases List.mem_cons.mp hr with rfl | hr
      · rfl
      · exact h3 e r hr
    · refine ⟨l :: L, by rw [List.filter_cons, if_pos (by rfl), h1]; rfl, fun l' hl' => ?_, fun e => by cases e⟩
      rcases List.mem_cons.mp hl' with rfl | hl'
      · exact hl
      · exact h2 l' hl'
theorem ok_firstS (T : Tx K mg) {n : Nat} (H : FO_Having_lack_of P w base T (4 * n + 45) (spLack T.C_Having n)) : FO_Having_first_not_had P w base T (4 * n + 46) (spFirst T.C_Having n) := by
  refine fnd_Having_first_not_had T H (fun ds O R RE ⟨_, _, _, _, _, _, _, _, _, _, _, _, _, q, _⟩ => by rw [q]; rfl) ?_
  rintro ds O R RE ⟨s, aK, aF, p, U, S0, Ts, kk, kf, S, l, M, w, rfl, u, hc, hS, hl, hpr, hlf, hp, npk, hask, hwl, hR⟩
  unfold g_Having_first_not_had
  have npf : p ≠ aF := fun e => by rw [e, hc.f] at hp; cases hp
  refine gSeq_step ?_
  walk_at "kh"
  refine lcA_invH dMv (fun pre rs O' => rs.length ≤ pre.length ∧ ∃ kk' kf', HvC T.C_Having s aK aF U S0 Ts kk' kf' O' ∧ HvTo aK aF [] O kk kf O' kk' kf' ∧ (∀ r ∈ rs, r = .non ∨ ∃ l, r = .tupK (tsK l) ∧ ∃ a ∈ mvT pre, ∃ t ∈ ends a, ¬ okE' S M t ∧ KyOf (S ++ t.1) l ∧ Pres kk' (S ++ t.1)) ∧ ∀ a ∈ mvT pre, (∀ t ∈ ends a, okE' S M t) ∨ ∃ r ∈ rs, r ≠ .non) w w [] [] O _ rfl ⟨Nat.le_refl _, kk, kf, hc, .refl, (fun r hr => by cases hr), (fun a ha => by cases ha)⟩ (Nat.le_refl _) (sz_small (by omega)) ?_ ?_
  · rintro pre mv rest rs O' ep ⟨hJ, kk', kf', hc', ht', hr, ha⟩ N1 N2 hN1 hN2
    have hpO' := ht'.fr p _ hp npk npf (by simp)
    cases mv with
    | k a =>
      have haw : a ∈ mvT w := by rw [ep, mvT_app]; simp [mvT]
      obtain ⟨h1, h2, h3, h4⟩ := hask a haw
      simp only [dMv]
      walk_at "kh"
      rw [isi_dK]
      refine ⟨_, rfl, ?_⟩
      rw [if_pos rfl]
      refine ⟨hv_no hc' (by decide +kernel) (by decide +kernel), ?_⟩
      refine ⟨s, aK, aF, p, U, S0, Ts, kk', kf', S, l, M, a, rfl, u, hc', hS, hl, hpr.grow ht'.gk, hlf, hpO', npk, fun t ht => (h1 t ht).1, h2, h3, h4, fun t ht => (h1 t ht).2, fun O2 kk2 kf2 r hc2 ht2 hlr => ?_⟩
      refine hN1 _ _ ⟨by simp only [List.length_append, List.length_singleton]; omega, kk2, kf2, hc2, ht'.trans ht2 hc'.nk hc'.nf, fun r' hr' => ?_, fun b hb => ?_⟩
      · rcases List.mem_append.mp hr' with h | h
        · rcases hr r' h with h | ⟨l', e1, b, e2, t, e3, e4, e5, e6⟩
          · exact .inl h
          · exact .inr ⟨l', e1, b, by rw [mvT_app]; exact List.mem_append_left _ e2, t, e3, e4, e5, e6.grow ht2.gk⟩
        · rw [List.mem_singleton.mp h]
          rcases hlr with ⟨h, _⟩ | ⟨b, hb, t, e3, l', e4, e5, e6, e7⟩
          · exact .inl h
          · rw [List.mem_singleton.mp hb] at e3
            exact .inr ⟨l', e7, a, by rw [mvT_app]; simp [mvT], t, e3, e4, e5, e6⟩
      · rw [mvT_app] at hb
        rcases List.mem_append.mp hb with hb | hb
        · rcases ha b hb with h | ⟨r', h, hn⟩
          · exact .inl h
          · exact .inr ⟨r', List.mem_append_left _ h, hn⟩
        · simp only [mvT, List.mem_singleton] at hb
          subst hb
          rcases hlr with ⟨_, h⟩ | ⟨b', hb', t, e3, l', e4, e5, e6, e7⟩
          · exact .inl (h b (by simp))
          · exact .inr ⟨r, by simp, by rw [e7]; simp⟩
    | one =>
      simp only [dMv]
      walk_at "kh"
      exact hN2 _ ⟨by simp only [List.length_append, List.length_singleton]; omega, kk', kf', hc', ht', by rw [mvT_app]; simpa [mvT] using hr, by rw [mvT_app]; simpa [mvT] using ha⟩
    | two =>
      simp only [dMv]
      walk_at "kh"
      exact hN2 _ ⟨by simp only [List.length_append, List.length_singleton]; omega, kk', kf', hc', ht', by rw [mvT_app]; simpa [mvT] using hr, by rw [mvT_app]; simpa [mvT] using ha⟩
  · rintro rs O' ⟨hJ, kk', kf', hc', ht', hr, ha⟩
    obtain ⟨L, hL1, hL2, hL3⟩ := only_keys hr
    refine gSeq_step ?_
    walk_at "kh"
    have hlen : rs.length ≤ 1000 := by omega
    rw [show rs = rs.map id from (List.map_id rs).symm]
    refine lcA_filter (fun r => !isNon r) id id rs [] _ (by rw [List.length_nil]; exact sz_small (by omega)) (fun r hr' Q1 Q2 g1 g2 => ?_) ?_
    · walk_at "kh"
      cases hb : isNon r with
      | true =>
        simp only [id_eq, hb]
        exact g2 (by simp [hb])
      | false =>
        simp only [id_eq, hb]
        exact g1 (by simp [hb])
    · rw [List.nil_append, List.map_id, hL1]
      have hLso : ∀ l' ∈ L, ∀ s ∈ l', PyData.strOk s = true := fun l' hl' => by
        obtain ⟨a, ha', t, ht, _, h3, _⟩ := hL2 l' hl'
        exact kyso u (hS.put ((hask a ha').1 t ht).1) h3
      refine gSeq_step ?_
      walk_at "kh"
      refine rInK_of (L := L) (y := .lst (L.map fun l => .tupK (tsK l))) (O := O') rfl (kyso u hS hl) hLso ?_
      rw [Bool.false_xor]
      by_cases c : l ∈ L
      · rw [decide_eq_true c]
        walk_at "kh"
        obtain ⟨a, ha', t, ht, h2, h3, h4⟩ := hL2 l c
        exact hR O' kk' kf' _ hc' ht' (.inr ⟨a, ha', t, ht, l, h2, h3, h4, rfl⟩)
      · rw [decide_eq_false c]
        walk_at "kh"
        refine rMinLen_l (L := L.map tsK) (x := .lst (L.map fun l => .tupK (tsK l))) (O := O') (by simp only [deref, List.map_map]; rfl) (fun e => ?_) fun ks hks => ?_
        · have e : L = [] := by cases L with
            | nil => rfl
            | cons => cases e
          refine hR O' kk' kf' _ hc' ht' (.inl ⟨rfl, fun a ha' t ht => ?_⟩)
          rcases ha a ha' with h | ⟨r, h, hn⟩
          · exact h t ht
          · exact absurd (hL3 e r h) hn
        · obtain ⟨l', hl', rfl⟩ := List.mem_map.mp hks
          obtain ⟨a, ha', t, ht, h2, h3, h4⟩ := hL2 l' hl'
          exact hR O' kk' kf' _ hc' ht' (.inr ⟨a, ha', t, ht, l', h2, h3, h4, rfl⟩)
end
end Kf
namespace Kf
open PySem PySem.Spec L2
open PyProof.Rows hiding St
local macro_rules | `(tactic| walk_at "kf") => `(tactic| simp (config := { failIfUnchanged := false }) only [startD, ap_fiEnumT, asT1_t, ap_fKGet, asStr_s, ap_fKIn, ap_fKIx, ap_gAsgL, rUnl_l, ap_fiRng3, asR3_i, rSplitO_s, ap_fOrL, rOrL_l, ap_fLcK, ap_gForK, ap_fMaxD, rMaxD_l, rMaxL_l, ap_fCallXD, ap_gForE, asLE_l, ap_fFrz, ap_fDicO, ap_fDGet, ap_fDGet1, ap_fDGet2, ap_gDPut, ap_fIsiT, ap_gForR, rRep_l, isT_i, isT_s, isT_b, isT_n, isT_t, isT_l, ap_gSeq, ap_gIf, ap_gRet, ap_gNext, ap_gSet, ap_gAsg, ap_gPar, ap_gDrop, ap_gRetF, ap_gRetN, ap_gFor, ap_gSetIx, ap_gBreak, ap_fRev, ap_fiRevR, asIR_i, rRev_l, ap_fCallX, ap_gRaise, ap_gTry, ap_gTryAs, ap_gNever, ap_fEdic, ap_fTest, ap_fOp, ap_fVar, envGet_s, patGet_s, ap_fC, ap_fCB, ap_fCons, ap_fNil, ap_fCall, ap_fAnd, ap_fOr, ap_fNot, ap_fAndV, ap_fOrV, ap_fNotV, ap_fIf, ap_fTup, ap_fLst, ap_fLstO, ap_fChain, ap_fUn, ap_fBM, ap_fBM0, ap_fPool, rPool_i, ap_fSl, ap_fPart, ap_fNoPart, asI_i, rSl_l, ap_fiRng1, ap_fiRng2, ap_fiList, ap_fiTup, ap_fiStr, ap_fiEnum, ap_fiZip, ap_fiRev, asL_l, asT_t, asSg_s, asR1_i, asR2_i, asL1_l, asL2_l, ap_fLc, ap_fLcO, ap_fYes, wipeD, lcD, isi_i_int, isi_i_bool, isi_i_str, isi_i_tuple, isi_i_list, isi_i_dict, isi_b_int, isi_b_bool, isi_b_str, isi_b_tuple, isi_b_list, isi_b_dict, isi_s_int, isi_s_bool, isi_s_str, isi_s_tuple, isi_s_list, isi_s_dict, isi_t_int, isi_t_bool, isi_t_str, isi_t_tuple, isi_t_list, isi_t_dict, isi_l_int, isi_l_bool, isi_l_str, isi_l_tuple, isi_l_list, isi_l_dict, isi_n_int, isi_n_bool, isi_n_str, isi_n_tuple, isi_n_list, isi_n_dict, isi_d_int, isi_d_bool, isi_d_str, isi_d_tuple, isi_d_list, isi_d_dict,
  deref_tup, deref_lst, deref_int, deref_str, deref_bl, deref_non, deref_scr, rLt_i, rLt_s, rLe_i, rLe_s, rInts_i, rInts0_i, rAdd_i, rAdd_s, rAdd_l, rAdd_t, rCatO_l, rNeg_i, rLen_t, rLen_l, rLen_c, rLen_s, rMax_i, rMin_i, rInt_i, rInt_b, rDivmod_i, ap_gAug, rStr_i, rList_l, rList_t, rListO_l, rListO_t, rTup_l, rTup_t,
  rIx_t0, rIx_t1, rIx_t2, rIx_t3, rIx_l0, rIx_l1, rIx_l2, rIsN_x, isNon_t, isNon_n, isNon_i, isNon_s, isNon_l, rEq_i, rEq_b, rEq_i2, rEq_b2, rJoin_m, rSplit_s, tyOk_l, tyOk_s, patD_nm, patD_tp, patDs_nil, patDs_cons, Option.bind_some, notX, notX',
  List.map_cons, List.map_nil, List.length_cons, List.length_nil, List.cons_append, List.nil_append, List.append_nil, List.replicate, List.getElem?_cons_zero, List.getElem?_cons_succ, List.set_cons_zero, List.set_cons_succ, updO_same, updO_updO,
  Nat.reduceSub, Nat.reduceAdd, Nat.reduceLeDiff, Nat.zero_add, Int.cast_ofNat_Int, Int.natCast_zero, Int.natCast_one, Int.reduceLT, Int.reduceLE, Int.reduceEq, Int.reduceAdd, Int.reduceSub, Int.reduceNeg, decide_true, decide_false, if_true, if_false, Bool.false_eq_true, eq_self, reduceIte, Bool.true_eq_false, decide_eq_true_eq, Bool.not_true, Bool.not_false, Bool.not_eq_true', decide_eq_false_iff_not, exists_eq_left', exists_eq_left, D.bl.injEq, true_and, and_true, not_true_eq_false, not_false_eq_true])
local macro_rules | `(tactic| walk_at "len") => `(tactic| (intro ds O R RE h; first | (obtain ⟨e, _⟩ := h; subst e; rfl) | (obtain ⟨_, e, _⟩ := h; subst e; rfl) | (obtain ⟨_, _, e, _⟩ := h; subst e; rfl) | (obtain ⟨_, _, _, e, _⟩ := h; subst e; rfl) | (obtain ⟨_, _, _, _, e, _⟩ := h; subst e; rfl) | (obtain ⟨_, _, _, _, _, e, _⟩ := h; subst e; rfl) | (obtain ⟨_, _, _, _, _, _, e, _⟩ := h; subst e; rfl) | (obtain ⟨_, _, _, _, _, _, _, e, _⟩ := h; subst e; rfl) | (obtain ⟨_, _, _, _, _, _, _, _, e, _⟩ := h; subst e; rfl) | (obtain ⟨_, _, _, _, _, _, _, _, _, e, _⟩ := h; subst e; rfl)))
local macro_rules | `(tactic| walk_at "kf1") => `(tactic| simp (config := { failIfUnchanged := false }) only [startD, ap_fiEnumT, asT1_t, ap_fKGet, asStr_s, ap_fKIn, ap_fKIx, ap_gAsgL, rUnl_l, ap_fiRng3, asR3_i, rSplitO_s, ap_fOrL, rOrL_l, ap_fLcK, ap_gForK, ap_fMaxD, rMaxD_l, rMaxL_l, ap_fCallXD, ap_gForE, asLE_l, ap_fFrz, ap_fDicO, ap_fDGet, ap_fDGet1, ap_fDGet2, ap_gDPut, ap_fIsiT, ap_gForR, rRep_l, isT_i, isT_s, isT_b, isT_n, isT_t, isT_l, ap_gIf, ap_gRet, ap_gNext, ap_gSet, ap_gAsg, ap_gPar, ap_gDrop, ap_gRetF, ap_gRetN, ap_gFor, ap_gSetIx, ap_gBreak, ap_fRev, ap_fiRevR, asIR_i, rRev_l, ap_fCallX, ap_gRaise, ap_gTry, ap_gTryAs, ap_gNever, ap_fEdic, ap_fTest, ap_fOp, ap_fVar, envGet_s, patGet_s, ap_fC, ap_fCB, ap_fCons, ap_fNil, ap_fCall, ap_fAnd, ap_fOr, ap_fNot, ap_fAndV, ap_fOrV, ap_fNotV, ap_fIf, ap_fTup, ap_fLst, ap_fLstO, ap_fChain, ap_fUn, ap_fBM, ap_fBM0, ap_fPool, rPool_i, ap_fSl, ap_fPart, ap_fNoPart, asI_i, rSl_l, ap_fiRng1, ap_fiRng2, ap_fiList, ap_fiTup, ap_fiStr, ap_fiEnum, ap_fiZip, ap_fiRev, asL_l, asT_t, asSg_s, asR1_i, asR2_i, asL1_l, asL2_l, ap_fLc, ap_fLcO, ap_fYes, wipeD, lcD, isi_i_int, isi_i_bool, isi_i_str, isi_i_tuple, isi_i_list, isi_i_dict, isi_b_int, isi_b_bool, isi_b_str, isi_b_tuple, isi_b_list, isi_b_dict, isi_s_int, isi_s_bool, isi_s_str, isi_s_tuple, isi_s_list, isi_s_dict, isi_t_int, isi_t_bool, isi_t_str, isi_t_tuple, isi_t_list, isi_t_dict, isi_l_int, isi_l_bool, isi_l_str, isi_l_tuple, isi_l_list, isi_l_dict, isi_n_int, isi_n_bool, isi_n_str, isi_n_tuple, isi_n_list, isi_n_dict, isi_d_int, isi_d_bool, isi_d_str, isi_d_tuple, isi_d_list, isi_d_dict,
  deref_tup, deref_lst, deref_int, deref_str, deref_bl, deref_non, deref_scr, rLt_i, rLt_s, rLe_i, rLe_s, rInts_i, rInts0_i, rAdd_i, rAdd_s, rAdd_l, rAdd_t, rCatO_l, rNeg_i, rLen_t, rLen_l, rLen_c, rLen_s, rMax_i, rMin_i, rInt_i, rInt_b, rDivmod_i, ap_gAug, rStr_i, rList_l, rList_t, rListO_l, rListO_t, rTup_l, rTup_t,
  rIx_t0, rIx_t1, rIx_t2, rIx_t3, rIx_l0, rIx_l1, rIx_l2, rIsN_x, isNon_t, isNon_n, isNon_i, isNon_s, isNon_l, rEq_i, rEq_b, rEq_i2, rEq_b2, rJoin_m, rSplit_s, tyOk_l, tyOk_s, patD_nm, patD_tp, patDs_nil, patDs_cons, Option.bind_some, notX, notX',
  List.map_cons, List.map_nil, List.length_cons, List.length_nil, List.cons_append, List.nil_append, List.append_nil, List.replicate, List.getElem?_cons_zero, List.getElem?_cons_succ, List.set_cons_zero, List.set_cons_succ, updO_same, updO_updO,
  Nat.reduceSub, Nat.reduceAdd, Nat.reduceLeDiff, Nat.zero_add, Int.cast_ofNat_Int, Int.natCast_zero, Int.natCast_one, Int.reduceLT, Int.reduceLE, Int.reduceEq, Int.reduceAdd, Int.reduceSub, Int.reduceNeg, decide_true, decide_false, if_true, if_false, Bool.false_eq_true, eq_self, reduceIte, Bool.true_eq_false, decide_eq_true_eq, Bool.not_true, Bool.not_false, Bool.not_eq_true', decide_eq_false_iff_not, exists_eq_left', exists_eq_left, D.bl.injEq, true_and, and_true, not_true_eq_false, not_false_eq_true])
section
variable {P : Program} {w : World} {K : PySem.W.Frag} {mg : Str → Option Value} {base : Heap}
local macro_rules | `(tactic| walk_at "tg") => `(tactic| simp (config := { failIfUnchanged := false }) only [te_name_take, te_name_give, te_name_pair, te_name_first, te_name_second, te_name_to, te_name_both, te_name_one, te_name_mark, te_name_name, te_name_thing, te_name_at, te_thing_take, te_thing_give, te_thing_pair, te_thing_first, te_thing_second, te_thing_to, te_thing_both, te_thing_one, te_thing_mark, te_thing_name, te_thing_thing, te_thing_at, te_take_take, te_take_give, te_take_pair, te_take_first, te_take_second, te_take_to, te_take_both, te_take_one, te_take_mark, te_take_name, te_take_thing, te_take_at, te_give_take, te_give_give, te_give_pair, te_give_first, te_give_second, te_give_to, te_give_both, te_give_one, te_give_mark, te_give_name, te_give_thing, te_give_at, te_pair_take, te_pair_give, te_pair_pair, te_pair_first, te_pair_second, te_pair_to, te_pair_both, te_pair_one, te_pair_mark, te_pair_name, te_pair_thing, te_pair_at, te_first_take, te_first_give, te_first_pair, te_first_first, te_first_second, te_first_to, te_first_both, te_first_one, te_first_mark, te_first_name, te_first_thing, te_first_at, te_second_take, te_second_give, te_second_pair, te_second_first, te_second_second, te_second_to, te_second_both, te_second_one, te_second_mark, te_second_name, te_second_thing, te_second_at, te_mark_take, te_mark_give, te_mark_pair, te_mark_first, te_mark_second, te_mark_to, te_mark_both, te_mark_one, te_mark_mark, te_mark_name, te_mark_thing, te_mark_at, te_one_take, te_one_give, te_one_pair, te_one_first, te_one_second, te_one_to, te_one_both, te_one_one, te_one_mark, te_one_name, te_one_thing, te_one_at, te_to_take, te_to_give, te_to_pair, te_to_first, te_to_second, te_to_to, te_to_both, te_to_one, te_to_mark, te_to_name, te_to_thing, te_to_at, te_both_take, te_both_give, te_both_pair, te_both_first, te_both_second, te_both_to, te_both_both, te_both_one, te_both_mark, te_both_name, te_both_thing, te_both_at, te_at_take, te_at_give, te_at_pair, te_at_first, te_at_second, te_at_to, te_at_both, te_at_one, te_at_mark, te_at_name, te_at_thing, te_at_at, ti4_name, ti4_thing, ti4_take, ti4_give, ti4_pair, ti4_first, ti4_second, ti2_name, ti2_thing, ti2_take, ti2_give, ti2_pair, ti2_first, ti2_second, szT_0, szT_1, szT_2, szT_3, szT_4, szT_5, szT_6, szT_7, szT_8, szT_9, szT_10, szT_11, szT_12, Bool.not_true, Bool.not_false, true_and])
local macro_rules | `(tactic| walk_at "kh") => `(tactic| (walk_at "kf1"; simp (config := { failIfUnchanged := false }) only [ap_fMeth, ap_fFld, ap_gFld, ap_fMake, ap_fUnK, ap_fDicT, ap_fMinLen]; walk_at "kf1"))
def ClosedM (S : List Kd) (M : List Str) (k : Kd) (e : List Kd × Str) : Prop := (∀ a ∈ e.1, ∀ t ∈ ends a, okE' S M t) → e.2 ∈ M
def spMore (C : Addr) (n : Nat) : DSp := fun ds O R _ => ∃ (s aK aF p : Addr) (U S0 : List Kd) (Ts : List (List Kd)) (kk : List (Key × D)) (kf : List (List Key × D)) (S : List Kd) (l M : List Str), ds = [.ref s, .tupK (tsK l), .ref p] ∧ Un U S0 Ts ∧ HvC C s aK aF U S0 Ts kk kf O ∧ InU S0 Ts S ∧ KyOf S l ∧ Pres kk S ∧ lft Ts S < n + 1 ∧
  O p = some (.dic (M.map mkE)) ∧ p ≠ aK ∧ (∀ k d, valD kf k = some d → d ≠ .ref p) ∧ M.Nodup ∧ (∀ m ∈ M, Had S m) ∧
  ∀ O' kk' kf' M', HvC C s aK aF U S0 Ts kk' kf' O' → HvTo aK aF [p] O kk kf O' kk' kf' → O' p = some (.dic (M'.map mkE)) → M'.Nodup → (∀ m ∈ M', Had S m) → M.length ≤ M'.length → (M'.length = M.length → M' = M ∧ ∀ k ∈ S, ∀ e ∈ ends k, ClosedM S M k e) → R (.bl (decide (M.length < M'.length))) O'
theorem ms_len {U S0 : List Kd} {Ts : List (List Kd)} {S : List Kd} {M : List Str} (u : Un U S0 Ts) (hS : InU S0 Ts S) (hn : M.Nodup) (hM : ∀ m ∈ M, Had S m) : M.length ≤ 1000 := Nat.le_trans (nodup_le hn fun m hm => had_mkS u hS (hM m hm)) (mkS_len u)
theorem nof_to {aK aF p : Addr} {O O' : Ow} {kk kk' : List (Key × D)} {kf kf' : List (List Key × D)} {E : List Addr} (h : HvTo aK aF E O kk kf O' kk' kf') (hp : O p ≠ none) (hn : ∀ k d, valD kf k = some d → d ≠ .ref p) : ∀ k d, valD kf' k = some d → d ≠ .ref p := fun k d e q => by
  rcases h.gf k d e with e | ⟨a, rfl, e3⟩
  · exact hn k d e q
  · cases q; exact hp e3
theorem ask_way {U S0 : List Kd} {Ts : List (List Kd)} {S : List Kd} (u : Un U S0 Ts) (hS : InU S0 Ts S) {k : Kd} (hk : k ∈ S) {e : List Kd × Str} (he : e ∈ ends k) : ∀ a ∈ e.1, AskOk Ts a := fun a ha => by
  have h0 := u.lk k (hS.u u k hk)
  have h1 := ends_in k e he
  have h24 := u.l24 k (hS.u u k hk)
  have ha1 : a.leaves ≤ (e.1.map Kd.leaves).sum := mem_sum ha
  refine ⟨fun t ht => ⟨(hS.cl u).ty hk he ha ht, ?_⟩, fun m hm => h0.1 m (ends_marks k e he a ha m hm), ?_, by omega⟩
  · have h2 := (ends_in a t ht).2.1
    have h3 := lvs_len t.1
    unfold lvs at h3
    omega
  · have := (h1.1 a ha).1; omega
theorem ok_moreS (T : Tx K mg) {n : Nat} (H : FO_Having_first_not_had P w base T (4 * n + 46) (spFirst T.C_Having n)) : FO_Having_had_more P w base T (4 * n + 47) (spMore T.C_Having n) := by
  refine fnd_Having_had_more T (fnUp (ok_ways T 40) (by omega)) H (fun ds O R RE ⟨_, _, _, _, _, _, _, _, _, _, _, _, q, _⟩ => by rw [q]; rfl) ?_
  rintro ds O R RE ⟨s, aK, aF, p, U, S0, Ts, kk, kf, S, l, M, rfl, u, hc, hS, hl, hpr, hlf, hp, npk, hnof, hMn, hM, hR⟩
  unfold g_Having_had_more
  have npf : p ≠ aF := fun e => by rw [e, hc.f] at hp; cases hp
  have nps : p ≠ s := fun e => by rw [e, hc.i] at hp; cases hp
  refine gSeq_step ?_
  walk_at "kh"
  rw [rLenDc_r hp]
  refine gSeq_step ?_
  walk_at "kh"
  rw [show un (.tupK (tsK l)) = .tup (l.map .str) from txD_k l]
  walk_at "kh"
  refine forA_ix D.str (fun pre rest ρ O' => ∃ x4 x5 x6 kk' kf' M', ρ = [some (.ref s), some (.tupK (tsK l)), some (.ref p), some (.int ((M.map mkE).length : Nat)), x4, x5, x6] ∧ HvC T.C_Having s aK aF U S0 Ts kk' kf' O' ∧ HvTo aK aF [p] O kk kf O' kk' kf' ∧ O' p = some (.dic (M'.map mkE)) ∧ M'.Nodup ∧ (∀ m ∈ M', Had S m) ∧ M.length ≤ M'.length ∧ (M'.length = M.length → M' = M ∧ ∀ k ∈ S, kshow k ∈ pre → ∀ e ∈ ends k, ClosedM S M k e)) l [] _ _ ⟨_, _, _, kk, kf, M, rfl, hc, .refl, hp, hMn, hM, Nat.le_refl _, fun _ => ⟨rfl, fun k _ h => by cases h⟩⟩ ?_ ?_
  · rintro ρ O' ⟨x4, x5, x6, kk', kf', M', rfl, hc', ht', hp', hn', hM', hle, hcl⟩
    rw [List.nil_append] at hcl
    walk_at "kh"
    rw [rLenDc_r hp']
    walk_at "kh"
    rw [List.length_map, List.length_map]
    have := hR O' kk' kf' M' hc' ht' hp' hn' hM' hle fun e => ⟨(hcl e).1, fun k hk => (hcl e).2 k hk ((hl.2 _).mpr ⟨k, hk, rfl⟩)⟩
    rw [show decide ((M.length : Int) < M'.length) = decide (M.length < M'.length) by rw [decide_eq_decide]; omega]
    exact this
  · rintro pre t rest ep ρ O' ⟨x4, x5, x6, kk', kf', M', rfl, hc', ht', hp', hn', hM', hle, hcl⟩ N hN
    rw [List.nil_append] at ep
    obtain ⟨k, hk, rfl⟩ := (hl.2 t).mp (by rw [ep]; simp)
    have hkU := hS.u u k hk
    have h24 := u.l24 k hkU
    have hlk := u.lk k hkU
    walk_at "kh"
    refine ⟨isIns_of hc'.i, ?_⟩
    rw [rFld_of hc'.i (d := .ref aK) (by simp [List.lookup])]
    obtain ⟨d, hd⟩ := Option.isSome_iff_exists.mp (hpr.grow ht'.gk k hk)
    simp only [rDGet, rKey_s hc'.k, hd]
    rw [hc'.kv k hkU d hd]
    refine ⟨k, rfl, by omega, by omega, by omega, mks_ok k hlk.1, ?_⟩
    dsimp only
    walk_at "kh"
    refine forA_ix dWy (fun preW restW ρ O' => ∃ x5 x6 kk' kf' M', ρ = [some (.ref s), some (.tupK (tsK l)), some (.ref p), some (.int ((M.map mkE).length : Nat)), some (.str (kshow k)), x5, x6] ∧ HvC T.C_Having s aK aF U S0 Ts kk' kf' O' ∧ HvTo aK aF [p] O kk kf O' kk' kf' ∧ O' p = some (.dic (M'.map mkE)) ∧ M'.Nodup ∧ (∀ m ∈ M', Had S m) ∧ M.length ≤ M'.length ∧ (M'.length = M.length → M' = M ∧ (∀ k ∈ S, kshow k ∈ pre → ∀ e ∈ ends k, ClosedM S M k e) ∧ ∀ w ∈ preW, ClosedM S M k (wyE w))) (wys k) [] _ _ ⟨_, _, kk', kf', M', rfl, hc', ht', hp', hn', hM', hle, fun e => ⟨(hcl e).1, (hcl e).2, fun w hw => by cases hw⟩⟩ ?_ ?_
    · rintro ρ O2 ⟨x5, x6, kk2, kf2, M2, rfl, hc2, ht2, hp2, hn2, hM2, hle2, hcl2⟩
      rw [List.nil_append] at hcl2
      refine hN _ _ ⟨_, _, _, kk2, kf2, M2, rfl, hc2, ht2, hp2, hn2, hM2, hle2, fun e => ⟨(hcl2 e).1, fun k' hk' hpre e' he' => ?_⟩⟩
      rcases List.mem_append.mp hpre with h | h
      · exact (hcl2 e).2.1 k' hk' h e' he'
      · have := kshow_inj (u.lk k' (hS.u u k' hk')) hlk (List.mem_singleton.mp h)
        subst this
        rw [← wys_ends] at he'
        obtain ⟨w, hw, rfl⟩ := List.mem_map.mp he'
        exact (hcl2 e).2.2 w hw
    · rintro preW wy restW epW ρ O2 ⟨x5, x6, kk2, kf2, M2, rfl, hc2, ht2, hp2, hn2, hM2, hle2, hcl2⟩ N2 hN2
      rw [List.nil_append] at epW
      have hw : wy ∈ wys k := by rw [epW]; simp
      have he : wyE wy ∈ ends k := by rw [← wys_ends]; exact List.mem_map_of_mem hw
      have hml := ms_len u hS hn2 hM2
      simp only [dWy]
      walk_at "kh"
      simp only [rDIn, rKey_s hp2, valE]
      refine ⟨_, rfl, ?_⟩
      by_cases m : wy.2 ∈ M2
      · rw [decide_eq_true m, if_neg (by decide)]
        refine hN2 _ _ ⟨_, _, kk2, kf2, M2, rfl, hc2, ht2, hp2, hn2, hM2, hle2, fun e => ⟨(hcl2 e).1, (hcl2 e).2.1, fun w' hw' => ?_⟩⟩
        rcases List.mem_append.mp hw' with h | h
        · exact (hcl2 e).2.2 w' h
        · rw [List.mem_singleton.mp h]
          intro _
          rw [← (hcl2 e).1]; exact m
      · rw [decide_eq_false m, if_pos (by decide)]
        refine ⟨hv_no hc2 (by decide +kernel) (by decide +kernel), ?_⟩
        refine ⟨s, aK, aF, p, U, S0, Ts, kk2, kf2, S, l, M2, wy.1, rfl, u, hc2, hS, hl, hpr.grow ht2.gk, hlf, hp2, npk, ask_way u hS hk he, by have := wys_mvl k wy hw; omega, fun O3 kk3 kf3 r hc3 ht3 hlr => ?_⟩
        have hp3 := ht3.fr p _ hp2 npk npf (by simp)
        have T3 : HvTo aK aF [p] O kk kf O3 kk3 kf3 := ht2.trans (ht3.more fun a h => by cases h) hc2.nk hc2.nf (fun a h => by rw [List.mem_singleton.mp h, hp2]; simp)
        dsimp only
        rcases hlr with ⟨rfl, hok⟩ | ⟨a, ha, t, ht, l', h1, h2, h3, rfl⟩
        · rw [if_pos (show isNon .non = true from rfl), rDPut_s hp3, putE, if_neg m]
          refine ⟨sz_small (by rw [List.length_map]; omega), hN2 _ _ ⟨_, _, kk3, kf3, M2 ++ [wy.2], rfl, hc3.else nps npk npf (nof_to T3 (by rw [hp]; simp) hnof), T3.set (by simp), updO_same, ?_, fun m' hm' => ?_, by simp only [List.length_append, List.length_singleton]; omega, fun e => ?_⟩⟩
          · exact List.nodup_append.mpr ⟨hn2, by simp, fun x hx y hy e => m (by rw [List.mem_singleton] at hy; rw [← hy, ← e]; exact hx)⟩
          · rcases List.mem_append.mp hm' with h | h
            · exact hM2 m' h
            · rw [List.mem_singleton.mp h]
              exact Had.mk (e := wyE wy) hk he fun a ha t ht => (hok a ha t ht).had hM2
          · simp only [List.length_append, List.length_singleton] at e; omega
        · rw [if_neg (by rw [isNon_k]; decide)]
          refine hN2 _ _ ⟨_, _, kk3, kf3, M2, rfl, hc3, T3, hp3, hn2, hM2, hle2, fun e => ⟨(hcl2 e).1, (hcl2 e).2.1, fun w' hw' => ?_⟩⟩
          rcases List.mem_append.mp hw' with h | h
          · exact (hcl2 e).2.2 w' h
          · rw [List.mem_singleton.mp h]
            intro hall
            exact absurd (by rw [(hcl2 e).1]; exact hall a ha t ht) h1
end
end Kf
namespace Kf
open PySem PySem.Spec L2
open PyProof.Rows hiding St
local macro_rules | `(tactic| walk_at "kf") => `(tactic| simp (config := { failIfUnchanged := false }) only [startD, ap_fiEnumT, asT1_t, ap_fKGet, asStr_s, ap_fKIn, ap_fKIx, ap_gAsgL, rUnl_l, ap_fiRng3, asR3_i, rSplitO_s, ap_fOrL, rOrL_l, ap_fLcK, ap_gForK, ap_fMaxD, rMaxD_l, rMaxL_l, ap_fCallXD, ap_gForE, asLE_l, ap_fFrz, ap_fDicO, ap_fDGet, ap_fDGet1, ap_fDGet2, ap_gDPut, ap_fIsiT, ap_gForR, rRep_l, isT_i, isT_s, isT_b, isT_n, isT_t, isT_l, ap_gSeq, ap_gIf, ap_gRet, ap_gNext, ap_gSet, ap_gAsg, ap_gPar, ap_gDrop, ap_gRetF, ap_gRetN, ap_gFor, ap_gSetIx, ap_gBreak, ap_fRev, ap_fiRevR, asIR_i, rRev_l, ap_fCallX, ap_gRaise, ap_gTry, ap_gTryAs, ap_gNever, ap_fEdic, ap_fTest, ap_fOp, ap_fVar, envGet_s, patGet_s, ap_fC, ap_fCB, ap_fCons, ap_fNil, ap_fCall, ap_fAnd, ap_fOr, ap_fNot, ap_fAndV, ap_fOrV, ap_fNotV, ap_fIf, ap_fTup, ap_fLst, ap_fLstO, ap_fChain, ap_fUn, ap_fBM, ap_fBM0, ap_fPool, rPool_i, ap_fSl, ap_fPart, ap_fNoPart, asI_i, rSl_l, ap_fiRng1, ap_fiRng2, ap_fiList, ap_fiTup, ap_fiStr, ap_fiEnum, ap_fiZip, ap_fiRev, asL_l, asT_t, asSg_s, asR1_i, asR2_i, asL1_l, asL2_l, ap_fLc, ap_fLcO, ap_fYes, wipeD, lcD, isi_i_int, isi_i_bool, isi_i_str, isi_i_tuple, isi_i_list, isi_i_dict, isi_b_int, isi_b_bool, isi_b_str, isi_b_tuple, isi_b_list, isi_b_dict, isi_s_int, isi_s_bool, isi_s_str, isi_s_tuple, isi_s_list, isi_s_dict, isi_t_int, isi_t_bool, isi_t_str, isi_t_tuple, isi_t_list, isi_t_dict, isi_l_int, isi_l_bool, isi_l_str, isi_l_tuple, isi_l_list, isi_l_dict, isi_n_int, isi_n_bool, isi_n_str, isi_n_tuple, isi_n_list, isi_n_dict, isi_d_int, isi_d_bool, isi_d_str, isi_d_tuple, isi_d_list, isi_d_dict,
  deref_tup, deref_lst, deref_int, deref_str, deref_bl, deref_non, deref_scr, rLt_i, rLt_s, rLe_i, rLe_s, rInts_i, rInts0_i, rAdd_i, rAdd_s, rAdd_l, rAdd_t, rCatO_l, rNeg_i, rLen_t, rLen_l, rLen_c, rLen_s, rMax_i, rMin_i, rInt_i, rInt_b, rDivmod_i, ap_gAug, rStr_i, rList_l, rList_t, rListO_l, rListO_t, rTup_l, rTup_t,
  rIx_t0, rIx_t1, rIx_t2, rIx_t3, rIx_l0, rIx_l1, rIx_l2, rIsN_x, isNon_t, isNon_n, isNon_i, isNon_s, isNon_l, rEq_i, rEq_b, rEq_i2, rEq_b2, rJoin_m, rSplit_s, tyOk_l, tyOk_s, patD_nm, patD_tp, patDs_nil, patDs_cons, Option.bind_some, notX, notX',
  List.map_cons, List.map_nil, List.length_cons, List.length_nil, List.cons_append, List.nil_append, List.append_nil, List.replicate, List.getElem?_cons_zero, List.getElem?_cons_succ, List.set_cons_zero, List.set_cons_succ, updO_same, updO_updO,
  Nat.reduceSub, Nat.reduceAdd, Nat.reduceLeDiff, Nat.zero_add, Int.cast_ofNat_Int, Int.natCast_zero, Int.natCast_one, Int.reduceLT, Int.reduceLE, Int.reduceEq, Int.reduceAdd, Int.reduceSub, Int.reduceNeg, decide_true, decide_false, if_true, if_false, Bool.false_eq_true, eq_self, reduceIte, Bool.true_eq_false, decide_eq_true_eq, Bool.not_true, Bool.not_false, Bool.not_eq_true', decide_eq_false_iff_not, exists_eq_left', exists_eq_left, D.bl.injEq, true_and, and_true, not_true_eq_false, not_false_eq_true])
local macro_rules | `(tactic| walk_at "len") => `(tactic| (intro ds O R RE h; first | (obtain ⟨e, _⟩ := h; subst e; rfl) | (obtain ⟨_, e, _⟩ := h; subst e; rfl) | (obtain ⟨_, _, e, _⟩ := h; subst e; rfl) | (obtain ⟨_, _, _, e, _⟩ := h; subst e; rfl) | (obtain ⟨_, _, _, _, e, _⟩ := h; subst e; rfl) | (obtain ⟨_, _, _, _, _, e, _⟩ := h; subst e; rfl) | (obtain ⟨_, _, _, _, _, _, e, _⟩ := h; subst e; rfl) | (obtain ⟨_, _, _, _, _, _, _, e, _⟩ := h; subst e; rfl) | (obtain ⟨_, _, _, _, _, _, _, _, e, _⟩ := h; subst e; rfl) | (obtain ⟨_, _, _, _, _, _, _, _, _, e, _⟩ := h; subst e; rfl)))
local macro_rules | `(tactic| walk_at "kf1") => `(tactic| simp (config := { failIfUnchanged := false }) only [startD, ap_fiEnumT, asT1_t, ap_fKGet, asStr_s, ap_fKIn, ap_fKIx, ap_gAsgL, rUnl_l, ap_fiRng3, asR3_i, rSplitO_s, ap_fOrL, rOrL_l, ap_fLcK, ap_gForK, ap_fMaxD, rMaxD_l, rMaxL_l, ap_fCallXD, ap_gForE, asLE_l, ap_fFrz, ap_fDicO, ap_fDGet, ap_fDGet1, ap_fDGet2, ap_gDPut, ap_fIsiT, ap_gForR, rRep_l, isT_i, isT_s, isT_b, isT_n, isT_t, isT_l, ap_gIf, ap_gRet, ap_gNext, ap_gSet, ap_gAsg, ap_gPar, ap_gDrop, ap_gRetF, ap_gRetN, ap_gFor, ap_gSetIx, ap_gBreak, ap_fRev, ap_fiRevR, asIR_i, rRev_l, ap_fCallX, ap_gRaise, ap_gTry, ap_gTryAs, ap_gNever, ap_fEdic, ap_fTest, ap_fOp, ap_fVar, envGet_s, patGet_s, ap_fC, ap_fCB, ap_fCons, ap_fNil, ap_fCall, ap_fAnd, ap_fOr, ap_fNot, ap_fAndV, ap_fOrV, ap_fNotV, ap_fIf, ap_fTup, ap_fLst, ap_fLstO, ap_fChain, ap_fUn, ap_fBM, ap_fBM0, ap_fPool, rPool_i, ap_fSl, ap_fPart, ap_fNoPart, asI_i, rSl_l, ap_fiRng1, ap_fiRng2, ap_fiList, ap_fiTup, ap_fiStr, ap_fiEnum, ap_fiZip, ap_fiRev, asL_l, asT_t, asSg_s, asR1_i, asR2_i, asL1_l, asL2_l, ap_fLc, ap_fLcO, ap_fYes, wipeD, lcD, isi_i_int, isi_i_bool, isi_i_str, isi_i_tuple, isi_i_list, isi_i_dict, isi_b_int, isi_b_bool, isi_b_str, isi_b_tuple, isi_b_list, isi_b_dict, isi_s_int, isi_s_bool, isi_s_str, isi_s_tuple, isi_s_list, isi_s_dict, isi_t_int, isi_t_bool, isi_t_str, isi_t_tuple, isi_t_list, isi_t_dict, isi_l_int, isi_l_bool, isi_l_str, isi_l_tuple, isi_l_list, isi_l_dict, isi_n_int, isi_n_bool, isi_n_str, isi_n_tuple, isi_n_list, isi_n_dict, isi_d_int, isi_d_bool, isi_d_str, isi_d_tuple, isi_d_list, isi_d_dict,
  deref_tup, deref_lst, deref_int, deref_str, deref_bl, deref_non, deref_scr, rLt_i, rLt_s, rLe_i, rLe_s, rInts_i, rInts0_i, rAdd_i, rAdd_s, rAdd_l, rAdd_t, rCatO_l, rNeg_i, rLen_t, rLen_l, rLen_c, rLen_s, rMax_i, rMin_i, rInt_i, rInt_b, rDivmod_i, ap_gAug, rStr_i, rList_l, rList_t, rListO_l, rListO_t, rTup_l, rTup_t,
  rIx_t0, rIx_t1, rIx_t2, rIx_t3, rIx_l0, rIx_l1, rIx_l2, rIsN_x, isNon_t, isNon_n, isNon_i, isNon_s, isNon_l, rEq_i, rEq_b, rEq_i2, rEq_b2, rJoin_m, rSplit_s, tyOk_l, tyOk_s, patD_nm, patD_tp, patDs_nil, patDs_cons, Option.bind_some, notX, notX',
  List.map_cons, List.map_nil, List.length_cons, List.length_nil, List.cons_append, List.nil_append, List.append_nil, List.replicate, List.getElem?_cons_zero, List.getElem?_cons_succ, List.set_cons_zero, List.set_cons_succ, updO_same, updO_updO,
  Nat.reduceSub, Nat.reduceAdd, Nat.reduceLeDiff, Nat.zero_add, Int.cast_ofNat_Int, Int.natCast_zero, Int.natCast_one, Int.reduceLT, Int.reduceLE, Int.reduceEq, Int.reduceAdd, Int.reduceSub, Int.reduceNeg, decide_true, decide_false, if_true, if_false, Bool.false_eq_true, eq_self, reduceIte, Bool.true_eq_false, decide_eq_true_eq, Bool.not_true, Bool.not_false, Bool.not_eq_true', decide_eq_false_iff_not, exists_eq_left', exists_eq_left, D.bl.injEq, true_and, and_true, not_true_eq_false, not_false_eq_true])
section
variable {P : Program} {w : World} {K : PySem.W.Frag} {mg : Str → Option Value} {base : Heap}
local macro_rules | `(tactic| walk_at "tg") => `(tactic| simp (config := { failIfUnchanged := false }) only [te_name_take, te_name_give, te_name_pair, te_name_first, te_name_second, te_name_to, te_name_both, te_name_one, te_name_mark, te_name_name, te_name_thing, te_name_at, te_thing_take, te_thing_give, te_thing_pair, te_thing_first, te_thing_second, te_thing_to, te_thing_both, te_thing_one, te_thing_mark, te_thing_name, te_thing_thing, te_thing_at, te_take_take, te_take_give, te_take_pair, te_take_first, te_take_second, te_take_to, te_take_both, te_take_one, te_take_mark, te_take_name, te_take_thing, te_take_at, te_give_take, te_give_give, te_give_pair, te_give_first, te_give_second, te_give_to, te_give_both, te_give_one, te_give_mark, te_give_name, te_give_thing, te_give_at, te_pair_take, te_pair_give, te_pair_pair, te_pair_first, te_pair_second, te_pair_to, te_pair_both, te_pair_one, te_pair_mark, te_pair_name, te_pair_thing, te_pair_at, te_first_take, te_first_give, te_first_pair, te_first_first, te_first_second, te_first_to, te_first_both, te_first_one, te_first_mark, te_first_name, te_first_thing, te_first_at, te_second_take, te_second_give, te_second_pair, te_second_first, te_second_second, te_second_to, te_second_both, te_second_one, te_second_mark, te_second_name, te_second_thing, te_second_at, te_mark_take, te_mark_give, te_mark_pair, te_mark_first, te_mark_second, te_mark_to, te_mark_both, te_mark_one, te_mark_mark, te_mark_name, te_mark_thing, te_mark_at, te_one_take, te_one_give, te_one_pair, te_one_first, te_one_second, te_one_to, te_one_both, te_one_one, te_one_mark, te_one_name, te_one_thing, te_one_at, te_to_take, te_to_give, te_to_pair, te_to_first, te_to_second, te_to_to, te_to_both, te_to_one, te_to_mark, te_to_name, te_to_thing, te_to_at, te_both_take, te_both_give, te_both_pair, te_both_first, te_both_second, te_both_to, te_both_both, te_both_one, te_both_mark, te_both_name, te_both_thing, te_both_at, te_at_take, te_at_give, te_at_pair, te_at_first, te_at_second, te_at_to, te_at_both, te_at_one, te_at_mark, te_at_name, te_at_thing, te_at_at, ti4_name, ti4_thing, ti4_take, ti4_give, ti4_pair, ti4_first, ti4_second, ti2_name, ti2_thing, ti2_take, ti2_give, ti2_pair, ti2_first, ti2_second, szT_0, szT_1, szT_2, szT_3, szT_4, szT_5, szT_6, szT_7, szT_8, szT_9, szT_10, szT_11, szT_12, Bool.not_true, Bool.not_false, true_and])
local macro_rules | `(tactic| walk_at "kh") => `(tactic| (walk_at "kf1"; simp (config := { failIfUnchanged := false }) only [ap_fMeth, ap_fFld, ap_gFld, ap_fMake, ap_fUnK, ap_fDicT, ap_fMinLen]; walk_at "kf1"))
theorem hv_fF {C s aK aF : Addr} {U S0 : List Kd} {Ts : List (List Kd)} {kk : List (Key × D)} {kf : List (List Key × D)} {O : Ow} {Q : VD} (h : HvC C s aK aF U S0 Ts kk kf O) : rFld (Str.ofString "found") (.ref s) O Q = Q (.ref aF) O := rFld_of h.i (by
  have e : (Str.ofString "found" == Str.ofString "kinds") = false := by decide +kernel
  simp [List.lookup, e])
theorem ok_hadS (T : Tx K mg) {n : Nat} (H : FO_Having_had_more P w base T (4 * n + 47) (spMore T.C_Having n)) : FO_Having_had P w base T (4 * n + 48) (spHad T.C_Having (n + 1)) := by
  refine fnd_Having_had T H (fun ds O R RE ⟨_, _, _, _, _, _, _, _, _, _, q, _⟩ => by rw [q]; rfl) ?_
  rintro ds O R RE ⟨s, aK, aF, U, S0, Ts, kk, kf, S, l, rfl, u, hc, hS, hl, hpr, hlf, hR⟩
  unfold g_Having_had
  refine gSeq_step ?_
  walk_at "kh"
  refine ⟨isIns_of hc.i, ?_⟩
  rw [hv_fF hc]
  simp only [rDIn, rKey_t hc.f]
  refine ⟨_, rfl, ?_⟩
  cases e : valD kf (tsK l) with
  | some d =>
    rw [if_neg (by simp)]
    walk_at "kh"
    refine ⟨isIns_of hc.i, ?_⟩
    rw [hv_fF hc]
    simp only [rDGet, rKey_t hc.f, e]
    obtain ⟨a, ms, rfl, h1, h2, h3⟩ := hc.fv S l hS hl d e
    exact hR O kk kf a ms hc .refl h1 h2 h3
  | none =>
    rw [if_pos (by simp)]
    refine gSeq_step ?_
    walk_at "kh"
    intro p hp
    refine gSeq_step ?_
    walk_at "kh"
    refine gSeq_step ?_
    walk_at "kh"
    unfold gWhile
    have np1 : p ≠ s := fun e => by rw [e, hc.i] at hp; cases hp
    have np2 : p ≠ aK := fun e => by rw [e, hc.k] at hp; cases hp
    have np3 : p ≠ aF := fun e => by rw [e, hc.f] at hp; cases hp
    have hnof := hc.nof (p := p) fun ms e => by rw [hp] at e; cases e
    have hc0 : HvC T.C_Having s aK aF U S0 Ts kk kf (updO O p (.dic [])) := hc.else np1 np2 np3 hnof
    refine ⟨fun m ρ O' => ∃ M' kk' kf' b, ρ = [some (.ref s), some (.tupK (tsK l)), some (.ref p), some (.bl b)] ∧ HvC T.C_Having s aK aF U S0 Ts kk' kf' O' ∧ HvTo aK aF [p] (updO O p (.dic [])) kk kf O' kk' kf' ∧ O' p = some (.dic (M'.map mkE)) ∧ M'.Nodup ∧ (∀ m ∈ M', Had S m) ∧ m = 2 * (1001 - M'.length) + (if b = true then 1 else 0) ∧ (b = false → ∀ k ∈ S, ∀ e ∈ ends k, ClosedM S M' k e), ⟨_, [], kk, kf, true, rfl, hc0, .refl, updO_same, by simp, (fun m hm => by cases hm), rfl, fun h => by cases h⟩, ?_⟩
    rintro m ρ O' ⟨M', kk', kf', b, rfl, hc', ht', hp', hn', hM', rfl, hcl⟩
    walk_at "kh"
    have hp0 : updO O p (.dic []) p ≠ none := by rw [updO_same]; simp
    cases b with
    | true =>
      rw [if_pos rfl]
      refine ⟨hv_no hc' (by decide +kernel) (by decide +kernel), ?_⟩
      have hnof' := nof_to ht' hp0 hnof
      have hml := ms_len u hS hn' hM'
      refine ⟨s, aK, aF, p, U, S0, Ts, kk', kf', S, l, M', rfl, u, hc', hS, hl, hpr.grow ht'.gk, hlf, hp', np2, hnof', hn', hM', fun O2 kk2 kf2 M2 hc2 ht2 hp2 hn2 hM2 hle hcl2 => ?_⟩
      have T2 := ht'.trans ht2 hc'.nk hc'.nf (fun a h => by rw [List.mem_singleton.mp h, hp']; simp)
      have hml2 := ms_len u hS hn2 hM2
      refine ⟨_, ?_, M2, kk2, kf2, _, rfl, hc2, T2, hp2, hn2, hM2, rfl, fun hb => ?_⟩
      · by_cases c : M'.length < M2.length
        · simp only [c, decide_true, if_true]; omega
        · simp only [c, decide_false, Bool.false_eq_true, if_false, if_true]; omega
      · have hb : ¬ M'.length < M2.length := of_decide_eq_false hb
        obtain ⟨rfl, h⟩ := hcl2 (by omega)
        exact h
    | false =>
      rw [if_neg (by decide)]
      walk_at "kh"
      refine ⟨isIns_of hc'.i, ?_⟩
      rw [hv_fF hc', rDPut_t hc'.f]
      have hms : MsOf S M' := ⟨hn', fun m => ⟨hM' m, fun h => had_closed (fun k hk e he => hcl rfl k hk e he) m h⟩⟩
      refine ⟨sz_small (by have := hc'.flen u; omega), ?_⟩
      have hc2 := hc'.putF u hS hl hp' hms np2
      refine ⟨isIns_of hc2.i, ?_⟩
      rw [hv_fF hc2]
      walk_at "kh"
      simp only [rDGet, rKey_t hc2.f, valD_put, if_true]
      have hT : HvTo aK aF [] O kk kf O' kk' kf' := ht'.new hp
      refine hR _ kk' _ p M' hc2 ⟨fun a c e n1 n2 n3 => by rw [updO_ne n2]; exact hT.fr a c e n1 n2 n3, hT.gk, fun k d e => ?_⟩ (by rw [updO_ne np3]; exact hp') hms np2
      rw [valD_put] at e
      split at e
      · injection e with e
        exact .inr ⟨p, e.symm, hp⟩
      · exact hT.gf k d e
theorem ok_hadAll (T : Tx K mg) : ∀ n, FO_Having_had P w base T (4 * n + 44) (spHad T.C_Having n)
  | 0 => fnUp (none_left fun ds O R RE ⟨_, _, _, _, _, _, _, _, _, _, _, _, _, _, _, _, h, _⟩ => by omega) (Nat.zero_le _)
  | n + 1 => ok_hadS T (ok_moreS T (ok_firstS T (ok_lackS T (ok_hadAll T n))))
end
end Kf
namespace Kf
open PySem PySem.Spec L2
open PyProof.Rows hiding St
local macro_rules | `(tactic| walk_at "kf") => `(tactic| simp (config := { failIfUnchanged := false }) only [startD, ap_fiEnumT, asT1_t, ap_fKGet, asStr_s, ap_fKIn, ap_fKIx, ap_gAsgL, rUnl_l, ap_fiRng3, asR3_i, rSplitO_s, ap_fOrL, rOrL_l, ap_fLcK, ap_gForK, ap_fMaxD, rMaxD_l, rMaxL_l, ap_fCallXD, ap_gForE, asLE_l, ap_fFrz, ap_fDicO, ap_fDGet, ap_fDGet1, ap_fDGet2, ap_gDPut, ap_fIsiT, ap_gForR, rRep_l, isT_i, isT_s, isT_b, isT_n, isT_t, isT_l, ap_gSeq, ap_gIf, ap_gRet, ap_gNext, ap_gSet, ap_gAsg, ap_gPar, ap_gDrop, ap_gRetF, ap_gRetN, ap_gFor, ap_gSetIx, ap_gBreak, ap_fRev, ap_fiRevR, asIR_i, rRev_l, ap_fCallX, ap_gRaise, ap_gTry, ap_gTryAs, ap_gNever, ap_fEdic, ap_fTest, ap_fOp, ap_fVar, envGet_s, patGet_s, ap_fC, ap_fCB, ap_fCons, ap_fNil, ap_fCall, ap_fAnd, ap_fOr, ap_fNot, ap_fAndV, ap_fOrV, ap_fNotV, ap_fIf, ap_fTup, ap_fLst, ap_fLstO, ap_fChain, ap_fUn, ap_fBM, ap_fBM0, ap_fPool, rPool_i, ap_fSl, ap_fPart, ap_fNoPart, asI_i, rSl_l, ap_fiRng1, ap_fiRng2, ap_fiList, ap_fiTup, ap_fiStr, ap_fiEnum, ap_fiZip, ap_fiRev, asL_l, asT_t, asSg_s, asR1_i, asR2_i, asL1_l, asL2_l, ap_fLc, ap_fLcO, ap_fYes, wipeD, lcD, isi_i_int, isi_i_bool, isi_i_str, isi_i_tuple, isi_i_list, isi_i_dict, isi_b_int, isi_b_bool, isi_b_str, isi_b_tuple, isi_b_list, isi_b_dict, isi_s_int, isi_s_bool, isi_s_str, isi_s_tuple, isi_s_list, isi_s_dict, isi_t_int, isi_t_bool, isi_t_str, isi_t_tuple, isi_t_list, isi_t_dict, isi_l_int, isi_l_bool, isi_l_str, isi_l_tuple, isi_l_list, isi_l_dict, isi_n_int, isi_n_bool, isi_n_str, isi_n_tuple, isi_n_list, isi_n_dict, isi_d_int, isi_d_bool, isi_d_str, isi_d_tuple, isi_d_list, isi_d_dict,
  deref_tup, deref_lst, deref_int, deref_str, deref_bl, deref_non, deref_scr, rLt_i, rLt_s, rLe_i, rLe_s, rInts_i, rInts0_i, rAdd_i, rAdd_s, rAdd_l, rAdd_t, rCatO_l, rNeg_i, rLen_t, rLen_l, rLen_c, rLen_s, rMax_i, rMin_i, rInt_i, rInt_b, rDivmod_i, ap_gAug, rStr_i, rList_l, rList_t, rListO_l, rListO_t, rTup_l, rTup_t,
  rIx_t0, rIx_t1, rIx_t2, rIx_t3, rIx_l0, rIx_l1, rIx_l2, rIsN_x, isNon_t, isNon_n, isNon_i, isNon_s, isNon_l, rEq_i, rEq_b, rEq_i2, rEq_b2, rJoin_m, rSplit_s, tyOk_l, tyOk_s, patD_nm, patD_tp, patDs_nil, patDs_cons, Option.bind_some, notX, notX',
  List.map_cons, List.map_nil, List.length_cons, List.length_nil, List.cons_append, List.nil_append, List.append_nil, List.replicate, List.getElem?_cons_zero, List.getElem?_cons_succ, List.set_cons_zero, List.set_cons_succ, updO_same, updO_updO,
  Nat.reduceSub, Nat.reduceAdd, Nat.reduceLeDiff, Nat.zero_add, Int.cast_ofNat_Int, Int.natCast_zero, Int.natCast_one, Int.reduceLT, Int.reduceLE, Int.reduceEq, Int.reduceAdd, Int.reduceSub, Int.reduceNeg, decide_true, decide_false, if_true, if_false, Bool.false_eq_true, eq_self, reduceIte, Bool.true_eq_false, decide_eq_true_eq, Bool.not_true, Bool.not_false, Bool.not_eq_true', decide_eq_false_iff_not, exists_eq_left', exists_eq_left, D.bl.injEq, true_and, and_true, not_true_eq_false, not_false_eq_true])
local macro_rules | `(tactic| walk_at "len") => `(tactic| (intro ds O R RE h; first | (obtain ⟨e, _⟩ := h; subst e; rfl) | (obtain ⟨_, e, _⟩ := h; subst e; rfl) | (obtain ⟨_, _, e, _⟩ := h; subst e; rfl) | (obtain ⟨_, _, _, e, _⟩ := h; subst e; rfl) | (obtain ⟨_, _, _, _, e, _⟩ := h; subst e; rfl) | (obtain ⟨_, _, _, _, _, e, _⟩ := h; subst e; rfl) | (obtain ⟨_, _, _, _, _, _, e, _⟩ := h; subst e; rfl) | (obtain ⟨_, _, _, _, _, _, _, e, _⟩ := h; subst e; rfl) | (obtain ⟨_, _, _, _, _, _, _, _, e, _⟩ := h; subst e; rfl) | (obtain ⟨_, _, _, _, _, _, _, _, _, e, _⟩ := h; subst e; rfl)))
local macro_rules | `(tactic| walk_at "kf1") => `(tactic| simp (config := { failIfUnchanged := false }) only [startD, ap_fiEnumT, asT1_t, ap_fKGet, asStr_s, ap_fKIn, ap_fKIx, ap_gAsgL, rUnl_l, ap_fiRng3, asR3_i, rSplitO_s, ap_fOrL, rOrL_l, ap_fLcK, ap_gForK, ap_fMaxD, rMaxD_l, rMaxL_l, ap_fCallXD, ap_gForE, asLE_l, ap_fFrz, ap_fDicO, ap_fDGet, ap_fDGet1, ap_fDGet2, ap_gDPut, ap_fIsiT, ap_gForR, rRep_l, isT_i, isT_s, isT_b, isT_n, isT_t, isT_l, ap_gIf, ap_gRet, ap_gNext, ap_gSet, ap_gAsg, ap_gPar, ap_gDrop, ap_gRetF, ap_gRetN, ap_gFor, ap_gSetIx, ap_gBreak, ap_fRev, ap_fiRevR, asIR_i, rRev_l, ap_fCallX, ap_gRaise, ap_gTry, ap_gTryAs, ap_gNever, ap_fEdic, ap_fTest, ap_fOp, ap_fVar, envGet_s, patGet_s, ap_fC, ap_fCB, ap_fCons, ap_fNil, ap_fCall, ap_fAnd, ap_fOr, ap_fNot, ap_fAndV, ap_fOrV, ap_fNotV, ap_fIf, ap_fTup, ap_fLst, ap_fLstO, ap_fChain, ap_fUn, ap_fBM, ap_fBM0, ap_fPool, rPool_i, ap_fSl, ap_fPart, ap_fNoPart, asI_i, rSl_l, ap_fiRng1, ap_fiRng2, ap_fiList, ap_fiTup, ap_fiStr, ap_fiEnum, ap_fiZip, ap_fiRev, asL_l, asT_t, asSg_s, asR1_i, asR2_i, asL1_l, asL2_l, ap_fLc, ap_fLcO, ap_fYes, wipeD, lcD, isi_i_int, isi_i_bool, isi_i_str, isi_i_tuple, isi_i_list, isi_i_dict, isi_b_int, isi_b_bool, isi_b_str, isi_b_tuple, isi_b_list, isi_b_dict, isi_s_int, isi_s_bool, isi_s_str, isi_s_tuple, isi_s_list, isi_s_dict, isi_t_int, isi_t_bool, isi_t_str, isi_t_tuple, isi_t_list, isi_t_dict, isi_l_int, isi_l_bool, isi_l_str, isi_l_tuple, isi_l_list, isi_l_dict, isi_n_int, isi_n_bool, isi_n_str, isi_n_tuple, isi_n_list, isi_n_dict, isi_d_int, isi_d_bool, isi_d_str, isi_d_tuple, isi_d_list, isi_d_dict,
  deref_tup, deref_lst, deref_int, deref_str, deref_bl, deref_non, deref_scr, rLt_i, rLt_s, rLe_i, rLe_s, rInts_i, rInts0_i, rAdd_i, rAdd_s, rAdd_l, rAdd_t, rCatO_l, rNeg_i, rLen_t, rLen_l, rLen_c, rLen_s, rMax_i, rMin_i, rInt_i, rInt_b, rDivmod_i, ap_gAug, rStr_i, rList_l, rList_t, rListO_l, rListO_t, rTup_l, rTup_t,
  rIx_t0, rIx_t1, rIx_t2, rIx_t3, rIx_l0, rIx_l1, rIx_l2, rIsN_x, isNon_t, isNon_n, isNon_i, isNon_s, isNon_l, rEq_i, rEq_b, rEq_i2, rEq_b2, rJoin_m, rSplit_s, tyOk_l, tyOk_s, patD_nm, patD_tp, patDs_nil, patDs_cons, Option.bind_some, notX, notX',
  List.map_cons, List.map_nil, List.length_cons, List.length_nil, List.cons_append, List.nil_append, List.append_nil, List.replicate, List.getElem?_cons_zero, List.getElem?_cons_succ, List.set_cons_zero, List.set_cons_succ, updO_same, updO_updO,
  Nat.reduceSub, Nat.reduceAdd, Nat.reduceLeDiff, Nat.zero_add, Int.cast_ofNat_Int, Int.natCast_zero, Int.natCast_one, Int.reduceLT, Int.reduceLE, Int.reduceEq, Int.reduceAdd, Int.reduceSub, Int.reduceNeg, decide_true, decide_false, if_true, if_false, Bool.false_eq_true, eq_self, reduceIte, Bool.true_eq_false, decide_eq_true_eq, Bool.not_true, Bool.not_false, Bool.not_eq_true', decide_eq_false_iff_not, exists_eq_left', exists_eq_left, D.bl.injEq, true_and, and_true, not_true_eq_false, not_false_eq_true])
section
variable {P : Program} {w : World} {K : PySem.W.Frag} {mg : Str → Option Value} {base : Heap}
local macro_rules | `(tactic| walk_at "tg") => `(tactic| simp (config := { failIfUnchanged := false }) only [te_name_take, te_name_give, te_name_pair, te_name_first, te_name_second, te_name_to, te_name_both, te_name_one, te_name_mark, te_name_name, te_name_thing, te_name_at, te_thing_take, te_thing_give, te_thing_pair, te_thing_first, te_thing_second, te_thing_to, te_thing_both, te_thing_one, te_thing_mark, te_thing_name, te_thing_thing, te_thing_at, te_take_take, te_take_give, te_take_pair, te_take_first, te_take_second, te_take_to, te_take_both, te_take_one, te_take_mark, te_take_name, te_take_thing, te_take_at, te_give_take, te_give_give, te_give_pair, te_give_first, te_give_second, te_give_to, te_give_both, te_give_one, te_give_mark, te_give_name, te_give_thing, te_give_at, te_pair_take, te_pair_give, te_pair_pair, te_pair_first, te_pair_second, te_pair_to, te_pair_both, te_pair_one, te_pair_mark, te_pair_name, te_pair_thing, te_pair_at, te_first_take, te_first_give, te_first_pair, te_first_first, te_first_second, te_first_to, te_first_both, te_first_one, te_first_mark, te_first_name, te_first_thing, te_first_at, te_second_take, te_second_give, te_second_pair, te_second_first, te_second_second, te_second_to, te_second_both, te_second_one, te_second_mark, te_second_name, te_second_thing, te_second_at, te_mark_take, te_mark_give, te_mark_pair, te_mark_first, te_mark_second, te_mark_to, te_mark_both, te_mark_one, te_mark_mark, te_mark_name, te_mark_thing, te_mark_at, te_one_take, te_one_give, te_one_pair, te_one_first, te_one_second, te_one_to, te_one_both, te_one_one, te_one_mark, te_one_name, te_one_thing, te_one_at, te_to_take, te_to_give, te_to_pair, te_to_first, te_to_second, te_to_to, te_to_both, te_to_one, te_to_mark, te_to_name, te_to_thing, te_to_at, te_both_take, te_both_give, te_both_pair, te_both_first, te_both_second, te_both_to, te_both_both, te_both_one, te_both_mark, te_both_name, te_both_thing, te_both_at, te_at_take, te_at_give, te_at_pair, te_at_first, te_at_second, te_at_to, te_at_both, te_at_one, te_at_mark, te_at_name, te_at_thing, te_at_at, ti4_name, ti4_thing, ti4_take, ti4_give, ti4_pair, ti4_first, ti4_second, ti2_name, ti2_thing, ti2_take, ti2_give, ti2_pair, ti2_first, ti2_second, szT_0, szT_1, szT_2, szT_3, szT_4, szT_5, szT_6, szT_7, szT_8, szT_9, szT_10, szT_11, szT_12, Bool.not_true, Bool.not_false, true_and])
local macro_rules | `(tactic| walk_at "kh") => `(tactic| (walk_at "kf1"; simp (config := { failIfUnchanged := false }) only [ap_fMeth, ap_fFld, ap_gFld, ap_fMake, ap_fUnK, ap_fDicT, ap_fMinLen]; walk_at "kf1"))
theorem hv_fK {C s aK aF : Addr} {U S0 : List Kd} {Ts : List (List Kd)} {kk : List (Key × D)} {kf : List (List Key × D)} {O : Ow} {Q : VD} (h : HvC C s aK aF U S0 Ts kk kf O) : rFld (Str.ofString "kinds") (.ref s) O Q = Q (.ref aK) O := rFld_of h.i (by simp [List.lookup])
def spTreeH (C : Addr) (v : Nat) : DSp := fun ds O R _ => ∃ (s aK aF : Addr) (U S0 : List Kd) (Ts Rs : List (List Kd)) (kk : List (Key × D)) (kf : List (List Key × D)) (S : List Kd) (l : List Str), ds = [.ref s, .tupK (tsK l)] ∧ Un U S0 Ts ∧ HvC C s aK aF U S0 Ts kk kf O ∧ InU S0 Ts S ∧ KyOf S l ∧ Pres kk S ∧ ClT Rs S ∧ lft Rs S < v ∧
  ∀ O' kk' kf' st, HvC C s aK aF U S0 Ts kk' kf' O' → HvTo aK aF [] O kk kf O' kk' kf' → GoodS st → SameK st.S S → MkS U st → (stT st).dep ≤ lft Rs S + 1 → (sbs st).length ≤ Wn (lft Rs S) → (sbs st).length ≤ 1 + (S.flatMap ends).length * Wn (lft Rs S - 1) → R (dT (stT st)) O'
theorem ok_treeS (T : Tx K mg) {v : Nat} (H : FO_Having_tree P w base T (v + 84) (spTreeH T.C_Having v)) : FO_Having_tree P w base T (v + 1 + 84) (spTreeH T.C_Having (v + 1)) := by
  refine fnd_Having_tree T (fnUp (ok_hadAll T 10) (by omega)) (fnUp (ok_ways T 40) (by omega)) (fnUp (ok_firstS T (ok_lackS T (ok_hadAll T 9))) (by omega)) H (fun ds O R RE ⟨_, _, _, _, _, _, _, _, _, _, _, q, _⟩ => by rw [q]; rfl) ?_
  rintro ds O R RE ⟨s, aK, aF, U, S0, Ts, Rs, kk, kf, S, l, rfl, u, hc, hS, hl, hpr, hcl, hlf, hR⟩
  unfold g_Having_tree
  have hl9 : lft Ts S ≤ 9 := Nat.le_trans lft_le u.ts
  refine gSeq_step ?_
  walk_at "kh"
  refine ⟨hv_no hc (by decide +kernel) (by decide +kernel), ?_⟩
  refine ⟨s, aK, aF, U, S0, Ts, kk, kf, S, l, rfl, u, hc, hS, hl, hpr, by omega, fun O1 kk1 kf1 p ms hc1 ht1 hp hms npk => ?_⟩
  have npf : p ≠ aF := fun e => by rw [e, hc1.f] at hp; cases hp
  refine gSeq_step ?_
  walk_at "kh"
  intro q hq
  have qs : q ≠ s := fun e => by rw [e, hc1.i] at hq; cases hq
  have qk : q ≠ aK := fun e => by rw [e, hc1.k] at hq; cases hq
  have qf : q ≠ aF := fun e => by rw [e, hc1.f] at hq; cases hq
  have qp : q ≠ p := fun e => by rw [e, hp] at hq; cases hq
  have hc0 : HvC T.C_Having s aK aF U S0 Ts kk1 kf1 (updO O1 q (.dicT [])) := hc1.else qs qk qf (hc1.nof fun ms e => by rw [hq] at e; cases e)
  refine gSeq_step ?_
  walk_at "kh"
  rw [show un (.tupK (tsK l)) = .tup (l.map .str) from txD_k l]
  walk_at "kh"
  -- what is known of the trees above
  refine forA_ix D.str (fun pre rest ρ O' => ∃ x4 x5 x6 kk' kf' L, ρ = [some (.ref s), some (.tupK (tsK l)), some (.ref p), some (.ref q), x4, x5, x6, none] ∧ HvC T.C_Having s aK aF U S0 Ts kk' kf' O' ∧ HvTo aK aF [q] (updO O1 q (.dicT [])) kk1 kf1 O' kk' kf' ∧ O' q = some (.dicT (L.map mkT)) ∧ L.Nodup ∧ (∀ l' ∈ L, (∃ k, k ∈ S) ∧ ∃ t : List Kd × Str, (t.1 = [] ∨ t.1 ∈ Rs) ∧ InU S0 Ts (S ++ t.1) ∧ KyOf (S ++ t.1) l' ∧ Pres kk' (S ++ t.1) ∧ ClT Rs (S ++ t.1)) ∧ (∀ k ∈ S, kshow k ∈ pre → ∀ e ∈ ends k, e.2 ∉ ms → ∃ a ∈ e.1, ∃ t ∈ ends a, (¬ Had (S ++ t.1) t.2 ∧ ∃ l' ∈ L, KyOf (S ++ t.1) l')) ∧ ∃ ks : List Kd, ks.Nodup ∧ (∀ k ∈ ks, k ∈ S ∧ kshow k ∈ pre) ∧ L.length ≤ (ks.flatMap ends).length) l [] _ _ ⟨_, _, _, kk1, kf1, [], rfl, hc0, .refl, updO_same, by simp, (fun l' h => by cases h), (fun k _ h => by cases h), [], by simp, (fun k h => by cases h), Nat.zero_le _⟩ ?_ ?_
  rotate_left
  · rintro pre t rest ep ρ O' ⟨x4, x5, x6, kk', kf', L, rfl, hc', ht', hq', hLn, hL, hcov, ks, hks, hks2, hks3⟩ N hN
    rw [List.nil_append] at ep
    obtain ⟨k, hk, rfl⟩ := (hl.2 t).mp (by rw [ep]; simp)
    have hkU := hS.u u k hk
    have h24 := u.l24 k hkU
    have hlk := u.lk k hkU
    walk_at "kh"
    refine ⟨isIns_of hc'.i, ?_⟩
    rw [hv_fK hc']
    obtain ⟨d, hd⟩ := Option.isSome_iff_exists.mp (((hpr.grow ht1.gk).grow ht'.gk) k hk)
    simp only [rDGet, rKey_s hc'.k, hd]
    rw [hc'.kv k hkU d hd]
    refine ⟨k, rfl, by omega, by omega, by omega, mks_ok k hlk.1, ?_⟩
    dsimp only
    walk_at "kh"
    refine forA_ix dWy (fun preW restW ρ O' => ∃ x5 x6 kk' kf' L, ρ = [some (.ref s), some (.tupK (tsK l)), some (.ref p), some (.ref q), some (.str (kshow k)), x5, x6, none] ∧ HvC T.C_Having s aK aF U S0 Ts kk' kf' O' ∧ HvTo aK aF [q] (updO O1 q (.dicT [])) kk1 kf1 O' kk' kf' ∧ O' q = some (.dicT (L.map mkT)) ∧ L.Nodup ∧ (∀ l' ∈ L, (∃ k, k ∈ S) ∧ ∃ t : List Kd × Str, (t.1 = [] ∨ t.1 ∈ Rs) ∧ InU S0 Ts (S ++ t.1) ∧ KyOf (S ++ t.1) l' ∧ Pres kk' (S ++ t.1) ∧ ClT Rs (S ++ t.1)) ∧ (∀ k ∈ S, kshow k ∈ pre → ∀ e ∈ ends k, e.2 ∉ ms → ∃ a ∈ e.1, ∃ t ∈ ends a, ¬ Had (S ++ t.1) t.2 ∧ ∃ l' ∈ L, KyOf (S ++ t.1) l') ∧ (∀ wy ∈ preW, wy.2 ∉ ms → ∃ a ∈ (wyE wy).1, ∃ t ∈ ends a, ¬ Had (S ++ t.1) t.2 ∧ ∃ l' ∈ L, KyOf (S ++ t.1) l') ∧ L.length ≤ (ks.flatMap ends).length + preW.length) (wys k) [] _ _ ⟨_, _, kk', kf', L, rfl, hc', ht', hq', hLn, hL, hcov, (fun w hw => by cases hw), hks3⟩ ?_ ?_
    · rintro ρ O2 ⟨x5, x6, kk2, kf2, L2, rfl, hc2, ht2, hq2, hLn2, hL2, hcov2, hw2, hll2⟩
      rw [List.nil_append] at hw2 hll2
      refine hN _ _ ⟨_, _, _, kk2, kf2, L2, rfl, hc2, ht2, hq2, hLn2, hL2, fun k' hk' hpre e' he' => ?_, ks ++ [k], ?_, fun k' hk' => ?_, ?_⟩
      rotate_left
      · refine List.nodup_append.mpr ⟨hks, by simp, fun x hx y hy e => ?_⟩
        rw [List.mem_singleton] at hy
        subst hy; subst e
        have := hl.1.nodup
        rw [ep] at this
        exact (List.nodup_append.mp this).2.2 _ (hks2 x hx).2 _ (by simp) rfl
      · rcases List.mem_append.mp hk' with h | h
        · exact ⟨(hks2 k' h).1, List.mem_append_left _ (hks2 k' h).2⟩
        · rw [List.mem_singleton.mp h]; exact ⟨hk, by simp⟩
      · have : (ends k).length = (wys k).length := by rw [← wys_ends, List.length_map]
        rw [List.flatMap_append, List.length_append]
        simp only [List.flatMap_cons, List.flatMap_nil, List.append_nil]
        omega
      rcases List.mem_append.mp hpre with h | h
      · exact hcov2 k' hk' h e' he'
      · have := kshow_inj (u.lk k' (hS.u u k' hk')) hlk (List.mem_singleton.mp h)
        subst this
        rw [← wys_ends] at he'
        obtain ⟨w, hw, rfl⟩ := List.mem_map.mp he'
        exact hw2 w hw
    · rintro preW wy restW epW ρ O2 ⟨x5, x6, kk2, kf2, L2, rfl, hc2, ht2, hq2, hLn2, hL2, hcov2, hw2, hll2⟩ N2 hN2
      rw [List.nil_append] at epW
      have hw : wy ∈ wys k := by rw [epW]; simp
      have he : wyE wy ∈ ends k := by rw [← wys_ends]; exact List.mem_map_of_mem hw
      have hp2 := ht2.fr p _ (by rw [updO_ne (Ne.symm qp)]; exact hp) npk npf (by simpa using Ne.symm qp)
      simp only [dWy]
      walk_at "kh"
      simp only [rDIn, rKey_s hp2, valE]
      refine ⟨_, rfl, ?_⟩
      by_cases m : wy.2 ∈ ms
      · rw [decide_eq_true m, if_neg (by decide)]
        refine hN2 _ _ ⟨_, _, kk2, kf2, L2, rfl, hc2, ht2, hq2, hLn2, hL2, hcov2, fun w' hw' hn => ?_, by rw [List.length_append]; omega⟩
        rcases List.mem_append.mp hw' with h | h
        · exact hw2 w' h hn
        · rw [List.mem_singleton.mp h] at hn; exact absurd m hn
      · rw [decide_eq_false m, if_pos (by decide)]
        refine ⟨hv_no hc2 (by decide +kernel) (by decide +kernel), ?_⟩
        refine ⟨s, aK, aF, p, U, S0, Ts, kk2, kf2, S, l, ms, wy.1, rfl, u, hc2, hS, hl, (hpr.grow ht1.gk).grow ht2.gk, by omega, hp2, npk, ask_way u hS hk he, by have := wys_mvl k wy hw; omega, fun O3 kk3 kf3 r hc3 ht3 hlr => ?_⟩
        have hq3 := ht3.fr q _ hq2 qk qf (by simp)
        have T3 : HvTo aK aF [q] (updO O1 q (.dicT [])) kk1 kf1 O3 kk3 kf3 := ht2.trans (ht3.more fun a h => by cases h) hc2.nk hc2.nf (fun a h => by rw [List.mem_singleton.mp h, hq2]; simp)
        dsimp only
        rcases hlr with ⟨rfl, hok⟩ | ⟨a, ha, t, ht, l', h1, h2, h3, rfl⟩
        · exact absurd ((hms.2 _).mpr (Had.mk (e := wyE wy) hk he fun a ha t ht => (hok a ha t ht).had fun m hm => (hms.2 m).mp hm)) m
        · have hnh : ¬ Had (S ++ t.1) t.2 := fun hh => h1 (by
            by_cases c : SameK (S ++ t.1) S
            · exact .inl ⟨c, (hms.2 _).mpr (hh.weak fun x hx => (c x).mp hx)⟩
            · exact .inr ⟨c, hh⟩)
          rw [rDPut_t hq3, putT]
          have hL2l : L2.length ≤ 512 := by
            have := keys_le u hLn2 fun l'' hl'' => by
              obtain ⟨_, t', _, b2, b3, _⟩ := hL2 l'' hl''
              exact ⟨_, b2, b3⟩
            have h3 : 2 ^ Ts.length ≤ 2 ^ 9 := Nat.pow_le_pow_right (by decide) u.ts
            omega
          have hty := hcl.ty hk he ha ht
          refine ⟨sz_small (by rw [List.length_map]; omega), hN2 _ _ ⟨_, _, kk3, kf3, _, rfl, hc3.else qs qk qf (hc3.nof fun ms e => by rw [hq3] at e; cases e), T3.set (by simp), updO_same, ?_, fun l'' hl'' => ?_, fun k' hk' hpre e' he' hn => ?_, fun w' hw' hn => ?_, by split <;> simp only [List.length_append, List.length_singleton] <;> omega⟩⟩
          · split
            · exact hLn2
            · rename_i z
              exact List.nodup_append.mpr ⟨hLn2, by simp, fun x hx y hy e => z (by rw [List.mem_singleton] at hy; rw [← hy, ← e]; exact hx)⟩
          · have : l'' ∈ L2 ∨ l'' = l' := by
              split at hl''
              · exact .inl hl''
              · simpa using hl''
            rcases this with h | rfl
            · obtain ⟨b0, t', b1, b2, b3, b4, b5⟩ := hL2 l'' h
              exact ⟨b0, t', b1, b2, b3, b4.grow ht3.gk, b5⟩
            · exact ⟨⟨k, hk⟩, t, hty, hS.put ((hS.cl u).ty hk he ha ht), h2, h3, hcl.app hk he ha ht⟩
          · obtain ⟨a', b1, t', b2, b3, l3, b4, b5⟩ := hcov2 k' hk' hpre e' he' hn
            exact ⟨a', b1, t', b2, b3, l3, by split <;> simp [b4], b5⟩
          · rcases List.mem_append.mp hw' with h | h
            · obtain ⟨a', b1, t', b2, b3, l3, b4, b5⟩ := hw2 w' h hn
              exact ⟨a', b1, t', b2, b3, l3, by split <;> simp [b4], b5⟩
            · rw [List.mem_singleton.mp h]
              exact ⟨a, ha, t, ht, hnh, l', by split <;> simp [*], h2⟩
  · rintro ρ O' ⟨x4, x5, x6, kk', kf', L, rfl, hc', ht', hq', hLn, hL, hcov, ks, hks, hks2, hks3⟩
    rw [List.nil_append] at hcov
    have hp' := ht'.fr p _ (by rw [updO_ne (Ne.symm qp)]; exact hp) npk npf (by simpa using Ne.symm qp)
    have T1 : HvTo aK aF [] O kk kf O' kk' kf' := ht1.trans (ht'.new hq) hc1.nk hc1.nf
    have hcov' : ∀ k ∈ S, ∀ e ∈ ends k, ¬ Had S e.2 → ∃ a ∈ e.1, ∃ t ∈ ends a, ¬ Had (S ++ t.1) t.2 ∧ ∃ l' ∈ L, KyOf (S ++ t.1) l' := fun k hk e he hn => hcov k hk ((hl.2 _).mpr ⟨k, hk, rfl⟩) e he fun h => hn ((hms.2 _).mp h)
    walk_at "kh"
    rw [rSortK_r (ts := ms) hp' (by rw [List.map_map]; rfl)]
    obtain ⟨Lm, hLm, hLs⟩ := u.mrk
    have hml := nodup_le hms.1 fun m hm => hLs m (had_mkS u hS ((hms.2 m).mp hm))
    refine ⟨by omega, fun ys hy hsort => ?_⟩
    have hup := up_of hsort (hy.nodup_iff.mpr hms.1)
    simp only [rSortKT, hq']
    refine ⟨L, keysT L, fun l' hl' => ?_, fun L' hL' => ?_⟩
    · obtain ⟨⟨k, hk⟩, t, _, b2, b3, _⟩ := hL l' hl'
      refine ⟨fun e => ?_, kyso u b2 b3⟩
      have := (b3.2 (kshow k)).mpr ⟨k, List.mem_append_left _ hk, rfl⟩
      rw [e] at this; cases this
    walk_at "kh"
    have hLn' : L'.Nodup := hL'.nodup_iff.mpr hLn
    have hLl : L'.length ≤ 512 := by
      have := keys_le u hLn' fun l'' hl'' => by
        obtain ⟨_, t', _, b2, b3, _⟩ := hL l'' (hL'.mem_iff.mp hl'')
        exact ⟨_, b2, b3⟩
      have h3 : 2 ^ Ts.length ≤ 2 ^ 9 := Nat.pow_le_pow_right (by decide) u.ts
      omega
    refine lcA_invH (fun l => D.tupK (tsK l)) (fun pre acc O2 => ∃ kk2 kf2 cs, acc = cs.map (fun c => dT (stT c)) ∧ HvC T.C_Having s aK aF U S0 Ts kk2 kf2 O2 ∧ HvTo aK aF [] O' kk' kf' O2 kk2 kf2 ∧ (∀ c ∈ cs, GoodS c ∧ MkS U c ∧ (stT c).dep ≤ lft Rs S ∧ (sbs c).length ≤ Wn (lft Rs S - 1) ∧ ∀ x ∈ S, x ∈ c.S) ∧ (∀ l' ∈ pre, l' ≠ l → ∃ c ∈ cs, KyOf c.S l' ∧ LK c.S) ∧ cs.length ≤ (pre.filter fun l' => decide (l' ≠ l)).length) L' L' [] [] O' _ rfl ⟨kk', kf', [], rfl, hc', .refl, (fun c h => by cases h), (fun l' h => by cases h), Nat.zero_le _⟩ (Nat.le_refl _) (sz_small (by omega)) ?_ ?_
    · rintro pre l' rest acc O2 ep ⟨kk2, kf2, cs, rfl, hc2, ht2, hcs, hpre, hcl2⟩ N1 N2 hN1 hN2
      obtain ⟨_, t, b1, b2, b3, b4, b5⟩ := hL l' (hL'.mem_iff.mp (by rw [ep]; simp))
      walk_at "kh"
      refine rEqK_of (kyso u b2 b3) (kyso u hS hl) ?_
      refine ⟨_, rfl, ?_⟩
      by_cases c : l' = l
      · rw [decide_eq_true c, if_neg (by decide)]
        refine hN2 _ ⟨kk2, kf2, cs, rfl, hc2, ht2, hcs, fun l3 h3 hn => ?_, ?_⟩
        · rcases List.mem_append.mp h3 with h | h
          · exact hpre l3 h hn
          · rw [List.mem_singleton.mp h] at hn; exact absurd c hn
        · rw [List.filter_append, List.length_append]; omega
      · rw [decide_eq_false c, if_pos (by decide)]
        have hns : ¬ SameK (S ++ t.1) S := fun h => c ((b3.same hl (b2.lk u) (hS.lk u)).mpr h)
        have hlt : lft Rs (S ++ t.1) < lft Rs S := by
          rcases b1 with h | h
          · exact absurd (fun x => by rw [h, List.append_nil]) hns
          · exact lft_put h hns
        refine ⟨hv_no hc2 (by decide +kernel) (by decide +kernel), ?_⟩
        refine ⟨s, aK, aF, U, S0, Ts, Rs, kk2, kf2, S ++ t.1, l', rfl, u, hc2, b2, b3, b4.grow ht2.gk, b5, by omega, fun O3 kk3 kf3 st hc3 ht3 hg hsame hmk hdep hlen _ => ?_⟩
        refine hN1 _ _ ⟨kk3, kf3, cs ++ [st], by simp, hc3, ht2.trans ht3 hc2.nk hc2.nf, fun c' hc' => ?_, fun l3 h3 hn => ?_, ?_⟩
        · rcases List.mem_append.mp hc' with h | h
          · exact hcs c' h
          · rw [List.mem_singleton.mp h]
            exact ⟨hg, hmk, by omega, Nat.le_trans hlen (Wn_mono (by omega)), fun x hx => (hsame x).mpr (List.mem_append_left _ hx)⟩
        · rcases List.mem_append.mp h3 with h | h
          · obtain ⟨c', h4, h5⟩ := hpre l3 h hn
            exact ⟨c', List.mem_append_left _ h4, h5⟩
          · rw [List.mem_singleton.mp h]
            exact ⟨st, by simp, b3.cong fun x => (hsame x).symm, (b2.lk u).mono fun x hx => (hsame x).mp hx⟩
        · rw [List.filter_append, List.length_append, List.length_append, List.filter_cons, if_pos (decide_eq_true c)]
          simp only [List.length_singleton, List.filter_nil]; omega
    · rintro acc O2 ⟨kk2, kf2, cs, rfl, hc2, ht2, hcs, hpre, hcl2⟩
      refine ⟨sz_small (by decide), ?_⟩
      have T2 := T1.trans ht2 hc'.nk hc'.nf
      have hfl : (L'.filter fun l' => decide (l' ≠ l)).length ≤ lft Rs S := above_le (fun l' hl' => by
        obtain ⟨h1, h2⟩ := List.mem_filter.mp hl'
        have h2 := of_decide_eq_true h2
        obtain ⟨_, t, b1, b2, b3, b4, b5⟩ := hL l' (hL'.mem_iff.mp h1)
        have hns : ¬ SameK (S ++ t.1) S := fun h => h2 ((b3.same hl (b2.lk u) (hS.lk u)).mpr h)
        refine ⟨t.1, ?_, b3, b2.lk u, hns⟩
        rcases b1 with h | h
        · exact absurd (fun x => by rw [h, List.append_nil]) hns
        · exact h) (hLn'.filter _)
      have e : D.tup [.lst (ys.map .str), .lst (cs.map fun c => dT (stT c))] = dT (stT (.nd S ys cs)) := by
        rw [stT, dT, stTs_map, dTs_map, List.map_map]; rfl
      rw [e]
      refine hR O2 kk2 kf2 (.nd S ys cs) hc2 T2 (fun v hv => ?_) (fun _ => Iff.rfl) (fun v hv => ?_) ?_ ?_ ?_
      · rw [sbs] at hv
        rcases List.mem_cons.mp hv with rfl | hv
        · refine ⟨fun m => (hy.mem_iff).trans (hms.2 m), fun c hc => (hcs c hc).2.2.2.2, fun k hk e he hn => ?_⟩
          obtain ⟨a, ha, t, ht, h1, l', h2, h3⟩ := hcov' k hk e he hn
          refine ⟨a, ha, t, ht, h1, ?_⟩
          have hin := hS.put ((hS.cl u).ty hk he ha ht)
          by_cases c : l' = l
          · have := (h3.same hl (hin.lk u) (hS.lk u)).mp c
            exact .inl fun x hx => (this x).mp (List.mem_append_right _ hx)
          · obtain ⟨c', h4, h5, h6⟩ := hpre l' (hL'.mem_iff.mpr h2) c
            exact .inr ⟨c', h4, (h5.same h3 h6 (hin.lk u)).mp rfl⟩
        · obtain ⟨c, hc, hv⟩ := mem_sbss.mp hv
          exact (hcs c hc).1 v hv
      · rw [sbs] at hv
        rcases List.mem_cons.mp hv with rfl | hv
        · exact ⟨hup, fun m hm => had_mkS u hS ((hms.2 m).mp (hy.mem_iff.mp hm))⟩
        · obtain ⟨c, hc, hv⟩ := mem_sbss.mp hv
          exact (hcs c hc).2.1 v hv
      · rw [stT, Tr.dep, stTs_map]
        have := deps_le (v := lft Rs S) (ts := cs.map stT) fun t ht => by
          obtain ⟨c, hc, rfl⟩ := List.mem_map.mp ht
          exact (hcs c hc).2.2.1
        omega
      · rw [sbs, List.length_cons]
        have h1 := sbss_len (v := Wn (lft Rs S - 1)) (cs := cs) fun c hc => (hcs c hc).2.2.2.1
        cases hr : lft Rs S with
        | zero =>
          have : cs = [] := List.eq_nil_of_length_eq_zero (by omega)
          subst this
          simp [sbss, Wn]
        | succ r =>
          rw [hr] at h1 hfl
          have h2 : cs.length * Wn r ≤ (r + 1) * Wn r := Nat.mul_le_mul_right _ (by omega)
          rw [Wn]
          simp only [Nat.add_sub_cancel] at h1
          omega
      · rw [sbs, List.length_cons]
        have h1 := sbss_len (v := Wn (lft Rs S - 1)) (cs := cs) fun c hc => (hcs c hc).2.2.2.1
        have h2 := flat_nodup_le ends hks fun k hk => (hks2 k hk).1
        have h3 : (L'.filter fun l' => decide (l' ≠ l)).length ≤ L'.length := List.length_filter_le _ _
        have h4 := hL'.length_eq
        have h5 : cs.length * Wn (lft Rs S - 1) ≤ (S.flatMap ends).length * Wn (lft Rs S - 1) := Nat.mul_le_mul_right _ (by omega)
        omega
theorem ok_treeAll (T : Tx K mg) : ∀ v, FO_Having_tree P w base T (v + 84) (spTreeH T.C_Having v)
  | 0 => fnUp (none_left fun ds O R RE ⟨_, _, _, _, _, _, _, _, _, _, _, _, _, _, _, _, _, _, h, _⟩ => by omega) (Nat.zero_le _)
  | v + 1 => ok_treeS T (ok_treeAll T v)
end
end Kf
namespace Kf
open PySem PySem.Spec L2
open PyProof.Rows hiding St
local macro_rules | `(tactic| walk_at "kf") => `(tactic| simp (config := { failIfUnchanged := false }) only [startD, ap_fiEnumT, asT1_t, ap_fKGet, asStr_s, ap_fKIn, ap_fKIx, ap_gAsgL, rUnl_l, ap_fiRng3, asR3_i, rSplitO_s, ap_fOrL, rOrL_l, ap_fLcK, ap_gForK, ap_fMaxD, rMaxD_l, rMaxL_l, ap_fCallXD, ap_gForE, asLE_l, ap_fFrz, ap_fDicO, ap_fDGet, ap_fDGet1, ap_fDGet2, ap_gDPut, ap_fIsiT, ap_gForR, rRep_l, isT_i, isT_s, isT_b, isT_n, isT_t, isT_l, ap_gSeq, ap_gIf, ap_gRet, ap_gNext, ap_gSet, ap_gAsg, ap_gPar, ap_gDrop, ap_gRetF, ap_gRetN, ap_gFor, ap_gSetIx, ap_gBreak, ap_fRev, ap_fiRevR, asIR_i, rRev_l, ap_fCallX, ap_gRaise, ap_gTry, ap_gTryAs, ap_gNever, ap_fEdic, ap_fTest, ap_fOp, ap_fVar, envGet_s, patGet_s, ap_fC, ap_fCB, ap_fCons, ap_fNil, ap_fCall, ap_fAnd, ap_fOr, ap_fNot, ap_fAndV, ap_fOrV, ap_fNotV, ap_fIf, ap_fTup, ap_fLst, ap_fLstO, ap_fChain, ap_fUn, ap_fBM, ap_fBM0, ap_fPool, rPool_i, ap_fSl, ap_fPart, ap_fNoPart, asI_i, rSl_l, ap_fiRng1, ap_fiRng2, ap_fiList, ap_fiTup, ap_fiStr, ap_fiEnum, ap_fiZip, ap_fiRev, asL_l, asT_t, asSg_s, asR1_i, asR2_i, asL1_l, asL2_l, ap_fLc, ap_fLcO, ap_fYes, wipeD, lcD, isi_i_int, isi_i_bool, isi_i_str, isi_i_tuple, isi_i_list, isi_i_dict, isi_b_int, isi_b_bool, isi_b_str, isi_b_tuple, isi_b_list, isi_b_dict, isi_s_int, isi_s_bool, isi_s_str, isi_s_tuple, isi_s_list, isi_s_dict, isi_t_int, isi_t_bool, isi_t_str, isi_t_tuple, isi_t_list, isi_t_dict, isi_l_int, isi_l_bool, isi_l_str, isi_l_tuple, isi_l_list, isi_l_dict, isi_n_int, isi_n_bool, isi_n_str, isi_n_tuple, isi_n_list, isi_n_dict, isi_d_int, isi_d_bool, isi_d_str, isi_d_tuple, isi_d_list, isi_d_dict,
  deref_tup, deref_lst, deref_int, deref_str, deref_bl, deref_non, deref_scr, rLt_i, rLt_s, rLe_i, rLe_s, rInts_i, rInts0_i, rAdd_i, rAdd_s, rAdd_l, rAdd_t, rCatO_l, rNeg_i, rLen_t, rLen_l, rLen_c, rLen_s, rMax_i, rMin_i, rInt_i, rInt_b, rDivmod_i, ap_gAug, rStr_i, rList_l, rList_t, rListO_l, rListO_t, rTup_l, rTup_t,
  rIx_t0, rIx_t1, rIx_t2, rIx_t3, rIx_l0, rIx_l1, rIx_l2, rIsN_x, isNon_t, isNon_n, isNon_i, isNon_s, isNon_l, rEq_i, rEq_b, rEq_i2, rEq_b2, rJoin_m, rSplit_s, tyOk_l, tyOk_s, patD_nm, patD_tp, patDs_nil, patDs_cons, Option.bind_some, notX, notX',
  List.map_cons, List.map_nil, List.length_cons, List.length_nil, List.cons_append, List.nil_append, List.append_nil, List.replicate, List.getElem?_cons_zero, List.getElem?_cons_succ, List.set_cons_zero, List.set_cons_succ, updO_same, updO_updO,
  Nat.reduceSub, Nat.reduceAdd, Nat.reduceLeDiff, Nat.zero_add, Int.cast_ofNat_Int, Int.natCast_zero, Int.natCast_one, Int.reduceLT, Int.reduceLE, Int.reduceEq, Int.reduceAdd, Int.reduceSub, Int.reduceNeg, decide_true, decide_false, if_true, if_false, Bool.false_eq_true, eq_self, reduceIte, Bool.true_eq_false, decide_eq_true_eq, Bool.not_true, Bool.not_false, Bool.not_eq_true', decide_eq_false_iff_not, exists_eq_left', exists_eq_left, D.bl.injEq, true_and, and_true, not_true_eq_false, not_false_eq_true])
local macro_rules | `(tactic| walk_at "len") => `(tactic| (intro ds O R RE h; first | (obtain ⟨e, _⟩ := h; subst e; rfl) | (obtain ⟨_, e, _⟩ := h; subst e; rfl) | (obtain ⟨_, _, e, _⟩ := h; subst e; rfl) | (obtain ⟨_, _, _, e, _⟩ := h; subst e; rfl) | (obtain ⟨_, _, _, _, e, _⟩ := h; subst e; rfl) | (obtain ⟨_, _, _, _, _, e, _⟩ := h; subst e; rfl) | (obtain ⟨_, _, _, _, _, _, e, _⟩ := h; subst e; rfl) | (obtain ⟨_, _, _, _, _, _, _, e, _⟩ := h; subst e; rfl) | (obtain ⟨_, _, _, _, _, _, _, _, e, _⟩ := h; subst e; rfl) | (obtain ⟨_, _, _, _, _, _, _, _, _, e, _⟩ := h; subst e; rfl)))
local macro_rules | `(tactic| walk_at "kf1") => `(tactic| simp (config := { failIfUnchanged := false }) only [startD, ap_fiEnumT, asT1_t, ap_fKGet, asStr_s, ap_fKIn, ap_fKIx, ap_gAsgL, rUnl_l, ap_fiRng3, asR3_i, rSplitO_s, ap_fOrL, rOrL_l, ap_fLcK, ap_gForK, ap_fMaxD, rMaxD_l, rMaxL_l, ap_fCallXD, ap_gForE, asLE_l, ap_fFrz, ap_fDicO, ap_fDGet, ap_fDGet1, ap_fDGet2, ap_gDPut, ap_fIsiT, ap_gForR, rRep_l, isT_i, isT_s, isT_b, isT_n, isT_t, isT_l, ap_gIf, ap_gRet, ap_gNext, ap_gSet, ap_gAsg, ap_gPar, ap_gDrop, ap_gRetF, ap_gRetN, ap_gFor, ap_gSetIx, ap_gBreak, ap_fRev, ap_fiRevR, asIR_i, rRev_l, ap_fCallX, ap_gRaise, ap_gTry, ap_gTryAs, ap_gNever, ap_fEdic, ap_fTest, ap_fOp, ap_fVar, envGet_s, patGet_s, ap_fC, ap_fCB, ap_fCons, ap_fNil, ap_fCall, ap_fAnd, ap_fOr, ap_fNot, ap_fAndV, ap_fOrV, ap_fNotV, ap_fIf, ap_fTup, ap_fLst, ap_fLstO, ap_fChain, ap_fUn, ap_fBM, ap_fBM0, ap_fPool, rPool_i, ap_fSl, ap_fPart, ap_fNoPart, asI_i, rSl_l, ap_fiRng1, ap_fiRng2, ap_fiList, ap_fiTup, ap_fiStr, ap_fiEnum, ap_fiZip, ap_fiRev, asL_l, asT_t, asSg_s, asR1_i, asR2_i, asL1_l, asL2_l, ap_fLc, ap_fLcO, ap_fYes, wipeD, lcD, isi_i_int, isi_i_bool, isi_i_str, isi_i_tuple, isi_i_list, isi_i_dict, isi_b_int, isi_b_bool, isi_b_str, isi_b_tuple, isi_b_list, isi_b_dict, isi_s_int, isi_s_bool, isi_s_str, isi_s_tuple, isi_s_list, isi_s_dict, isi_t_int, isi_t_bool, isi_t_str, isi_t_tuple, isi_t_list, isi_t_dict, isi_l_int, isi_l_bool, isi_l_str, isi_l_tuple, isi_l_list, isi_l_dict, isi_n_int, isi_n_bool, isi_n_str, isi_n_tuple, isi_n_list, isi_n_dict, isi_d_int, isi_d_bool, isi_d_str, isi_d_tuple, isi_d_list, isi_d_dict,
  deref_tup, deref_lst, deref_int, deref_str, deref_bl, deref_non, deref_scr, rLt_i, rLt_s, rLe_i, rLe_s, rInts_i, rInts0_i, rAdd_i, rAdd_s, rAdd_l, rAdd_t, rCatO_l, rNeg_i, rLen_t, rLen_l, rLen_c, rLen_s, rMax_i, rMin_i, rInt_i, rInt_b, rDivmod_i, ap_gAug, rStr_i, rList_l, rList_t, rListO_l, rListO_t, rTup_l, rTup_t,
  rIx_t0, rIx_t1, rIx_t2, rIx_t3, rIx_l0, rIx_l1, rIx_l2, rIsN_x, isNon_t, isNon_n, isNon_i, isNon_s, isNon_l, rEq_i, rEq_b, rEq_i2, rEq_b2, rJoin_m, rSplit_s, tyOk_l, tyOk_s, patD_nm, patD_tp, patDs_nil, patDs_cons, Option.bind_some, notX, notX',
  List.map_cons, List.map_nil, List.length_cons, List.length_nil, List.cons_append, List.nil_append, List.append_nil, List.replicate, List.getElem?_cons_zero, List.getElem?_cons_succ, List.set_cons_zero, List.set_cons_succ, updO_same, updO_updO,
  Nat.reduceSub, Nat.reduceAdd, Nat.reduceLeDiff, Nat.zero_add, Int.cast_ofNat_Int, Int.natCast_zero, Int.natCast_one, Int.reduceLT, Int.reduceLE, Int.reduceEq, Int.reduceAdd, Int.reduceSub, Int.reduceNeg, decide_true, decide_false, if_true, if_false, Bool.false_eq_true, eq_self, reduceIte, Bool.true_eq_false, decide_eq_true_eq, Bool.not_true, Bool.not_false, Bool.not_eq_true', decide_eq_false_iff_not, exists_eq_left', exists_eq_left, D.bl.injEq, true_and, and_true, not_true_eq_false, not_false_eq_true])
section
variable {P : Program} {w : World} {K : PySem.W.Frag} {mg : Str → Option Value} {base : Heap}
local macro_rules | `(tactic| walk_at "tg") => `(tactic| simp (config := { failIfUnchanged := false }) only [te_name_take, te_name_give, te_name_pair, te_name_first, te_name_second, te_name_to, te_name_both, te_name_one, te_name_mark, te_name_name, te_name_thing, te_name_at, te_thing_take, te_thing_give, te_thing_pair, te_thing_first, te_thing_second, te_thing_to, te_thing_both, te_thing_one, te_thing_mark, te_thing_name, te_thing_thing, te_thing_at, te_take_take, te_take_give, te_take_pair, te_take_first, te_take_second, te_take_to, te_take_both, te_take_one, te_take_mark, te_take_name, te_take_thing, te_take_at, te_give_take, te_give_give, te_give_pair, te_give_first, te_give_second, te_give_to, te_give_both, te_give_one, te_give_mark, te_give_name, te_give_thing, te_give_at, te_pair_take, te_pair_give, te_pair_pair, te_pair_first, te_pair_second, te_pair_to, te_pair_both, te_pair_one, te_pair_mark, te_pair_name, te_pair_thing, te_pair_at, te_first_take, te_first_give, te_first_pair, te_first_first, te_first_second, te_first_to, te_first_both, te_first_one, te_first_mark, te_first_name, te_first_thing, te_first_at, te_second_take, te_second_give, te_second_pair, te_second_first, te_second_second, te_second_to, te_second_both, te_second_one, te_second_mark, te_second_name, te_second_thing, te_second_at, te_mark_take, te_mark_give, te_mark_pair, te_mark_first, te_mark_second, te_mark_to, te_mark_both, te_mark_one, te_mark_mark, te_mark_name, te_mark_thing, te_mark_at, te_one_take, te_one_give, te_one_pair, te_one_first, te_one_second, te_one_to, te_one_both, te_one_one, te_one_mark, te_one_name, te_one_thing, te_one_at, te_to_take, te_to_give, te_to_pair, te_to_first, te_to_second, te_to_to, te_to_both, te_to_one, te_to_mark, te_to_name, te_to_thing, te_to_at, te_both_take, te_both_give, te_both_pair, te_both_first, te_both_second, te_both_to, te_both_both, te_both_one, te_both_mark, te_both_name, te_both_thing, te_both_at, te_at_take, te_at_give, te_at_pair, te_at_first, te_at_second, te_at_to, te_at_both, te_at_one, te_at_mark, te_at_name, te_at_thing, te_at_at, ti4_name, ti4_thing, ti4_take, ti4_give, ti4_pair, ti4_first, ti4_second, ti2_name, ti2_thing, ti2_take, ti2_give, ti2_pair, ti2_first, ti2_second, szT_0, szT_1, szT_2, szT_3, szT_4, szT_5, szT_6, szT_7, szT_8, szT_9, szT_10, szT_11, szT_12, Bool.not_true, Bool.not_false, true_and])
local macro_rules | `(tactic| walk_at "kh") => `(tactic| (walk_at "kf1"; simp (config := { failIfUnchanged := false }) only [ap_fMeth, ap_fFld, ap_gFld, ap_fMake, ap_fUnK, ap_fDicT, ap_fMinLen]; walk_at "kf1"))
def spHInit (C : Addr) : DSp := fun ds O R _ => ∃ s : Addr, ds = [.ref s] ∧ O s = some (.ins C []) ∧ ∀ (O' : Ow) (aK aF : Addr), (∀ U S0 Ts, HvC C s aK aF U S0 Ts [] [] O') → O aK = none → O aF = none → (∀ a, a ≠ s → O a ≠ none → O' a = O a) → R .non O'
theorem ok_hinit (T : Tx K mg) : FO_Having___init__ P w base T 1 (spHInit T.C_Having) := by
  refine fnd_Having___init__ T (by walk_at "len") ?_
  rintro ds O R RE ⟨s, rfl, hs, hR⟩
  unfold g_Having___init__
  refine gSeq_step ?_
  walk_at "kh"
  intro dW hdW
  have n1 : s ≠ dW := fun q => by rw [q, hdW] at hs; cases hs
  have h1 : updO O dW (.dic []) s = some (.ins T.C_Having []) := by rw [updO_ne n1]; exact hs
  refine ⟨isIns_of h1, ?_⟩
  rw [rFldS_of h1]
  refine ⟨by decide, ?_⟩
  walk_at "kh"
  intro dS hdS
  have n2 : dS ≠ s := fun q => by rw [q, updO_same] at hdS; cases hdS
  rw [updO_ne n2] at hdS
  have n3 : dS ≠ dW := fun q => by rw [q, updO_same] at hdS; cases hdS
  rw [updO_ne n3] at hdS
  have h2 : updO (updO (updO O dW (.dic [])) s (.ins T.C_Having (putFD (Str.ofString "kinds") (.ref dW) []))) dS (.dicT []) s = some (.ins T.C_Having [(Str.ofString "kinds", .ref dW)]) := by rw [updO_ne (Ne.symm n2), updO_same]; rfl
  refine ⟨isIns_of h2, ?_⟩
  rw [rFldS_of h2]
  refine ⟨(show 1 < 1000 by decide), ?_⟩
  have e2 : putFD (Str.ofString "found") (.ref dS) [(Str.ofString "kinds", .ref dW)] = [(Str.ofString "kinds", .ref dW), (Str.ofString "found", .ref dS)] := by
    unfold putFD
    rw [if_neg (by decide +kernel)]
    rfl
  rw [e2]
  refine hR _ dW dS (fun U S0 Ts => ⟨updO_same, ?_, ?_, by simp, (fun _ h => by cases h), (fun k _ d e => by cases e), by simp, (fun _ h => by cases h), fun S l _ _ d e => by cases e⟩) hdW hdS fun a ha ha2 => ?_
  · rw [updO_ne (Ne.symm n1), updO_ne (Ne.symm n3), updO_ne (Ne.symm n1)]; exact updO_same
  · rw [updO_ne n2]; exact updO_same
  · rw [updO_ne ha, updO_ne (fun q => ha2 (by rw [q]; exact hdS)), updO_ne ha, updO_ne (fun q => ha2 (by rw [q]; exact hdW))]
def spBarr : DSp := fun ds O R _ => ∃ (kn : List (Str × Kd)) (k : Kd), ds = [.lst (kn.map kv), dK k] ∧ LK (kn.map (·.2) ++ [k]) ∧ lvs (kn.map (·.2)) + k.leaves ≤ 12 ∧
  (HadK (kn.map (·.2)) k → R .non O) ∧ ∀ st, BarsT (kn.map (·.2)) k st → R (dT (stT st)) O
theorem ok_barring (T : Tx K mg) : FO_barring P w base T 100 spBarr := by
  refine fndG_barring (k := 99) T (fnUp (ok_hinit T) (by omega)) (by omega) (fnUp (ok_withM T) (by omega)) (fnUp (ok_lackS T (ok_hadAll T 9)) (by omega)) (fnUp (ok_hadAll T 10) (by omega)) (fnUp (ok_treeAll T 10) (by omega)) (fun ds O R RE ⟨_, _, q, _⟩ => by rw [q]; rfl) ?_
  rintro ds O R RE ⟨kn, k, rfl, hlk, hlv, hR0, hR1⟩
  unfold g_barring
  obtain ⟨S0, hS0⟩ : ∃ S0, S0 = kn.map (·.2) := ⟨_, rfl⟩
  rw [← hS0] at hlk hlv hR0 hR1
  have u := un_of hlk (by omega)
  refine gSeq_step ?_
  walk_at "kh"
  intro s hs
  refine ⟨s, rfl, updO_same, fun O1 aK aF hc0 hK hF hfr => ⟨rfl, ?_⟩⟩
  have hc := hc0 (uOf S0 k) S0 (tsOf S0 k)
  have hfr2 : ∀ a c, O a = some c → O1 a = some c := fun a c e => by
    have n1 : a ≠ s := fun q => by rw [q, hs] at e; cases e
    have h1 : updO O s (.ins T.C_Having []) a = some c := by rw [updO_ne n1]; exact e
    rw [hfr a n1 (by rw [h1]; simp)]; exact h1
  have hK2 : O aK = none := by
    cases e : O aK with
    | none => rfl
    | some c =>
      have n1 : aK ≠ s := fun q => by rw [q, hs] at e; cases e
      rw [updO_ne n1, e] at hK; cases hK
  have hF2 : O aF = none := by
    cases e : O aF with
    | none => rfl
    | some c =>
      have n1 : aF ≠ s := fun q => by rw [q, hs] at e; cases e
      rw [updO_ne n1, e] at hF; cases hF
  have hsub : ∀ {O' : Ow} {kk : List (Key × D)} {kf : List (List Key × D)}, HvTo aK aF [] O1 [] [] O' kk kf → Sub O O' := fun {O' kk kf} t a c e =>
    t.fr a c (hfr2 a c e) (fun q => by rw [q, hK2] at e; cases e) (fun q => by rw [q, hF2] at e; cases e) (by simp)
  have hmU : ∀ x ∈ S0, x ∈ uOf S0 k := fun x hx => u.sub x (List.mem_append_left _ hx)
  have hk1 := hlk k (by simp)
  have hlen0 : S0.length ≤ 12 := by have := lvs_len S0; omega
  refine gSeq_step ?_
  walk_at "kh"
  refine ⟨hv_no hc (by decide +kernel) (by decide +kernel), sz_small (by decide), ?_⟩
  refine lcA_map kv (fun x => dK x.2) kn [] _ (sz_small (by have : kn.length = S0.length := by rw [hS0, List.length_map]
                                                            simp only [List.length_nil]; omega)) (fun x hx Q' hQ => ?_) ?_
  · simp only [kv]
    walk_at "kh"
    exact hQ
  rw [List.nil_append, show (kn.map fun x => dK x.2) = S0.map dK by rw [hS0, List.map_map]; rfl]
  refine ⟨s, aK, aF, uOf S0 k, S0, tsOf S0 k, [], [], .tup [], [], S0, [], rfl, u, hc, txD_nil, ⟨List.Pairwise.nil, fun x => by simp⟩, (by rw [List.nil_append]; exact hmU), by omega, fun O2 kk2 l hc2 ht2 hl hp2 => ?_⟩
  rw [List.nil_append] at hl
  have hin : InU S0 (tsOf S0 k) S0 := InU.self
  refine gSeq_step ?_
  walk_at "kh"
  refine ⟨hv_no hc2 (by decide +kernel) (by decide +kernel), ⟨hv_no hc2 (by decide +kernel) (by decide +kernel), ?_⟩⟩
  have hl9 : lft (tsOf S0 k) S0 ≤ 9 := Nat.le_trans lft_le u.ts
  refine ⟨s, aK, aF, _, S0, _, kk2, [], S0, l, rfl, u, hc2, hin, hl, hp2, by omega, fun O3 kk3 kf3 p ms hc3 ht3 hp hms npk => ?_⟩
  walk_at "kh"
  have hty : ∀ t ∈ ends k, t.1 = [] ∨ t.1 ∈ tsOf S0 k := fun t ht => by
    rcases end_ty [] k t ht with h | h
    · exact .inl h.1
    · exact .inr (List.mem_append_right _ h)
  refine ⟨s, aK, aF, p, _, S0, _, kk3, kf3, S0, l, ms, k, rfl, u, hc3, hin, hl, Pres.grow hp2 ht3.gk, by omega, hp, npk, hty, hk1.1, hk1.2, by omega, fun t ht => ?_, fun O4 kk4 kf4 r hc4 ht4 hlr => ?_⟩
  · have h2 := (ends_in k t ht).2.1
    have h3 := lvs_len t.1
    unfold lvs at h3
    omega
  have T4 := (ht2.trans ht3 hc2.nk hc2.nf).trans ht4 hc3.nk hc3.nf
  refine gSeq_step ?_
  walk_at "kh"
  rcases hlr with ⟨rfl, hok⟩ | ⟨a, ha, t, ht, l', h1, h2, h3, rfl⟩
  · rw [if_pos (show isNon .non = true from rfl)]
    exact ⟨O, hsub T4, hR0 fun t ht => (hok k (by simp) t ht).had fun m hm => (hms.2 m).mp hm⟩
  · rw [List.mem_singleton.mp ha] at ht
    rw [if_neg (by rw [isNon_k]; decide)]
    refine ⟨hv_no hc4 (by decide +kernel) (by decide +kernel), ?_⟩
    have hin2 := hin.put (hty t ht)
    have hnh : ¬ Had (S0 ++ t.1) t.2 := fun hh => h1 (by
      by_cases c : SameK (S0 ++ t.1) S0
      · exact .inl ⟨c, (hms.2 _).mpr (hh.weak fun x hx => (c x).mp hx)⟩
      · exact .inr ⟨c, hh⟩)
    have hlv2 : lvs (S0 ++ t.1) ≤ 11 := by
      have := (ends_in k t ht).2.1
      rw [lvs_app]; unfold lvs at *; omega
    have hfr5 : ((S0 ++ t.1).flatMap tyR).length ≤ 5 := by
      have := flat_tyR (S0 ++ t.1)
      omega
    have hle5 : lft ((S0 ++ t.1).flatMap tyR) (S0 ++ t.1) ≤ ((S0 ++ t.1).flatMap tyR).length := lft_le
    refine ⟨s, aK, aF, _, S0, _, (S0 ++ t.1).flatMap tyR, kk4, kf4, S0 ++ t.1, l', rfl, u, hc4, hin2, h2, h3, clT_own _, by omega, fun O5 kk5 kf5 st hc5 ht5 hg hsame hmk hdep hw1 hw2 => ?_⟩
    refine ⟨O, hsub (T4.trans ht5 hc4.nk hc4.nf), hR1 st ⟨hg, fun v hv => ⟨(hmk v hv).1, ?_, fun m hm => mkS_so u m ((hmk v hv).2 m hm)⟩, by omega, worlds_le hlv2 hle5 hw1 hw2, t, ht, hsame, hnh⟩⟩
    have h6 := nodup_le (hmk v hv).1.nodup fun m hm => mkS_in m ((hmk v hv).2 m hm)
    have h7 := flat_marks (S0 ++ [k])
    have h8 : lvs (S0 ++ [k]) = lvs S0 + k.leaves := by rw [lvs_app]; simp [lvs]
    omega
end
end Kf
/-! Kbt: things that may be trees of worlds. -/
namespace Kf
open PySem PySem.Spec L2
open PyProof.Rows hiding St
/-! ### things that can be looked at -/
mutual
def okE : D → Bool
  | .non => true
  | .bl _ => true
  | .int _ => true
  | .str s => PyData.strOk s && decide (s.length ≤ 1000)
  | .tup ds => okEs ds
  | .lst ds => okEs ds
  | .edic => true
  | _ => false
def okEs : List D → Bool
  | [] => true
  | d :: ds => okE d && okEs ds
end
mutual
def wt : D → Nat
  | .tup ds => wts ds + 1
  | .lst ds => wts ds + 1
  | _ => 1
def wts : List D → Nat
  | [] => 0
  | d :: ds => wt d + wts ds
end
theorem okEs_all : ∀ ds : List D, okEs ds = ds.all okE
  | [] => rfl
  | d :: ds => by rw [okEs, okEs_all ds, List.all_cons]
theorem okEs_mem {ds : List D} {d : D} (h : okEs ds = true) (hd : d ∈ ds) : okE d = true := by
  rw [okEs_all, List.all_eq_true] at h; exact h d hd
theorem wt_pos (d : D) : 1 ≤ wt d := by cases d <;> simp [wt]
theorem wts_len : ∀ ds : List D, ds.length ≤ wts ds
  | [] => Nat.le_refl _
  | d :: ds => by have := wts_len ds; have := wt_pos d; rw [wts, List.length_cons]; omega
theorem wts_mem : ∀ {ds : List D} {d : D}, d ∈ ds → wt d ≤ wts ds
  | x :: xs, d, h => by
    rw [wts]
    rcases List.mem_cons.mp h with rfl | h
    · omega
    · have := wts_mem h; omega
/-! ### the looks -/
/-- a row of marks that rise -/
def msB : Str → List D → Bool
  | _, [] => true
  | last, .str m :: r => (isMarkB m && decide (last.cps.toList < m.cps.toList)) && msB m r
  | _, _ :: _ => false
/-- all marks of the first stand in the tree's own row -/
def inB (ms : List D) : D → Bool
  | .tup [.lst ns, _] => ms.all fun m => match m with
    | .str x => ns.any fun n => match n with
      | .str y => decide (x = y)
      | _ => false
    | _ => false
  | _ => false
def isTr : Nat → D → Bool
  | 0, _ => false
  | n + 1, .tup [.lst ms, .lst ts] => msB "" ms && ts.all fun t => isTr n t && inB ms t
  | _ + 1, _ => false
def mkB : D → Bool
  | .lst ms => msB "" ms
  | _ => false
theorem msB_strs : ∀ {ms : List D} {last : Str}, msB last ms = true → ∃ xs : List Str, ms = xs.map .str ∧ (∀ x ∈ xs, isMarkB x = true) ∧ (last :: xs).Pairwise fun a b => a.cps.toList < b.cps.toList
  | [], last, _ => ⟨[], rfl, (fun _ h => nomatch h), by simp⟩
  | .str m :: r, last, h => by
    simp only [msB, Bool.and_eq_true, decide_eq_true_eq] at h
    obtain ⟨xs, rfl, h1, h2⟩ := msB_strs h.2
    refine ⟨m :: xs, rfl, fun x hx => ?_, List.pairwise_cons.mpr ⟨fun y hy => ?_, h2⟩⟩
    · rcases List.mem_cons.mp hx with rfl | hx
      · exact h.1.1
      · exact h1 x hx
    · rcases List.mem_cons.mp hy with rfl | hy
      · exact h.1.2
      · exact List.lt_trans h.1.2 ((List.pairwise_cons.mp h2).1 y hy)
  | .non :: _, _, h => by simp [msB] at h
  | .bl _ :: _, _, h => by simp [msB] at h
  | .int _ :: _, _, h => by simp [msB] at h
  | .tup _ :: _, _, h => by simp [msB] at h
  | .lst _ :: _, _, h => by simp [msB] at h
  | .ref _ :: _, _, h => by simp [msB] at h
  | .ty _ :: _, _, h => by simp [msB] at h
  | .scr _ :: _, _, h => by simp [msB] at h
  | .edic :: _, _, h => by simp [msB] at h
  | .tupK _ :: _, _, h => by simp [msB] at h
theorem msB_of : ∀ {xs : List Str} {last : Str}, (∀ x ∈ xs, isMarkB x = true) → ((last :: xs).Pairwise fun a b => a.cps.toList < b.cps.toList) → msB last (xs.map .str) = true
  | [], last, _, _ => rfl
  | x :: xs, last, h, hp => by
    obtain ⟨h1, h2⟩ := List.pairwise_cons.mp hp
    rw [List.map_cons, msB, h x List.mem_cons_self, decide_eq_true (h1 x List.mem_cons_self), msB_of (fun y hy => h y (List.mem_cons_of_mem _ hy)) h2]; rfl
theorem mark_ne {x : Str} (h : isMarkB x = true) : (Str.ofString "").cps.toList < x.cps.toList := by
  rw [tl_e]
  unfold isMarkB at h
  simp only [Bool.and_eq_true, decide_eq_true_eq] at h
  have : x.cps.toList.length = x.length := len_tl x
  cases e : x.cps.toList with
  | nil => rw [e, List.length_nil] at this; omega
  | cons a r => exact List.nil_lt_cons a r
/-- marks, and rising -/
theorem msB_up {xs : List Str} : msB "" (xs.map .str) = true ↔ (∀ x ∈ xs, isMarkB x = true) ∧ Up xs := by
  constructor
  · intro h
    obtain ⟨ys, e, h1, h2⟩ := msB_strs h
    have e : xs = ys := by
      have := congrArg (List.map fun d => match d with | D.str s => s | _ => ("" : Str)) e
      simpa [List.map_map, Function.comp_def] using this
    subst e
    exact ⟨h1, (List.pairwise_cons.mp h2).2⟩
  · rintro ⟨h1, h2⟩
    exact msB_of h1 (List.pairwise_cons.mpr ⟨fun x hx => mark_ne (h1 x hx), h2⟩)
theorem inB_strs {xs ys : List Str} {d : D} : inB (xs.map .str) (.tup [.lst (ys.map .str), d]) = true ↔ ∀ x ∈ xs, x ∈ ys := by
  simp only [inB, List.all_map, List.any_map, List.all_eq_true, Function.comp_def, List.any_eq_true, decide_eq_true_eq]
  exact ⟨fun h x hx => let ⟨y, hy, e⟩ := h x hx; e ▸ hy, fun h x hx => ⟨x, h x hx, rfl⟩⟩
theorem isTr_inv {n : Nat} {d : D} (h : isTr (n + 1) d = true) : ∃ ms ts, d = .tup [.lst ms, .lst ts] ∧ msB "" ms = true ∧ (ts.all fun t => isTr n t && inB ms t) = true := by
  unfold isTr at h
  split at h
  · rename_i e; cases e
  · rename_i e; cases e; rw [Bool.and_eq_true] at h; exact ⟨_, _, rfl, h⟩
  · cases h
/-- what is a tree is one -/
theorem isTr_tr : ∀ (n : Nat) (d : D), isTr n d = true → ∃ t : Tr, d = dT t ∧ t.dep ≤ n ∧ MonoT t ∧ ∀ s ∈ subs t, Up s.ms ∧ ∀ m ∈ s.ms, isMarkB m = true
  | 0, d, h => by simp [isTr] at h
  | n + 1, d, h => by
    obtain ⟨ms, ts, rfl, h2a, h2b⟩ := isTr_inv h
    clear h
    have h := And.intro h2a h2b
    obtain ⟨xs, rfl, h1, h2⟩ := msB_strs h.1
    have hup : Up xs := (List.pairwise_cons.mp h2).2
    have key : ∀ ts : List D, (ts.all fun t => isTr n t && inB (xs.map .str) t) = true → ∃ us : List Tr, ts = us.map dT ∧ deps us ≤ n ∧ MonoTs xs us ∧ ∀ s ∈ subss us, Up s.ms ∧ ∀ m ∈ s.ms, isMarkB m = true := by
      intro ts
      induction ts with
      | nil => intro _; exact ⟨[], rfl, by simp [deps], by rw [MonoTs]; trivial, fun s hs => by rw [subss] at hs; cases hs⟩
      | cons t ts ih =>
        intro h
        rw [List.all_cons, Bool.and_eq_true, Bool.and_eq_true] at h
        obtain ⟨u, rfl, u1, u2, u3⟩ := isTr_tr n t h.1.1
        obtain ⟨us, rfl, v1, v2, v3⟩ := ih h.2
        refine ⟨u :: us, rfl, by rw [deps]; omega, ?_, fun s hs => ?_⟩
        · rw [MonoTs]
          refine ⟨?_, u2, v2⟩
          have := h.1.2
          obtain ⟨zs, vs⟩ := u
          rw [dT] at this
          exact inB_strs.mp this
        · rw [subss] at hs
          rcases List.mem_append.mp hs with hs | hs
          · exact u3 s hs
          · exact v3 s hs
    obtain ⟨us, rfl, u1, u2, u3⟩ := key ts h.2
    refine ⟨.nd xs us, by rw [dT, dTs_map], by rw [Tr.dep]; omega, by rw [MonoT]; exact u2, fun s hs => ?_⟩
    rw [subs] at hs
    rcases List.mem_cons.mp hs with rfl | hs
    · exact ⟨hup, h1⟩
    · exact u3 s hs
theorem tr_isTr : ∀ (n : Nat) (t : Tr), t.dep ≤ n → MonoT t → (∀ s ∈ subs t, Up s.ms ∧ ∀ m ∈ s.ms, isMarkB m = true) → isTr n (dT t) = true
  | 0, t, h, _, _ => by obtain ⟨ms, ts⟩ := t; rw [Tr.dep] at h; omega
  | n + 1, .nd ms ts, h, hm, hs => by
    rw [Tr.dep] at h
    rw [MonoT] at hm
    have h0 := hs (.nd ms ts) (by rw [subs]; exact List.mem_cons_self)
    have key : ∀ us : List Tr, deps us ≤ n → MonoTs ms us → (∀ s ∈ subss us, Up s.ms ∧ ∀ m ∈ s.ms, isMarkB m = true) → ((us.map dT).all fun t => isTr n t && inB (ms.map .str) t) = true := by
      intro us
      induction us with
      | nil => intros; rfl
      | cons u us ih =>
        intro h1 h2 h3
        rw [deps] at h1
        rw [MonoTs] at h2
        rw [List.map_cons, List.all_cons, ih (by omega) h2.2.2 (fun s hs => h3 s (by rw [subss]; exact List.mem_append_right _ hs)),
          tr_isTr n u (by omega) h2.2.1 (fun s hs => h3 s (by rw [subss]; exact List.mem_append_left _ hs))]
        obtain ⟨zs, vs⟩ := u
        have : inB (ms.map .str) (dT (.nd zs vs)) = true := by rw [dT]; exact inB_strs.mpr h2.1
        rw [this]; rfl
    rw [dT, dTs_map, isTr, Bool.and_eq_true]
    exact ⟨msB_up.mpr ⟨h0.2, h0.1⟩, key ts (by omega) hm fun s hs' => hs s (by rw [subs]; exact List.mem_cons_of_mem _ hs')⟩
/-! sizes -/
mutual
theorem subs_wt : ∀ t : Tr, (subs t).length ≤ wt (dT t)
  | .nd ms ts => by
    have := subss_wt ts
    rw [subs, List.length_cons, dT, wt, wts, wts, wt, wt, wts]
    omega
theorem subss_wt : ∀ ts : List Tr, (subss ts).length ≤ wts (dTs ts)
  | [] => by rw [subss]; exact Nat.zero_le _
  | t :: ts => by
    have := subs_wt t
    have := subss_wt ts
    rw [subss, List.length_append, dTs, wts]; omega
end
theorem isMk_B {t : Str} (h : IsMk t) : isMarkB t = true := by
  obtain ⟨ps, rfl, h1, h2, h3⟩ := h
  unfold isMarkB
  have hl : (txt ps).length = ps.length := by simp [txt, Str.length]
  rw [hl, decide_eq_true h1, decide_eq_true h2, Bool.and_true, Bool.and_true, List.all_eq_true]
  intro c hc
  simp only [txt, List.mem_map] at hc
  obtain ⟨n, hn, rfl⟩ := hc
  have := h3 n hn
  unfold letB
  rw [decide_eq_true_eq, abc_l, List.mem_map]
  exact ⟨n.toNat, List.mem_range.mpr (by omega), rfl⟩
def spBtm (n : Nat) : DSp := fun ds O R _ => ∃ (d : D) (r : Nat), ds = [d, .int r] ∧ r < n ∧ okE d = true ∧ wt d ≤ 1000 ∧ R (.bl (isTr r d)) O
def spAreMk : DSp := fun ds O R _ => ∃ d : D, ds = [d] ∧ okE d = true ∧ wt d ≤ 1000 ∧ R (.bl (mkB d)) O
def spIsTree : DSp := fun ds O R _ => ∃ d : D, ds = [d] ∧ okE d = true ∧ wt d ≤ 1000 ∧ R (.bl (isTr 40 d)) O
end Kf
namespace Kf
open PySem PySem.Spec L2
open PyProof.Rows hiding St
local macro_rules | `(tactic| walk_at "kf") => `(tactic| simp (config := { failIfUnchanged := false }) only [startD, ap_fiEnumT, asT1_t, ap_fKGet, asStr_s, ap_fKIn, ap_fKIx, ap_gAsgL, rUnl_l, ap_fiRng3, asR3_i, rSplitO_s, ap_fOrL, rOrL_l, ap_fLcK, ap_gForK, ap_fMaxD, rMaxD_l, rMaxL_l, ap_fCallXD, ap_gForE, asLE_l, ap_fFrz, ap_fDicO, ap_fDGet, ap_fDGet1, ap_fDGet2, ap_gDPut, ap_fIsiT, ap_gForR, rRep_l, isT_i, isT_s, isT_b, isT_n, isT_t, isT_l, ap_gSeq, ap_gIf, ap_gRet, ap_gNext, ap_gSet, ap_gAsg, ap_gPar, ap_gDrop, ap_gRetF, ap_gRetN, ap_gFor, ap_gSetIx, ap_gBreak, ap_fRev, ap_fiRevR, asIR_i, rRev_l, ap_fCallX, ap_gRaise, ap_gTry, ap_gTryAs, ap_gNever, ap_fEdic, ap_fTest, ap_fOp, ap_fVar, envGet_s, patGet_s, ap_fC, ap_fCB, ap_fCons, ap_fNil, ap_fCall, ap_fAnd, ap_fOr, ap_fNot, ap_fAndV, ap_fOrV, ap_fNotV, ap_fIf, ap_fTup, ap_fLst, ap_fLstO, ap_fChain, ap_fUn, ap_fBM, ap_fBM0, ap_fPool, rPool_i, ap_fSl, ap_fPart, ap_fNoPart, asI_i, rSl_l, ap_fiRng1, ap_fiRng2, ap_fiList, ap_fiTup, ap_fiStr, ap_fiEnum, ap_fiZip, ap_fiRev, asL_l, asT_t, asSg_s, asR1_i, asR2_i, asL1_l, asL2_l, ap_fLc, ap_fLcO, ap_fYes, wipeD, lcD, isi_i_int, isi_i_bool, isi_i_str, isi_i_tuple, isi_i_list, isi_i_dict, isi_b_int, isi_b_bool, isi_b_str, isi_b_tuple, isi_b_list, isi_b_dict, isi_s_int, isi_s_bool, isi_s_str, isi_s_tuple, isi_s_list, isi_s_dict, isi_t_int, isi_t_bool, isi_t_str, isi_t_tuple, isi_t_list, isi_t_dict, isi_l_int, isi_l_bool, isi_l_str, isi_l_tuple, isi_l_list, isi_l_dict, isi_n_int, isi_n_bool, isi_n_str, isi_n_tuple, isi_n_list, isi_n_dict, isi_d_int, isi_d_bool, isi_d_str, isi_d_tuple, isi_d_list, isi_d_dict,
  deref_tup, deref_lst, deref_int, deref_str, deref_bl, deref_non, deref_scr, rLt_i, rLt_s, rLe_i, rLe_s, rInts_i, rInts0_i, rAdd_i, rAdd_s, rAdd_l, rAdd_t, rCatO_l, rNeg_i, rLen_t, rLen_l, rLen_c, rLen_s, rMax_i, rMin_i, rInt_i, rInt_b, rDivmod_i, ap_gAug, rStr_i, rList_l, rList_t, rListO_l, rListO_t, rTup_l, rTup_t,
  rIx_t0, rIx_t1, rIx_t2, rIx_t3, rIx_l0, rIx_l1, rIx_l2, rIsN_x, isNon_t, isNon_n, isNon_i, isNon_s, isNon_l, rEq_i, rEq_b, rEq_i2, rEq_b2, rJoin_m, rSplit_s, tyOk_l, tyOk_s, patD_nm, patD_tp, patDs_nil, patDs_cons, Option.bind_some, notX, notX',
  List.map_cons, List.map_nil, List.length_cons, List.length_nil, List.cons_append, List.nil_append, List.append_nil, List.replicate, List.getElem?_cons_zero, List.getElem?_cons_succ, List.set_cons_zero, List.set_cons_succ, updO_same, updO_updO,
  Nat.reduceSub, Nat.reduceAdd, Nat.reduceLeDiff, Nat.zero_add, Int.cast_ofNat_Int, Int.natCast_zero, Int.natCast_one, Int.reduceLT, Int.reduceLE, Int.reduceEq, Int.reduceAdd, Int.reduceSub, Int.reduceNeg, decide_true, decide_false, if_true, if_false, Bool.false_eq_true, eq_self, reduceIte, Bool.true_eq_false, decide_eq_true_eq, Bool.not_true, Bool.not_false, Bool.not_eq_true', decide_eq_false_iff_not, exists_eq_left', exists_eq_left, D.bl.injEq, true_and, and_true, not_true_eq_false, not_false_eq_true])
local macro_rules | `(tactic| walk_at "len") => `(tactic| (intro ds O R RE h; first | (obtain ⟨e, _⟩ := h; subst e; rfl) | (obtain ⟨_, e, _⟩ := h; subst e; rfl) | (obtain ⟨_, _, e, _⟩ := h; subst e; rfl) | (obtain ⟨_, _, _, e, _⟩ := h; subst e; rfl) | (obtain ⟨_, _, _, _, e, _⟩ := h; subst e; rfl) | (obtain ⟨_, _, _, _, _, e, _⟩ := h; subst e; rfl) | (obtain ⟨_, _, _, _, _, _, e, _⟩ := h; subst e; rfl) | (obtain ⟨_, _, _, _, _, _, _, e, _⟩ := h; subst e; rfl) | (obtain ⟨_, _, _, _, _, _, _, _, e, _⟩ := h; subst e; rfl) | (obtain ⟨_, _, _, _, _, _, _, _, _, e, _⟩ := h; subst e; rfl)))
local macro_rules | `(tactic| walk_at "kf1") => `(tactic| simp (config := { failIfUnchanged := false }) only [startD, ap_fiEnumT, asT1_t, ap_fKGet, asStr_s, ap_fKIn, ap_fKIx, ap_gAsgL, rUnl_l, ap_fiRng3, asR3_i, rSplitO_s, ap_fOrL, rOrL_l, ap_fLcK, ap_gForK, ap_fMaxD, rMaxD_l, rMaxL_l, ap_fCallXD, ap_gForE, asLE_l, ap_fFrz, ap_fDicO, ap_fDGet, ap_fDGet1, ap_fDGet2, ap_gDPut, ap_fIsiT, ap_gForR, rRep_l, isT_i, isT_s, isT_b, isT_n, isT_t, isT_l, ap_gIf, ap_gRet, ap_gNext, ap_gSet, ap_gAsg, ap_gPar, ap_gDrop, ap_gRetF, ap_gRetN, ap_gFor, ap_gSetIx, ap_gBreak, ap_fRev, ap_fiRevR, asIR_i, rRev_l, ap_fCallX, ap_gRaise, ap_gTry, ap_gTryAs, ap_gNever, ap_fEdic, ap_fTest, ap_fOp, ap_fVar, envGet_s, patGet_s, ap_fC, ap_fCB, ap_fCons, ap_fNil, ap_fCall, ap_fAnd, ap_fOr, ap_fNot, ap_fAndV, ap_fOrV, ap_fNotV, ap_fIf, ap_fTup, ap_fLst, ap_fLstO, ap_fChain, ap_fUn, ap_fBM, ap_fBM0, ap_fPool, rPool_i, ap_fSl, ap_fPart, ap_fNoPart, asI_i, rSl_l, ap_fiRng1, ap_fiRng2, ap_fiList, ap_fiTup, ap_fiStr, ap_fiEnum, ap_fiZip, ap_fiRev, asL_l, asT_t, asSg_s, asR1_i, asR2_i, asL1_l, asL2_l, ap_fLc, ap_fLcO, ap_fYes, wipeD, lcD, isi_i_int, isi_i_bool, isi_i_str, isi_i_tuple, isi_i_list, isi_i_dict, isi_b_int, isi_b_bool, isi_b_str, isi_b_tuple, isi_b_list, isi_b_dict, isi_s_int, isi_s_bool, isi_s_str, isi_s_tuple, isi_s_list, isi_s_dict, isi_t_int, isi_t_bool, isi_t_str, isi_t_tuple, isi_t_list, isi_t_dict, isi_l_int, isi_l_bool, isi_l_str, isi_l_tuple, isi_l_list, isi_l_dict, isi_n_int, isi_n_bool, isi_n_str, isi_n_tuple, isi_n_list, isi_n_dict, isi_d_int, isi_d_bool, isi_d_str, isi_d_tuple, isi_d_list, isi_d_dict,
  deref_tup, deref_lst, deref_int, deref_str, deref_bl, deref_non, deref_scr, rLt_i, rLt_s, rLe_i, rLe_s, rInts_i, rInts0_i, rAdd_i, rAdd_s, rAdd_l, rAdd_t, rCatO_l, rNeg_i, rLen_t, rLen_l, rLen_c, rLen_s, rMax_i, rMin_i, rInt_i, rInt_b, rDivmod_i, ap_gAug, rStr_i, rList_l, rList_t, rListO_l, rListO_t, rTup_l, rTup_t,
  rIx_t0, rIx_t1, rIx_t2, rIx_t3, rIx_l0, rIx_l1, rIx_l2, rIsN_x, isNon_t, isNon_n, isNon_i, isNon_s, isNon_l, rEq_i, rEq_b, rEq_i2, rEq_b2, rJoin_m, rSplit_s, tyOk_l, tyOk_s, patD_nm, patD_tp, patDs_nil, patDs_cons, Option.bind_some, notX, notX',
  List.map_cons, List.map_nil, List.length_cons, List.length_nil, List.cons_append, List.nil_append, List.append_nil, List.replicate, List.getElem?_cons_zero, List.getElem?_cons_succ, List.set_cons_zero, List.set_cons_succ, updO_same, updO_updO,
  Nat.reduceSub, Nat.reduceAdd, Nat.reduceLeDiff, Nat.zero_add, Int.cast_ofNat_Int, Int.natCast_zero, Int.natCast_one, Int.reduceLT, Int.reduceLE, Int.reduceEq, Int.reduceAdd, Int.reduceSub, Int.reduceNeg, decide_true, decide_false, if_true, if_false, Bool.false_eq_true, eq_self, reduceIte, Bool.true_eq_false, decide_eq_true_eq, Bool.not_true, Bool.not_false, Bool.not_eq_true', decide_eq_false_iff_not, exists_eq_left', exists_eq_left, D.bl.injEq, true_and, and_true, not_true_eq_false, not_false_eq_true])
section
variable {P : Program} {w : World} {K : PySem.W.Frag} {mg : Str → Option Value} {base : Heap}
local macro_rules | `(tactic| walk_at "tg") => `(tactic| simp (config := { failIfUnchanged := false }) only [te_name_take, te_name_give, te_name_pair, te_name_first, te_name_second, te_name_to, te_name_both, te_name_one, te_name_mark, te_name_name, te_name_thing, te_name_at, te_thing_take, te_thing_give, te_thing_pair, te_thing_first, te_thing_second, te_thing_to, te_thing_both, te_thing_one, te_thing_mark, te_thing_name, te_thing_thing, te_thing_at, te_take_take, te_take_give, te_take_pair, te_take_first, te_take_second, te_take_to, te_take_both, te_take_one, te_take_mark, te_take_name, te_take_thing, te_take_at, te_give_take, te_give_give, te_give_pair, te_give_first, te_give_second, te_give_to, te_give_both, te_give_one, te_give_mark, te_give_name, te_give_thing, te_give_at, te_pair_take, te_pair_give, te_pair_pair, te_pair_first, te_pair_second, te_pair_to, te_pair_both, te_pair_one, te_pair_mark, te_pair_name, te_pair_thing, te_pair_at, te_first_take, te_first_give, te_first_pair, te_first_first, te_first_second, te_first_to, te_first_both, te_first_one, te_first_mark, te_first_name, te_first_thing, te_first_at, te_second_take, te_second_give, te_second_pair, te_second_first, te_second_second, te_second_to, te_second_both, te_second_one, te_second_mark, te_second_name, te_second_thing, te_second_at, te_mark_take, te_mark_give, te_mark_pair, te_mark_first, te_mark_second, te_mark_to, te_mark_both, te_mark_one, te_mark_mark, te_mark_name, te_mark_thing, te_mark_at, te_one_take, te_one_give, te_one_pair, te_one_first, te_one_second, te_one_to, te_one_both, te_one_one, te_one_mark, te_one_name, te_one_thing, te_one_at, te_to_take, te_to_give, te_to_pair, te_to_first, te_to_second, te_to_to, te_to_both, te_to_one, te_to_mark, te_to_name, te_to_thing, te_to_at, te_both_take, te_both_give, te_both_pair, te_both_first, te_both_second, te_both_to, te_both_both, te_both_one, te_both_mark, te_both_name, te_both_thing, te_both_at, te_at_take, te_at_give, te_at_pair, te_at_first, te_at_second, te_at_to, te_at_both, te_at_one, te_at_mark, te_at_name, te_at_thing, te_at_at, ti4_name, ti4_thing, ti4_take, ti4_give, ti4_pair, ti4_first, ti4_second, ti2_name, ti2_thing, ti2_take, ti2_give, ti2_pair, ti2_first, ti2_second, szT_0, szT_1, szT_2, szT_3, szT_4, szT_5, szT_6, szT_7, szT_8, szT_9, szT_10, szT_11, szT_12, Bool.not_true, Bool.not_false, true_and])
theorem drop_get {α : Type} {l : List α} {i : Nat} {d : α} (h : l[i]? = some d) : l.drop i = d :: l.drop (i + 1) := by
  obtain ⟨hl, rfl⟩ := List.getElem?_eq_some_iff.mp h
  exact List.drop_eq_getElem_cons hl
theorem ok_are_marks (T : Tx K mg) {k : Nat} : FO_are_marks P w base T (k + 2) spAreMk := by
  refine fnd_are_marks T (ok_is_mark T.n_is_mark T.m_len T.c_LETTERS T.c_LONGEST) (by walk_at "len") ?_
  rintro ds O R RE ⟨d, rfl, ho, hw, hR⟩
  unfold g_are_marks
  cases d with
  | ref a => simp [okE] at ho
  | ty a => simp [okE] at ho
  | scr a => simp [okE] at ho
  | tupK a => simp [okE] at ho
  | lst ms =>
    simp only [mkB] at hR
    rw [okE] at ho
    walk_at "kf"
    refine forD_ix (fun i ρ O' => O' = O ∧ ∃ last x2, ρ = [some (.lst ms), some (.str last), x2] ∧ msB "" ms = msB last (ms.drop i)) _ 0 _ _ ⟨rfl, "", none, rfl, rfl⟩ ?_ ?_
    · rintro ρ O' ⟨rfl, last, x2, rfl, e⟩
      rw [Nat.zero_add, List.drop_length] at e
      walk_at "kf"
      rw [e] at hR
      exact hR
    · rintro i d hd ρ O' ⟨rfl, last, x2, rfl, e⟩ Nx hN
      rw [Nat.zero_add] at *
      rw [drop_get hd] at e
      have hok := okEs_mem ho (List.mem_of_getElem? hd)
      walk_at "kf"
      cases d with
      | ref a => simp [okE] at hok
      | ty a => simp [okE] at hok
      | scr a => simp [okE] at hok
      | tupK a => simp [okE] at hok
      | str m =>
        rw [okE, Bool.and_eq_true, decide_eq_true_eq] at hok
        rw [msB] at e
        walk_at "kf"
        refine ⟨m, rfl, hok.2, ?_⟩
        walk_at "kf"
        cases e1 : isMarkB m with
        | false =>
          rw [e1, Bool.false_and, Bool.false_and] at e
          rw [e] at hR
          walk_at "kf"
          exact hR
        | true =>
          rw [e1, Bool.true_and] at e
          walk_at "kf"
          by_cases c : last.cps.toList < m.cps.toList
          · simp only [c, decide_true, Bool.true_and, Bool.not_true] at e ⊢
            walk_at "kf"
            exact hN _ _ ⟨rfl, m, _, rfl, e⟩
          · simp only [c, decide_false, Bool.false_and, Bool.not_false] at e ⊢
            rw [e] at hR
            walk_at "kf"
            exact hR
      | _ => simp only [msB] at e; rw [e] at hR; walk_at "kf"; exact hR
  | _ => simp only [mkB] at hR; walk_at "kf"; exact hR
theorem fst_tr {n : Nat} {d : D} (h : isTr n d = true) : ∃ (ns : List Str) (ts : List D), d = .tup [.lst (ns.map .str), .lst ts] := by
  cases n with
  | zero => simp [isTr] at h
  | succ n =>
    obtain ⟨ms, ts, rfl, h1, h2⟩ := isTr_inv h
    obtain ⟨xs, rfl, _⟩ := msB_strs h1
    exact ⟨xs, ts, rfl⟩
/-- which marks lack -/
theorem lacks {xs ns : List Str} {d : D} : ((xs.filter fun m => !decide (m ∈ ns)).map D.str).isEmpty = inB (xs.map .str) (.tup [.lst (ns.map .str), d]) := by
  rw [List.isEmpty_map, Bool.eq_iff_iff, List.isEmpty_iff, List.filter_eq_nil_iff, inB_strs]
  simp
theorem okE_strs {xs : List Str} (h : okEs (xs.map .str) = true) : ∀ x ∈ xs, PyData.strOk x = true := fun x hx => by
  have := okEs_mem h (List.mem_map.mpr ⟨x, hx, rfl⟩)
  rw [okE, Bool.and_eq_true] at this
  exact this.1
theorem ok_btm (T : Tx K mg) : ∀ n, FO_has_tree_form P w base T (n + 3) (spBtm n)
  | 0 => fnUp (none_left fun ds O R RE ⟨d, r, _, h, _⟩ => by omega) (Nat.zero_le _)
  | n + 1 => by
    refine fnd_has_tree_form T (fnUp (ok_are_marks T (k := 0)) (by omega)) (ok_btm T n) (by walk_at "len") ?_
    rintro ds O R RE ⟨d, r, rfl, hr, ho, hw, hR⟩
    unfold g_has_tree_form
    walk_at "kf"
    cases r with
    | zero =>
      rw [show isTr 0 d = false by simp [isTr]] at hR
      simp only [Int.natCast_zero]
      walk_at "kf"
      exact hR
    | succ r =>
      rw [if_neg (show ¬ ((r + 1 : Nat) : Int) < 1 by omega)]
      cases d with
      | ref a => simp [okE] at ho
      | ty a => simp [okE] at ho
      | scr a => simp [okE] at ho
      | tupK a => simp [okE] at ho
      | tup xs =>
        walk_at "kf"
        match xs, ho, hw, hR with
        | [], ho, hw, hR => simp only [isTr] at hR; walk_at "kf"; exact hR
        | [x], ho, hw, hR => simp only [isTr] at hR; walk_at "kf"; exact hR
        | x :: y :: z :: us, ho, hw, hR =>
          simp only [isTr] at hR
          have e4 : ¬ ((us.length + 1 + 1 + 1 : Nat) : Int) = 2 := by omega
          walk_at "kf"
          simp only [e4, decide_false, Bool.not_false]
          walk_at "kf"
          exact hR
        | [x, y], ho, hw, hR =>
          rw [okE, okEs, okEs, okEs, Bool.and_true, Bool.and_eq_true] at ho
          rw [wt, wts, wts, wts] at hw
          walk_at "kf"
          refine ⟨x, rfl, ho.1, by omega, ?_⟩
          walk_at "kf"
          have fls : mkB x = false → R (.bl false) O := fun h => by
            have : isTr (r + 1) (.tup [x, y]) = false := by
              rw [Bool.eq_false_iff]; intro q
              obtain ⟨ms, ts, e, h1, _⟩ := isTr_inv q
              simp only [D.tup.injEq, List.cons.injEq, and_true] at e
              rw [e.1, mkB, h1] at h; cases h
            rw [this] at hR; exact hR
          cases em : mkB x with
          | false => walk_at "kf"; exact fls em
          | true =>
            walk_at "kf"
            obtain ⟨ms, rfl⟩ : ∃ ms, x = .lst ms := by cases x <;> first | exact ⟨_, rfl⟩ | cases em
            rw [mkB] at em
            obtain ⟨xs, rfl, hx1, _⟩ := msB_strs em
            rw [okE] at ho
            have hxo := okE_strs ho.1
            have hxl : xs.length ≤ 1000 := by
              have := wts_len (xs.map D.str)
              rw [wt] at hw
              rw [List.length_map] at this
              omega
            walk_at "kf"
            cases y with
            | ref a => simp [okE] at ho
            | ty a => simp [okE] at ho
            | scr a => simp [okE] at ho
            | tupK a => simp [okE] at ho
            | lst ts =>
              rw [okE] at ho
              have hR' : R (.bl (ts.all fun t => isTr r t && inB (xs.map .str) t)) O := by
                rw [isTr, em, Bool.true_and] at hR; exact hR
              walk_at "kf"
              refine forD_ix (fun i ρ O' => O' = O ∧ ∃ x4 x5, ρ = [some (.tup [.lst (xs.map .str), .lst ts]), some (.int ((r + 1 : Nat) : Int)), some (.lst (xs.map .str)), some (.lst ts), x4, x5] ∧ ((ts.take i).all fun t => isTr r t && inB (xs.map .str) t) = true) _ 0 _ _ ⟨rfl, none, none, rfl, rfl⟩ ?_ ?_
              · rintro ρ O' ⟨rfl, x4, x5, rfl, e⟩
                rw [Nat.zero_add, List.take_length] at e
                walk_at "kf"
                rw [e] at hR'
                exact hR'
              · rintro i d hd ρ O' ⟨rfl, x4, x5, rfl, e⟩ Nx hN
                rw [Nat.zero_add] at *
                have hm := List.mem_of_getElem? hd
                have hok := okEs_mem ho.2 hm
                have hwd := wts_mem hm
                rw [wt] at hw
                rw [wt] at hw
                have bad : (isTr r d && inB (xs.map .str) d) = false → R (.bl false) O' := fun h => by
                  have : (ts.all fun t => isTr r t && inB (xs.map .str) t) = false := by
                    rw [Bool.eq_false_iff]; intro q
                    have := List.all_eq_true.mp q d hm
                    rw [h] at this; cases this
                  rw [this] at hR'; exact hR'
                walk_at "kf"
                rw [show ((r + 1 : Nat) : Int) - 1 = (r : Int) by omega]
                refine ⟨d, r, rfl, by omega, hok, by omega, ?_⟩
                walk_at "kf"
                cases e1 : isTr r d with
                | false => rw [e1] at bad; walk_at "kf"; exact bad rfl
                | true =>
                  rw [e1, Bool.true_and] at bad
                  walk_at "kf"
                  obtain ⟨ns, vs, rfl⟩ := fst_tr e1
                  have hno : ∀ x ∈ ns, PyData.strOk x = true := by
                    rw [okE, okEs, okE, Bool.and_eq_true] at hok
                    exact okE_strs hok.1
                  refine lcA_filter (fun m => !decide (m ∈ ns)) D.str D.str xs _ _ (sz_small (by simp only [List.length_nil]; omega)) ?_ ?_
                  · intro m hmm Q1 Q2 h1 h2
                    walk_at "kf"
                    rw [rIn_strs (hxo m hmm) hno]
                    walk_at "kf"
                    by_cases c : m ∈ ns
                    · simp only [c, decide_true, Bool.not_true] at h2 ⊢; walk_at "kf"; exact h2 trivial
                    · simp only [c, decide_false, Bool.not_false] at h1 ⊢; walk_at "kf"; exact h1 trivial
                  · rw [List.nil_append]
                    walk_at "kf"
                    refine ⟨sz_small (by decide), ?_⟩
                    rw [rEq_nilA rfl (isPys_strs fun t ht => hxo t (List.mem_filter.mp ht).1), lacks]
                    cases e2 : inB (xs.map .str) (.tup [.lst (ns.map .str), .lst vs]) with
                    | false => walk_at "kf"; exact bad e2
                    | true =>
                      walk_at "kf"
                      refine hN _ _ ⟨rfl, _, _, rfl, ?_⟩
                      rw [List.take_add_one, hd, List.all_append, e]
                      simp [e1, e2]
            | _ => simp only [isTr] at hR; walk_at "kf"; exact hR
      | _ => simp only [isTr] at hR; walk_at "kf"; exact hR
end
end Kf
namespace Kf
open PySem PySem.Spec L2
open PyProof.Rows hiding St
local macro_rules | `(tactic| walk_at "kf") => `(tactic| simp (config := { failIfUnchanged := false }) only [startD, ap_fiEnumT, asT1_t, ap_fKGet, asStr_s, ap_fKIn, ap_fKIx, ap_gAsgL, rUnl_l, ap_fiRng3, asR3_i, rSplitO_s, ap_fOrL, rOrL_l, ap_fLcK, ap_gForK, ap_fMaxD, rMaxD_l, rMaxL_l, ap_fCallXD, ap_gForE, asLE_l, ap_fFrz, ap_fDicO, ap_fDGet, ap_fDGet1, ap_fDGet2, ap_gDPut, ap_fIsiT, ap_gForR, rRep_l, isT_i, isT_s, isT_b, isT_n, isT_t, isT_l, ap_gSeq, ap_gIf, ap_gRet, ap_gNext, ap_gSet, ap_gAsg, ap_gPar, ap_gDrop, ap_gRetF, ap_gRetN, ap_gFor, ap_gSetIx, ap_gBreak, ap_fRev, ap_fiRevR, asIR_i, rRev_l, ap_fCallX, ap_gRaise, ap_gTry, ap_gTryAs, ap_gNever, ap_fEdic, ap_fTest, ap_fOp, ap_fVar, envGet_s, patGet_s, ap_fC, ap_fCB, ap_fCons, ap_fNil, ap_fCall, ap_fAnd, ap_fOr, ap_fNot, ap_fAndV, ap_fOrV, ap_fNotV, ap_fIf, ap_fTup, ap_fLst, ap_fLstO, ap_fChain, ap_fUn, ap_fBM, ap_fBM0, ap_fPool, rPool_i, ap_fSl, ap_fPart, ap_fNoPart, asI_i, rSl_l, ap_fiRng1, ap_fiRng2, ap_fiList, ap_fiTup, ap_fiStr, ap_fiEnum, ap_fiZip, ap_fiRev, asL_l, asT_t, asSg_s, asR1_i, asR2_i, asL1_l, asL2_l, ap_fLc, ap_fLcO, ap_fYes, wipeD, lcD, isi_i_int, isi_i_bool, isi_i_str, isi_i_tuple, isi_i_list, isi_i_dict, isi_b_int, isi_b_bool, isi_b_str, isi_b_tuple, isi_b_list, isi_b_dict, isi_s_int, isi_s_bool, isi_s_str, isi_s_tuple, isi_s_list, isi_s_dict, isi_t_int, isi_t_bool, isi_t_str, isi_t_tuple, isi_t_list, isi_t_dict, isi_l_int, isi_l_bool, isi_l_str, isi_l_tuple, isi_l_list, isi_l_dict, isi_n_int, isi_n_bool, isi_n_str, isi_n_tuple, isi_n_list, isi_n_dict, isi_d_int, isi_d_bool, isi_d_str, isi_d_tuple, isi_d_list, isi_d_dict,
  deref_tup, deref_lst, deref_int, deref_str, deref_bl, deref_non, deref_scr, rLt_i, rLt_s, rLe_i, rLe_s, rInts_i, rInts0_i, rAdd_i, rAdd_s, rAdd_l, rAdd_t, rCatO_l, rNeg_i, rLen_t, rLen_l, rLen_c, rLen_s, rMax_i, rMin_i, rInt_i, rInt_b, rDivmod_i, ap_gAug, rStr_i, rList_l, rList_t, rListO_l, rListO_t, rTup_l, rTup_t,
  rIx_t0, rIx_t1, rIx_t2, rIx_t3, rIx_l0, rIx_l1, rIx_l2, rIsN_x, isNon_t, isNon_n, isNon_i, isNon_s, isNon_l, rEq_i, rEq_b, rEq_i2, rEq_b2, rJoin_m, rSplit_s, tyOk_l, tyOk_s, patD_nm, patD_tp, patDs_nil, patDs_cons, Option.bind_some, notX, notX',
  List.map_cons, List.map_nil, List.length_cons, List.length_nil, List.cons_append, List.nil_append, List.append_nil, List.replicate, List.getElem?_cons_zero, List.getElem?_cons_succ, List.set_cons_zero, List.set_cons_succ, updO_same, updO_updO,
  Nat.reduceSub, Nat.reduceAdd, Nat.reduceLeDiff, Nat.zero_add, Int.cast_ofNat_Int, Int.natCast_zero, Int.natCast_one, Int.reduceLT, Int.reduceLE, Int.reduceEq, Int.reduceAdd, Int.reduceSub, Int.reduceNeg, decide_true, decide_false, if_true, if_false, Bool.false_eq_true, eq_self, reduceIte, Bool.true_eq_false, decide_eq_true_eq, Bool.not_true, Bool.not_false, Bool.not_eq_true', decide_eq_false_iff_not, exists_eq_left', exists_eq_left, D.bl.injEq, true_and, and_true, not_true_eq_false, not_false_eq_true])
local macro_rules | `(tactic| walk_at "len") => `(tactic| (intro ds O R RE h; first | (obtain ⟨e, _⟩ := h; subst e; rfl) | (obtain ⟨_, e, _⟩ := h; subst e; rfl) | (obtain ⟨_, _, e, _⟩ := h; subst e; rfl) | (obtain ⟨_, _, _, e, _⟩ := h; subst e; rfl) | (obtain ⟨_, _, _, _, e, _⟩ := h; subst e; rfl) | (obtain ⟨_, _, _, _, _, e, _⟩ := h; subst e; rfl) | (obtain ⟨_, _, _, _, _, _, e, _⟩ := h; subst e; rfl) | (obtain ⟨_, _, _, _, _, _, _, e, _⟩ := h; subst e; rfl) | (obtain ⟨_, _, _, _, _, _, _, _, e, _⟩ := h; subst e; rfl) | (obtain ⟨_, _, _, _, _, _, _, _, _, e, _⟩ := h; subst e; rfl)))
local macro_rules | `(tactic| walk_at "kf1") => `(tactic| simp (config := { failIfUnchanged := false }) only [startD, ap_fiEnumT, asT1_t, ap_fKGet, asStr_s, ap_fKIn, ap_fKIx, ap_gAsgL, rUnl_l, ap_fiRng3, asR3_i, rSplitO_s, ap_fOrL, rOrL_l, ap_fLcK, ap_gForK, ap_fMaxD, rMaxD_l, rMaxL_l, ap_fCallXD, ap_gForE, asLE_l, ap_fFrz, ap_fDicO, ap_fDGet, ap_fDGet1, ap_fDGet2, ap_gDPut, ap_fIsiT, ap_gForR, rRep_l, isT_i, isT_s, isT_b, isT_n, isT_t, isT_l, ap_gIf, ap_gRet, ap_gNext, ap_gSet, ap_gAsg, ap_gPar, ap_gDrop, ap_gRetF, ap_gRetN, ap_gFor, ap_gSetIx, ap_gBreak, ap_fRev, ap_fiRevR, asIR_i, rRev_l, ap_fCallX, ap_gRaise, ap_gTry, ap_gTryAs, ap_gNever, ap_fEdic, ap_fTest, ap_fOp, ap_fVar, envGet_s, patGet_s, ap_fC, ap_fCB, ap_fCons, ap_fNil, ap_fCall, ap_fAnd, ap_fOr, ap_fNot, ap_fAndV, ap_fOrV, ap_fNotV, ap_fIf, ap_fTup, ap_fLst, ap_fLstO, ap_fChain, ap_fUn, ap_fBM, ap_fBM0, ap_fPool, rPool_i, ap_fSl, ap_fPart, ap_fNoPart, asI_i, rSl_l, ap_fiRng1, ap_fiRng2, ap_fiList, ap_fiTup, ap_fiStr, ap_fiEnum, ap_fiZip, ap_fiRev, asL_l, asT_t, asSg_s, asR1_i, asR2_i, asL1_l, asL2_l, ap_fLc, ap_fLcO, ap_fYes, wipeD, lcD, isi_i_int, isi_i_bool, isi_i_str, isi_i_tuple, isi_i_list, isi_i_dict, isi_b_int, isi_b_bool, isi_b_str, isi_b_tuple, isi_b_list, isi_b_dict, isi_s_int, isi_s_bool, isi_s_str, isi_s_tuple, isi_s_list, isi_s_dict, isi_t_int, isi_t_bool, isi_t_str, isi_t_tuple, isi_t_list, isi_t_dict, isi_l_int, isi_l_bool, isi_l_str, isi_l_tuple, isi_l_list, isi_l_dict, isi_n_int, isi_n_bool, isi_n_str, isi_n_tuple, isi_n_list, isi_n_dict, isi_d_int, isi_d_bool, isi_d_str, isi_d_tuple, isi_d_list, isi_d_dict,
  deref_tup, deref_lst, deref_int, deref_str, deref_bl, deref_non, deref_scr, rLt_i, rLt_s, rLe_i, rLe_s, rInts_i, rInts0_i, rAdd_i, rAdd_s, rAdd_l, rAdd_t, rCatO_l, rNeg_i, rLen_t, rLen_l, rLen_c, rLen_s, rMax_i, rMin_i, rInt_i, rInt_b, rDivmod_i, ap_gAug, rStr_i, rList_l, rList_t, rListO_l, rListO_t, rTup_l, rTup_t,
  rIx_t0, rIx_t1, rIx_t2, rIx_t3, rIx_l0, rIx_l1, rIx_l2, rIsN_x, isNon_t, isNon_n, isNon_i, isNon_s, isNon_l, rEq_i, rEq_b, rEq_i2, rEq_b2, rJoin_m, rSplit_s, tyOk_l, tyOk_s, patD_nm, patD_tp, patDs_nil, patDs_cons, Option.bind_some, notX, notX',
  List.map_cons, List.map_nil, List.length_cons, List.length_nil, List.cons_append, List.nil_append, List.append_nil, List.replicate, List.getElem?_cons_zero, List.getElem?_cons_succ, List.set_cons_zero, List.set_cons_succ, updO_same, updO_updO,
  Nat.reduceSub, Nat.reduceAdd, Nat.reduceLeDiff, Nat.zero_add, Int.cast_ofNat_Int, Int.natCast_zero, Int.natCast_one, Int.reduceLT, Int.reduceLE, Int.reduceEq, Int.reduceAdd, Int.reduceSub, Int.reduceNeg, decide_true, decide_false, if_true, if_false, Bool.false_eq_true, eq_self, reduceIte, Bool.true_eq_false, decide_eq_true_eq, Bool.not_true, Bool.not_false, Bool.not_eq_true', decide_eq_false_iff_not, exists_eq_left', exists_eq_left, D.bl.injEq, true_and, and_true, not_true_eq_false, not_false_eq_true])
section
variable {P : Program} {w : World} {K : PySem.W.Frag} {mg : Str → Option Value} {base : Heap}
local macro_rules | `(tactic| walk_at "tg") => `(tactic| simp (config := { failIfUnchanged := false }) only [te_name_take, te_name_give, te_name_pair, te_name_first, te_name_second, te_name_to, te_name_both, te_name_one, te_name_mark, te_name_name, te_name_thing, te_name_at, te_thing_take, te_thing_give, te_thing_pair, te_thing_first, te_thing_second, te_thing_to, te_thing_both, te_thing_one, te_thing_mark, te_thing_name, te_thing_thing, te_thing_at, te_take_take, te_take_give, te_take_pair, te_take_first, te_take_second, te_take_to, te_take_both, te_take_one, te_take_mark, te_take_name, te_take_thing, te_take_at, te_give_take, te_give_give, te_give_pair, te_give_first, te_give_second, te_give_to, te_give_both, te_give_one, te_give_mark, te_give_name, te_give_thing, te_give_at, te_pair_take, te_pair_give, te_pair_pair, te_pair_first, te_pair_second, te_pair_to, te_pair_both, te_pair_one, te_pair_mark, te_pair_name, te_pair_thing, te_pair_at, te_first_take, te_first_give, te_first_pair, te_first_first, te_first_second, te_first_to, te_first_both, te_first_one, te_first_mark, te_first_name, te_first_thing, te_first_at, te_second_take, te_second_give, te_second_pair, te_second_first, te_second_second, te_second_to, te_second_both, te_second_one, te_second_mark, te_second_name, te_second_thing, te_second_at, te_mark_take, te_mark_give, te_mark_pair, te_mark_first, te_mark_second, te_mark_to, te_mark_both, te_mark_one, te_mark_mark, te_mark_name, te_mark_thing, te_mark_at, te_one_take, te_one_give, te_one_pair, te_one_first, te_one_second, te_one_to, te_one_both, te_one_one, te_one_mark, te_one_name, te_one_thing, te_one_at, te_to_take, te_to_give, te_to_pair, te_to_first, te_to_second, te_to_to, te_to_both, te_to_one, te_to_mark, te_to_name, te_to_thing, te_to_at, te_both_take, te_both_give, te_both_pair, te_both_first, te_both_second, te_both_to, te_both_both, te_both_one, te_both_mark, te_both_name, te_both_thing, te_both_at, te_at_take, te_at_give, te_at_pair, te_at_first, te_at_second, te_at_to, te_at_both, te_at_one, te_at_mark, te_at_name, te_at_thing, te_at_at, ti4_name, ti4_thing, ti4_take, ti4_give, ti4_pair, ti4_first, ti4_second, ti2_name, ti2_thing, ti2_take, ti2_give, ti2_pair, ti2_first, ti2_second, szT_0, szT_1, szT_2, szT_3, szT_4, szT_5, szT_6, szT_7, szT_8, szT_9, szT_10, szT_11, szT_12, Bool.not_true, Bool.not_false, true_and])
theorem ok_put (T : Tx K mg) : ∀ n, FO_put_worlds P w base T n (spPut n)
  | 0 => none_left fun ds O R RE ⟨t, p, acc, _, _, h, _⟩ => by omega
  | n + 1 => by
    refine fnd_put_worlds T (ok_put T n) (by walk_at "len") ?_
    rintro ds O R RE ⟨t, p, acc, rfl, hp, hd, hl, hR⟩
    obtain ⟨ms, ts⟩ := t
    unfold g_put_worlds
    simp only [dT, dTs_map] at hR ⊢
    rw [Tr.dep] at hd
    have hsz : (subs (.nd ms ts)).length = (subss ts).length + 1 := by rw [subs, List.length_cons]
    walk_at "kf"
    rw [rLen_r hp]
    walk_at "kf"
    refine ⟨tyOk_r hp, sz_small (by decide), ?_⟩
    rw [rApp_r hp]
    refine ⟨sz_small' (by omega), ?_⟩
    walk_at "kf"
    refine forA_ix dT (fun pre rest ρ O' => (∃ x3, ρ = [some (.tup [.lst (ms.map .str), .lst (ts.map dT)]), some (.ref p), some (.int acc.length), x3]) ∧ O' = updO O p (.lst (acc ++ [.tup [.lst (ms.map .str), .int 0]] ++ (wss pre (acc.length + 1)).map dW))) ts [] _ _ ⟨⟨_, rfl⟩, by simp [wss]⟩ ?_ ?_
    · rintro ρ O' ⟨⟨x3, rfl⟩, rfl⟩
      rw [List.nil_append]
      walk_at "kf"
      rw [rLen_r updO_same]
      walk_at "kf"
      refine ⟨sz_small (by decide), ?_⟩
      have e1 : (acc ++ [D.tup [.lst (ms.map .str), .int 0]] ++ (wss ts (acc.length + 1)).map dW).length = acc.length + (subs (.nd ms ts)).length := by
        simp only [List.length_append, List.length_cons, List.length_nil, List.length_map, wss_len, hsz]; omega
      rw [rSet_r updO_same (k := acc.length) (ixN_nat (by rw [e1, hsz]; omega)), e1]
      walk_at "kf"
      have e2 : (acc ++ [D.tup [.lst (ms.map .str), .int 0]] ++ (wss ts (acc.length + 1)).map dW).set acc.length (.tup [.lst (ms.map .str), .int ((acc.length + (subs (.nd ms ts)).length : Nat) : Int)]) = acc ++ (ws (.nd ms ts) acc.length).map dW := by
        rw [List.append_assoc, List.set_append_right _ _ (Nat.le_refl _), Nat.sub_self, List.singleton_append, List.set_cons_zero, ws, List.map_cons]
        rfl
      rw [e2]
      exact hR
    · rintro pre x rest e ρ O' ⟨⟨x3, rfl⟩, rfl⟩ Nx hN
      rw [List.nil_append] at e
      have hx : x ∈ ts := by rw [e]; simp
      have hdx := dep_le hx
      have hlen : (subss ts).length = (subss pre).length + (subs x).length + (subss rest).length := by
        rw [e, subss_app, subss, List.length_append, List.length_append]; omega
      walk_at "kf"
      have e1 : (acc ++ [D.tup [.lst (ms.map .str), .int 0]] ++ (wss pre (acc.length + 1)).map dW).length = acc.length + 1 + (subss pre).length := by
        simp only [List.length_append, List.length_cons, List.length_nil, List.length_map, wss_len]
      refine ⟨x, p, _, rfl, updO_same, by omega, by rw [e1]; omega, ?_⟩
      refine hN _ _ ⟨⟨_, rfl⟩, ?_⟩
      rw [updO_updO, e1, wss_app, List.map_append]
      simp only [List.append_assoc, wss, List.append_nil]
theorem ok_worlds_in (T : Tx K mg) (n : Nat) : FO_worlds_in P w base T (n + 1) (spWorlds n) := by
  refine fnd_worlds_in T (ok_put T n) (by walk_at "len") ?_
  rintro ds O R RE ⟨t, rfl, hd, hl, hR⟩
  unfold g_worlds_in
  walk_at "kf"
  refine ⟨sz_small (by decide), fun p hp => ?_⟩
  refine ⟨t, p, [], rfl, updO_same, hd, by simpa using hl, ?_⟩
  walk_at "kf"
  rw [delO_updO hp]
  exact hR
theorem tl_at {k : Kd} {t s : Tr} {i : Nat} (h : (subs t)[i]? = some s) : atI (tl k t) (i : Int) = some (.bl (forces k s)) := by
  refine atI_nat ?_
  rw [tl, List.getElem?_map, h]; rfl
theorem dWs_at {t s : Tr} {i : Nat} (h : (subs t)[i]? = some s) : atI (dWs t) (i : Int) = some (.tup [.lst (s.ms.map .str), .int ((i + (subs s).length : Nat) : Int)]) := by
  refine atI_nat ?_
  rw [dWs, List.getElem?_map, ws_get, h, Nat.zero_add]; rfl
theorem ok_led (T : Tx K mg) {k : Nat} : FO_led_on P w base T (k + 1) spLed := by
  refine fndG_led_on T (by walk_at "len") ?_
  rintro ds O R RE ⟨t, a, b, rfl, hl, hR⟩
  unfold g_led_on
  walk_at "kf"
  refine ⟨sz_small (by decide), fun p hp => ?_⟩
  have hn : (dWs t).length = (subs t).length := by rw [dWs, List.length_map, ws_len]
  rw [hn]
  walk_at "kf"
  refine ⟨by omega, by omega, ?_⟩
  rw [Int.toNat_natCast]
  have hb : (badOf a b t).length = (subs t).length := by rw [badOf, List.length_map]
  refine forD_ix (fun i ρ O' => i ≤ (subs t).length ∧ ∃ x5, ρ = [some (.lst (dWs t)), some (.lst (tl a t)), some (.lst (tl b t)), some (.ref p), some (.int (fb (badOf a b t) ((subs t).length - i))), x5] ∧ O' = updO O p (.lst ((tl (.to a b) t).drop ((subs t).length - i)).reverse)) _ 0 _ _ ⟨by omega, none, ?_, ?_⟩ ?_ ?_
  · have hfe := fb_end (badOf a b t)
    rw [hb] at hfe
    rw [Nat.sub_zero, hfe]
  · rw [Nat.sub_zero, List.drop_eq_nil_of_le (by rw [tl, List.length_map]; exact Nat.le_refl _)]; rfl
  · rintro ρ O' ⟨_, x5, rfl, rfl⟩
    rw [List.length_reverse, rangeD_length, Nat.zero_add, Nat.sub_self, List.drop_zero]
    walk_at "kf"
    rw [rRev_r updO_same, List.reverse_reverse]
    exact .up hp hR
  · rintro i d hd ρ O' ⟨hi', x5, rfl, rfl⟩ Nx hN
    have hi : i < (subs t).length := by
      obtain ⟨h, _⟩ := List.getElem?_eq_some_iff.mp hd
      rw [List.length_reverse, rangeD_length] at h
      exact h
    rw [List.getElem?_reverse (by rw [rangeD_length]; exact hi), rangeD_length] at hd
    obtain ⟨_, rfl⟩ := rangeD_get hd
    rw [Nat.zero_add] at *
    generalize hj : (subs t).length - 1 - i = j at *
    have hjl : j < (subs t).length := by omega
    have ej : (subs t).length - i = j + 1 := by omega
    have ej' : (subs t).length - (i + 1) = j := by omega
    obtain ⟨s, hs⟩ : ∃ s, (subs t)[j]? = some s := ⟨_, List.getElem?_eq_getElem hjl⟩
    have hbj : (badOf a b t)[j]? = some (forces a s && !forces b s) := by rw [badOf, List.getElem?_map, hs]; rfl
    have hst := fb_step hbj
    rw [Int.zero_add] at *
    walk_at "kf"
    rw [rIx_l (tl_at hs)]
    have fin : ∀ z : Nat, z = fb (badOf a b t) j → gDrop (fBM "list" rAppendD (fVar 3) (fCons (fOp rGeD (fVar 4) (fOp rIxD (fOp rIxD (fVar 0) (fVar 5)) (fC (.int 1)))) fNil)) { nx := Nx, rt := VG R, bk := fun ρ O' => gRet (fRev (fVar 3) (fPart (fUn rNeg (fC (.int 1))))) { nx := fun x O' => VG R .non O', rt := VG R } ρ O', ct := Nx }
        [some (.lst (dWs t)), some (.lst (tl a t)), some (.lst (tl b t)), some (.ref p), some (.int (z : Int)), some (.int (j : Int))] (updO O p (.lst ((tl (.to a b) t).drop ((subs t).length - i)).reverse)) := by
      rintro z rfl
      walk_at "kf"
      refine ⟨tyOk_r updO_same, ?_⟩
      rw [rIx_l (dWs_at hs)]
      walk_at "kf"
      rw [rApp_r updO_same]
      refine ⟨sz_small' (by rw [List.length_reverse, List.length_drop, tl, List.length_map]; omega), ?_⟩
      refine hN _ _ ⟨by omega, _, by rw [ej'], ?_⟩
      rw [updO_updO, ej', ej, List.drop_eq_getElem_cons (i := j) (by rw [tl, List.length_map]; exact hjl), List.reverse_cons]
      have e5 : (tl (.to a b) t)[j]'(by rw [tl, List.length_map]; exact hjl) = .bl (decide (((j + (subs s).length : Nat) : Int) ≤ (fb (badOf a b t) j : Int))) := by
        have := led_ok (a := a) (b := b) hs
        simp only [tl, List.getElem_map]
        rw [show (subs t)[j] = s from (List.getElem?_eq_some_iff.mp hs).2, ← this]
        congr 1
        rw [decide_eq_decide]
        omega
      rw [e5]
    cases ea : forces a s with
    | false =>
      walk_at "kf"
      rw [ea] at hst
      simp only [Bool.false_and, Bool.false_eq_true, if_false] at hst
      rw [ej]
      have := fin _ hst.symm
      rw [ej] at this
      revert this
      walk_at "kf"
      exact fun z => z
    | true =>
      walk_at "kf"
      rw [rIx_l (tl_at hs)]
      rw [ea] at hst
      cases eb : forces b s with
      | true =>
        walk_at "kf"
        rw [eb] at hst
        simp only [Bool.and_false, Bool.not_true, Bool.false_eq_true, if_false] at hst
        rw [ej]
        have := fin _ hst.symm
        rw [ej] at this
        revert this
        walk_at "kf"
        exact fun z => z
      | false =>
        walk_at "kf"
        rw [eb] at hst
        simp only [Bool.and_self, Bool.not_false, if_true] at hst
        have := fin _ hst.symm
        revert this
        walk_at "kf"
        exact fun z => z
theorem zipD_map {α : Type} (f g : α → D) : ∀ xs : List α, zipD (xs.map f) (xs.map g) = xs.map fun x => D.tup [f x, g x]
  | [] => rfl
  | x :: xs => by
    have := zipD_map f g xs
    unfold zipD at this ⊢
    simpa using this
theorem truths_one {sp1 sp2 : DSp} {t : Tr} {O : Ow} {R : VD} {Nx : DEnv → Ow → Prop} (ht : TrOk t) (hR : R (.lst (tl .one t)) O) : g_truths sp1 sp2 (.tup [.str "one"]) { nx := Nx, rt := R } (startD N_truths [.lst (dWs t), dK .one]) O := by
  unfold g_truths
  walk_at "kf"
  rw [show (D.tup [.str "one"]) = dK .one from rfl, rEq_K (a := .one) (b := .one) rfl rfl (by decide)]
  walk_at "kf"
  have hw : (ws t 0).length ≤ 1000 := by rw [ws_len]; exact ht.1
  refine lcA_map dW (fun _ => D.bl true) (ws t 0) _ _ (sz_small (by simp only [List.length_nil]; omega)) ?_ ?_
  · intro x hx Q' hQ
    walk_at "kf"
    exact hQ
  · have e : [] ++ (ws t 0).map (fun _ => D.bl true) = tl .one t := by
      rw [List.nil_append, tl]
      refine List.ext_getElem? fun i => ?_
      rw [List.getElem?_map, List.getElem?_map, ws_get]
      cases (subs t)[i]? <;> rfl
    rw [e]
    exact hR
theorem truths_mk {sp1 sp2 : DSp} {t : Tr} {m : Str} {O : Ow} {R : VD} {Nx : DEnv → Ow → Prop} (ho : (Kd.mk m).ok = true) (ht : TrOk t) (hR : R (.lst (tl (.mk m) t)) O) : g_truths sp1 sp2 (.tup [.str "one"]) { nx := Nx, rt := R } (startD N_truths [.lst (dWs t), dK (.mk m)]) O := by
  unfold g_truths
  walk_at "kf"
  rw [show (D.tup [.str "one"]) = dK .one from rfl, rEq_K (a := .mk m) (b := .one) ho rfl (by simp only [Kd.depth]; omega)]
  simp only [dK]
  walk_at "kf"
  simp only [reduceCtorEq, decide_false]
  walk_at "kf"
  rw [rEq_s so_mark so_mark]
  walk_at "kf"
  have hw : (ws t 0).length ≤ 1000 := by rw [ws_len]; exact ht.1
  refine lcA_map dW (fun x => D.bl (decide (m ∈ x.1))) (ws t 0) _ _ (sz_small (by simp only [List.length_nil]; omega)) ?_ ?_
  · intro x hx Q' hQ
    obtain ⟨i, hi⟩ := List.getElem?_of_mem hx
    rw [ws_get] at hi
    obtain ⟨s, hs, rfl⟩ := Option.map_eq_some_iff.mp hi
    have hms : s ∈ subs t := List.mem_of_getElem? hs
    simp only [dW]
    walk_at "kf"
    rw [rIn_strs ho (ht.2 s hms)]
    walk_at "kf"
    exact hQ
  · have e : [] ++ (ws t 0).map (fun x => D.bl (decide (m ∈ x.1))) = tl (.mk m) t := by
      rw [List.nil_append, tl]
      refine List.ext_getElem? fun i => ?_
      rw [List.getElem?_map, List.getElem?_map, ws_get]
      cases (subs t)[i]? <;> rfl
    rw [e]
    exact hR
theorem ok_truths (T : Tx K mg) : ∀ n, FO_truths P w base T n (spTruths n)
  | 0 => none_left fun ds O R RE ⟨t, k, _, h, _⟩ => by omega
  | n + 1 => by
    cases n with
    | zero =>
      refine fnd_truths (sp_truths := fun _ _ _ _ => False) (sp_led_on := fun _ _ _ _ => False) T (none_left fun _ _ _ _ z => z) (none_left fun _ _ _ _ z => z) (by walk_at "len") ?_
      rintro ds O R RE ⟨t, k, rfl, hd, h190, ho, ht, hR⟩
      unfold g_truths
      have hw : (ws t 0).length ≤ 1000 := by rw [ws_len]; exact ht.1
      cases k <;> simp only [Kd.depth] at hd <;> first | omega | skip
      · exact truths_mk ho ht hR
      · exact truths_one ht hR
    | succ n =>
      refine fnd_truths T (ok_truths T (n + 1)) (ok_led T) (by walk_at "len") ?_
      rintro ds O R RE ⟨t, k, rfl, hd, h190, ho, ht, hR⟩
      have hw : (ws t 0).length ≤ 1000 := by rw [ws_len]; exact ht.1
      unfold g_truths
      cases k with
      | mk m => exact truths_mk ho ht hR
      | one => exact truths_one ht hR
      | to a b =>
        simp only [Kd.depth] at hd h190
        simp only [Kd.ok, Bool.and_eq_true] at ho
        walk_at "kf"
        rw [show (D.tup [.str "one"]) = dK .one from rfl, rEq_K (a := .to a b) (b := .one) (by simp [Kd.ok, ho]) rfl (by simp only [Kd.depth]; omega)]
        simp only [dK]
        walk_at "kf"
        simp only [reduceCtorEq, decide_false]
        walk_at "kf"
        rw [rEq_s so_to so_mark, sd_tm]
        walk_at "kf"
        refine ⟨t, a, rfl, by omega, by omega, ho.1, ht, ?_⟩
        walk_at "kf"
        refine ⟨t, b, rfl, by omega, by omega, ho.2, ht, ?_⟩
        walk_at "kf"
        rw [rEq_s so_to so_both, sd_tb]
        walk_at "kf"
        exact ⟨t, a, b, rfl, ht.1, hR⟩
      | both a b =>
        simp only [Kd.depth] at hd h190
        simp only [Kd.ok, Bool.and_eq_true] at ho
        walk_at "kf"
        rw [show (D.tup [.str "one"]) = dK .one from rfl, rEq_K (a := .both a b) (b := .one) (by simp [Kd.ok, ho]) rfl (by simp only [Kd.depth]; omega)]
        simp only [dK]
        walk_at "kf"
        simp only [reduceCtorEq, decide_false]
        walk_at "kf"
        rw [rEq_s so_both so_mark, sd_bm]
        walk_at "kf"
        refine ⟨t, a, rfl, by omega, by omega, ho.1, ht, ?_⟩
        walk_at "kf"
        refine ⟨t, b, rfl, by omega, by omega, ho.2, ht, ?_⟩
        walk_at "kf"
        rw [rEq_s so_both so_both]
        walk_at "kf"
        have ez : zipD (tl a t) (tl b t) = (subs t).map fun s => D.tup [.bl (forces a s), .bl (forces b s)] := by
          unfold tl
          rw [zipD_map]
        rw [ez]
        refine lcA_map _ (fun s => D.bl (forces a s && forces b s)) (subs t) _ _ (sz_small (by have := ht.1; simp only [List.length_nil]; omega)) ?_ ?_
        · intro s hs Q' hQ
          walk_at "kf"
          cases ea : forces a s
          · rw [ea] at hQ; walk_at "kf"; exact hQ
          · rw [ea] at hQ; walk_at "kf"; exact hQ
        · exact hR
theorem ok_holds (T : Tx K mg) (n : Nat) : FO_holds P w base T (n + 2) (spHolds n) := by
  refine fnd_holds T (fnUp (ok_truths T n) (by omega)) (ok_worlds_in T n) (by walk_at "len") ?_
  rintro ds O R RE ⟨t, k, rfl, hd, hkd, h190, ho, ht, hR⟩
  unfold g_holds
  walk_at "kf"
  refine ⟨t, rfl, hd, ht.1, ?_⟩
  walk_at "kf"
  refine ⟨t, k, rfl, hkd, h190, ho, ht, ?_⟩
  have h0 : (subs t)[0]? = some t := by cases t; rw [subs]; rfl
  have := tl_at (k := k) h0
  rw [Int.natCast_zero] at this
  dsimp only
  rw [rIx_l this]
  exact hR
end
end Kf
/-! Kbw: told trees as data. -/
namespace Kf
open PySem PySem.Spec L2
open PyProof.Rows hiding St
theorem map_str_inj : ∀ {a b : List Str}, a.map D.str = b.map D.str → a = b
  | [], [], _ => rfl
  | [], _ :: _, e => by simp at e
  | _ :: _, [], e => by simp at e
  | x :: a, y :: b, e => by
    simp only [List.map_cons, List.cons.injEq, D.str.injEq] at e
    rw [e.1, map_str_inj e.2]
mutual
theorem wt_dTc (c : Nat) : ∀ t : Tr, (∀ s ∈ subs t, s.ms.length ≤ c) → wt (dT t) ≤ (subs t).length * (3 + c)
  | .nd ms ts, h => by
    have h1 := h (.nd ms ts) (subs_self _)
    have h2 := wts_dTsc c ts fun s hs => h s (by rw [subs]; exact List.mem_cons_of_mem _ hs)
    have h3 : wts (ms.map D.str) = ms.length := by
      clear h h1
      induction ms with
      | nil => rfl
      | cons m r ih => rw [List.map_cons, wts, ih, List.length_cons]; simp [wt]; omega
    have h4 : ms.length ≤ c := h1
    simp only [dT, wt, wts, h3, subs, List.length_cons, Nat.add_mul]
    omega
theorem wts_dTsc (c : Nat) : ∀ ts : List Tr, (∀ s ∈ subss ts, s.ms.length ≤ c) → wts (dTs ts) ≤ (subss ts).length * (3 + c)
  | [], _ => by simp [dTs, wts]
  | t :: ts, h => by
    have h1 := wt_dTc c t fun s hs => h s (by rw [subss]; exact List.mem_append_left _ hs)
    have h2 := wts_dTsc c ts fun s hs => h s (by rw [subss]; exact List.mem_append_right _ hs)
    simp only [dTs, wts, subss, List.length_append, Nat.add_mul]
    omega
end
mutual
theorem okE_dTc : ∀ t : Tr, (∀ s ∈ subs t, ∀ m ∈ s.ms, isMarkB m = true) → okE (dT t) = true
  | .nd ms ts, h => by
    have h1 := h (.nd ms ts) (subs_self _)
    have h2 := okEs_dTsc ts fun s hs => h s (by rw [subs]; exact List.mem_cons_of_mem _ hs)
    have h3 : okEs (ms.map D.str) = true := by
      rw [okEs_all, List.all_eq_true]
      intro d hd
      obtain ⟨m, hm, rfl⟩ := List.mem_map.mp hd
      have h5 : isMarkB m = true := h1 m hm
      rw [okE, mark_so h5, Bool.true_and, decide_eq_true_iff]
      have := mark_len h5; omega
    simp only [dT, okE, okEs, h3, h2, Bool.and_self]
theorem okEs_dTsc : ∀ ts : List Tr, (∀ s ∈ subss ts, ∀ m ∈ s.ms, isMarkB m = true) → okEs (dTs ts) = true
  | [], _ => rfl
  | t :: ts, h => by
    rw [dTs, okEs, okE_dTc t (fun s hs => h s (by rw [subss]; exact List.mem_append_left _ hs)), okEs_dTsc ts (fun s hs => h s (by rw [subss]; exact List.mem_append_right _ hs))]; rfl
end
theorem BarsT.okE {S0 : List Kd} {k : Kd} {st : ST} (h : BarsT S0 k st) : Kf.okE (dT (stT st)) = true := okE_dTc _ fun s hs => (h.ws s hs).2.2
theorem BarsT.wt {S0 : List Kd} {k : Kd} {st : ST} (h : BarsT S0 k st) : Kf.wt (dT (stT st)) ≤ 990 := by
  have h1 := wt_dTc 12 (stT st) fun s hs => (h.ws s hs).2.1
  have h2 := Nat.mul_le_mul_right (3 + 12) h.len
  omega
theorem BarsT.isTr {S0 : List Kd} {k : Kd} {st : ST} (h : BarsT S0 k st) : Kf.isTr 40 (dT (stT st)) = true := tr_isTr 40 _ (by have := h.2.2.1; omega) (good_mono st h.1) fun s hs => ⟨(h.ws s hs).1, (h.ws s hs).2.2⟩
theorem BarsT.had {S0 : List Kd} {k : Kd} {st : ST} (h : BarsT S0 k st) : hadB S0 k = false := by
  cases e : hadB S0 k with
  | false => rfl
  | true => exact absurd (hadB_iff.mp e) h.no
mutual
theorem dT_inj : ∀ {t u : Tr}, dT t = dT u → t = u
  | .nd ms ts, .nd ns us, e => by
    simp only [dT, D.tup.injEq, List.cons.injEq, D.lst.injEq, and_true] at e
    rw [map_str_inj e.1, dTs_inj e.2]
theorem dTs_inj : ∀ {ts us : List Tr}, dTs ts = dTs us → ts = us
  | [], [], _ => rfl
  | [], _ :: _, e => by simp [dTs] at e
  | _ :: _, [], e => by simp [dTs] at e
  | t :: ts, u :: us, e => by
    simp only [dTs, List.cons.injEq] at e
    rw [dT_inj e.1, dTs_inj e.2]
end
end Kf
namespace Kf
open PySem PySem.Spec L2
open PyProof.Rows hiding St
local macro_rules | `(tactic| walk_at "kf") => `(tactic| simp (config := { failIfUnchanged := false }) only [startD, ap_fiEnumT, asT1_t, ap_fKGet, asStr_s, ap_fKIn, ap_fKIx, ap_gAsgL, rUnl_l, ap_fiRng3, asR3_i, rSplitO_s, ap_fOrL, rOrL_l, ap_fLcK, ap_gForK, ap_fMaxD, rMaxD_l, rMaxL_l, ap_fCallXD, ap_gForE, asLE_l, ap_fFrz, ap_fDicO, ap_fDGet, ap_fDGet1, ap_fDGet2, ap_gDPut, ap_fIsiT, ap_gForR, rRep_l, isT_i, isT_s, isT_b, isT_n, isT_t, isT_l, ap_gSeq, ap_gIf, ap_gRet, ap_gNext, ap_gSet, ap_gAsg, ap_gPar, ap_gDrop, ap_gRetF, ap_gRetN, ap_gFor, ap_gSetIx, ap_gBreak, ap_fRev, ap_fiRevR, asIR_i, rRev_l, ap_fCallX, ap_gRaise, ap_gTry, ap_gTryAs, ap_gNever, ap_fEdic, ap_fTest, ap_fOp, ap_fVar, envGet_s, patGet_s, ap_fC, ap_fCB, ap_fCons, ap_fNil, ap_fCall, ap_fAnd, ap_fOr, ap_fNot, ap_fAndV, ap_fOrV, ap_fNotV, ap_fIf, ap_fTup, ap_fLst, ap_fLstO, ap_fChain, ap_fUn, ap_fBM, ap_fBM0, ap_fPool, rPool_i, ap_fSl, ap_fPart, ap_fNoPart, asI_i, rSl_l, ap_fiRng1, ap_fiRng2, ap_fiList, ap_fiTup, ap_fiStr, ap_fiEnum, ap_fiZip, ap_fiRev, asL_l, asT_t, asSg_s, asR1_i, asR2_i, asL1_l, asL2_l, ap_fLc, ap_fLcO, ap_fYes, wipeD, lcD, isi_i_int, isi_i_bool, isi_i_str, isi_i_tuple, isi_i_list, isi_i_dict, isi_b_int, isi_b_bool, isi_b_str, isi_b_tuple, isi_b_list, isi_b_dict, isi_s_int, isi_s_bool, isi_s_str, isi_s_tuple, isi_s_list, isi_s_dict, isi_t_int, isi_t_bool, isi_t_str, isi_t_tuple, isi_t_list, isi_t_dict, isi_l_int, isi_l_bool, isi_l_str, isi_l_tuple, isi_l_list, isi_l_dict, isi_n_int, isi_n_bool, isi_n_str, isi_n_tuple, isi_n_list, isi_n_dict, isi_d_int, isi_d_bool, isi_d_str, isi_d_tuple, isi_d_list, isi_d_dict,
  deref_tup, deref_lst, deref_int, deref_str, deref_bl, deref_non, deref_scr, rLt_i, rLt_s, rLe_i, rLe_s, rInts_i, rInts0_i, rAdd_i, rAdd_s, rAdd_l, rAdd_t, rCatO_l, rNeg_i, rLen_t, rLen_l, rLen_c, rLen_s, rMax_i, rMin_i, rInt_i, rInt_b, rDivmod_i, ap_gAug, rStr_i, rList_l, rList_t, rListO_l, rListO_t, rTup_l, rTup_t,
  rIx_t0, rIx_t1, rIx_t2, rIx_t3, rIx_l0, rIx_l1, rIx_l2, rIsN_x, isNon_t, isNon_n, isNon_i, isNon_s, isNon_l, rEq_i, rEq_b, rEq_i2, rEq_b2, rJoin_m, rSplit_s, tyOk_l, tyOk_s, patD_nm, patD_tp, patDs_nil, patDs_cons, Option.bind_some, notX, notX',
  List.map_cons, List.map_nil, List.length_cons, List.length_nil, List.cons_append, List.nil_append, List.append_nil, List.replicate, List.getElem?_cons_zero, List.getElem?_cons_succ, List.set_cons_zero, List.set_cons_succ, updO_same, updO_updO,
  Nat.reduceSub, Nat.reduceAdd, Nat.reduceLeDiff, Nat.zero_add, Int.cast_ofNat_Int, Int.natCast_zero, Int.natCast_one, Int.reduceLT, Int.reduceLE, Int.reduceEq, Int.reduceAdd, Int.reduceSub, Int.reduceNeg, decide_true, decide_false, if_true, if_false, Bool.false_eq_true, eq_self, reduceIte, Bool.true_eq_false, decide_eq_true_eq, Bool.not_true, Bool.not_false, Bool.not_eq_true', decide_eq_false_iff_not, exists_eq_left', exists_eq_left, D.bl.injEq, true_and, and_true, not_true_eq_false, not_false_eq_true])
local macro_rules | `(tactic| walk_at "len") => `(tactic| (intro ds O R RE h; first | (obtain ⟨e, _⟩ := h; subst e; rfl) | (obtain ⟨_, e, _⟩ := h; subst e; rfl) | (obtain ⟨_, _, e, _⟩ := h; subst e; rfl) | (obtain ⟨_, _, _, e, _⟩ := h; subst e; rfl) | (obtain ⟨_, _, _, _, e, _⟩ := h; subst e; rfl) | (obtain ⟨_, _, _, _, _, e, _⟩ := h; subst e; rfl) | (obtain ⟨_, _, _, _, _, _, e, _⟩ := h; subst e; rfl) | (obtain ⟨_, _, _, _, _, _, _, e, _⟩ := h; subst e; rfl) | (obtain ⟨_, _, _, _, _, _, _, _, e, _⟩ := h; subst e; rfl) | (obtain ⟨_, _, _, _, _, _, _, _, _, e, _⟩ := h; subst e; rfl)))
local macro_rules | `(tactic| walk_at "kf1") => `(tactic| simp (config := { failIfUnchanged := false }) only [startD, ap_fiEnumT, asT1_t, ap_fKGet, asStr_s, ap_fKIn, ap_fKIx, ap_gAsgL, rUnl_l, ap_fiRng3, asR3_i, rSplitO_s, ap_fOrL, rOrL_l, ap_fLcK, ap_gForK, ap_fMaxD, rMaxD_l, rMaxL_l, ap_fCallXD, ap_gForE, asLE_l, ap_fFrz, ap_fDicO, ap_fDGet, ap_fDGet1, ap_fDGet2, ap_gDPut, ap_fIsiT, ap_gForR, rRep_l, isT_i, isT_s, isT_b, isT_n, isT_t, isT_l, ap_gIf, ap_gRet, ap_gNext, ap_gSet, ap_gAsg, ap_gPar, ap_gDrop, ap_gRetF, ap_gRetN, ap_gFor, ap_gSetIx, ap_gBreak, ap_fRev, ap_fiRevR, asIR_i, rRev_l, ap_fCallX, ap_gRaise, ap_gTry, ap_gTryAs, ap_gNever, ap_fEdic, ap_fTest, ap_fOp, ap_fVar, envGet_s, patGet_s, ap_fC, ap_fCB, ap_fCons, ap_fNil, ap_fCall, ap_fAnd, ap_fOr, ap_fNot, ap_fAndV, ap_fOrV, ap_fNotV, ap_fIf, ap_fTup, ap_fLst, ap_fLstO, ap_fChain, ap_fUn, ap_fBM, ap_fBM0, ap_fPool, rPool_i, ap_fSl, ap_fPart, ap_fNoPart, asI_i, rSl_l, ap_fiRng1, ap_fiRng2, ap_fiList, ap_fiTup, ap_fiStr, ap_fiEnum, ap_fiZip, ap_fiRev, asL_l, asT_t, asSg_s, asR1_i, asR2_i, asL1_l, asL2_l, ap_fLc, ap_fLcO, ap_fYes, wipeD, lcD, isi_i_int, isi_i_bool, isi_i_str, isi_i_tuple, isi_i_list, isi_i_dict, isi_b_int, isi_b_bool, isi_b_str, isi_b_tuple, isi_b_list, isi_b_dict, isi_s_int, isi_s_bool, isi_s_str, isi_s_tuple, isi_s_list, isi_s_dict, isi_t_int, isi_t_bool, isi_t_str, isi_t_tuple, isi_t_list, isi_t_dict, isi_l_int, isi_l_bool, isi_l_str, isi_l_tuple, isi_l_list, isi_l_dict, isi_n_int, isi_n_bool, isi_n_str, isi_n_tuple, isi_n_list, isi_n_dict, isi_d_int, isi_d_bool, isi_d_str, isi_d_tuple, isi_d_list, isi_d_dict,
  deref_tup, deref_lst, deref_int, deref_str, deref_bl, deref_non, deref_scr, rLt_i, rLt_s, rLe_i, rLe_s, rInts_i, rInts0_i, rAdd_i, rAdd_s, rAdd_l, rAdd_t, rCatO_l, rNeg_i, rLen_t, rLen_l, rLen_c, rLen_s, rMax_i, rMin_i, rInt_i, rInt_b, rDivmod_i, ap_gAug, rStr_i, rList_l, rList_t, rListO_l, rListO_t, rTup_l, rTup_t,
  rIx_t0, rIx_t1, rIx_t2, rIx_t3, rIx_l0, rIx_l1, rIx_l2, rIsN_x, isNon_t, isNon_n, isNon_i, isNon_s, isNon_l, rEq_i, rEq_b, rEq_i2, rEq_b2, rJoin_m, rSplit_s, tyOk_l, tyOk_s, patD_nm, patD_tp, patDs_nil, patDs_cons, Option.bind_some, notX, notX',
  List.map_cons, List.map_nil, List.length_cons, List.length_nil, List.cons_append, List.nil_append, List.append_nil, List.replicate, List.getElem?_cons_zero, List.getElem?_cons_succ, List.set_cons_zero, List.set_cons_succ, updO_same, updO_updO,
  Nat.reduceSub, Nat.reduceAdd, Nat.reduceLeDiff, Nat.zero_add, Int.cast_ofNat_Int, Int.natCast_zero, Int.natCast_one, Int.reduceLT, Int.reduceLE, Int.reduceEq, Int.reduceAdd, Int.reduceSub, Int.reduceNeg, decide_true, decide_false, if_true, if_false, Bool.false_eq_true, eq_self, reduceIte, Bool.true_eq_false, decide_eq_true_eq, Bool.not_true, Bool.not_false, Bool.not_eq_true', decide_eq_false_iff_not, exists_eq_left', exists_eq_left, D.bl.injEq, true_and, and_true, not_true_eq_false, not_false_eq_true])
section
variable {P : Program} {w : World} {K : PySem.W.Frag} {mg : Str → Option Value} {base : Heap}
local macro_rules | `(tactic| walk_at "tg") => `(tactic| simp (config := { failIfUnchanged := false }) only [te_name_take, te_name_give, te_name_pair, te_name_first, te_name_second, te_name_to, te_name_both, te_name_one, te_name_mark, te_name_name, te_name_thing, te_name_at, te_thing_take, te_thing_give, te_thing_pair, te_thing_first, te_thing_second, te_thing_to, te_thing_both, te_thing_one, te_thing_mark, te_thing_name, te_thing_thing, te_thing_at, te_take_take, te_take_give, te_take_pair, te_take_first, te_take_second, te_take_to, te_take_both, te_take_one, te_take_mark, te_take_name, te_take_thing, te_take_at, te_give_take, te_give_give, te_give_pair, te_give_first, te_give_second, te_give_to, te_give_both, te_give_one, te_give_mark, te_give_name, te_give_thing, te_give_at, te_pair_take, te_pair_give, te_pair_pair, te_pair_first, te_pair_second, te_pair_to, te_pair_both, te_pair_one, te_pair_mark, te_pair_name, te_pair_thing, te_pair_at, te_first_take, te_first_give, te_first_pair, te_first_first, te_first_second, te_first_to, te_first_both, te_first_one, te_first_mark, te_first_name, te_first_thing, te_first_at, te_second_take, te_second_give, te_second_pair, te_second_first, te_second_second, te_second_to, te_second_both, te_second_one, te_second_mark, te_second_name, te_second_thing, te_second_at, te_mark_take, te_mark_give, te_mark_pair, te_mark_first, te_mark_second, te_mark_to, te_mark_both, te_mark_one, te_mark_mark, te_mark_name, te_mark_thing, te_mark_at, te_one_take, te_one_give, te_one_pair, te_one_first, te_one_second, te_one_to, te_one_both, te_one_one, te_one_mark, te_one_name, te_one_thing, te_one_at, te_to_take, te_to_give, te_to_pair, te_to_first, te_to_second, te_to_to, te_to_both, te_to_one, te_to_mark, te_to_name, te_to_thing, te_to_at, te_both_take, te_both_give, te_both_pair, te_both_first, te_both_second, te_both_to, te_both_both, te_both_one, te_both_mark, te_both_name, te_both_thing, te_both_at, te_at_take, te_at_give, te_at_pair, te_at_first, te_at_second, te_at_to, te_at_both, te_at_one, te_at_mark, te_at_name, te_at_thing, te_at_at, ti4_name, ti4_thing, ti4_take, ti4_give, ti4_pair, ti4_first, ti4_second, ti2_name, ti2_thing, ti2_take, ti2_give, ti2_pair, ti2_first, ti2_second, szT_0, szT_1, szT_2, szT_3, szT_4, szT_5, szT_6, szT_7, szT_8, szT_9, szT_10, szT_11, szT_12, Bool.not_true, Bool.not_false, true_and])
theorem ok_is_tree (T : Tx K mg) {k : Nat} : FO_is_tree P w base T (k + 45) spIsTree := by
  refine fnd_is_tree T (fnUp (ok_btm T 41) (by omega)) (by walk_at "len") ?_
  rintro ds O R RE ⟨d, rfl, ho, hw, hR⟩
  unfold g_is_tree
  walk_at "kf"
  exact ⟨d, 40, rfl, by decide, ho, hw, hR⟩
def barsB (S : List Kd) (k : Kd) (t : Tr) : Bool := S.all (fun x => forces x t) && !forces k t
def spBars : DSp := fun ds O R _ => ∃ (kn : List (Str × Kd)) (k : Kd) (d : D), ds = [.lst (kn.map kv), dK k, d] ∧ okE d = true ∧ wt d ≤ 1000 ∧ kn.length ≤ 1000 ∧ (∀ x ∈ kn, x.2.ok = true ∧ x.2.depth < 40) ∧ k.ok = true ∧ k.depth < 40 ∧
  (isTr 40 d = false → R (.bl false) O) ∧ ∀ t, d = dT t → isTr 40 d = true → R (.bl (barsB (kn.map (·.2)) k t)) O
theorem tl_zero (k : Kd) (t : Tr) {O : Ow} {Q : VD} (q : Q (.bl (forces k t)) O) : rIxD (.lst (tl k t)) (.int 0) O Q := by
  have h : (subs t)[0]? = some t := by cases t; rw [subs]; rfl
  have := tl_at (k := k) h
  simp only [rIxD, deref]
  rw [show ((0 : Int)) = ((0 : Nat) : Int) from rfl, this]
  exact q
theorem ok_bars (T : Tx K mg) : FO_bars P w base T 50 spBars := by
  refine fnd_bars T (fnUp (ok_is_tree T (k := 0)) (by omega)) (fnUp (ok_worlds_in T 41) (by omega)) (fnUp (ok_truths T 40) (by omega)) (fun ds O R RE ⟨_, _, _, q, _⟩ => by rw [q]; rfl) ?_
  rintro ds O R RE ⟨kn, k, d, rfl, ho, hw, hkl, hkn, hko, hkd, hR0, hR1⟩
  unfold g_bars
  refine gSeq_step ?_
  walk_at "kf1"
  refine ⟨d, rfl, ho, hw, ?_⟩
  cases e : isTr 40 d with
  | false =>
    walk_at "kf1"
    exact hR0 e
  | true =>
    walk_at "kf1"
    obtain ⟨t, rfl, hd, hmo, hms⟩ := isTr_tr 40 d e
    have hl : (subs t).length ≤ 1000 := Nat.le_trans (subs_wt t) hw
    have hok : TrOk t := ⟨hl, fun s hs m hm => mark_so ((hms s hs).2 m hm)⟩
    refine gSeq_step ?_
    walk_at "kf1"
    refine ⟨t, rfl, by omega, hl, ?_⟩
    refine gSeq_step ?_
    walk_at "kf1"
    refine forA_ix kv (fun pre rest ρ O' => O' = O ∧ (∀ x ∈ pre, forces x.2 t = true) ∧ ∃ x4 x5, ρ = [some (.lst (kn.map kv)), some (dK k), some (dT t), some (.lst (dWs t)), x4, x5]) kn [] _ _ ⟨rfl, (fun x h => by cases h), _, _, rfl⟩ ?_ ?_
    · rintro ρ O' ⟨rfl, hpre, x4, x5, rfl⟩
      rw [List.nil_append] at hpre
      walk_at "kf1"
      refine ⟨t, k, rfl, hkd, by omega, hko, hok, ?_⟩
      refine tl_zero k t ?_
      have hb : barsB (kn.map (·.2)) k t = !forces k t := by
        have : ((kn.map (·.2)).all fun x => forces x t) = true := List.all_eq_true.mpr fun x hx => by
          obtain ⟨y, hy, rfl⟩ := List.mem_map.mp hx
          exact hpre y hy
        unfold barsB
        rw [this, Bool.true_and]
      have := hR1 t rfl e
      rw [hb] at this
      refine ⟨_, rfl, ?_⟩
      exact this
    · rintro pre x rest ep ρ O' ⟨rfl, hpre, x4, x5, rfl⟩ N hN
      rw [List.nil_append] at ep
      have hx : x ∈ kn := by rw [ep]; simp
      simp only [kv]
      walk_at "kf1"
      refine ⟨t, x.2, rfl, (hkn x hx).2, by have := (hkn x hx).2; omega, (hkn x hx).1, hok, ?_⟩
      refine tl_zero x.2 t ?_
      cases hf : forces x.2 t with
      | true =>
        walk_at "kf1"
        refine hN _ _ ⟨rfl, fun y hy => ?_, _, _, rfl⟩
        rcases List.mem_append.mp hy with h | h
        · exact hpre y h
        · rw [List.mem_singleton.mp h]; exact hf
      | false =>
        walk_at "kf1"
        have hb : barsB (kn.map (·.2)) k t = false := by
          have : ((kn.map (·.2)).all fun x => forces x t) = false := by
            rw [List.all_eq_false]
            exact ⟨x.2, List.mem_map_of_mem hx, by rw [hf]; decide⟩
          unfold barsB
          rw [this, Bool.false_and]
        have := hR1 t rfl e
        rw [hb] at this
        exact this
end
end Kf
/-! Khz: what holds wherever what is there holds can be had. -/
namespace Kf
open PySem PySem.Spec L2
open PyProof.Rows hiding St
noncomputable def hadM (S : List Kd) (m : Str) : Bool := @decide (Had S m) (Classical.propDecidable _)
theorem hadM_iff {S : List Kd} {m : Str} : hadM S m = true ↔ Had S m := @decide_eq_true_iff _ (Classical.propDecidable _)
theorem some_children {S : List Kd} : ∀ {Rs : List (List Kd)}, (∀ r ∈ Rs, ¬ SameK (S ++ r) S → ∃ st, GoodS st ∧ st.S = S ++ r) → ∃ cs : List ST, (∀ c ∈ cs, GoodS c ∧ ∃ r, c.S = S ++ r) ∧ ∀ r ∈ Rs, ¬ SameK (S ++ r) S → ∃ c ∈ cs, c.S = S ++ r
  | [], _ => ⟨[], (fun c h => by cases h), fun r h => by cases h⟩
  | r :: Rs, h => by
    obtain ⟨cs, h1, h2⟩ := some_children (Rs := Rs) fun r' hr' => h r' (List.mem_cons_of_mem _ hr')
    by_cases c : SameK (S ++ r) S
    · refine ⟨cs, h1, fun r' hr' hn => ?_⟩
      rcases List.mem_cons.mp hr' with rfl | hr'
      · exact absurd c hn
      · exact h2 r' hr' hn
    · obtain ⟨st, h3, h4⟩ := h r List.mem_cons_self c
      refine ⟨st :: cs, fun x hx => ?_, fun r' hr' hn => ?_⟩
      · rcases List.mem_cons.mp hx with rfl | hx
        · exact ⟨h3, r, h4⟩
        · exact h1 x hx
      · rcases List.mem_cons.mp hr' with rfl | hr'
        · exact ⟨st, List.mem_cons_self, h4⟩
        · obtain ⟨x, h5, h6⟩ := h2 r' hr' hn
          exact ⟨x, List.mem_cons_of_mem _ h5, h6⟩
theorem exists_good {Rs : List (List Kd)} (hRs : ∀ r ∈ Rs, ∀ x ∈ r, ∀ z ∈ tyR x, z ∈ Rs) : ∀ (n : Nat) (S : List Kd), ClT Rs S → lft Rs S < n → ∃ st, GoodS st ∧ st.S = S
  | 0, _, _, h => by omega
  | n + 1, S, hS, h => by
    obtain ⟨cs, h1, h2⟩ := some_children (S := S) (Rs := Rs) fun r hr hn => exists_good hRs n (S ++ r) (fun x hx z hz => by
      rcases List.mem_append.mp hx with hx | hx
      · exact hS x hx z hz
      · exact hRs r hr x hx z hz) (by have := lft_put hr hn; omega)
    refine ⟨.nd S (((S.flatMap ends).map (·.2)).filter (hadM S)) cs, fun u hu => ?_, rfl⟩
    rw [sbs] at hu
    rcases List.mem_cons.mp hu with rfl | hu
    · refine ⟨fun m => ?_, fun c hc x hx => ?_, fun k hk e he hn => ?_⟩
      · show m ∈ List.filter _ _ ↔ Had S m
        rw [List.mem_filter, hadM_iff]
        refine ⟨fun h => h.2, fun h => ⟨?_, h⟩⟩
        cases h with
        | mk hk he _ => exact List.mem_map.mpr ⟨_, List.mem_flatMap.mpr ⟨_, hk, he⟩, rfl⟩
      · obtain ⟨_, r, e⟩ := h1 c hc
        rw [e]; exact List.mem_append_left _ hx
      · have : ∃ a ∈ e.1, ∃ t ∈ ends a, ¬ Had (S ++ t.1) t.2 := Classical.byContradiction fun q => hn (Had.mk hk he fun a ha t ht => Classical.byContradiction fun q2 => q ⟨a, ha, t, ht, q2⟩)
        obtain ⟨a, ha, t, ht, hnot⟩ := this
        refine ⟨a, ha, t, ht, hnot, ?_⟩
        by_cases c : SameK (S ++ t.1) S
        · exact .inl fun x hx => (c x).mp (List.mem_append_right _ hx)
        · rcases hS.ty hk he ha ht with h3 | h3
          · exact absurd (fun x => by rw [h3, List.append_nil]) c
          · obtain ⟨x, h4, h5⟩ := h2 _ h3 c
            exact .inr ⟨x, h4, by rw [h5]; exact fun y => Iff.rfl⟩
    · obtain ⟨c, hc, hu⟩ := mem_sbss.mp hu
      exact (h1 c hc).1 u hu
theorem good_of (S : List Kd) : ∃ st, GoodS st ∧ st.S = S := exists_good (Rs := S.flatMap tyR) (fun r hr x hx z hz => by
    obtain ⟨y, hy, hr⟩ := List.mem_flatMap.mp hr
    exact List.mem_flatMap.mpr ⟨y, hy, (tyR_mem y r hr x hx).2 z hz⟩) (lft (S.flatMap tyR) S + 1) S (clT_own S) (Nat.lt_succ_self _)
/-- by the trees alone -/
theorem hadK_sem {S : List Kd} {k : Kd} : HadK S k ↔ ∀ t, MonoT t → (∀ x ∈ S, forces x t = true) → forces k t = true := by
  refine ⟨fun h t mt hS => h.sound mt hS, fun h e he => Classical.byContradiction fun hn => ?_⟩
  obtain ⟨st, h1, h2⟩ := good_of (S ++ e.1)
  obtain ⟨h3, h4⟩ := good_bars h1 he (fun x => by rw [h2]) hn
  rw [h _ (good_mono st h1) h3] at h4
  cases h4
theorem hadK_mp {S : List Kd} {a b : Kd} (h : HadK S (.to a b)) (h' : HadK S a) : HadK S b := hadK_sem.mpr fun t mt hS => forces_to.mp (hadK_sem.mp h t mt hS) t (subs_self t) (hadK_sem.mp h' t mt hS)
end Kf
namespace Kf
open PySem PySem.Spec L2
open PyProof.Rows hiding St
local macro_rules | `(tactic| walk_at "kf") => `(tactic| simp (config := { failIfUnchanged := false }) only [startD, ap_fiEnumT, asT1_t, ap_fKGet, asStr_s, ap_fKIn, ap_fKIx, ap_gAsgL, rUnl_l, ap_fiRng3, asR3_i, rSplitO_s, ap_fOrL, rOrL_l, ap_fLcK, ap_gForK, ap_fMaxD, rMaxD_l, rMaxL_l, ap_fCallXD, ap_gForE, asLE_l, ap_fFrz, ap_fDicO, ap_fDGet, ap_fDGet1, ap_fDGet2, ap_gDPut, ap_fIsiT, ap_gForR, rRep_l, isT_i, isT_s, isT_b, isT_n, isT_t, isT_l, ap_gSeq, ap_gIf, ap_gRet, ap_gNext, ap_gSet, ap_gAsg, ap_gPar, ap_gDrop, ap_gRetF, ap_gRetN, ap_gFor, ap_gSetIx, ap_gBreak, ap_fRev, ap_fiRevR, asIR_i, rRev_l, ap_fCallX, ap_gRaise, ap_gTry, ap_gTryAs, ap_gNever, ap_fEdic, ap_fTest, ap_fOp, ap_fVar, envGet_s, patGet_s, ap_fC, ap_fCB, ap_fCons, ap_fNil, ap_fCall, ap_fAnd, ap_fOr, ap_fNot, ap_fAndV, ap_fOrV, ap_fNotV, ap_fIf, ap_fTup, ap_fLst, ap_fLstO, ap_fChain, ap_fUn, ap_fBM, ap_fBM0, ap_fPool, rPool_i, ap_fSl, ap_fPart, ap_fNoPart, asI_i, rSl_l, ap_fiRng1, ap_fiRng2, ap_fiList, ap_fiTup, ap_fiStr, ap_fiEnum, ap_fiZip, ap_fiRev, asL_l, asT_t, asSg_s, asR1_i, asR2_i, asL1_l, asL2_l, ap_fLc, ap_fLcO, ap_fYes, wipeD, lcD, isi_i_int, isi_i_bool, isi_i_str, isi_i_tuple, isi_i_list, isi_i_dict, isi_b_int, isi_b_bool, isi_b_str, isi_b_tuple, isi_b_list, isi_b_dict, isi_s_int, isi_s_bool, isi_s_str, isi_s_tuple, isi_s_list, isi_s_dict, isi_t_int, isi_t_bool, isi_t_str, isi_t_tuple, isi_t_list, isi_t_dict, isi_l_int, isi_l_bool, isi_l_str, isi_l_tuple, isi_l_list, isi_l_dict, isi_n_int, isi_n_bool, isi_n_str, isi_n_tuple, isi_n_list, isi_n_dict, isi_d_int, isi_d_bool, isi_d_str, isi_d_tuple, isi_d_list, isi_d_dict,
  deref_tup, deref_lst, deref_int, deref_str, deref_bl, deref_non, deref_scr, rLt_i, rLt_s, rLe_i, rLe_s, rInts_i, rInts0_i, rAdd_i, rAdd_s, rAdd_l, rAdd_t, rCatO_l, rNeg_i, rLen_t, rLen_l, rLen_c, rLen_s, rMax_i, rMin_i, rInt_i, rInt_b, rDivmod_i, ap_gAug, rStr_i, rList_l, rList_t, rListO_l, rListO_t, rTup_l, rTup_t,
  rIx_t0, rIx_t1, rIx_t2, rIx_t3, rIx_l0, rIx_l1, rIx_l2, rIsN_x, isNon_t, isNon_n, isNon_i, isNon_s, isNon_l, rEq_i, rEq_b, rEq_i2, rEq_b2, rJoin_m, rSplit_s, tyOk_l, tyOk_s, patD_nm, patD_tp, patDs_nil, patDs_cons, Option.bind_some, notX, notX',
  List.map_cons, List.map_nil, List.length_cons, List.length_nil, List.cons_append, List.nil_append, List.append_nil, List.replicate, List.getElem?_cons_zero, List.getElem?_cons_succ, List.set_cons_zero, List.set_cons_succ, updO_same, updO_updO,
  Nat.reduceSub, Nat.reduceAdd, Nat.reduceLeDiff, Nat.zero_add, Int.cast_ofNat_Int, Int.natCast_zero, Int.natCast_one, Int.reduceLT, Int.reduceLE, Int.reduceEq, Int.reduceAdd, Int.reduceSub, Int.reduceNeg, decide_true, decide_false, if_true, if_false, Bool.false_eq_true, eq_self, reduceIte, Bool.true_eq_false, decide_eq_true_eq, Bool.not_true, Bool.not_false, Bool.not_eq_true', decide_eq_false_iff_not, exists_eq_left', exists_eq_left, D.bl.injEq, true_and, and_true, not_true_eq_false, not_false_eq_true])
local macro_rules | `(tactic| walk_at "len") => `(tactic| (intro ds O R RE h; first | (obtain ⟨e, _⟩ := h; subst e; rfl) | (obtain ⟨_, e, _⟩ := h; subst e; rfl) | (obtain ⟨_, _, e, _⟩ := h; subst e; rfl) | (obtain ⟨_, _, _, e, _⟩ := h; subst e; rfl) | (obtain ⟨_, _, _, _, e, _⟩ := h; subst e; rfl) | (obtain ⟨_, _, _, _, _, e, _⟩ := h; subst e; rfl) | (obtain ⟨_, _, _, _, _, _, e, _⟩ := h; subst e; rfl) | (obtain ⟨_, _, _, _, _, _, _, e, _⟩ := h; subst e; rfl) | (obtain ⟨_, _, _, _, _, _, _, _, e, _⟩ := h; subst e; rfl) | (obtain ⟨_, _, _, _, _, _, _, _, _, e, _⟩ := h; subst e; rfl)))
local macro_rules | `(tactic| walk_at "kf1") => `(tactic| simp (config := { failIfUnchanged := false }) only [startD, ap_fiEnumT, asT1_t, ap_fKGet, asStr_s, ap_fKIn, ap_fKIx, ap_gAsgL, rUnl_l, ap_fiRng3, asR3_i, rSplitO_s, ap_fOrL, rOrL_l, ap_fLcK, ap_gForK, ap_fMaxD, rMaxD_l, rMaxL_l, ap_fCallXD, ap_gForE, asLE_l, ap_fFrz, ap_fDicO, ap_fDGet, ap_fDGet1, ap_fDGet2, ap_gDPut, ap_fIsiT, ap_gForR, rRep_l, isT_i, isT_s, isT_b, isT_n, isT_t, isT_l, ap_gIf, ap_gRet, ap_gNext, ap_gSet, ap_gAsg, ap_gPar, ap_gDrop, ap_gRetF, ap_gRetN, ap_gFor, ap_gSetIx, ap_gBreak, ap_fRev, ap_fiRevR, asIR_i, rRev_l, ap_fCallX, ap_gRaise, ap_gTry, ap_gTryAs, ap_gNever, ap_fEdic, ap_fTest, ap_fOp, ap_fVar, envGet_s, patGet_s, ap_fC, ap_fCB, ap_fCons, ap_fNil, ap_fCall, ap_fAnd, ap_fOr, ap_fNot, ap_fAndV, ap_fOrV, ap_fNotV, ap_fIf, ap_fTup, ap_fLst, ap_fLstO, ap_fChain, ap_fUn, ap_fBM, ap_fBM0, ap_fPool, rPool_i, ap_fSl, ap_fPart, ap_fNoPart, asI_i, rSl_l, ap_fiRng1, ap_fiRng2, ap_fiList, ap_fiTup, ap_fiStr, ap_fiEnum, ap_fiZip, ap_fiRev, asL_l, asT_t, asSg_s, asR1_i, asR2_i, asL1_l, asL2_l, ap_fLc, ap_fLcO, ap_fYes, wipeD, lcD, isi_i_int, isi_i_bool, isi_i_str, isi_i_tuple, isi_i_list, isi_i_dict, isi_b_int, isi_b_bool, isi_b_str, isi_b_tuple, isi_b_list, isi_b_dict, isi_s_int, isi_s_bool, isi_s_str, isi_s_tuple, isi_s_list, isi_s_dict, isi_t_int, isi_t_bool, isi_t_str, isi_t_tuple, isi_t_list, isi_t_dict, isi_l_int, isi_l_bool, isi_l_str, isi_l_tuple, isi_l_list, isi_l_dict, isi_n_int, isi_n_bool, isi_n_str, isi_n_tuple, isi_n_list, isi_n_dict, isi_d_int, isi_d_bool, isi_d_str, isi_d_tuple, isi_d_list, isi_d_dict,
  deref_tup, deref_lst, deref_int, deref_str, deref_bl, deref_non, deref_scr, rLt_i, rLt_s, rLe_i, rLe_s, rInts_i, rInts0_i, rAdd_i, rAdd_s, rAdd_l, rAdd_t, rCatO_l, rNeg_i, rLen_t, rLen_l, rLen_c, rLen_s, rMax_i, rMin_i, rInt_i, rInt_b, rDivmod_i, ap_gAug, rStr_i, rList_l, rList_t, rListO_l, rListO_t, rTup_l, rTup_t,
  rIx_t0, rIx_t1, rIx_t2, rIx_t3, rIx_l0, rIx_l1, rIx_l2, rIsN_x, isNon_t, isNon_n, isNon_i, isNon_s, isNon_l, rEq_i, rEq_b, rEq_i2, rEq_b2, rJoin_m, rSplit_s, tyOk_l, tyOk_s, patD_nm, patD_tp, patDs_nil, patDs_cons, Option.bind_some, notX, notX',
  List.map_cons, List.map_nil, List.length_cons, List.length_nil, List.cons_append, List.nil_append, List.append_nil, List.replicate, List.getElem?_cons_zero, List.getElem?_cons_succ, List.set_cons_zero, List.set_cons_succ, updO_same, updO_updO,
  Nat.reduceSub, Nat.reduceAdd, Nat.reduceLeDiff, Nat.zero_add, Int.cast_ofNat_Int, Int.natCast_zero, Int.natCast_one, Int.reduceLT, Int.reduceLE, Int.reduceEq, Int.reduceAdd, Int.reduceSub, Int.reduceNeg, decide_true, decide_false, if_true, if_false, Bool.false_eq_true, eq_self, reduceIte, Bool.true_eq_false, decide_eq_true_eq, Bool.not_true, Bool.not_false, Bool.not_eq_true', decide_eq_false_iff_not, exists_eq_left', exists_eq_left, D.bl.injEq, true_and, and_true, not_true_eq_false, not_false_eq_true])
section
variable {P : Program} {w : World} {K : PySem.W.Frag} {mg : Str → Option Value} {base : Heap}
local macro_rules | `(tactic| walk_at "tg") => `(tactic| simp (config := { failIfUnchanged := false }) only [te_name_take, te_name_give, te_name_pair, te_name_first, te_name_second, te_name_to, te_name_both, te_name_one, te_name_mark, te_name_name, te_name_thing, te_name_at, te_thing_take, te_thing_give, te_thing_pair, te_thing_first, te_thing_second, te_thing_to, te_thing_both, te_thing_one, te_thing_mark, te_thing_name, te_thing_thing, te_thing_at, te_take_take, te_take_give, te_take_pair, te_take_first, te_take_second, te_take_to, te_take_both, te_take_one, te_take_mark, te_take_name, te_take_thing, te_take_at, te_give_take, te_give_give, te_give_pair, te_give_first, te_give_second, te_give_to, te_give_both, te_give_one, te_give_mark, te_give_name, te_give_thing, te_give_at, te_pair_take, te_pair_give, te_pair_pair, te_pair_first, te_pair_second, te_pair_to, te_pair_both, te_pair_one, te_pair_mark, te_pair_name, te_pair_thing, te_pair_at, te_first_take, te_first_give, te_first_pair, te_first_first, te_first_second, te_first_to, te_first_both, te_first_one, te_first_mark, te_first_name, te_first_thing, te_first_at, te_second_take, te_second_give, te_second_pair, te_second_first, te_second_second, te_second_to, te_second_both, te_second_one, te_second_mark, te_second_name, te_second_thing, te_second_at, te_mark_take, te_mark_give, te_mark_pair, te_mark_first, te_mark_second, te_mark_to, te_mark_both, te_mark_one, te_mark_mark, te_mark_name, te_mark_thing, te_mark_at, te_one_take, te_one_give, te_one_pair, te_one_first, te_one_second, te_one_to, te_one_both, te_one_one, te_one_mark, te_one_name, te_one_thing, te_one_at, te_to_take, te_to_give, te_to_pair, te_to_first, te_to_second, te_to_to, te_to_both, te_to_one, te_to_mark, te_to_name, te_to_thing, te_to_at, te_both_take, te_both_give, te_both_pair, te_both_first, te_both_second, te_both_to, te_both_both, te_both_one, te_both_mark, te_both_name, te_both_thing, te_both_at, te_at_take, te_at_give, te_at_pair, te_at_first, te_at_second, te_at_to, te_at_both, te_at_one, te_at_mark, te_at_name, te_at_thing, te_at_at, ti4_name, ti4_thing, ti4_take, ti4_give, ti4_pair, ti4_first, ti4_second, ti2_name, ti2_thing, ti2_take, ti2_give, ti2_pair, ti2_first, ti2_second, szT_0, szT_1, szT_2, szT_3, szT_4, szT_5, szT_6, szT_7, szT_8, szT_9, szT_10, szT_11, szT_12, Bool.not_true, Bool.not_false, true_and])
local macro_rules | `(tactic| walk_at "kh") => `(tactic| (walk_at "kf1"; simp (config := { failIfUnchanged := false }) only [ap_fMeth, ap_fFld, ap_gFld, ap_fMake, ap_fUnK, ap_fDicT, ap_fMinLen]; walk_at "kf1"))
/-- what some kinds tell straight -/
def TellR (ks L : List Kd) : Prop := (∀ S : List Kd, (∀ x ∈ ks, HadK S x) → ∀ x ∈ L, HadK S x) ∧ (∀ x ∈ L, ∃ y ∈ ks, x ∈ subK y) ∧ L.length ≤ 3 * ks.length
def spTold39 : DSp := fun ds O R _ => ∃ ks : List Kd, ds = [.lst (ks.map dK)] ∧ (∀ k ∈ ks, k.ok = true ∧ k.depth ≤ 100) ∧ ks.length ≤ 1000 ∧ ∀ L, TellR ks L → R (.lst (L.map dK)) O
theorem ok_told39 (T : Tx K mg) : FO__law_told P w base T 1 spTold39 := by
  refine fndG__law_told T (by walk_at "len") ?_
  rintro ds O R RE ⟨ks, rfl, hk, hl, hR⟩
  unfold g__law_told
  refine gSeq_step ?_
  walk_at "kf1"
  intro f hf
  refine gSeq_step ?_
  walk_at "kf1"
  refine forA_ix dK (fun pre rest ρ O' => ∃ L x2 f, ρ = [some (.lst (ks.map dK)), some (.ref f), x2] ∧ O f = none ∧ (∃ O0, (∀ a, O a ≠ none → O0 a = O a) ∧ O' = updO O0 f (.lst (L.map dK)))  ∧ (∀ S : List Kd, (∀ x ∈ ks, HadK S x) → ∀ x ∈ L, HadK S x) ∧ (∀ x ∈ L, ∃ y ∈ ks, x ∈ subK y) ∧ L.length ≤ ks.length + 2 * pre.length) ks [] _ _ ⟨ks, _, f, rfl, hf, ⟨O, fun _ _ => rfl, rfl⟩, fun S h => h, fun x hx => ⟨x, hx, subK_self x⟩, by simp⟩ ?_ ?_
  · rintro ρ O' ⟨L, x2, f', rfl, hf', ⟨O0, hO0, rfl⟩, h1, h2, h3⟩
    rw [List.nil_append] at h3
    walk_at "kf1"
    refine ⟨O, fun a c e => ?_, hR L ⟨h1, h2, by omega⟩⟩
    have n : a ≠ f' := fun q => by rw [q, hf'] at e; cases e
    unfold delO
    rw [if_neg n, updO_ne n, hO0 a (by rw [e]; simp)]; exact e
  · rintro pre k rest ep ρ O' ⟨L, x2, f', rfl, hf', ⟨O0, hO0, rfl⟩, h1, h2, h3⟩ N hN
    rw [List.nil_append] at ep
    have hkm : k ∈ ks := by rw [ep]; simp
    obtain ⟨ho, hd⟩ := hk k hkm
    walk_at "kf1"
    have same : ∀ d, N [some (.lst (ks.map dK)), some (.ref f'), some d] (updO O0 f' (.lst (L.map dK))) := fun d => hN _ _ ⟨L, _, f', rfl, hf', ⟨O0, hO0, rfl⟩, h1, h2, by rw [List.length_append]; omega⟩
    have hpl := congrArg List.length ep
    simp only [List.length_append, List.length_cons] at hpl
    have hLl : L.length < 4000 := by omega
    cases k with
    | mk m =>
      refine gSeq_step ?_
      simp only [dK]
      walk_at "kf1"
      walk_at "tg"
      walk_at "kf1"
      walk_at "tg"
      walk_at "kf1"
      exact same _
    | one =>
      refine gSeq_step ?_
      simp only [dK]
      walk_at "kf1"
      walk_at "tg"
      walk_at "kf1"
      walk_at "tg"
      walk_at "kf1"
      exact same _
    | to a b =>
      simp only [Kd.ok, Bool.and_eq_true] at ho
      simp only [Kd.depth] at hd
      refine gSeq_step ?_
      simp only [dK]
      walk_at "kf1"
      walk_at "tg"
      walk_at "kf1"
      walk_at "tg"
      walk_at "kf1"
      rw [rIn_K ho.1 (fun u hu => (hk u hu).1) (by omega), Bool.false_xor]
      walk_at "kf1"
      by_cases c : a ∈ ks
      · rw [if_pos c]
        refine ⟨tyOk_r updO_same, ?_⟩
        rw [rApp_r updO_same, updO_updO]
        refine ⟨sz_small (by rw [List.length_map]; omega), hN _ _ ⟨L ++ [b], _, f', rfl, hf', ⟨O0, hO0, by rw [List.map_append]; rfl⟩, fun S hS x hx => ?_, fun x hx => ?_, by simp only [List.length_append, List.length_singleton]; omega⟩⟩
        · rcases List.mem_append.mp hx with h | h
          · exact h1 S hS x h
          · rw [List.mem_singleton.mp h]; exact hadK_mp (hS _ hkm) (hS a c)
        · rcases List.mem_append.mp hx with h | h
          · exact h2 x h
          · rw [List.mem_singleton.mp h]; exact ⟨_, hkm, by simp [subK, subK_self]⟩
      · rw [if_neg c]
        exact same _
    | both a b =>
      refine gSeq_step ?_
      simp only [dK]
      walk_at "kf1"
      walk_at "tg"
      walk_at "kf1"
      simp only [rCatO, deref, updO_same]
      refine ⟨sz_small (by simp only [List.length_map, List.length_cons, List.length_nil]; omega), fun p hp => ?_⟩
      have np : p ≠ f' := fun q => by rw [q, updO_same] at hp; cases hp
      rw [updO_ne np] at hp
      have hp0 : O p = none := by
        cases e : O p with
        | none => rfl
        | some c =>
          have := hO0 p (by rw [e]; simp)
          rw [hp, e] at this; cases this
      walk_at "kf1"
      walk_at "tg"
      walk_at "kf1"
      refine hN _ _ ⟨L ++ [a, b], _, p, rfl, hp0, ⟨_, fun x hx => ?_, by rw [List.map_append]; rfl⟩, fun S hS x hx => ?_, fun x hx => ?_, by simp only [List.length_append, List.length_cons, List.length_nil]; omega⟩
      · have n : x ≠ f' := fun q => hx (by rw [q]; exact hf')
        rw [updO_ne n]; exact hO0 x hx
      · have hb := (hadK_both S a b).mp (hS _ hkm)
        rcases List.mem_append.mp hx with h | h
        · exact h1 S hS x h
        · simp only [List.mem_cons, List.not_mem_nil, or_false] at h
          rcases h with rfl | rfl
          · exact hb.1
          · exact hb.2
      · rcases List.mem_append.mp hx with h | h
        · exact h2 x h
        · simp only [List.mem_cons, List.not_mem_nil, or_false] at h
          rcases h with rfl | rfl
          · exact ⟨_, hkm, by simp [subK, subK_self]⟩
          · exact ⟨_, hkm, by simp [subK, subK_self]⟩
/-- how many leaves a made kind has at most -/
def bnd39 : Nat → Nat
  | 0 => 6
  | r + 1 => 2 * bnd39 r
theorem bnd39_le (r : Nat) : 6 ≤ bnd39 r := by
  induction r with
  | zero => exact Nat.le_refl _
  | succ r ih => rw [bnd39]; omega
def spMade39 (n : Nat) : DSp := fun ds O R _ => ∃ (p : Addr) (ks : List Kd) (ms : List Str) (r : Nat), ds = [.ref p, .lst (ks.map dK), .lst (ms.map .str), .int r] ∧ O p = some .pool ∧ 1 ≤ ms.length ∧ ms.length ≤ 1000 ∧ (∀ m ∈ ms, PyData.strOk m = true) ∧ (∀ k ∈ ks, k.over ms ∧ k.leaves ≤ 6) ∧ ks.length + r ≤ 40 ∧ r < n ∧ r ≤ 3 ∧
  ∀ k : Kd, HadK ks k → k.over ms → k.leaves ≤ bnd39 r → R (dK k) O
theorem ok_made39 (T : Tx K mg) : ∀ n, FO__law_made P w base T (n + 5) (spMade39 n)
  | 0 => fnUp (none_left fun ds O R RE ⟨_, _, _, _, _, _, _, _, _, _, _, h, _⟩ => by omega) (Nat.zero_le _)
  | n + 1 => by
    refine fnd__law_made T (ok_take T.n__law_take) (fnUp (ok_told39 T) (by omega)) (ok_made39 T n) (fnUp (ok_lkind T 3) (by omega)) (by walk_at "len") ?_
    rintro ds O R RE ⟨p, ks, ms, r, rfl, hp, hm1, hm2, hso, hks, hkl, hrn, hr3, hR⟩
    unfold g__law_made
    have hko : ∀ k ∈ ks, k.ok = true ∧ k.depth ≤ 100 := fun k hk => ⟨over_ok hso k (hks k hk).1, by have := (hks k hk).2; have := k.depth_lt; omega⟩
    have hb6 := bnd39_le r
    refine gSeq_step ?_
    walk_at "kf1"
    refine take_of hp (by decide) (by decide) fun v hv0 hv1 => ?_
    refine gSeq_step ?_
    walk_at "kf1"
    rcases (show r = 0 ∨ (r ≠ 0 ∧ v < 2) ∨ (r ≠ 0 ∧ ¬ v < 2) by omega) with h | ⟨h, hv⟩ | ⟨h, hv⟩
    · rw [if_pos (by omega)]
      refine gSeq_step ?_
      walk_at "kf1"
      refine ⟨ks, rfl, hko, by omega, fun L1 hL1 => ?_⟩
      obtain ⟨a1, a2, a3⟩ := hL1
      have hk1 : ∀ k ∈ L1, k.over ms ∧ k.leaves ≤ 6 := fun k hk => by
        obtain ⟨y, hy, hs⟩ := a2 k hk
        have h1 := subK_in y k hs
        exact ⟨(over_iff k).mpr fun m hm => (over_iff y).mp (hks y hy).1 m (h1.2.2 m hm), by have := (hks y hy).2; omega⟩
      refine ⟨L1, rfl, fun k hk => ⟨over_ok hso k (hk1 k hk).1, by have := (hk1 k hk).2; have := k.depth_lt; omega⟩, by omega, fun L2 hL2 => ?_⟩
      obtain ⟨b1, b2, b3⟩ := hL2
      have hk2 : ∀ k ∈ L2 ++ [Kd.one], HadK ks k ∧ k.over ms ∧ k.leaves ≤ 6 := fun k hk => by
        rcases List.mem_append.mp hk with hk | hk
        · obtain ⟨y, hy, hs⟩ := b2 k hk
          have h1 := subK_in y k hs
          exact ⟨b1 ks (a1 ks fun x hx => hadK_there hx) k hk, (over_iff k).mpr fun m hm => (over_iff y).mp (hk1 y hy).1 m (h1.2.2 m hm), by have := (hk1 y hy).2; omega⟩
        · rw [List.mem_singleton.mp hk]
          exact ⟨hadK_one ks, trivial, by decide⟩
      walk_at "kf1"
      refine ⟨sz_small (by decide), sz_small (by decide), sz_small (by rw [List.length_map]; omega), ?_⟩
      rw [show (L2.map dK ++ [D.tup [.str (Str.ofString "one")]]) = (L2 ++ [Kd.one]).map dK by rw [List.map_append]; rfl]
      walk_at "kf1"
      rw [List.length_map]
      refine take_of hp (by rw [List.length_append]; simp) (by simp only [List.length_append, List.length_singleton]; omega) fun j hj0 hj1 => ?_
      walk_at "kf1"
      refine rIx_any hj0 (by rw [List.length_map]; exact hj1) fun d hd => ?_
      obtain ⟨k, hk, rfl⟩ := List.mem_map.mp hd
      obtain ⟨c1, c2, c3⟩ := hk2 k hk
      exact hR k c1 c2 (by omega)
    · rw [if_neg (by omega), if_pos hv]
      refine gSeq_step ?_
      walk_at "kf1"
      refine ⟨ks, rfl, hko, by omega, fun L1 hL1 => ?_⟩
      obtain ⟨a1, a2, a3⟩ := hL1
      have hk1 : ∀ k ∈ L1, k.over ms ∧ k.leaves ≤ 6 := fun k hk => by
        obtain ⟨y, hy, hs⟩ := a2 k hk
        have h1 := subK_in y k hs
        exact ⟨(over_iff k).mpr fun m hm => (over_iff y).mp (hks y hy).1 m (h1.2.2 m hm), by have := (hks y hy).2; omega⟩
      refine ⟨L1, rfl, fun k hk => ⟨over_ok hso k (hk1 k hk).1, by have := (hk1 k hk).2; have := k.depth_lt; omega⟩, by omega, fun L2 hL2 => ?_⟩
      obtain ⟨b1, b2, b3⟩ := hL2
      have hk2 : ∀ k ∈ L2 ++ [Kd.one], HadK ks k ∧ k.over ms ∧ k.leaves ≤ 6 := fun k hk => by
        rcases List.mem_append.mp hk with hk | hk
        · obtain ⟨y, hy, hs⟩ := b2 k hk
          have h1 := subK_in y k hs
          exact ⟨b1 ks (a1 ks fun x hx => hadK_there hx) k hk, (over_iff k).mpr fun m hm => (over_iff y).mp (hk1 y hy).1 m (h1.2.2 m hm), by have := (hk1 y hy).2; omega⟩
        · rw [List.mem_singleton.mp hk]
          exact ⟨hadK_one ks, trivial, by decide⟩
      walk_at "kf1"
      refine ⟨sz_small (by decide), sz_small (by decide), sz_small (by rw [List.length_map]; omega), ?_⟩
      rw [show (L2.map dK ++ [D.tup [.str (Str.ofString "one")]]) = (L2 ++ [Kd.one]).map dK by rw [List.map_append]; rfl]
      walk_at "kf1"
      rw [List.length_map]
      refine take_of hp (by rw [List.length_append]; simp) (by simp only [List.length_append, List.length_singleton]; omega) fun j hj0 hj1 => ?_
      walk_at "kf1"
      refine rIx_any hj0 (by rw [List.length_map]; exact hj1) fun d hd => ?_
      obtain ⟨k, hk, rfl⟩ := List.mem_map.mp hd
      obtain ⟨c1, c2, c3⟩ := hk2 k hk
      exact hR k c1 c2 (by omega)
    · rw [if_neg (by omega), if_neg hv]
      obtain ⟨r, rfl⟩ : ∃ r', r = r' + 1 := ⟨r - 1, by omega⟩
      have er : (((r + 1 : Nat) : Int) - 1) = (r : Int) := by omega
      simp only [bnd39] at hR hb6
      have hb := bnd39_le r
      refine gSeq_step ?_
      walk_at "kf1"
      by_cases hv2 : v = 2
      · rw [if_pos hv2]
        walk_at "kf1"
        rw [er]
        refine ⟨p, ks, ms, r, rfl, hp, hm1, hm2, hso, hks, by omega, by omega, by omega, fun k1 c1 c2 c3 => ?_⟩
        refine ⟨p, ks, ms, r, rfl, hp, hm1, hm2, hso, hks, by omega, by omega, by omega, fun k2 d1 d2 d3 => ?_⟩
        refine ⟨sz_small (by decide), ?_⟩
        exact hR (.both k1 k2) ((hadK_both ks k1 k2).mpr ⟨c1, d1⟩) ⟨c2, d2⟩ (by simp only [Kd.leaves]; omega)
      · rw [if_neg hv2]
        refine gSeq_step ?_
        walk_at "kf1"
        refine take_of hp (by decide) (by decide) fun q hq0 hq1 => ?_
        walk_at "kf1"
        refine ⟨p, (1 + q).toNat, ms, by rw [show (((1 + q).toNat : Nat) : Int) = 1 + q by omega], hp, by omega, by omega, by omega, hm1, hm2, fun a hal hao => ?_⟩
        dsimp only
        walk_at "kf1"
        refine ⟨sz_small (by decide), sz_small (by rw [List.length_map]; omega), ?_⟩
        rw [er, show ks.map dK ++ [dK a] = (ks ++ [a]).map dK by rw [List.map_append]; rfl]
        refine ⟨p, ks ++ [a], ms, r, rfl, hp, hm1, hm2, hso, fun k hk => ?_, by simp only [List.length_append, List.length_singleton]; omega, by omega, by omega, fun k c1 c2 c3 => ?_⟩
        · rcases List.mem_append.mp hk with hk | hk
          · exact hks k hk
          · rw [List.mem_singleton.mp hk]; exact ⟨hao, by omega⟩
        refine ⟨sz_small (by decide), ?_⟩
        exact hR (.to a k) ((hadK_to ks a k).mpr c1) ⟨hao, c2⟩ (by simp only [Kd.leaves]; omega)
end
end Kf
namespace Kf
open PySem PySem.Spec L2
open PyProof.Rows hiding St
local macro_rules | `(tactic| walk_at "kf") => `(tactic| simp (config := { failIfUnchanged := false }) only [startD, ap_fiEnumT, asT1_t, ap_fKGet, asStr_s, ap_fKIn, ap_fKIx, ap_gAsgL, rUnl_l, ap_fiRng3, asR3_i, rSplitO_s, ap_fOrL, rOrL_l, ap_fLcK, ap_gForK, ap_fMaxD, rMaxD_l, rMaxL_l, ap_fCallXD, ap_gForE, asLE_l, ap_fFrz, ap_fDicO, ap_fDGet, ap_fDGet1, ap_fDGet2, ap_gDPut, ap_fIsiT, ap_gForR, rRep_l, isT_i, isT_s, isT_b, isT_n, isT_t, isT_l, ap_gSeq, ap_gIf, ap_gRet, ap_gNext, ap_gSet, ap_gAsg, ap_gPar, ap_gDrop, ap_gRetF, ap_gRetN, ap_gFor, ap_gSetIx, ap_gBreak, ap_fRev, ap_fiRevR, asIR_i, rRev_l, ap_fCallX, ap_gRaise, ap_gTry, ap_gTryAs, ap_gNever, ap_fEdic, ap_fTest, ap_fOp, ap_fVar, envGet_s, patGet_s, ap_fC, ap_fCB, ap_fCons, ap_fNil, ap_fCall, ap_fAnd, ap_fOr, ap_fNot, ap_fAndV, ap_fOrV, ap_fNotV, ap_fIf, ap_fTup, ap_fLst, ap_fLstO, ap_fChain, ap_fUn, ap_fBM, ap_fBM0, ap_fPool, rPool_i, ap_fSl, ap_fPart, ap_fNoPart, asI_i, rSl_l, ap_fiRng1, ap_fiRng2, ap_fiList, ap_fiTup, ap_fiStr, ap_fiEnum, ap_fiZip, ap_fiRev, asL_l, asT_t, asSg_s, asR1_i, asR2_i, asL1_l, asL2_l, ap_fLc, ap_fLcO, ap_fYes, wipeD, lcD, isi_i_int, isi_i_bool, isi_i_str, isi_i_tuple, isi_i_list, isi_i_dict, isi_b_int, isi_b_bool, isi_b_str, isi_b_tuple, isi_b_list, isi_b_dict, isi_s_int, isi_s_bool, isi_s_str, isi_s_tuple, isi_s_list, isi_s_dict, isi_t_int, isi_t_bool, isi_t_str, isi_t_tuple, isi_t_list, isi_t_dict, isi_l_int, isi_l_bool, isi_l_str, isi_l_tuple, isi_l_list, isi_l_dict, isi_n_int, isi_n_bool, isi_n_str, isi_n_tuple, isi_n_list, isi_n_dict, isi_d_int, isi_d_bool, isi_d_str, isi_d_tuple, isi_d_list, isi_d_dict,
  deref_tup, deref_lst, deref_int, deref_str, deref_bl, deref_non, deref_scr, rLt_i, rLt_s, rLe_i, rLe_s, rInts_i, rInts0_i, rAdd_i, rAdd_s, rAdd_l, rAdd_t, rCatO_l, rNeg_i, rLen_t, rLen_l, rLen_c, rLen_s, rMax_i, rMin_i, rInt_i, rInt_b, rDivmod_i, ap_gAug, rStr_i, rList_l, rList_t, rListO_l, rListO_t, rTup_l, rTup_t,
  rIx_t0, rIx_t1, rIx_t2, rIx_t3, rIx_l0, rIx_l1, rIx_l2, rIsN_x, isNon_t, isNon_n, isNon_i, isNon_s, isNon_l, rEq_i, rEq_b, rEq_i2, rEq_b2, rJoin_m, rSplit_s, tyOk_l, tyOk_s, patD_nm, patD_tp, patDs_nil, patDs_cons, Option.bind_some, notX, notX',
  List.map_cons, List.map_nil, List.length_cons, List.length_nil, List.cons_append, List.nil_append, List.append_nil, List.replicate, List.getElem?_cons_zero, List.getElem?_cons_succ, List.set_cons_zero, List.set_cons_succ, updO_same, updO_updO,
  Nat.reduceSub, Nat.reduceAdd, Nat.reduceLeDiff, Nat.zero_add, Int.cast_ofNat_Int, Int.natCast_zero, Int.natCast_one, Int.reduceLT, Int.reduceLE, Int.reduceEq, Int.reduceAdd, Int.reduceSub, Int.reduceNeg, decide_true, decide_false, if_true, if_false, Bool.false_eq_true, eq_self, reduceIte, Bool.true_eq_false, decide_eq_true_eq, Bool.not_true, Bool.not_false, Bool.not_eq_true', decide_eq_false_iff_not, exists_eq_left', exists_eq_left, D.bl.injEq, true_and, and_true, not_true_eq_false, not_false_eq_true])
local macro_rules | `(tactic| walk_at "len") => `(tactic| (intro ds O R RE h; first | (obtain ⟨e, _⟩ := h; subst e; rfl) | (obtain ⟨_, e, _⟩ := h; subst e; rfl) | (obtain ⟨_, _, e, _⟩ := h; subst e; rfl) | (obtain ⟨_, _, _, e, _⟩ := h; subst e; rfl) | (obtain ⟨_, _, _, _, e, _⟩ := h; subst e; rfl) | (obtain ⟨_, _, _, _, _, e, _⟩ := h; subst e; rfl) | (obtain ⟨_, _, _, _, _, _, e, _⟩ := h; subst e; rfl) | (obtain ⟨_, _, _, _, _, _, _, e, _⟩ := h; subst e; rfl) | (obtain ⟨_, _, _, _, _, _, _, _, e, _⟩ := h; subst e; rfl) | (obtain ⟨_, _, _, _, _, _, _, _, _, e, _⟩ := h; subst e; rfl)))
local macro_rules | `(tactic| walk_at "kf1") => `(tactic| simp (config := { failIfUnchanged := false }) only [startD, ap_fiEnumT, asT1_t, ap_fKGet, asStr_s, ap_fKIn, ap_fKIx, ap_gAsgL, rUnl_l, ap_fiRng3, asR3_i, rSplitO_s, ap_fOrL, rOrL_l, ap_fLcK, ap_gForK, ap_fMaxD, rMaxD_l, rMaxL_l, ap_fCallXD, ap_gForE, asLE_l, ap_fFrz, ap_fDicO, ap_fDGet, ap_fDGet1, ap_fDGet2, ap_gDPut, ap_fIsiT, ap_gForR, rRep_l, isT_i, isT_s, isT_b, isT_n, isT_t, isT_l, ap_gIf, ap_gRet, ap_gNext, ap_gSet, ap_gAsg, ap_gPar, ap_gDrop, ap_gRetF, ap_gRetN, ap_gFor, ap_gSetIx, ap_gBreak, ap_fRev, ap_fiRevR, asIR_i, rRev_l, ap_fCallX, ap_gRaise, ap_gTry, ap_gTryAs, ap_gNever, ap_fEdic, ap_fTest, ap_fOp, ap_fVar, envGet_s, patGet_s, ap_fC, ap_fCB, ap_fCons, ap_fNil, ap_fCall, ap_fAnd, ap_fOr, ap_fNot, ap_fAndV, ap_fOrV, ap_fNotV, ap_fIf, ap_fTup, ap_fLst, ap_fLstO, ap_fChain, ap_fUn, ap_fBM, ap_fBM0, ap_fPool, rPool_i, ap_fSl, ap_fPart, ap_fNoPart, asI_i, rSl_l, ap_fiRng1, ap_fiRng2, ap_fiList, ap_fiTup, ap_fiStr, ap_fiEnum, ap_fiZip, ap_fiRev, asL_l, asT_t, asSg_s, asR1_i, asR2_i, asL1_l, asL2_l, ap_fLc, ap_fLcO, ap_fYes, wipeD, lcD, isi_i_int, isi_i_bool, isi_i_str, isi_i_tuple, isi_i_list, isi_i_dict, isi_b_int, isi_b_bool, isi_b_str, isi_b_tuple, isi_b_list, isi_b_dict, isi_s_int, isi_s_bool, isi_s_str, isi_s_tuple, isi_s_list, isi_s_dict, isi_t_int, isi_t_bool, isi_t_str, isi_t_tuple, isi_t_list, isi_t_dict, isi_l_int, isi_l_bool, isi_l_str, isi_l_tuple, isi_l_list, isi_l_dict, isi_n_int, isi_n_bool, isi_n_str, isi_n_tuple, isi_n_list, isi_n_dict, isi_d_int, isi_d_bool, isi_d_str, isi_d_tuple, isi_d_list, isi_d_dict,
  deref_tup, deref_lst, deref_int, deref_str, deref_bl, deref_non, deref_scr, rLt_i, rLt_s, rLe_i, rLe_s, rInts_i, rInts0_i, rAdd_i, rAdd_s, rAdd_l, rAdd_t, rCatO_l, rNeg_i, rLen_t, rLen_l, rLen_c, rLen_s, rMax_i, rMin_i, rInt_i, rInt_b, rDivmod_i, ap_gAug, rStr_i, rList_l, rList_t, rListO_l, rListO_t, rTup_l, rTup_t,
  rIx_t0, rIx_t1, rIx_t2, rIx_t3, rIx_l0, rIx_l1, rIx_l2, rIsN_x, isNon_t, isNon_n, isNon_i, isNon_s, isNon_l, rEq_i, rEq_b, rEq_i2, rEq_b2, rJoin_m, rSplit_s, tyOk_l, tyOk_s, patD_nm, patD_tp, patDs_nil, patDs_cons, Option.bind_some, notX, notX',
  List.map_cons, List.map_nil, List.length_cons, List.length_nil, List.cons_append, List.nil_append, List.append_nil, List.replicate, List.getElem?_cons_zero, List.getElem?_cons_succ, List.set_cons_zero, List.set_cons_succ, updO_same, updO_updO,
  Nat.reduceSub, Nat.reduceAdd, Nat.reduceLeDiff, Nat.zero_add, Int.cast_ofNat_Int, Int.natCast_zero, Int.natCast_one, Int.reduceLT, Int.reduceLE, Int.reduceEq, Int.reduceAdd, Int.reduceSub, Int.reduceNeg, decide_true, decide_false, if_true, if_false, Bool.false_eq_true, eq_self, reduceIte, Bool.true_eq_false, decide_eq_true_eq, Bool.not_true, Bool.not_false, Bool.not_eq_true', decide_eq_false_iff_not, exists_eq_left', exists_eq_left, D.bl.injEq, true_and, and_true, not_true_eq_false, not_false_eq_true])
section
variable {P : Program} {w : World} {K : PySem.W.Frag} {mg : Str → Option Value} {base : Heap}
local macro_rules | `(tactic| walk_at "tg") => `(tactic| simp (config := { failIfUnchanged := false }) only [te_name_take, te_name_give, te_name_pair, te_name_first, te_name_second, te_name_to, te_name_both, te_name_one, te_name_mark, te_name_name, te_name_thing, te_name_at, te_thing_take, te_thing_give, te_thing_pair, te_thing_first, te_thing_second, te_thing_to, te_thing_both, te_thing_one, te_thing_mark, te_thing_name, te_thing_thing, te_thing_at, te_take_take, te_take_give, te_take_pair, te_take_first, te_take_second, te_take_to, te_take_both, te_take_one, te_take_mark, te_take_name, te_take_thing, te_take_at, te_give_take, te_give_give, te_give_pair, te_give_first, te_give_second, te_give_to, te_give_both, te_give_one, te_give_mark, te_give_name, te_give_thing, te_give_at, te_pair_take, te_pair_give, te_pair_pair, te_pair_first, te_pair_second, te_pair_to, te_pair_both, te_pair_one, te_pair_mark, te_pair_name, te_pair_thing, te_pair_at, te_first_take, te_first_give, te_first_pair, te_first_first, te_first_second, te_first_to, te_first_both, te_first_one, te_first_mark, te_first_name, te_first_thing, te_first_at, te_second_take, te_second_give, te_second_pair, te_second_first, te_second_second, te_second_to, te_second_both, te_second_one, te_second_mark, te_second_name, te_second_thing, te_second_at, te_mark_take, te_mark_give, te_mark_pair, te_mark_first, te_mark_second, te_mark_to, te_mark_both, te_mark_one, te_mark_mark, te_mark_name, te_mark_thing, te_mark_at, te_one_take, te_one_give, te_one_pair, te_one_first, te_one_second, te_one_to, te_one_both, te_one_one, te_one_mark, te_one_name, te_one_thing, te_one_at, te_to_take, te_to_give, te_to_pair, te_to_first, te_to_second, te_to_to, te_to_both, te_to_one, te_to_mark, te_to_name, te_to_thing, te_to_at, te_both_take, te_both_give, te_both_pair, te_both_first, te_both_second, te_both_to, te_both_both, te_both_one, te_both_mark, te_both_name, te_both_thing, te_both_at, te_at_take, te_at_give, te_at_pair, te_at_first, te_at_second, te_at_to, te_at_both, te_at_one, te_at_mark, te_at_name, te_at_thing, te_at_at, ti4_name, ti4_thing, ti4_take, ti4_give, ti4_pair, ti4_first, ti4_second, ti2_name, ti2_thing, ti2_take, ti2_give, ti2_pair, ti2_first, ti2_second, szT_0, szT_1, szT_2, szT_3, szT_4, szT_5, szT_6, szT_7, szT_8, szT_9, szT_10, szT_11, szT_12, Bool.not_true, Bool.not_false, true_and])
theorem ok_marks {a a1 : Addr} {fd d1 : FuncData} {k : Nat} (N : Fn K mg "_law_marks" s__law_marks P__law_marks a fd) (N1 : Fn K mg "_law_take" s__law_take P__law_take a1 d1) (m_range : mg "range" = none) (m_int : mg "int" = none) : FnOk P w K mg base CX0 (k + 2) a fd P__law_marks (liftSp K spMarks) := by
  refine fn_d (g := g__law_marks spTake) N.F sc__law_marks (fun ds O R RE ⟨p, e, _⟩ => by rw [e]; rfl) (der__law_marks N1 (ok_take N1) m_range m_int) ?_
  rintro ds O R RE ⟨p, rfl, hp, hR⟩
  unfold g__law_marks
  walk_at "kf"
  refine take_of hp (by decide) (by decide) fun sz hs0 hs1 => ?_
  walk_at "kf"
  refine take_of hp (by omega) (by omega) fun at_ ha0 ha1 => ?_
  walk_at "kf"
  refine ⟨by omega, by omega, ?_⟩
  refine lcD_all (fun _ e => ∃ n : Int, e = .int n ∧ 0 ≤ n ∧ n < 26) _ _ _ (by rw [rangeD_length]; exact sz_small (by simp; omega)) ?_ ?_
  · intro d hd Q' hQ
    walk_at "kf"
    exact take_of hp (by decide) (by decide) fun r h0 h1 => hQ _ ⟨r, rfl, h0, h1⟩
  · intro es hes
    obtain ⟨ns, rfl, hns, hnl⟩ : ∃ ns : List Int, es = ns.map .int ∧ Lets ns ∧ ns.length = (1 + sz).toNat := by
      have hl := Paired.length hes
      rw [rangeD_length] at hl
      rw [hl]
      clear hl
      revert hes
      generalize rangeD 0 (1 + sz).toNat = rs
      intro hes
      induction hes with
      | nil => exact ⟨[], rfl, (by intro n h; cases h), rfl⟩
      | cons h _ ih =>
        obtain ⟨n, rfl, h0, h1⟩ := h
        obtain ⟨ns, rfl, h2, h3⟩ := ih
        refine ⟨n :: ns, rfl, fun m hm => ?_, by simp⟩
        rcases List.mem_cons.mp hm with rfl | hm
        · exact ⟨h0, h1⟩
        · exact h2 m hm
    rw [List.nil_append]
    refine ⟨sz_small (by decide), fun q hq => ?_⟩
    have hne : p ≠ q := fun e => by rw [e, hq] at hp; cases hp
    have hp' : ∀ c, updO O q c p = some .pool := fun c => (updO_ne hne).trans hp
    refine take_of (hp' _) (by decide) (by decide) fun many hm0 hm1 => ?_
    walk_at "kf"
    refine ⟨by omega, by omega, ?_⟩
    -- the k-th word
    let word : Nat → List Int := fun k => (List.range ns.length).map fun j => (ns.getD j 0 + 5 * (k : Int) * (if (j : Int) = at_ then 1 else 0)) % 26
    have hwl : ∀ k, Lets (word k) := fun k n hn => by
      obtain ⟨j, _, rfl⟩ := List.mem_map.mp hn
      exact ⟨Int.emod_nonneg _ (by decide), Int.emod_lt_of_pos _ (by decide)⟩
    have hwn : ∀ k, (word k).length = ns.length := fun k => by simp [word]
    refine forD_ix (fun i ρ O' => ∃ x5 x6 x7 x8, ρ = [some (.ref p), some (.int (1 + sz)), some (.int at_), some (.lst (ns.map .int)), some (.ref q), x5, x6, x7, x8] ∧ O' = updO O q (.lst (((List.range i).map fun k => txt (word k)).map .str))) _ 0 _ _ ⟨_, _, _, _, rfl, rfl⟩ ?_ ?_
    · rintro ρ O' ⟨x5, x6, x7, x8, rfl, rfl⟩
      rw [rangeD_length]
      walk_at "kf"
      rw [delO_updO hq]
      refine hR _ ⟨by simp; omega, by simp; omega, ?_, fun t ht => ?_⟩
      · refine List.pairwise_map.mpr (List.Pairwise.imp_of_mem (fun {i j} hi hj hij => ?_) List.pairwise_lt_range)
        rw [List.mem_range] at hj
        intro e
        have e2 : word i = word j := txt_inj (hwl i) (hwl j) e
        have e3 := congrArg (fun l => l.getD at_.toNat 0) e2
        have hat : at_.toNat < ns.length := by omega
        simp only [word, List.getD_eq_getElem?_getD, List.getElem?_map, List.getElem?_range hat, Option.map_some, Option.getD_some] at e3
        rw [show ((at_.toNat : Nat) : Int) = at_ by omega] at e3
        simp only [if_true] at e3
        have hj3 : j ≤ 3 := by omega
        omega
      · obtain ⟨k, _, rfl⟩ := List.mem_map.mp ht
        exact ⟨word k, rfl, by rw [hwn]; omega, by rw [hwn]; omega, hwl k⟩
    · rintro i d hd ρ O' ⟨x5, x6, x7, x8, rfl, rfl⟩ Nx hN
      obtain ⟨hi, rfl⟩ := rangeD_get hd
      walk_at "kf"
      refine ⟨by omega, by omega, ?_⟩
      refine lcD_map (fun d => match d with | .int j => .int ((ns.getD j.toNat 0 + 5 * (i : Int) * (if j = at_ then 1 else 0)) % 26) | d => d) _ _ _ (by rw [rangeD_length]; exact sz_small (by simp; omega)) ?_ ?_
      · intro d hd Q' hQ
        obtain ⟨j, hj, rfl⟩ := mem_rangeD hd
        dsimp only at hQ
        rw [Int.zero_add, Int.toNat_natCast] at hQ
        walk_at "kf"
        rw [Int.zero_add, Int.zero_add, rIx_l (atI_ints (by omega))]
        walk_at "kf"
        refine ⟨Or.inl ⟨by decide, by decide⟩, ?_⟩
        by_cases c : (j : Int) = at_
        · simp only [c, decide_true, if_true] at hQ ⊢
          exact ⟨Or.inr ⟨by decide, by decide⟩, hQ⟩
        · simp only [c, decide_false, if_false] at hQ ⊢
          exact ⟨Or.inr ⟨by decide, by decide⟩, hQ⟩
      · rw [List.nil_append]
        have ew : (rangeD 0 (1 + sz).toNat).map (fun d => match d with | .int j => .int ((ns.getD j.toNat 0 + 5 * (i : Int) * (if j = at_ then 1 else 0)) % 26) | d => d) = (word i).map D.int := by
          rw [rangeD, List.map_map, ← hnl]
          simp only [word, List.map_map]
          refine List.map_congr_left fun j _ => ?_
          simp only [Function.comp, Int.zero_add, Int.toNat_natCast]
        rw [ew]
        walk_at "kf"
        refine ⟨tyOk_r updO_same, ?_⟩
        refine lcD_map (fun d => match d with | .int j => .str (sgn j) | d => d) _ _ _ (by rw [List.length_map, hwn]; exact sz_small (by simp; omega)) ?_ ?_
        · intro d hd Q' hQ
          obtain ⟨n, hn, rfl⟩ := List.mem_map.mp hd
          have h2 := hwl i n hn
          dsimp only at hQ
          walk_at "kf"
          rw [rIx_s (abc_at h2.1 h2.2)]
          exact ⟨by rw [abc_len]; exact sz_small (by decide), hQ⟩
        · rw [List.nil_append]
          have e3 : ((word i).map D.int).map (fun d => match d with | .int j => .str (sgn j) | d => d) = ((word i).map sgn).map D.str := (fun l : List Int => (show (l.map D.int).map (fun d => match d with | .int j => .str (sgn j) | d => d) = (l.map sgn).map D.str by rw [List.map_map, List.map_map]; rfl)) (word i)
          rw [e3, rJoin_m, join_sgn]
          refine ⟨?_, ?_⟩
          · have e4 : ((word i).map sgn).map (·.length) = (word i).map fun _ => 1 := (fun l : List Int => (show (l.map sgn).map (·.length) = l.map fun _ => 1 by rw [List.map_map]; rfl)) (word i)
            have e5 : (Str.ofString "").length = 0 := by decide +kernel
            have e6 : ∀ l : List Int, (l.map fun _ => 1).sum = l.length := fun l => by induction l with
              | nil => rfl
              | cons _ _ ih => simp [ih]; omega
            rw [e4, e5, Nat.mul_zero, e6, hwn]
            omega
          · rw [rApp_r updO_same]
            refine ⟨sz_small' (by simp; omega), hN _ _ ⟨_, _, _, _, rfl, ?_⟩⟩
            rw [Nat.zero_add, updO_updO, List.range_succ, List.map_append, List.map_append]
            rfl
def RN41 : List Str := [Str.ofString "f", Str.ofString "gg", Str.ofString "hat", Str.ofString "k"]
/-- rows over some marks, of so many leaves at most -/
def spRow41 : DSp := fun ds O R _ => ∃ (p : Addr) (ms : List Str) (lf : Nat), ds = [.ref p, .lst (ms.map .str), .int lf] ∧ O p = some .pool ∧ 1 ≤ ms.length ∧ ms.length ≤ 1000 ∧ lf ≤ 100 ∧
  ∀ kn : List (Str × Kd), kn.length ≤ 4 → lvs (kn.map (·.2)) ≤ lf → (∀ x ∈ kn.map (·.2), x.over ms ∧ x.leaves ≤ 4) → (∃ ns : List Str, ns.Sublist RN41 ∧ kn.map (·.1) = ns) → R (.lst (kn.map kv)) O
theorem ok_row41 (T : Tx K mg) : FO__law_row P w base T 6 spRow41 := by
  refine fnd__law_row T (ok_take T.n__law_take) (ok_lkind T 4) (by walk_at "len") ?_
  rintro ds O R RE ⟨p, ms, lf, rfl, hp, hm1, hm2, hlf, hR⟩
  unfold g__law_row
  refine gSeq_step ?_
  walk_at "kf1"
  refine ⟨sz_small (by decide), fun f hf => ?_⟩
  have hpf : ∀ c, updO O f c p = some .pool := fun c => by
    have hne : p ≠ f := fun z => by rw [z, hf] at hp; cases hp
    rw [updO_ne hne, hp]
  refine gSeq_step ?_
  walk_at "kf1"
  refine ⟨sz_small (by decide), ?_⟩
  refine take_of (hpf _) (by decide) (by decide) fun r hr0 hr1 => ?_
  have e : ∃ n : Nat, cut [D.str (Str.ofString "f"), D.str (Str.ofString "gg"), D.str (Str.ofString "hat"), D.str (Str.ofString "k")] none (some r) = (RN41.take n).map D.str ∧ n ≤ 4 := by
    rcases (show r = 0 ∨ r = 1 ∨ r = 2 ∨ r = 3 ∨ r = 4 by omega) with rfl | rfl | rfl | rfl | rfl
    · exact ⟨0, by rfl, by decide⟩
    · exact ⟨1, by rfl, by decide⟩
    · exact ⟨2, by rfl, by decide⟩
    · exact ⟨3, by rfl, by decide⟩
    · exact ⟨4, by rfl, by decide⟩
  obtain ⟨n, e, hn⟩ := e
  walk_at "kf1"
  rw [e]
  have hls : (RN41.take n).length ≤ 4 := by rw [List.length_take]; have : RN41.length = 4 := rfl; omega
  refine forA_ix D.str (fun pre rest ρ O' => ∃ (kn : List (Str × Kd)) (x4 x5 : Option D) (l : Nat), ρ = [some (.ref p), some (.lst (ms.map .str)), some (.int l), some (.ref f), x4, x5] ∧ O' = updO O f (.lst (kn.map kv)) ∧ kn.length ≤ pre.length ∧ lvs (kn.map (·.2)) + l = lf ∧ (∀ x ∈ kn.map (·.2), x.over ms ∧ x.leaves ≤ 4) ∧ (kn.map (·.1)).Sublist pre) (RN41.take n) [] _ _ ⟨[], _, _, lf, rfl, rfl, Nat.le_refl _, by simp [lvs], (fun x h => by cases h), List.Sublist.refl _⟩ ?_ ?_
  · rintro ρ O' ⟨kn, x4, x5, l, rfl, rfl, h1, h2, h3, h4⟩
    rw [List.nil_append] at h1 h4
    walk_at "kf1"
    rw [delO_updO hf]
    exact hR kn (by omega) (by omega) h3 ⟨_, h4.trans (List.take_sublist _ _), rfl⟩
  · rintro pre t rest ep ρ O' ⟨kn, x4, x5, l, rfl, rfl, h1, h2, h3, h4⟩ N hN
    rw [List.nil_append] at ep
    have hpl := congrArg List.length ep
    simp only [List.length_append, List.length_cons] at hpl
    walk_at "kf1"
    refine gSeq_step ?_
    walk_at "kf1"
    refine take_of (hpf _) (by decide) (by decide) fun q hq0 hq1 => ?_
    walk_at "kf1"
    by_cases c : 1 + q ≤ l
    · rw [if_pos c]
      refine gSeq_step ?_
      walk_at "kf1"
      refine ⟨tyOk_r updO_same, p, (1 + q).toNat, ms, by rw [show (((1 + q).toNat : Nat) : Int) = 1 + q by omega], hpf _, by omega, by omega, by omega, hm1, hm2, fun k hk ho => ?_⟩
      dsimp only
      refine ⟨sz_small (by decide), ?_⟩
      rw [rApp_r updO_same, updO_updO]
      refine ⟨sz_small (by rw [List.length_map]; omega), hN _ _ ⟨kn ++ [(t, k)], _, _, l - (1 + q).toNat, by rw [show (((l - (1 + q).toNat : Nat)) : Int) = (l : Int) - (1 + q) by omega], by rw [List.map_append]; rfl, by simp only [List.length_append, List.length_singleton]; omega, ?_, fun x hx => ?_, by rw [List.map_append]; exact List.Sublist.append h4 (List.Sublist.refl _)⟩⟩
      · rw [List.map_append, lvs_app]; simp [lvs] at *; omega
      · rw [List.map_append] at hx
        rcases List.mem_append.mp hx with h | h
        · exact h3 x h
        · simp at h; subst h; exact ⟨ho, by omega⟩
    · rw [if_neg c]
      refine hN _ _ ⟨kn, _, _, l, rfl, rfl, by rw [List.length_append]; omega, h2, h3, h4.trans (List.sublist_append_left _ _)⟩
end
end Kf
namespace Kf
open PySem PySem.Spec L2
open PyProof.Rows hiding St
local macro_rules | `(tactic| walk_at "kf") => `(tactic| simp (config := { failIfUnchanged := false }) only [startD, ap_fiEnumT, asT1_t, ap_fKGet, asStr_s, ap_fKIn, ap_fKIx, ap_gAsgL, rUnl_l, ap_fiRng3, asR3_i, rSplitO_s, ap_fOrL, rOrL_l, ap_fLcK, ap_gForK, ap_fMaxD, rMaxD_l, rMaxL_l, ap_fCallXD, ap_gForE, asLE_l, ap_fFrz, ap_fDicO, ap_fDGet, ap_fDGet1, ap_fDGet2, ap_gDPut, ap_fIsiT, ap_gForR, rRep_l, isT_i, isT_s, isT_b, isT_n, isT_t, isT_l, ap_gSeq, ap_gIf, ap_gRet, ap_gNext, ap_gSet, ap_gAsg, ap_gPar, ap_gDrop, ap_gRetF, ap_gRetN, ap_gFor, ap_gSetIx, ap_gBreak, ap_fRev, ap_fiRevR, asIR_i, rRev_l, ap_fCallX, ap_gRaise, ap_gTry, ap_gTryAs, ap_gNever, ap_fEdic, ap_fTest, ap_fOp, ap_fVar, envGet_s, patGet_s, ap_fC, ap_fCB, ap_fCons, ap_fNil, ap_fCall, ap_fAnd, ap_fOr, ap_fNot, ap_fAndV, ap_fOrV, ap_fNotV, ap_fIf, ap_fTup, ap_fLst, ap_fLstO, ap_fChain, ap_fUn, ap_fBM, ap_fBM0, ap_fPool, rPool_i, ap_fSl, ap_fPart, ap_fNoPart, asI_i, rSl_l, ap_fiRng1, ap_fiRng2, ap_fiList, ap_fiTup, ap_fiStr, ap_fiEnum, ap_fiZip, ap_fiRev, asL_l, asT_t, asSg_s, asR1_i, asR2_i, asL1_l, asL2_l, ap_fLc, ap_fLcO, ap_fYes, wipeD, lcD, isi_i_int, isi_i_bool, isi_i_str, isi_i_tuple, isi_i_list, isi_i_dict, isi_b_int, isi_b_bool, isi_b_str, isi_b_tuple, isi_b_list, isi_b_dict, isi_s_int, isi_s_bool, isi_s_str, isi_s_tuple, isi_s_list, isi_s_dict, isi_t_int, isi_t_bool, isi_t_str, isi_t_tuple, isi_t_list, isi_t_dict, isi_l_int, isi_l_bool, isi_l_str, isi_l_tuple, isi_l_list, isi_l_dict, isi_n_int, isi_n_bool, isi_n_str, isi_n_tuple, isi_n_list, isi_n_dict, isi_d_int, isi_d_bool, isi_d_str, isi_d_tuple, isi_d_list, isi_d_dict,
  deref_tup, deref_lst, deref_int, deref_str, deref_bl, deref_non, deref_scr, rLt_i, rLt_s, rLe_i, rLe_s, rInts_i, rInts0_i, rAdd_i, rAdd_s, rAdd_l, rAdd_t, rCatO_l, rNeg_i, rLen_t, rLen_l, rLen_c, rLen_s, rMax_i, rMin_i, rInt_i, rInt_b, rDivmod_i, ap_gAug, rStr_i, rList_l, rList_t, rListO_l, rListO_t, rTup_l, rTup_t,
  rIx_t0, rIx_t1, rIx_t2, rIx_t3, rIx_l0, rIx_l1, rIx_l2, rIsN_x, isNon_t, isNon_n, isNon_i, isNon_s, isNon_l, rEq_i, rEq_b, rEq_i2, rEq_b2, rJoin_m, rSplit_s, tyOk_l, tyOk_s, patD_nm, patD_tp, patDs_nil, patDs_cons, Option.bind_some, notX, notX',
  List.map_cons, List.map_nil, List.length_cons, List.length_nil, List.cons_append, List.nil_append, List.append_nil, List.replicate, List.getElem?_cons_zero, List.getElem?_cons_succ, List.set_cons_zero, List.set_cons_succ, updO_same, updO_updO,
  Nat.reduceSub, Nat.reduceAdd, Nat.reduceLeDiff, Nat.zero_add, Int.cast_ofNat_Int, Int.natCast_zero, Int.natCast_one, Int.reduceLT, Int.reduceLE, Int.reduceEq, Int.reduceAdd, Int.reduceSub, Int.reduceNeg, decide_true, decide_false, if_true, if_false, Bool.false_eq_true, eq_self, reduceIte, Bool.true_eq_false, decide_eq_true_eq, Bool.not_true, Bool.not_false, Bool.not_eq_true', decide_eq_false_iff_not, exists_eq_left', exists_eq_left, D.bl.injEq, true_and, and_true, not_true_eq_false, not_false_eq_true])
local macro_rules | `(tactic| walk_at "len") => `(tactic| (intro ds O R RE h; first | (obtain ⟨e, _⟩ := h; subst e; rfl) | (obtain ⟨_, e, _⟩ := h; subst e; rfl) | (obtain ⟨_, _, e, _⟩ := h; subst e; rfl) | (obtain ⟨_, _, _, e, _⟩ := h; subst e; rfl) | (obtain ⟨_, _, _, _, e, _⟩ := h; subst e; rfl) | (obtain ⟨_, _, _, _, _, e, _⟩ := h; subst e; rfl) | (obtain ⟨_, _, _, _, _, _, e, _⟩ := h; subst e; rfl) | (obtain ⟨_, _, _, _, _, _, _, e, _⟩ := h; subst e; rfl) | (obtain ⟨_, _, _, _, _, _, _, _, e, _⟩ := h; subst e; rfl) | (obtain ⟨_, _, _, _, _, _, _, _, _, e, _⟩ := h; subst e; rfl)))
local macro_rules | `(tactic| walk_at "kf1") => `(tactic| simp (config := { failIfUnchanged := false }) only [startD, ap_fiEnumT, asT1_t, ap_fKGet, asStr_s, ap_fKIn, ap_fKIx, ap_gAsgL, rUnl_l, ap_fiRng3, asR3_i, rSplitO_s, ap_fOrL, rOrL_l, ap_fLcK, ap_gForK, ap_fMaxD, rMaxD_l, rMaxL_l, ap_fCallXD, ap_gForE, asLE_l, ap_fFrz, ap_fDicO, ap_fDGet, ap_fDGet1, ap_fDGet2, ap_gDPut, ap_fIsiT, ap_gForR, rRep_l, isT_i, isT_s, isT_b, isT_n, isT_t, isT_l, ap_gIf, ap_gRet, ap_gNext, ap_gSet, ap_gAsg, ap_gPar, ap_gDrop, ap_gRetF, ap_gRetN, ap_gFor, ap_gSetIx, ap_gBreak, ap_fRev, ap_fiRevR, asIR_i, rRev_l, ap_fCallX, ap_gRaise, ap_gTry, ap_gTryAs, ap_gNever, ap_fEdic, ap_fTest, ap_fOp, ap_fVar, envGet_s, patGet_s, ap_fC, ap_fCB, ap_fCons, ap_fNil, ap_fCall, ap_fAnd, ap_fOr, ap_fNot, ap_fAndV, ap_fOrV, ap_fNotV, ap_fIf, ap_fTup, ap_fLst, ap_fLstO, ap_fChain, ap_fUn, ap_fBM, ap_fBM0, ap_fPool, rPool_i, ap_fSl, ap_fPart, ap_fNoPart, asI_i, rSl_l, ap_fiRng1, ap_fiRng2, ap_fiList, ap_fiTup, ap_fiStr, ap_fiEnum, ap_fiZip, ap_fiRev, asL_l, asT_t, asSg_s, asR1_i, asR2_i, asL1_l, asL2_l, ap_fLc, ap_fLcO, ap_fYes, wipeD, lcD, isi_i_int, isi_i_bool, isi_i_str, isi_i_tuple, isi_i_list, isi_i_dict, isi_b_int, isi_b_bool, isi_b_str, isi_b_tuple, isi_b_list, isi_b_dict, isi_s_int, isi_s_bool, isi_s_str, isi_s_tuple, isi_s_list, isi_s_dict, isi_t_int, isi_t_bool, isi_t_str, isi_t_tuple, isi_t_list, isi_t_dict, isi_l_int, isi_l_bool, isi_l_str, isi_l_tuple, isi_l_list, isi_l_dict, isi_n_int, isi_n_bool, isi_n_str, isi_n_tuple, isi_n_list, isi_n_dict, isi_d_int, isi_d_bool, isi_d_str, isi_d_tuple, isi_d_list, isi_d_dict,
  deref_tup, deref_lst, deref_int, deref_str, deref_bl, deref_non, deref_scr, rLt_i, rLt_s, rLe_i, rLe_s, rInts_i, rInts0_i, rAdd_i, rAdd_s, rAdd_l, rAdd_t, rCatO_l, rNeg_i, rLen_t, rLen_l, rLen_c, rLen_s, rMax_i, rMin_i, rInt_i, rInt_b, rDivmod_i, ap_gAug, rStr_i, rList_l, rList_t, rListO_l, rListO_t, rTup_l, rTup_t,
  rIx_t0, rIx_t1, rIx_t2, rIx_t3, rIx_l0, rIx_l1, rIx_l2, rIsN_x, isNon_t, isNon_n, isNon_i, isNon_s, isNon_l, rEq_i, rEq_b, rEq_i2, rEq_b2, rJoin_m, rSplit_s, tyOk_l, tyOk_s, patD_nm, patD_tp, patDs_nil, patDs_cons, Option.bind_some, notX, notX',
  List.map_cons, List.map_nil, List.length_cons, List.length_nil, List.cons_append, List.nil_append, List.append_nil, List.replicate, List.getElem?_cons_zero, List.getElem?_cons_succ, List.set_cons_zero, List.set_cons_succ, updO_same, updO_updO,
  Nat.reduceSub, Nat.reduceAdd, Nat.reduceLeDiff, Nat.zero_add, Int.cast_ofNat_Int, Int.natCast_zero, Int.natCast_one, Int.reduceLT, Int.reduceLE, Int.reduceEq, Int.reduceAdd, Int.reduceSub, Int.reduceNeg, decide_true, decide_false, if_true, if_false, Bool.false_eq_true, eq_self, reduceIte, Bool.true_eq_false, decide_eq_true_eq, Bool.not_true, Bool.not_false, Bool.not_eq_true', decide_eq_false_iff_not, exists_eq_left', exists_eq_left, D.bl.injEq, true_and, and_true, not_true_eq_false, not_false_eq_true])
section
variable {P : Program} {w : World} {K : PySem.W.Frag} {mg : Str → Option Value} {base : Heap}
local macro_rules | `(tactic| walk_at "tg") => `(tactic| simp (config := { failIfUnchanged := false }) only [te_name_take, te_name_give, te_name_pair, te_name_first, te_name_second, te_name_to, te_name_both, te_name_one, te_name_mark, te_name_name, te_name_thing, te_name_at, te_thing_take, te_thing_give, te_thing_pair, te_thing_first, te_thing_second, te_thing_to, te_thing_both, te_thing_one, te_thing_mark, te_thing_name, te_thing_thing, te_thing_at, te_take_take, te_take_give, te_take_pair, te_take_first, te_take_second, te_take_to, te_take_both, te_take_one, te_take_mark, te_take_name, te_take_thing, te_take_at, te_give_take, te_give_give, te_give_pair, te_give_first, te_give_second, te_give_to, te_give_both, te_give_one, te_give_mark, te_give_name, te_give_thing, te_give_at, te_pair_take, te_pair_give, te_pair_pair, te_pair_first, te_pair_second, te_pair_to, te_pair_both, te_pair_one, te_pair_mark, te_pair_name, te_pair_thing, te_pair_at, te_first_take, te_first_give, te_first_pair, te_first_first, te_first_second, te_first_to, te_first_both, te_first_one, te_first_mark, te_first_name, te_first_thing, te_first_at, te_second_take, te_second_give, te_second_pair, te_second_first, te_second_second, te_second_to, te_second_both, te_second_one, te_second_mark, te_second_name, te_second_thing, te_second_at, te_mark_take, te_mark_give, te_mark_pair, te_mark_first, te_mark_second, te_mark_to, te_mark_both, te_mark_one, te_mark_mark, te_mark_name, te_mark_thing, te_mark_at, te_one_take, te_one_give, te_one_pair, te_one_first, te_one_second, te_one_to, te_one_both, te_one_one, te_one_mark, te_one_name, te_one_thing, te_one_at, te_to_take, te_to_give, te_to_pair, te_to_first, te_to_second, te_to_to, te_to_both, te_to_one, te_to_mark, te_to_name, te_to_thing, te_to_at, te_both_take, te_both_give, te_both_pair, te_both_first, te_both_second, te_both_to, te_both_both, te_both_one, te_both_mark, te_both_name, te_both_thing, te_both_at, te_at_take, te_at_give, te_at_pair, te_at_first, te_at_second, te_at_to, te_at_both, te_at_one, te_at_mark, te_at_name, te_at_thing, te_at_at, ti4_name, ti4_thing, ti4_take, ti4_give, ti4_pair, ti4_first, ti4_second, ti2_name, ti2_thing, ti2_take, ti2_give, ti2_pair, ti2_first, ti2_second, szT_0, szT_1, szT_2, szT_3, szT_4, szT_5, szT_6, szT_7, szT_8, szT_9, szT_10, szT_11, szT_12, Bool.not_true, Bool.not_false, true_and])
theorem ok_ltree (T : Tx K mg) : ∀ n, FO__law_tree P w base T (n + 1) (spLTree n)
  | 0 => fnUp (none_left fun ds O R RE ⟨p, ms, had, r, _, _, _, _, h, _⟩ => by omega) (Nat.zero_le _)
  | n + 1 => by
    refine fnd__law_tree T (ok_take T.n__law_take) (ok_ltree T n) (by walk_at "len") ?_
    rintro ds O R RE ⟨p, ms, had, r, rfl, hp, hm, hh, hrn, hr8, hR⟩
    unfold g__law_tree
    walk_at "kf"
    rw [rSort_l]
    have hml := hm.2.1
    refine ⟨by omega, fun ms' hp' hs' => ?_⟩
    have hup : Up ms' := up_of hs' (hp'.nodup_iff.mpr hm.2.2.1)
    have hok : ∀ m ∈ ms', PyData.strOk m = true := fun m h => (hm.2.2.2 m (hp'.mem_iff.mp h)).ok
    have hl' : ms'.length ≤ 4 := by rw [hp'.length_eq]; exact hml
    walk_at "kf"
    refine lcA_sub (fun m => m ∈ had) D.str D.str ms' _ _ (sz_small (by simp only [List.length_nil]; omega)) ?_ ?_
    · intro m hmm Q1 Q2 h1 h2
      walk_at "kf"
      rw [rIn_strs (hok m hmm) (fun t ht => hok t (hp'.mem_iff.mpr (hh t ht)))]
      walk_at "kf"
      by_cases c : m ∈ had
      · rw [if_pos c]
        exact h1
      · rw [if_neg c]
        refine take_of hp (by decide) (by decide) fun r hr0 hr1 => ?_
        walk_at "kf"
        split
        · exact h1
        · exact h2 c
    · intro own hsub hmust
      rw [List.nil_append]
      have hown : ∀ m ∈ had, m ∈ own := fun m h => hmust m (hp'.mem_iff.mpr (hh m h)) h
      walk_at "kf"
      refine take_of hp (by decide) (by decide) fun many hm0 hm1 => ?_
      walk_at "kf"
      cases r with
      | zero =>
        walk_at "kf"
        refine ⟨Or.inr ⟨by decide, by decide⟩, ?_⟩
        rw [Int.mul_zero]
        walk_at "kf"
        refine ⟨by decide, by decide, ?_⟩
        have e : rangeD 0 (Int.toNat 0) = [] := rfl
        rw [e]
        walk_at "kf"
        refine ⟨sz_small (by decide), ?_⟩
        have := hR ms' (.nd own []) hp' hup (good_leaf hsub hown)
        simpa only [dT, dTs] using this
      | succ r =>
        have hpos : (0 : Int) < ((r + 1 : Nat) : Int) := by omega
        simp only [hpos, decide_true, if_true]
        walk_at "kf"
        refine ⟨Or.inr ⟨by decide, by decide⟩, ?_⟩
        rw [Int.mul_one]
        refine ⟨by omega, by omega, ?_⟩
        rw [rangeD_map]
        refine lcA_all (fun t => GoodT ms' own r t) _ dT (List.range many.toNat) _ _ (sz_small (by rw [List.length_range]; simp only [List.length_nil]; omega)) ?_ ?_
        · intro i hi Q' hQ
          walk_at "kf"
          rw [show ((r + 1 : Nat) : Int) - 1 = (r : Int) by omega]
          refine ⟨p, ms, own, r, rfl, hp, hm, fun m h => hp'.mem_iff.mp (hsub.mem h), by omega, by omega, fun ms2 t h1 h2 h3 => hQ t ?_⟩
          rw [up_uniq hup h2 (hp'.trans h1.symm)]
          exact h3
        · intro ts hts hgood
          rw [List.length_range] at hts
          rw [List.nil_append]
          walk_at "kf"
          refine ⟨sz_small (by decide), ?_⟩
          have := hR ms' (.nd own ts) hp' hup (good_node hsub hown (by omega) hgood)
          simpa only [dT, dTs_map] using this
end
end Kf
namespace Kf
open PySem PySem.Spec L2
open PyProof.Rows hiding St
local macro_rules | `(tactic| walk_at "kf") => `(tactic| simp (config := { failIfUnchanged := false }) only [startD, ap_fiEnumT, asT1_t, ap_fKGet, asStr_s, ap_fKIn, ap_fKIx, ap_gAsgL, rUnl_l, ap_fiRng3, asR3_i, rSplitO_s, ap_fOrL, rOrL_l, ap_fLcK, ap_gForK, ap_fMaxD, rMaxD_l, rMaxL_l, ap_fCallXD, ap_gForE, asLE_l, ap_fFrz, ap_fDicO, ap_fDGet, ap_fDGet1, ap_fDGet2, ap_gDPut, ap_fIsiT, ap_gForR, rRep_l, isT_i, isT_s, isT_b, isT_n, isT_t, isT_l, ap_gSeq, ap_gIf, ap_gRet, ap_gNext, ap_gSet, ap_gAsg, ap_gPar, ap_gDrop, ap_gRetF, ap_gRetN, ap_gFor, ap_gSetIx, ap_gBreak, ap_fRev, ap_fiRevR, asIR_i, rRev_l, ap_fCallX, ap_gRaise, ap_gTry, ap_gTryAs, ap_gNever, ap_fEdic, ap_fTest, ap_fOp, ap_fVar, envGet_s, patGet_s, ap_fC, ap_fCB, ap_fCons, ap_fNil, ap_fCall, ap_fAnd, ap_fOr, ap_fNot, ap_fAndV, ap_fOrV, ap_fNotV, ap_fIf, ap_fTup, ap_fLst, ap_fLstO, ap_fChain, ap_fUn, ap_fBM, ap_fBM0, ap_fPool, rPool_i, ap_fSl, ap_fPart, ap_fNoPart, asI_i, rSl_l, ap_fiRng1, ap_fiRng2, ap_fiList, ap_fiTup, ap_fiStr, ap_fiEnum, ap_fiZip, ap_fiRev, asL_l, asT_t, asSg_s, asR1_i, asR2_i, asL1_l, asL2_l, ap_fLc, ap_fLcO, ap_fYes, wipeD, lcD, isi_i_int, isi_i_bool, isi_i_str, isi_i_tuple, isi_i_list, isi_i_dict, isi_b_int, isi_b_bool, isi_b_str, isi_b_tuple, isi_b_list, isi_b_dict, isi_s_int, isi_s_bool, isi_s_str, isi_s_tuple, isi_s_list, isi_s_dict, isi_t_int, isi_t_bool, isi_t_str, isi_t_tuple, isi_t_list, isi_t_dict, isi_l_int, isi_l_bool, isi_l_str, isi_l_tuple, isi_l_list, isi_l_dict, isi_n_int, isi_n_bool, isi_n_str, isi_n_tuple, isi_n_list, isi_n_dict, isi_d_int, isi_d_bool, isi_d_str, isi_d_tuple, isi_d_list, isi_d_dict,
  deref_tup, deref_lst, deref_int, deref_str, deref_bl, deref_non, deref_scr, rLt_i, rLt_s, rLe_i, rLe_s, rInts_i, rInts0_i, rAdd_i, rAdd_s, rAdd_l, rAdd_t, rCatO_l, rNeg_i, rLen_t, rLen_l, rLen_c, rLen_s, rMax_i, rMin_i, rInt_i, rInt_b, rDivmod_i, ap_gAug, rStr_i, rList_l, rList_t, rListO_l, rListO_t, rTup_l, rTup_t,
  rIx_t0, rIx_t1, rIx_t2, rIx_t3, rIx_l0, rIx_l1, rIx_l2, rIsN_x, isNon_t, isNon_n, isNon_i, isNon_s, isNon_l, rEq_i, rEq_b, rEq_i2, rEq_b2, rJoin_m, rSplit_s, tyOk_l, tyOk_s, patD_nm, patD_tp, patDs_nil, patDs_cons, Option.bind_some, notX, notX',
  List.map_cons, List.map_nil, List.length_cons, List.length_nil, List.cons_append, List.nil_append, List.append_nil, List.replicate, List.getElem?_cons_zero, List.getElem?_cons_succ, List.set_cons_zero, List.set_cons_succ, updO_same, updO_updO,
  Nat.reduceSub, Nat.reduceAdd, Nat.reduceLeDiff, Nat.zero_add, Int.cast_ofNat_Int, Int.natCast_zero, Int.natCast_one, Int.reduceLT, Int.reduceLE, Int.reduceEq, Int.reduceAdd, Int.reduceSub, Int.reduceNeg, decide_true, decide_false, if_true, if_false, Bool.false_eq_true, eq_self, reduceIte, Bool.true_eq_false, decide_eq_true_eq, Bool.not_true, Bool.not_false, Bool.not_eq_true', decide_eq_false_iff_not, exists_eq_left', exists_eq_left, D.bl.injEq, true_and, and_true, not_true_eq_false, not_false_eq_true])
local macro_rules | `(tactic| walk_at "len") => `(tactic| (intro ds O R RE h; first | (obtain ⟨e, _⟩ := h; subst e; rfl) | (obtain ⟨_, e, _⟩ := h; subst e; rfl) | (obtain ⟨_, _, e, _⟩ := h; subst e; rfl) | (obtain ⟨_, _, _, e, _⟩ := h; subst e; rfl) | (obtain ⟨_, _, _, _, e, _⟩ := h; subst e; rfl) | (obtain ⟨_, _, _, _, _, e, _⟩ := h; subst e; rfl) | (obtain ⟨_, _, _, _, _, _, e, _⟩ := h; subst e; rfl) | (obtain ⟨_, _, _, _, _, _, _, e, _⟩ := h; subst e; rfl) | (obtain ⟨_, _, _, _, _, _, _, _, e, _⟩ := h; subst e; rfl) | (obtain ⟨_, _, _, _, _, _, _, _, _, e, _⟩ := h; subst e; rfl)))
local macro_rules | `(tactic| walk_at "kf1") => `(tactic| simp (config := { failIfUnchanged := false }) only [startD, ap_fiEnumT, asT1_t, ap_fKGet, asStr_s, ap_fKIn, ap_fKIx, ap_gAsgL, rUnl_l, ap_fiRng3, asR3_i, rSplitO_s, ap_fOrL, rOrL_l, ap_fLcK, ap_gForK, ap_fMaxD, rMaxD_l, rMaxL_l, ap_fCallXD, ap_gForE, asLE_l, ap_fFrz, ap_fDicO, ap_fDGet, ap_fDGet1, ap_fDGet2, ap_gDPut, ap_fIsiT, ap_gForR, rRep_l, isT_i, isT_s, isT_b, isT_n, isT_t, isT_l, ap_gIf, ap_gRet, ap_gNext, ap_gSet, ap_gAsg, ap_gPar, ap_gDrop, ap_gRetF, ap_gRetN, ap_gFor, ap_gSetIx, ap_gBreak, ap_fRev, ap_fiRevR, asIR_i, rRev_l, ap_fCallX, ap_gRaise, ap_gTry, ap_gTryAs, ap_gNever, ap_fEdic, ap_fTest, ap_fOp, ap_fVar, envGet_s, patGet_s, ap_fC, ap_fCB, ap_fCons, ap_fNil, ap_fCall, ap_fAnd, ap_fOr, ap_fNot, ap_fAndV, ap_fOrV, ap_fNotV, ap_fIf, ap_fTup, ap_fLst, ap_fLstO, ap_fChain, ap_fUn, ap_fBM, ap_fBM0, ap_fPool, rPool_i, ap_fSl, ap_fPart, ap_fNoPart, asI_i, rSl_l, ap_fiRng1, ap_fiRng2, ap_fiList, ap_fiTup, ap_fiStr, ap_fiEnum, ap_fiZip, ap_fiRev, asL_l, asT_t, asSg_s, asR1_i, asR2_i, asL1_l, asL2_l, ap_fLc, ap_fLcO, ap_fYes, wipeD, lcD, isi_i_int, isi_i_bool, isi_i_str, isi_i_tuple, isi_i_list, isi_i_dict, isi_b_int, isi_b_bool, isi_b_str, isi_b_tuple, isi_b_list, isi_b_dict, isi_s_int, isi_s_bool, isi_s_str, isi_s_tuple, isi_s_list, isi_s_dict, isi_t_int, isi_t_bool, isi_t_str, isi_t_tuple, isi_t_list, isi_t_dict, isi_l_int, isi_l_bool, isi_l_str, isi_l_tuple, isi_l_list, isi_l_dict, isi_n_int, isi_n_bool, isi_n_str, isi_n_tuple, isi_n_list, isi_n_dict, isi_d_int, isi_d_bool, isi_d_str, isi_d_tuple, isi_d_list, isi_d_dict,
  deref_tup, deref_lst, deref_int, deref_str, deref_bl, deref_non, deref_scr, rLt_i, rLt_s, rLe_i, rLe_s, rInts_i, rInts0_i, rAdd_i, rAdd_s, rAdd_l, rAdd_t, rCatO_l, rNeg_i, rLen_t, rLen_l, rLen_c, rLen_s, rMax_i, rMin_i, rInt_i, rInt_b, rDivmod_i, ap_gAug, rStr_i, rList_l, rList_t, rListO_l, rListO_t, rTup_l, rTup_t,
  rIx_t0, rIx_t1, rIx_t2, rIx_t3, rIx_l0, rIx_l1, rIx_l2, rIsN_x, isNon_t, isNon_n, isNon_i, isNon_s, isNon_l, rEq_i, rEq_b, rEq_i2, rEq_b2, rJoin_m, rSplit_s, tyOk_l, tyOk_s, patD_nm, patD_tp, patDs_nil, patDs_cons, Option.bind_some, notX, notX',
  List.map_cons, List.map_nil, List.length_cons, List.length_nil, List.cons_append, List.nil_append, List.append_nil, List.replicate, List.getElem?_cons_zero, List.getElem?_cons_succ, List.set_cons_zero, List.set_cons_succ, updO_same, updO_updO,
  Nat.reduceSub, Nat.reduceAdd, Nat.reduceLeDiff, Nat.zero_add, Int.cast_ofNat_Int, Int.natCast_zero, Int.natCast_one, Int.reduceLT, Int.reduceLE, Int.reduceEq, Int.reduceAdd, Int.reduceSub, Int.reduceNeg, decide_true, decide_false, if_true, if_false, Bool.false_eq_true, eq_self, reduceIte, Bool.true_eq_false, decide_eq_true_eq, Bool.not_true, Bool.not_false, Bool.not_eq_true', decide_eq_false_iff_not, exists_eq_left', exists_eq_left, D.bl.injEq, true_and, and_true, not_true_eq_false, not_false_eq_true])
section
variable {P : Program} {w : World} {K : PySem.W.Frag} {mg : Str → Option Value} {base : Heap}
local macro_rules | `(tactic| walk_at "tg") => `(tactic| simp (config := { failIfUnchanged := false }) only [te_name_take, te_name_give, te_name_pair, te_name_first, te_name_second, te_name_to, te_name_both, te_name_one, te_name_mark, te_name_name, te_name_thing, te_name_at, te_thing_take, te_thing_give, te_thing_pair, te_thing_first, te_thing_second, te_thing_to, te_thing_both, te_thing_one, te_thing_mark, te_thing_name, te_thing_thing, te_thing_at, te_take_take, te_take_give, te_take_pair, te_take_first, te_take_second, te_take_to, te_take_both, te_take_one, te_take_mark, te_take_name, te_take_thing, te_take_at, te_give_take, te_give_give, te_give_pair, te_give_first, te_give_second, te_give_to, te_give_both, te_give_one, te_give_mark, te_give_name, te_give_thing, te_give_at, te_pair_take, te_pair_give, te_pair_pair, te_pair_first, te_pair_second, te_pair_to, te_pair_both, te_pair_one, te_pair_mark, te_pair_name, te_pair_thing, te_pair_at, te_first_take, te_first_give, te_first_pair, te_first_first, te_first_second, te_first_to, te_first_both, te_first_one, te_first_mark, te_first_name, te_first_thing, te_first_at, te_second_take, te_second_give, te_second_pair, te_second_first, te_second_second, te_second_to, te_second_both, te_second_one, te_second_mark, te_second_name, te_second_thing, te_second_at, te_mark_take, te_mark_give, te_mark_pair, te_mark_first, te_mark_second, te_mark_to, te_mark_both, te_mark_one, te_mark_mark, te_mark_name, te_mark_thing, te_mark_at, te_one_take, te_one_give, te_one_pair, te_one_first, te_one_second, te_one_to, te_one_both, te_one_one, te_one_mark, te_one_name, te_one_thing, te_one_at, te_to_take, te_to_give, te_to_pair, te_to_first, te_to_second, te_to_to, te_to_both, te_to_one, te_to_mark, te_to_name, te_to_thing, te_to_at, te_both_take, te_both_give, te_both_pair, te_both_first, te_both_second, te_both_to, te_both_both, te_both_one, te_both_mark, te_both_name, te_both_thing, te_both_at, te_at_take, te_at_give, te_at_pair, te_at_first, te_at_second, te_at_to, te_at_both, te_at_one, te_at_mark, te_at_name, te_at_thing, te_at_at, ti4_name, ti4_thing, ti4_take, ti4_give, ti4_pair, ti4_first, ti4_second, ti2_name, ti2_thing, ti2_take, ti2_give, ti2_pair, ti2_first, ti2_second, szT_0, szT_1, szT_2, szT_3, szT_4, szT_5, szT_6, szT_7, szT_8, szT_9, szT_10, szT_11, szT_12, Bool.not_true, Bool.not_false, true_and])
theorem ok_lleaves (T : Tx K mg) : ∀ n, FO__law_leaves P w base T n (spLeaves n)
  | 0 => none_left fun ds O R RE ⟨k, _, h, _⟩ => by omega
  | n + 1 => by
    refine fnd__law_leaves T (ok_lleaves T n) (by walk_at "len") ?_
    rintro ds O R RE ⟨k, rfl, hd, hR⟩
    unfold g__law_leaves
    cases k <;> simp only [dK, Kd.leaves, Kd.depth, Int.natCast_add] at hR hd ⊢ <;> walk_at "kf"
    · exact hR
    · exact hR
    all_goals
      refine ⟨_, rfl, by omega, ⟨_, rfl, by omega, ?_⟩⟩
      walk_at "kf"
      exact hR
theorem over_mks {k : Kd} {ms : List Str} (ho : k.over ms) (hm : MarkL ms) : k.mks := fun m h => isMk_B (hm.2.2.2 m ((over_iff k).mp ho m h))
theorem sum_lvs : ∀ kn : List (Str × Kd), (kn.map fun x => (x.2.leaves : Int)).sum = (lvs (kn.map (·.2)) : Nat)
  | [] => rfl
  | x :: r => by
    have := sum_lvs r
    simp only [lvs, List.map_cons, List.sum_cons, List.map_map] at *
    rw [this]; push_cast; rfl
theorem lk_of {kn : List (Str × Kd)} {k : Kd} (hm : ∀ x ∈ kn.map (·.2) ++ [k], x.mks) (hl : lvs (kn.map (·.2)) + k.leaves ≤ 12) : LK (kn.map (·.2) ++ [k]) := fun x hx => by
  refine ⟨hm x hx, ?_⟩
  have h1 := x.depth_lt
  have h2 : x.leaves ≤ lvs (kn.map (·.2) ++ [k]) := mem_sum hx
  rw [lvs_app] at h2
  simp [lvs] at h2 hl
  omega
theorem rn41_ok : ∀ x ∈ RN41, PyData.strOk x = true := by decide +kernel
/-- drawn trees -/
theorem good_is {ms ms' : List Str} {had : List Str} {r : Nat} {t : Tr} (h : GoodT ms' had r t) (hp : ms'.Perm ms) (hu : Up ms') (hm : MarkL ms) (hr : r ≤ 3) : isTr 40 (dT t) = true ∧ okE (dT t) = true ∧ wt (dT t) ≤ 1000 := by
  have hml : ms'.length ≤ 4 := by rw [hp.length_eq]; exact hm.2.1
  have hmk : ∀ s ∈ subs t, ∀ m ∈ s.ms, isMarkB m = true := fun s hs m hmm => isMk_B (hm.2.2.2 m (hp.mem_iff.mp ((h.over s hs).subset hmm)))
  refine ⟨tr_isTr 40 t (by have := h.dep; omega) h.mono fun s hs => ⟨hu.sub (h.over s hs), hmk s hs⟩, okE_dTc t hmk, ?_⟩
  have h1 := wt_dTc 4 t fun s hs => Nat.le_trans (h.over s hs).length_le hml
  have h2 := h.size
  have h3 : 2 ^ (r + 1) ≤ 2 ^ 4 := Nat.pow_le_pow_right (by decide) (by omega)
  have h4 : (subs t).length * (3 + 4) ≤ 16 * 7 := Nat.mul_le_mul (by omega) (by omega)
  omega
theorem ok_law (T : Tx K mg) : FO_law P w base T 110 (lawSp 63) := by
  refine fnd_law T (ok_pool T.n__law_pool T.m_len) (ok_marks T.n__law_marks T.n__law_take T.m_range T.m_int) (fnUp (ok_row41 T) (by omega)) (fnUp (ok_made39 T 4) (by omega)) (fnUp (ok_lleaves T 100) (by omega)) (fnUp (ok_barring T) (by omega)) (fnUp (ok_ltree T 10) (by omega)) (fnUp (ok_holds T 40) (by omega)) (fnUp (ok_bars T) (by omega)) (by walk_at "len") ?_
  rintro ds O R RE ⟨ns, rfl, hl, hR⟩
  unfold g_law
  refine gSeq_step ?_
  walk_at "kf1"
  obtain ⟨b1, b2, b3⟩ := rngBound ns.length 12 (by decide) (by decide)
  refine ⟨b1, b2, forD_inv (fun ρ O => ∃ x1 x2 x3 x4 x5 x6 x7 x8, ρ = [some (.scr ns), x1, x2, x3, x4, x5, x6, x7, x8, none, none]) _ _ _ ⟨_, _, _, _, _, _, _, _, rfl⟩ (fun ρ O _ => ?_) ?_⟩
  · walk_at "kf"
    exact hR _
  rintro d hd ρ O' ⟨x1, x2, x3, x4, x5, x6, x7, x8, rfl⟩ Nx hN
  obtain ⟨i, hi, rfl⟩ := mem_rangeD hd
  walk_at "kf1"
  refine gSeq_step ?_
  walk_at "kf1"
  refine ⟨ns, _, rfl, by omega, by omega, fun p hp => ?_⟩
  try dsimp only
  have hpp : updO O' p .pool p = some .pool := updO_same
  generalize updO O' p .pool = O1 at hpp ⊢
  refine gSeq_step ?_
  walk_at "kf1"
  refine ⟨p, rfl, hpp, fun ms hms => ?_⟩
  try dsimp only
  have hso : ∀ m ∈ ms, PyData.strOk m = true := fun m hm => (hms.2.2.2 m hm).ok
  refine gSeq_step ?_
  walk_at "kf1"
  refine ⟨p, ms, 6, rfl, hpp, hms.1, by have := hms.2.1; omega, by omega, fun kn h1 h2 h3 h4 => ?_⟩
  try dsimp only
  refine gSeq_step ?_
  walk_at "kf1"
  refine lcA_map kv (fun x => dK x.2) kn [] _ (sz_small (by simp only [List.length_nil]; omega)) (fun x hx Q' hQ => ?_) ?_
  · simp only [kv]
    walk_at "kf1"
    exact hQ
  rw [List.nil_append, show (kn.map fun x => dK x.2) = (kn.map (·.2)).map dK by rw [List.map_map]; rfl]
  refine ⟨p, kn.map (·.2), ms, 3, rfl, hpp, hms.1, by have := hms.2.1; omega, hso, fun k hk => ⟨(h3 k hk).1, by have := (h3 k hk).2; omega⟩, by rw [List.length_map]; omega, by omega, by omega, fun k hk hko hkl => ?_⟩
  try dsimp only
  have hkl : k.leaves ≤ 48 := hkl
  have hkd := k.depth_lt
  walk_at "kf1"
  refine lcA_map kv (fun x => D.int x.2.leaves) kn [] _ (sz_small (by simp only [List.length_nil]; omega)) (fun x hx Q' hQ => ?_) ?_
  · simp only [kv]
    walk_at "kf1"
    have := (h3 x.2 (List.mem_map_of_mem hx)).2
    exact ⟨x.2, rfl, by have := x.2.depth_lt; omega, hQ⟩
  rw [List.nil_append, show (kn.map fun x => D.int x.2.leaves) = (kn.map fun x => (x.2.leaves : Int)).map D.int by rw [List.map_map]; rfl]
  simp only [rSumD, deref, asInts_map, sum_lvs]
  refine ⟨k, rfl, by omega, ?_⟩
  walk_at "kf1"
  by_cases c : ((lvs (kn.map (·.2)) : Nat) : Int) + (k.leaves : Int) ≤ 12
  · rw [if_pos c]
    have hlk : LK (kn.map (·.2) ++ [k]) := (lk_of (kn := kn) (k := k) (fun x hx => by
      rcases List.mem_append.mp hx with hx | hx
      · exact over_mks (h3 x hx).1 hms
      · rw [List.mem_singleton.mp hx]; exact over_mks hko hms) (by omega))
    refine gSeq_step ?_
    walk_at "kf1"
    refine ⟨kn, k, rfl, hlk, by omega, fun _ => ?_, fun st hst => absurd hk hst.no⟩
    try dsimp only
    walk_at "kf1"
    refine ⟨by decide, by decide, forD_inv (fun ρ O => O = O1 ∧ ∃ x6 x7 x8, ρ = [some (.scr ns), some (.int (0 + (i : Int))), some (.ref p), some (.lst (ms.map .str)), some (.lst (kn.map kv)), some (dK k), x6, x7, x8, none, none]) _ _ _ ⟨rfl, _, _, _, rfl⟩ (fun ρ O ⟨h, x6, x7, x8, e⟩ => by rw [e]; exact hN _ _ ⟨_, _, _, _, _, _, _, _, rfl⟩) ?_⟩
    rintro d hd ρ O2 ⟨rfl, x6, x7, x8, rfl⟩ N2 hN2
    walk_at "kf1"
    refine gSeq_step ?_
    walk_at "kf1"
    refine ⟨sz_small (by decide), ?_⟩
    refine ⟨p, ms, [], 3, rfl, hpp, hms, (fun m h => by cases h), by omega, by omega, fun ms' t hperm hup hg => ?_⟩
    try dsimp only
    obtain ⟨g1, g2, g3⟩ := good_is hg hperm hup hms (by omega)
    have hok := hg.ok hperm hms (by omega)
    have hdep := hg.dep
    refine gSeq_step ?_
    walk_at "kf1"
    refine lcA_filter (fun x : Str × Kd => !forces x.2 t) kv (fun x => D.str x.1) kn [] _ (sz_small (by simp only [List.length_nil]; omega)) (fun x hx Q1 Q2 q1 q2 => ?_) ?_
    · simp only [kv]
      walk_at "kf1"
      have hx2 := h3 x.2 (List.mem_map_of_mem hx)
      refine ⟨t, x.2, rfl, by omega, by have := x.2.depth_lt; omega, by have := x.2.depth_lt; omega, over_ok hso _ hx2.1, hok, ?_⟩
      cases e : forces x.2 t with
      | true =>
        walk_at "kf1"
        exact q2 (by rw [e]; rfl)
      | false =>
        walk_at "kf1"
        exact q1 (by rw [e]; rfl)
    rw [List.nil_append]
    walk_at "kf1"
    refine ⟨kn, k, dT t, rfl, g2, g3, by omega, fun x hx => ?_, over_ok hso k hko, by omega, fun h => (by rw [g1] at h; cases h), fun t' ht' _ => ?_⟩
    · have hx2 := h3 x.2 (List.mem_map_of_mem hx)
      exact ⟨over_ok hso _ hx2.1, by have := x.2.depth_lt; omega⟩
    have ht' := dT_inj ht'
    subst ht'
    have hb : barsB (kn.map (·.2)) k t = false := by
      unfold barsB
      cases e : (kn.map (·.2)).all (fun x => forces x t) with
      | false => rfl
      | true =>
        rw [hadK_sem.mp hk t hg.mono fun x hx => List.all_eq_true.mp e x hx]; rfl
    rw [hb]
    try dsimp only
    rw [rIsB_b]
    refine ⟨_, rfl, ?_⟩
    rw [if_neg (by decide)]
    walk_at "kf1"
    have hnm : ∀ x ∈ kn, PyData.strOk x.1 = true := fun x hx => by
      obtain ⟨nl, hn1, hn2⟩ := h4
      exact rn41_ok _ (hn1.subset (by rw [← hn2]; exact List.mem_map_of_mem hx))
    refine ⟨sz_small (by decide), ?_⟩
    rw [rEq_nilA rfl (by
      rw [isPys_all, List.all_eq_true]
      intro d hd
      obtain ⟨x, hx, rfl⟩ := List.mem_map.mp hd
      exact hnm x (List.mem_filter.mp hx).1)]
    have fin : N2 [some (.scr ns), some (.int (0 + (i : Int))), some (.ref p), some (.lst (ms.map .str)), some (.lst (kn.map kv)), some (dK k), some d, some (dT t), some (.lst ((kn.filter fun x => !forces x.2 t).map fun x => D.str x.1)), none, none] O2 := hN2 _ _ ⟨rfl, _, _, _, rfl⟩
    rw [Bool.false_xor]
    refine ⟨_, rfl, ?_⟩
    cases e : (kn.filter fun x => !forces x.2 t) with
    | nil =>
      rw [e] at fin
      rw [if_pos (by rfl)]
      have hall : ∀ x ∈ kn.map (·.2), forces x t = true := fun x hx => by
        obtain ⟨y, hy, rfl⟩ := List.mem_map.mp hx
        cases ef : forces y.2 t with
        | true => rfl
        | false =>
          have : y ∈ kn.filter fun x => !forces x.2 t := List.mem_filter.mpr ⟨hy, by rw [ef]; rfl⟩
          rw [e] at this; cases this
      refine ⟨t, k, rfl, by omega, by omega, by omega, over_ok hso k hko, hok, ?_⟩
      rw [hadK_sem.mp hk t hg.mono hall]
      exact ⟨_, rfl, by rw [if_neg (by decide)]; exact fin⟩
    | cons x r =>
      rw [e] at fin
      rw [if_neg (by simp)]
      exact fin
  · rw [if_neg c]
    exact hN _ _ ⟨_, _, _, _, _, _, _, _, rfl⟩
end
end Kf
namespace Kf
open PySem PySem.Spec L2
open PyProof.Rows hiding St
local macro_rules | `(tactic| walk_at "kf") => `(tactic| simp (config := { failIfUnchanged := false }) only [startD, ap_fiEnumT, asT1_t, ap_fKGet, asStr_s, ap_fKIn, ap_fKIx, ap_gAsgL, rUnl_l, ap_fiRng3, asR3_i, rSplitO_s, ap_fOrL, rOrL_l, ap_fLcK, ap_gForK, ap_fMaxD, rMaxD_l, rMaxL_l, ap_fCallXD, ap_gForE, asLE_l, ap_fFrz, ap_fDicO, ap_fDGet, ap_fDGet1, ap_fDGet2, ap_gDPut, ap_fIsiT, ap_gForR, rRep_l, isT_i, isT_s, isT_b, isT_n, isT_t, isT_l, ap_gSeq, ap_gIf, ap_gRet, ap_gNext, ap_gSet, ap_gAsg, ap_gPar, ap_gDrop, ap_gRetF, ap_gRetN, ap_gFor, ap_gSetIx, ap_gBreak, ap_fRev, ap_fiRevR, asIR_i, rRev_l, ap_fCallX, ap_gRaise, ap_gTry, ap_gTryAs, ap_gNever, ap_fEdic, ap_fTest, ap_fOp, ap_fVar, envGet_s, patGet_s, ap_fC, ap_fCB, ap_fCons, ap_fNil, ap_fCall, ap_fAnd, ap_fOr, ap_fNot, ap_fAndV, ap_fOrV, ap_fNotV, ap_fIf, ap_fTup, ap_fLst, ap_fLstO, ap_fChain, ap_fUn, ap_fBM, ap_fBM0, ap_fPool, rPool_i, ap_fSl, ap_fPart, ap_fNoPart, asI_i, rSl_l, ap_fiRng1, ap_fiRng2, ap_fiList, ap_fiTup, ap_fiStr, ap_fiEnum, ap_fiZip, ap_fiRev, asL_l, asT_t, asSg_s, asR1_i, asR2_i, asL1_l, asL2_l, ap_fLc, ap_fLcO, ap_fYes, wipeD, lcD, isi_i_int, isi_i_bool, isi_i_str, isi_i_tuple, isi_i_list, isi_i_dict, isi_b_int, isi_b_bool, isi_b_str, isi_b_tuple, isi_b_list, isi_b_dict, isi_s_int, isi_s_bool, isi_s_str, isi_s_tuple, isi_s_list, isi_s_dict, isi_t_int, isi_t_bool, isi_t_str, isi_t_tuple, isi_t_list, isi_t_dict, isi_l_int, isi_l_bool, isi_l_str, isi_l_tuple, isi_l_list, isi_l_dict, isi_n_int, isi_n_bool, isi_n_str, isi_n_tuple, isi_n_list, isi_n_dict, isi_d_int, isi_d_bool, isi_d_str, isi_d_tuple, isi_d_list, isi_d_dict,
  deref_tup, deref_lst, deref_int, deref_str, deref_bl, deref_non, deref_scr, rLt_i, rLt_s, rLe_i, rLe_s, rInts_i, rInts0_i, rAdd_i, rAdd_s, rAdd_l, rAdd_t, rCatO_l, rNeg_i, rLen_t, rLen_l, rLen_c, rLen_s, rMax_i, rMin_i, rInt_i, rInt_b, rDivmod_i, ap_gAug, rStr_i, rList_l, rList_t, rListO_l, rListO_t, rTup_l, rTup_t,
  rIx_t0, rIx_t1, rIx_t2, rIx_t3, rIx_l0, rIx_l1, rIx_l2, rIsN_x, isNon_t, isNon_n, isNon_i, isNon_s, isNon_l, rEq_i, rEq_b, rEq_i2, rEq_b2, rJoin_m, rSplit_s, tyOk_l, tyOk_s, patD_nm, patD_tp, patDs_nil, patDs_cons, Option.bind_some, notX, notX',
  List.map_cons, List.map_nil, List.length_cons, List.length_nil, List.cons_append, List.nil_append, List.append_nil, List.replicate, List.getElem?_cons_zero, List.getElem?_cons_succ, List.set_cons_zero, List.set_cons_succ, updO_same, updO_updO,
  Nat.reduceSub, Nat.reduceAdd, Nat.reduceLeDiff, Nat.zero_add, Int.cast_ofNat_Int, Int.natCast_zero, Int.natCast_one, Int.reduceLT, Int.reduceLE, Int.reduceEq, Int.reduceAdd, Int.reduceSub, Int.reduceNeg, decide_true, decide_false, if_true, if_false, Bool.false_eq_true, eq_self, reduceIte, Bool.true_eq_false, decide_eq_true_eq, Bool.not_true, Bool.not_false, Bool.not_eq_true', decide_eq_false_iff_not, exists_eq_left', exists_eq_left, D.bl.injEq, true_and, and_true, not_true_eq_false, not_false_eq_true])
local macro_rules | `(tactic| walk_at "len") => `(tactic| (intro ds O R RE h; first | (obtain ⟨e, _⟩ := h; subst e; rfl) | (obtain ⟨_, e, _⟩ := h; subst e; rfl) | (obtain ⟨_, _, e, _⟩ := h; subst e; rfl) | (obtain ⟨_, _, _, e, _⟩ := h; subst e; rfl) | (obtain ⟨_, _, _, _, e, _⟩ := h; subst e; rfl) | (obtain ⟨_, _, _, _, _, e, _⟩ := h; subst e; rfl) | (obtain ⟨_, _, _, _, _, _, e, _⟩ := h; subst e; rfl) | (obtain ⟨_, _, _, _, _, _, _, e, _⟩ := h; subst e; rfl) | (obtain ⟨_, _, _, _, _, _, _, _, e, _⟩ := h; subst e; rfl) | (obtain ⟨_, _, _, _, _, _, _, _, _, e, _⟩ := h; subst e; rfl)))
local macro_rules | `(tactic| walk_at "kf1") => `(tactic| simp (config := { failIfUnchanged := false }) only [startD, ap_fiEnumT, asT1_t, ap_fKGet, asStr_s, ap_fKIn, ap_fKIx, ap_gAsgL, rUnl_l, ap_fiRng3, asR3_i, rSplitO_s, ap_fOrL, rOrL_l, ap_fLcK, ap_gForK, ap_fMaxD, rMaxD_l, rMaxL_l, ap_fCallXD, ap_gForE, asLE_l, ap_fFrz, ap_fDicO, ap_fDGet, ap_fDGet1, ap_fDGet2, ap_gDPut, ap_fIsiT, ap_gForR, rRep_l, isT_i, isT_s, isT_b, isT_n, isT_t, isT_l, ap_gIf, ap_gRet, ap_gNext, ap_gSet, ap_gAsg, ap_gPar, ap_gDrop, ap_gRetF, ap_gRetN, ap_gFor, ap_gSetIx, ap_gBreak, ap_fRev, ap_fiRevR, asIR_i, rRev_l, ap_fCallX, ap_gRaise, ap_gTry, ap_gTryAs, ap_gNever, ap_fEdic, ap_fTest, ap_fOp, ap_fVar, envGet_s, patGet_s, ap_fC, ap_fCB, ap_fCons, ap_fNil, ap_fCall, ap_fAnd, ap_fOr, ap_fNot, ap_fAndV, ap_fOrV, ap_fNotV, ap_fIf, ap_fTup, ap_fLst, ap_fLstO, ap_fChain, ap_fUn, ap_fBM, ap_fBM0, ap_fPool, rPool_i, ap_fSl, ap_fPart, ap_fNoPart, asI_i, rSl_l, ap_fiRng1, ap_fiRng2, ap_fiList, ap_fiTup, ap_fiStr, ap_fiEnum, ap_fiZip, ap_fiRev, asL_l, asT_t, asSg_s, asR1_i, asR2_i, asL1_l, asL2_l, ap_fLc, ap_fLcO, ap_fYes, wipeD, lcD, isi_i_int, isi_i_bool, isi_i_str, isi_i_tuple, isi_i_list, isi_i_dict, isi_b_int, isi_b_bool, isi_b_str, isi_b_tuple, isi_b_list, isi_b_dict, isi_s_int, isi_s_bool, isi_s_str, isi_s_tuple, isi_s_list, isi_s_dict, isi_t_int, isi_t_bool, isi_t_str, isi_t_tuple, isi_t_list, isi_t_dict, isi_l_int, isi_l_bool, isi_l_str, isi_l_tuple, isi_l_list, isi_l_dict, isi_n_int, isi_n_bool, isi_n_str, isi_n_tuple, isi_n_list, isi_n_dict, isi_d_int, isi_d_bool, isi_d_str, isi_d_tuple, isi_d_list, isi_d_dict,
  deref_tup, deref_lst, deref_int, deref_str, deref_bl, deref_non, deref_scr, rLt_i, rLt_s, rLe_i, rLe_s, rInts_i, rInts0_i, rAdd_i, rAdd_s, rAdd_l, rAdd_t, rCatO_l, rNeg_i, rLen_t, rLen_l, rLen_c, rLen_s, rMax_i, rMin_i, rInt_i, rInt_b, rDivmod_i, ap_gAug, rStr_i, rList_l, rList_t, rListO_l, rListO_t, rTup_l, rTup_t,
  rIx_t0, rIx_t1, rIx_t2, rIx_t3, rIx_l0, rIx_l1, rIx_l2, rIsN_x, isNon_t, isNon_n, isNon_i, isNon_s, isNon_l, rEq_i, rEq_b, rEq_i2, rEq_b2, rJoin_m, rSplit_s, tyOk_l, tyOk_s, patD_nm, patD_tp, patDs_nil, patDs_cons, Option.bind_some, notX, notX',
  List.map_cons, List.map_nil, List.length_cons, List.length_nil, List.cons_append, List.nil_append, List.append_nil, List.replicate, List.getElem?_cons_zero, List.getElem?_cons_succ, List.set_cons_zero, List.set_cons_succ, updO_same, updO_updO,
  Nat.reduceSub, Nat.reduceAdd, Nat.reduceLeDiff, Nat.zero_add, Int.cast_ofNat_Int, Int.natCast_zero, Int.natCast_one, Int.reduceLT, Int.reduceLE, Int.reduceEq, Int.reduceAdd, Int.reduceSub, Int.reduceNeg, decide_true, decide_false, if_true, if_false, Bool.false_eq_true, eq_self, reduceIte, Bool.true_eq_false, decide_eq_true_eq, Bool.not_true, Bool.not_false, Bool.not_eq_true', decide_eq_false_iff_not, exists_eq_left', exists_eq_left, D.bl.injEq, true_and, and_true, not_true_eq_false, not_false_eq_true])
section
variable {P : Program} {w : World} {K : PySem.W.Frag} {mg : Str → Option Value} {base : Heap}
local macro_rules | `(tactic| walk_at "tg") => `(tactic| simp (config := { failIfUnchanged := false }) only [te_name_take, te_name_give, te_name_pair, te_name_first, te_name_second, te_name_to, te_name_both, te_name_one, te_name_mark, te_name_name, te_name_thing, te_name_at, te_thing_take, te_thing_give, te_thing_pair, te_thing_first, te_thing_second, te_thing_to, te_thing_both, te_thing_one, te_thing_mark, te_thing_name, te_thing_thing, te_thing_at, te_take_take, te_take_give, te_take_pair, te_take_first, te_take_second, te_take_to, te_take_both, te_take_one, te_take_mark, te_take_name, te_take_thing, te_take_at, te_give_take, te_give_give, te_give_pair, te_give_first, te_give_second, te_give_to, te_give_both, te_give_one, te_give_mark, te_give_name, te_give_thing, te_give_at, te_pair_take, te_pair_give, te_pair_pair, te_pair_first, te_pair_second, te_pair_to, te_pair_both, te_pair_one, te_pair_mark, te_pair_name, te_pair_thing, te_pair_at, te_first_take, te_first_give, te_first_pair, te_first_first, te_first_second, te_first_to, te_first_both, te_first_one, te_first_mark, te_first_name, te_first_thing, te_first_at, te_second_take, te_second_give, te_second_pair, te_second_first, te_second_second, te_second_to, te_second_both, te_second_one, te_second_mark, te_second_name, te_second_thing, te_second_at, te_mark_take, te_mark_give, te_mark_pair, te_mark_first, te_mark_second, te_mark_to, te_mark_both, te_mark_one, te_mark_mark, te_mark_name, te_mark_thing, te_mark_at, te_one_take, te_one_give, te_one_pair, te_one_first, te_one_second, te_one_to, te_one_both, te_one_one, te_one_mark, te_one_name, te_one_thing, te_one_at, te_to_take, te_to_give, te_to_pair, te_to_first, te_to_second, te_to_to, te_to_both, te_to_one, te_to_mark, te_to_name, te_to_thing, te_to_at, te_both_take, te_both_give, te_both_pair, te_both_first, te_both_second, te_both_to, te_both_both, te_both_one, te_both_mark, te_both_name, te_both_thing, te_both_at, te_at_take, te_at_give, te_at_pair, te_at_first, te_at_second, te_at_to, te_at_both, te_at_one, te_at_mark, te_at_name, te_at_thing, te_at_at, ti4_name, ti4_thing, ti4_take, ti4_give, ti4_pair, ti4_first, ti4_second, ti2_name, ti2_thing, ti2_take, ti2_give, ti2_pair, ti2_first, ti2_second, szT_0, szT_1, szT_2, szT_3, szT_4, szT_5, szT_6, szT_7, szT_8, szT_9, szT_10, szT_11, szT_12, Bool.not_true, Bool.not_false, true_and])
end
theorem fn_mk {K : PySem.W.Frag} {h : Heap} {mg : Str → Option Value} {x : Str} {st : Stmt} {ps : List Str} {f : Addr} {oc : Value} {od an : Option Addr} {osl : Array (Option Value)} {kV doc pm cdv ct : Value} (X : K.In h) (G : h.Ns mainGlobals mg)
    (a : PySem.W.nsIn K mainGlobals x = some (some (.ref f))) (l : K.lookup f = some ⟨oc, od, .func (PySem.W.fnOf x x (defArgs st) (defBody st) (defScope st) .none kV doc pm an cdv ct), osl⟩) (c : PySem.W.codeIn K cdv x = true) (k : PySem.W.keepIn K (.ref f) = true)
    (b : ∀ (kV doc pm : Value) (an : Option Addr) (cdv ct : Value) (us : List Value), us.length = ps.length → bindArgs (PySem.W.fnOf x x (defArgs st) (defBody st) (defScope st) .none kV doc pm an cdv ct) ⟨us, []⟩ = pure (ps.zip us)) :
    Fn K mg x st ps f (PySem.W.fnOf x x (defArgs st) (defBody st) (defScope st) .none kV doc pm an cdv ct) := ⟨fun_mk l c k, PySem.W.mg_of X G a, (fun_mk l c k).binds b⟩
theorem mt_mk {K : PySem.W.Frag} {m qual : Str} {st : Stmt} {ps : List Str} {C f : Addr} {oc : Value} {od an : Option Addr} {osl : Array (Option Value)} {kV doc pm cdv ct : Value}
    (a : PySem.W.findIn K (.ref C) m = some (some (.ref f))) (i : PySem.W.isFn K (.ref f) = true) (l : K.lookup f = some ⟨oc, od, .func (PySem.W.fnOf m qual (defArgs st) (defBody st) (defScope st) .none kV doc pm an cdv ct), osl⟩) (c : PySem.W.codeIn K cdv qual = true) (k : PySem.W.keepIn K (.ref f) = true)
    (b : ∀ (kV doc pm : Value) (an : Option Addr) (cdv ct : Value) (us : List Value), us.length = ps.length → bindArgs (PySem.W.fnOf m qual (defArgs st) (defBody st) (defScope st) .none kV doc pm an cdv ct) ⟨us, []⟩ = pure (ps.zip us)) :
    Mt K C m qual st ps f (PySem.W.fnOf m qual (defArgs st) (defBody st) (defScope st) .none kV doc pm an cdv ct) := ⟨fun_mk l c k, ⟨a, i, k⟩, (fun_mk l c k).binds b⟩
set_option maxHeartbeats 0 in
theorem all_mk {l : PySem.W.OpenLaw} {w : World} {K : PySem.W.Frag} {h : Heap} {mg : Str → Option Value} {fa : Addr} (X : K.In h) (G : h.Ns mainGlobals mg) (hfa : mg "law" = some (.ref fa))
    {C_Having : Addr} (cg_Having : PySem.W.plainGet K C_Having Str.empty = true) (ch_Having : PySem.W.hasDictIn K C_Having = true) (co_Having : PySem.W.plainOver K C_Having = true) (cs_Having : PySem.W.findIn K (.ref C_Having) "__setattr__" = some (some (.builtin "object.__setattr__")))
    (na_Having_kinds : PySem.W.findIn K (.ref C_Having) "kinds" = some none)
    (na_Having_found : PySem.W.findIn K (.ref C_Having) "found" = some none)
    {f_is_mark : Addr} {oc_is_mark kV_is_mark dc_is_mark pm_is_mark cd_is_mark ct_is_mark : Value} {od_is_mark an_is_mark : Option Addr} {sl_is_mark : Array (Option Value)}
    (a_is_mark : PySem.W.nsIn K mainGlobals "is_mark" = some (some (.ref f_is_mark)))
    (l_is_mark : K.lookup f_is_mark = some ⟨oc_is_mark, od_is_mark, .func (PySem.W.fnOf "is_mark" "is_mark" (defArgs s_is_mark) (defBody s_is_mark) (defScope s_is_mark) .none kV_is_mark dc_is_mark pm_is_mark an_is_mark cd_is_mark ct_is_mark), sl_is_mark⟩)
    (c_is_mark : PySem.W.codeIn K cd_is_mark "is_mark" = true) (k_is_mark : PySem.W.keepIn K (.ref f_is_mark) = true)
    {f_ends_of : Addr} {oc_ends_of kV_ends_of dc_ends_of pm_ends_of cd_ends_of ct_ends_of : Value} {od_ends_of an_ends_of : Option Addr} {sl_ends_of : Array (Option Value)}
    (a_ends_of : PySem.W.nsIn K mainGlobals "ends_of" = some (some (.ref f_ends_of)))
    (l_ends_of : K.lookup f_ends_of = some ⟨oc_ends_of, od_ends_of, .func (PySem.W.fnOf "ends_of" "ends_of" (defArgs s_ends_of) (defBody s_ends_of) (defScope s_ends_of) .none kV_ends_of dc_ends_of pm_ends_of an_ends_of cd_ends_of ct_ends_of), sl_ends_of⟩)
    (c_ends_of : PySem.W.codeIn K cd_ends_of "ends_of" = true) (k_ends_of : PySem.W.keepIn K (.ref f_ends_of) = true)
    {f_ways_of : Addr} {oc_ways_of kV_ways_of dc_ways_of pm_ways_of cd_ways_of ct_ways_of : Value} {od_ways_of an_ways_of : Option Addr} {sl_ways_of : Array (Option Value)}
    (a_ways_of : PySem.W.nsIn K mainGlobals "ways_of" = some (some (.ref f_ways_of)))
    (l_ways_of : K.lookup f_ways_of = some ⟨oc_ways_of, od_ways_of, .func (PySem.W.fnOf "ways_of" "ways_of" (defArgs s_ways_of) (defBody s_ways_of) (defScope s_ways_of) .none kV_ways_of dc_ways_of pm_ways_of an_ways_of cd_ways_of ct_ways_of), sl_ways_of⟩)
    (c_ways_of : PySem.W.codeIn K cd_ways_of "ways_of" = true) (k_ways_of : PySem.W.keepIn K (.ref f_ways_of) = true)
    {f_shown_kind : Addr} {oc_shown_kind kV_shown_kind dc_shown_kind pm_shown_kind cd_shown_kind ct_shown_kind : Value} {od_shown_kind an_shown_kind : Option Addr} {sl_shown_kind : Array (Option Value)}
    (a_shown_kind : PySem.W.nsIn K mainGlobals "shown_kind" = some (some (.ref f_shown_kind)))
    (l_shown_kind : K.lookup f_shown_kind = some ⟨oc_shown_kind, od_shown_kind, .func (PySem.W.fnOf "shown_kind" "shown_kind" (defArgs s_shown_kind) (defBody s_shown_kind) (defScope s_shown_kind) .none kV_shown_kind dc_shown_kind pm_shown_kind an_shown_kind cd_shown_kind ct_shown_kind), sl_shown_kind⟩)
    (c_shown_kind : PySem.W.codeIn K cd_shown_kind "shown_kind" = true) (k_shown_kind : PySem.W.keepIn K (.ref f_shown_kind) = true)
    {f_are_marks : Addr} {oc_are_marks kV_are_marks dc_are_marks pm_are_marks cd_are_marks ct_are_marks : Value} {od_are_marks an_are_marks : Option Addr} {sl_are_marks : Array (Option Value)}
    (a_are_marks : PySem.W.nsIn K mainGlobals "are_marks" = some (some (.ref f_are_marks)))
    (l_are_marks : K.lookup f_are_marks = some ⟨oc_are_marks, od_are_marks, .func (PySem.W.fnOf "are_marks" "are_marks" (defArgs s_are_marks) (defBody s_are_marks) (defScope s_are_marks) .none kV_are_marks dc_are_marks pm_are_marks an_are_marks cd_are_marks ct_are_marks), sl_are_marks⟩)
    (c_are_marks : PySem.W.codeIn K cd_are_marks "are_marks" = true) (k_are_marks : PySem.W.keepIn K (.ref f_are_marks) = true)
    {f_has_tree_form : Addr} {oc_has_tree_form kV_has_tree_form dc_has_tree_form pm_has_tree_form cd_has_tree_form ct_has_tree_form : Value} {od_has_tree_form an_has_tree_form : Option Addr} {sl_has_tree_form : Array (Option Value)}
    (a_has_tree_form : PySem.W.nsIn K mainGlobals "has_tree_form" = some (some (.ref f_has_tree_form)))
    (l_has_tree_form : K.lookup f_has_tree_form = some ⟨oc_has_tree_form, od_has_tree_form, .func (PySem.W.fnOf "has_tree_form" "has_tree_form" (defArgs s_has_tree_form) (defBody s_has_tree_form) (defScope s_has_tree_form) .none kV_has_tree_form dc_has_tree_form pm_has_tree_form an_has_tree_form cd_has_tree_form ct_has_tree_form), sl_has_tree_form⟩)
    (c_has_tree_form : PySem.W.codeIn K cd_has_tree_form "has_tree_form" = true) (k_has_tree_form : PySem.W.keepIn K (.ref f_has_tree_form) = true)
    {f_is_tree : Addr} {oc_is_tree kV_is_tree dc_is_tree pm_is_tree cd_is_tree ct_is_tree : Value} {od_is_tree an_is_tree : Option Addr} {sl_is_tree : Array (Option Value)}
    (a_is_tree : PySem.W.nsIn K mainGlobals "is_tree" = some (some (.ref f_is_tree)))
    (l_is_tree : K.lookup f_is_tree = some ⟨oc_is_tree, od_is_tree, .func (PySem.W.fnOf "is_tree" "is_tree" (defArgs s_is_tree) (defBody s_is_tree) (defScope s_is_tree) .none kV_is_tree dc_is_tree pm_is_tree an_is_tree cd_is_tree ct_is_tree), sl_is_tree⟩)
    (c_is_tree : PySem.W.codeIn K cd_is_tree "is_tree" = true) (k_is_tree : PySem.W.keepIn K (.ref f_is_tree) = true)
    {f_put_worlds : Addr} {oc_put_worlds kV_put_worlds dc_put_worlds pm_put_worlds cd_put_worlds ct_put_worlds : Value} {od_put_worlds an_put_worlds : Option Addr} {sl_put_worlds : Array (Option Value)}
    (a_put_worlds : PySem.W.nsIn K mainGlobals "put_worlds" = some (some (.ref f_put_worlds)))
    (l_put_worlds : K.lookup f_put_worlds = some ⟨oc_put_worlds, od_put_worlds, .func (PySem.W.fnOf "put_worlds" "put_worlds" (defArgs s_put_worlds) (defBody s_put_worlds) (defScope s_put_worlds) .none kV_put_worlds dc_put_worlds pm_put_worlds an_put_worlds cd_put_worlds ct_put_worlds), sl_put_worlds⟩)
    (c_put_worlds : PySem.W.codeIn K cd_put_worlds "put_worlds" = true) (k_put_worlds : PySem.W.keepIn K (.ref f_put_worlds) = true)
    {f_worlds_in : Addr} {oc_worlds_in kV_worlds_in dc_worlds_in pm_worlds_in cd_worlds_in ct_worlds_in : Value} {od_worlds_in an_worlds_in : Option Addr} {sl_worlds_in : Array (Option Value)}
    (a_worlds_in : PySem.W.nsIn K mainGlobals "worlds_in" = some (some (.ref f_worlds_in)))
    (l_worlds_in : K.lookup f_worlds_in = some ⟨oc_worlds_in, od_worlds_in, .func (PySem.W.fnOf "worlds_in" "worlds_in" (defArgs s_worlds_in) (defBody s_worlds_in) (defScope s_worlds_in) .none kV_worlds_in dc_worlds_in pm_worlds_in an_worlds_in cd_worlds_in ct_worlds_in), sl_worlds_in⟩)
    (c_worlds_in : PySem.W.codeIn K cd_worlds_in "worlds_in" = true) (k_worlds_in : PySem.W.keepIn K (.ref f_worlds_in) = true)
    {f_led_on : Addr} {oc_led_on kV_led_on dc_led_on pm_led_on cd_led_on ct_led_on : Value} {od_led_on an_led_on : Option Addr} {sl_led_on : Array (Option Value)}
    (a_led_on : PySem.W.nsIn K mainGlobals "led_on" = some (some (.ref f_led_on)))
    (l_led_on : K.lookup f_led_on = some ⟨oc_led_on, od_led_on, .func (PySem.W.fnOf "led_on" "led_on" (defArgs s_led_on) (defBody s_led_on) (defScope s_led_on) .none kV_led_on dc_led_on pm_led_on an_led_on cd_led_on ct_led_on), sl_led_on⟩)
    (c_led_on : PySem.W.codeIn K cd_led_on "led_on" = true) (k_led_on : PySem.W.keepIn K (.ref f_led_on) = true)
    {f_truths : Addr} {oc_truths kV_truths dc_truths pm_truths cd_truths ct_truths : Value} {od_truths an_truths : Option Addr} {sl_truths : Array (Option Value)}
    (a_truths : PySem.W.nsIn K mainGlobals "truths" = some (some (.ref f_truths)))
    (l_truths : K.lookup f_truths = some ⟨oc_truths, od_truths, .func (PySem.W.fnOf "truths" "truths" (defArgs s_truths) (defBody s_truths) (defScope s_truths) .none kV_truths dc_truths pm_truths an_truths cd_truths ct_truths), sl_truths⟩)
    (c_truths : PySem.W.codeIn K cd_truths "truths" = true) (k_truths : PySem.W.keepIn K (.ref f_truths) = true)
    {f_holds : Addr} {oc_holds kV_holds dc_holds pm_holds cd_holds ct_holds : Value} {od_holds an_holds : Option Addr} {sl_holds : Array (Option Value)}
    (a_holds : PySem.W.nsIn K mainGlobals "holds" = some (some (.ref f_holds)))
    (l_holds : K.lookup f_holds = some ⟨oc_holds, od_holds, .func (PySem.W.fnOf "holds" "holds" (defArgs s_holds) (defBody s_holds) (defScope s_holds) .none kV_holds dc_holds pm_holds an_holds cd_holds ct_holds), sl_holds⟩)
    (c_holds : PySem.W.codeIn K cd_holds "holds" = true) (k_holds : PySem.W.keepIn K (.ref f_holds) = true)
    {f_bars : Addr} {oc_bars kV_bars dc_bars pm_bars cd_bars ct_bars : Value} {od_bars an_bars : Option Addr} {sl_bars : Array (Option Value)}
    (a_bars : PySem.W.nsIn K mainGlobals "bars" = some (some (.ref f_bars)))
    (l_bars : K.lookup f_bars = some ⟨oc_bars, od_bars, .func (PySem.W.fnOf "bars" "bars" (defArgs s_bars) (defBody s_bars) (defScope s_bars) .none kV_bars dc_bars pm_bars an_bars cd_bars ct_bars), sl_bars⟩)
    (c_bars : PySem.W.codeIn K cd_bars "bars" = true) (k_bars : PySem.W.keepIn K (.ref f_bars) = true)
    {f_Having___init__ : Addr} {oc_Having___init__ kV_Having___init__ dc_Having___init__ pm_Having___init__ cd_Having___init__ ct_Having___init__ : Value} {od_Having___init__ an_Having___init__ : Option Addr} {sl_Having___init__ : Array (Option Value)}
    (a_Having___init__ : PySem.W.findIn K (.ref C_Having) "__init__" = some (some (.ref f_Having___init__))) (i_Having___init__ : PySem.W.isFn K (.ref f_Having___init__) = true)
    (l_Having___init__ : K.lookup f_Having___init__ = some ⟨oc_Having___init__, od_Having___init__, .func (PySem.W.fnOf "__init__" "Having.__init__" (defArgs s_Having___init__) (defBody s_Having___init__) (defScope s_Having___init__) .none kV_Having___init__ dc_Having___init__ pm_Having___init__ an_Having___init__ cd_Having___init__ ct_Having___init__), sl_Having___init__⟩)
    (c_Having___init__ : PySem.W.codeIn K cd_Having___init__ "Having.__init__" = true) (k_Having___init__ : PySem.W.keepIn K (.ref f_Having___init__) = true)
    {f_Having_with_more : Addr} {oc_Having_with_more kV_Having_with_more dc_Having_with_more pm_Having_with_more cd_Having_with_more ct_Having_with_more : Value} {od_Having_with_more an_Having_with_more : Option Addr} {sl_Having_with_more : Array (Option Value)}
    (a_Having_with_more : PySem.W.findIn K (.ref C_Having) "with_more" = some (some (.ref f_Having_with_more))) (i_Having_with_more : PySem.W.isFn K (.ref f_Having_with_more) = true)
    (l_Having_with_more : K.lookup f_Having_with_more = some ⟨oc_Having_with_more, od_Having_with_more, .func (PySem.W.fnOf "with_more" "Having.with_more" (defArgs s_Having_with_more) (defBody s_Having_with_more) (defScope s_Having_with_more) .none kV_Having_with_more dc_Having_with_more pm_Having_with_more an_Having_with_more cd_Having_with_more ct_Having_with_more), sl_Having_with_more⟩)
    (c_Having_with_more : PySem.W.codeIn K cd_Having_with_more "Having.with_more" = true) (k_Having_with_more : PySem.W.keepIn K (.ref f_Having_with_more) = true)
    {f_Having_had : Addr} {oc_Having_had kV_Having_had dc_Having_had pm_Having_had cd_Having_had ct_Having_had : Value} {od_Having_had an_Having_had : Option Addr} {sl_Having_had : Array (Option Value)}
    (a_Having_had : PySem.W.findIn K (.ref C_Having) "had" = some (some (.ref f_Having_had))) (i_Having_had : PySem.W.isFn K (.ref f_Having_had) = true)
    (l_Having_had : K.lookup f_Having_had = some ⟨oc_Having_had, od_Having_had, .func (PySem.W.fnOf "had" "Having.had" (defArgs s_Having_had) (defBody s_Having_had) (defScope s_Having_had) .none kV_Having_had dc_Having_had pm_Having_had an_Having_had cd_Having_had ct_Having_had), sl_Having_had⟩)
    (c_Having_had : PySem.W.codeIn K cd_Having_had "Having.had" = true) (k_Having_had : PySem.W.keepIn K (.ref f_Having_had) = true)
    {f_Having_had_more : Addr} {oc_Having_had_more kV_Having_had_more dc_Having_had_more pm_Having_had_more cd_Having_had_more ct_Having_had_more : Value} {od_Having_had_more an_Having_had_more : Option Addr} {sl_Having_had_more : Array (Option Value)}
    (a_Having_had_more : PySem.W.findIn K (.ref C_Having) "had_more" = some (some (.ref f_Having_had_more))) (i_Having_had_more : PySem.W.isFn K (.ref f_Having_had_more) = true)
    (l_Having_had_more : K.lookup f_Having_had_more = some ⟨oc_Having_had_more, od_Having_had_more, .func (PySem.W.fnOf "had_more" "Having.had_more" (defArgs s_Having_had_more) (defBody s_Having_had_more) (defScope s_Having_had_more) .none kV_Having_had_more dc_Having_had_more pm_Having_had_more an_Having_had_more cd_Having_had_more ct_Having_had_more), sl_Having_had_more⟩)
    (c_Having_had_more : PySem.W.codeIn K cd_Having_had_more "Having.had_more" = true) (k_Having_had_more : PySem.W.keepIn K (.ref f_Having_had_more) = true)
    {f_Having_first_not_had : Addr} {oc_Having_first_not_had kV_Having_first_not_had dc_Having_first_not_had pm_Having_first_not_had cd_Having_first_not_had ct_Having_first_not_had : Value} {od_Having_first_not_had an_Having_first_not_had : Option Addr} {sl_Having_first_not_had : Array (Option Value)}
    (a_Having_first_not_had : PySem.W.findIn K (.ref C_Having) "first_not_had" = some (some (.ref f_Having_first_not_had))) (i_Having_first_not_had : PySem.W.isFn K (.ref f_Having_first_not_had) = true)
    (l_Having_first_not_had : K.lookup f_Having_first_not_had = some ⟨oc_Having_first_not_had, od_Having_first_not_had, .func (PySem.W.fnOf "first_not_had" "Having.first_not_had" (defArgs s_Having_first_not_had) (defBody s_Having_first_not_had) (defScope s_Having_first_not_had) .none kV_Having_first_not_had dc_Having_first_not_had pm_Having_first_not_had an_Having_first_not_had cd_Having_first_not_had ct_Having_first_not_had), sl_Having_first_not_had⟩)
    (c_Having_first_not_had : PySem.W.codeIn K cd_Having_first_not_had "Having.first_not_had" = true) (k_Having_first_not_had : PySem.W.keepIn K (.ref f_Having_first_not_had) = true)
    {f_Having_lack_of : Addr} {oc_Having_lack_of kV_Having_lack_of dc_Having_lack_of pm_Having_lack_of cd_Having_lack_of ct_Having_lack_of : Value} {od_Having_lack_of an_Having_lack_of : Option Addr} {sl_Having_lack_of : Array (Option Value)}
    (a_Having_lack_of : PySem.W.findIn K (.ref C_Having) "lack_of" = some (some (.ref f_Having_lack_of))) (i_Having_lack_of : PySem.W.isFn K (.ref f_Having_lack_of) = true)
    (l_Having_lack_of : K.lookup f_Having_lack_of = some ⟨oc_Having_lack_of, od_Having_lack_of, .func (PySem.W.fnOf "lack_of" "Having.lack_of" (defArgs s_Having_lack_of) (defBody s_Having_lack_of) (defScope s_Having_lack_of) .none kV_Having_lack_of dc_Having_lack_of pm_Having_lack_of an_Having_lack_of cd_Having_lack_of ct_Having_lack_of), sl_Having_lack_of⟩)
    (c_Having_lack_of : PySem.W.codeIn K cd_Having_lack_of "Having.lack_of" = true) (k_Having_lack_of : PySem.W.keepIn K (.ref f_Having_lack_of) = true)
    {f_Having_tree : Addr} {oc_Having_tree kV_Having_tree dc_Having_tree pm_Having_tree cd_Having_tree ct_Having_tree : Value} {od_Having_tree an_Having_tree : Option Addr} {sl_Having_tree : Array (Option Value)}
    (a_Having_tree : PySem.W.findIn K (.ref C_Having) "tree" = some (some (.ref f_Having_tree))) (i_Having_tree : PySem.W.isFn K (.ref f_Having_tree) = true)
    (l_Having_tree : K.lookup f_Having_tree = some ⟨oc_Having_tree, od_Having_tree, .func (PySem.W.fnOf "tree" "Having.tree" (defArgs s_Having_tree) (defBody s_Having_tree) (defScope s_Having_tree) .none kV_Having_tree dc_Having_tree pm_Having_tree an_Having_tree cd_Having_tree ct_Having_tree), sl_Having_tree⟩)
    (c_Having_tree : PySem.W.codeIn K cd_Having_tree "Having.tree" = true) (k_Having_tree : PySem.W.keepIn K (.ref f_Having_tree) = true)
    {f_barring : Addr} {oc_barring kV_barring dc_barring pm_barring cd_barring ct_barring : Value} {od_barring an_barring : Option Addr} {sl_barring : Array (Option Value)}
    (a_barring : PySem.W.nsIn K mainGlobals "barring" = some (some (.ref f_barring)))
    (l_barring : K.lookup f_barring = some ⟨oc_barring, od_barring, .func (PySem.W.fnOf "barring" "barring" (defArgs s_barring) (defBody s_barring) (defScope s_barring) .none kV_barring dc_barring pm_barring an_barring cd_barring ct_barring), sl_barring⟩)
    (c_barring : PySem.W.codeIn K cd_barring "barring" = true) (k_barring : PySem.W.keepIn K (.ref f_barring) = true)
    {f__law_pool : Addr} {oc__law_pool kV__law_pool dc__law_pool pm__law_pool cd__law_pool ct__law_pool : Value} {od__law_pool an__law_pool : Option Addr} {sl__law_pool : Array (Option Value)}
    (a__law_pool : PySem.W.nsIn K mainGlobals "_law_pool" = some (some (.ref f__law_pool)))
    (l__law_pool : K.lookup f__law_pool = some ⟨oc__law_pool, od__law_pool, .func (PySem.W.fnOf "_law_pool" "_law_pool" (defArgs s__law_pool) (defBody s__law_pool) (defScope s__law_pool) .none kV__law_pool dc__law_pool pm__law_pool an__law_pool cd__law_pool ct__law_pool), sl__law_pool⟩)
    (c__law_pool : PySem.W.codeIn K cd__law_pool "_law_pool" = true) (k__law_pool : PySem.W.keepIn K (.ref f__law_pool) = true)
    {f__law_take : Addr} {oc__law_take kV__law_take dc__law_take pm__law_take cd__law_take ct__law_take : Value} {od__law_take an__law_take : Option Addr} {sl__law_take : Array (Option Value)}
    (a__law_take : PySem.W.nsIn K mainGlobals "_law_take" = some (some (.ref f__law_take)))
    (l__law_take : K.lookup f__law_take = some ⟨oc__law_take, od__law_take, .func (PySem.W.fnOf "_law_take" "_law_take" (defArgs s__law_take) (defBody s__law_take) (defScope s__law_take) .none kV__law_take dc__law_take pm__law_take an__law_take cd__law_take ct__law_take), sl__law_take⟩)
    (c__law_take : PySem.W.codeIn K cd__law_take "_law_take" = true) (k__law_take : PySem.W.keepIn K (.ref f__law_take) = true)
    {f__law_marks : Addr} {oc__law_marks kV__law_marks dc__law_marks pm__law_marks cd__law_marks ct__law_marks : Value} {od__law_marks an__law_marks : Option Addr} {sl__law_marks : Array (Option Value)}
    (a__law_marks : PySem.W.nsIn K mainGlobals "_law_marks" = some (some (.ref f__law_marks)))
    (l__law_marks : K.lookup f__law_marks = some ⟨oc__law_marks, od__law_marks, .func (PySem.W.fnOf "_law_marks" "_law_marks" (defArgs s__law_marks) (defBody s__law_marks) (defScope s__law_marks) .none kV__law_marks dc__law_marks pm__law_marks an__law_marks cd__law_marks ct__law_marks), sl__law_marks⟩)
    (c__law_marks : PySem.W.codeIn K cd__law_marks "_law_marks" = true) (k__law_marks : PySem.W.keepIn K (.ref f__law_marks) = true)
    {f__law_kind : Addr} {oc__law_kind kV__law_kind dc__law_kind pm__law_kind cd__law_kind ct__law_kind : Value} {od__law_kind an__law_kind : Option Addr} {sl__law_kind : Array (Option Value)}
    (a__law_kind : PySem.W.nsIn K mainGlobals "_law_kind" = some (some (.ref f__law_kind)))
    (l__law_kind : K.lookup f__law_kind = some ⟨oc__law_kind, od__law_kind, .func (PySem.W.fnOf "_law_kind" "_law_kind" (defArgs s__law_kind) (defBody s__law_kind) (defScope s__law_kind) .none kV__law_kind dc__law_kind pm__law_kind an__law_kind cd__law_kind ct__law_kind), sl__law_kind⟩)
    (c__law_kind : PySem.W.codeIn K cd__law_kind "_law_kind" = true) (k__law_kind : PySem.W.keepIn K (.ref f__law_kind) = true)
    {f__law_row : Addr} {oc__law_row kV__law_row dc__law_row pm__law_row cd__law_row ct__law_row : Value} {od__law_row an__law_row : Option Addr} {sl__law_row : Array (Option Value)}
    (a__law_row : PySem.W.nsIn K mainGlobals "_law_row" = some (some (.ref f__law_row)))
    (l__law_row : K.lookup f__law_row = some ⟨oc__law_row, od__law_row, .func (PySem.W.fnOf "_law_row" "_law_row" (defArgs s__law_row) (defBody s__law_row) (defScope s__law_row) .none kV__law_row dc__law_row pm__law_row an__law_row cd__law_row ct__law_row), sl__law_row⟩)
    (c__law_row : PySem.W.codeIn K cd__law_row "_law_row" = true) (k__law_row : PySem.W.keepIn K (.ref f__law_row) = true)
    {f__law_tree : Addr} {oc__law_tree kV__law_tree dc__law_tree pm__law_tree cd__law_tree ct__law_tree : Value} {od__law_tree an__law_tree : Option Addr} {sl__law_tree : Array (Option Value)}
    (a__law_tree : PySem.W.nsIn K mainGlobals "_law_tree" = some (some (.ref f__law_tree)))
    (l__law_tree : K.lookup f__law_tree = some ⟨oc__law_tree, od__law_tree, .func (PySem.W.fnOf "_law_tree" "_law_tree" (defArgs s__law_tree) (defBody s__law_tree) (defScope s__law_tree) .none kV__law_tree dc__law_tree pm__law_tree an__law_tree cd__law_tree ct__law_tree), sl__law_tree⟩)
    (c__law_tree : PySem.W.codeIn K cd__law_tree "_law_tree" = true) (k__law_tree : PySem.W.keepIn K (.ref f__law_tree) = true)
    {f__law_leaves : Addr} {oc__law_leaves kV__law_leaves dc__law_leaves pm__law_leaves cd__law_leaves ct__law_leaves : Value} {od__law_leaves an__law_leaves : Option Addr} {sl__law_leaves : Array (Option Value)}
    (a__law_leaves : PySem.W.nsIn K mainGlobals "_law_leaves" = some (some (.ref f__law_leaves)))
    (l__law_leaves : K.lookup f__law_leaves = some ⟨oc__law_leaves, od__law_leaves, .func (PySem.W.fnOf "_law_leaves" "_law_leaves" (defArgs s__law_leaves) (defBody s__law_leaves) (defScope s__law_leaves) .none kV__law_leaves dc__law_leaves pm__law_leaves an__law_leaves cd__law_leaves ct__law_leaves), sl__law_leaves⟩)
    (c__law_leaves : PySem.W.codeIn K cd__law_leaves "_law_leaves" = true) (k__law_leaves : PySem.W.keepIn K (.ref f__law_leaves) = true)
    {f__law_told : Addr} {oc__law_told kV__law_told dc__law_told pm__law_told cd__law_told ct__law_told : Value} {od__law_told an__law_told : Option Addr} {sl__law_told : Array (Option Value)}
    (a__law_told : PySem.W.nsIn K mainGlobals "_law_told" = some (some (.ref f__law_told)))
    (l__law_told : K.lookup f__law_told = some ⟨oc__law_told, od__law_told, .func (PySem.W.fnOf "_law_told" "_law_told" (defArgs s__law_told) (defBody s__law_told) (defScope s__law_told) .none kV__law_told dc__law_told pm__law_told an__law_told cd__law_told ct__law_told), sl__law_told⟩)
    (c__law_told : PySem.W.codeIn K cd__law_told "_law_told" = true) (k__law_told : PySem.W.keepIn K (.ref f__law_told) = true)
    {f__law_made : Addr} {oc__law_made kV__law_made dc__law_made pm__law_made cd__law_made ct__law_made : Value} {od__law_made an__law_made : Option Addr} {sl__law_made : Array (Option Value)}
    (a__law_made : PySem.W.nsIn K mainGlobals "_law_made" = some (some (.ref f__law_made)))
    (l__law_made : K.lookup f__law_made = some ⟨oc__law_made, od__law_made, .func (PySem.W.fnOf "_law_made" "_law_made" (defArgs s__law_made) (defBody s__law_made) (defScope s__law_made) .none kV__law_made dc__law_made pm__law_made an__law_made cd__law_made ct__law_made), sl__law_made⟩)
    (c__law_made : PySem.W.codeIn K cd__law_made "_law_made" = true) (k__law_made : PySem.W.keepIn K (.ref f__law_made) = true)
    {f_law : Addr} {oc_law kV_law dc_law pm_law cd_law ct_law : Value} {od_law an_law : Option Addr} {sl_law : Array (Option Value)}
    (a_law : PySem.W.nsIn K mainGlobals "law" = some (some (.ref f_law)))
    (l_law : K.lookup f_law = some ⟨oc_law, od_law, .func (PySem.W.fnOf "law" "law" (defArgs s_law) (defBody s_law) (defScope s_law) .none kV_law dc_law pm_law an_law cd_law ct_law), sl_law⟩)
    (c_law : PySem.W.codeIn K cd_law "law" = true) (k_law : PySem.W.keepIn K (.ref f_law) = true)
    (ma_Having : PySem.W.nsIn K mainGlobals "Having" = some (some (.ref C_Having))) (mm_Having : PySem.W.makesIn K C_Having = true) (mk_Having : PySem.W.keepIn K (.ref C_Having) = true)
    (z_len : PySem.W.nsIn K mainGlobals "len" = some none)
    (z_list : PySem.W.nsIn K mainGlobals "list" = some none)
    (z_isinstance : PySem.W.nsIn K mainGlobals "isinstance" = some none)
    (z_str : PySem.W.nsIn K mainGlobals "str" = some none)
    (z_tuple : PySem.W.nsIn K mainGlobals "tuple" = some none)
    (z_reversed : PySem.W.nsIn K mainGlobals "reversed" = some none)
    (z_range : PySem.W.nsIn K mainGlobals "range" = some none)
    (z_zip : PySem.W.nsIn K mainGlobals "zip" = some none)
    (z_sorted : PySem.W.nsIn K mainGlobals "sorted" = some none)
    (z_min : PySem.W.nsIn K mainGlobals "min" = some none)
    (z_int : PySem.W.nsIn K mainGlobals "int" = some none)
    (z_max : PySem.W.nsIn K mainGlobals "max" = some none)
    (z_sum : PySem.W.nsIn K mainGlobals "sum" = some none)
    {t_LETTERS : Tok} (e_LETTERS : PySem.W.nsIn K mainGlobals "LETTERS" = some (some (.str "abcdefghijklmnopqrstuvwxyz" t_LETTERS)))
    {t_LONGEST : Tok} (e_LONGEST : PySem.W.nsIn K mainGlobals "LONGEST" = some (some (.int 6 t_LONGEST)))
    {p_ONE : Addr} {dd_ONE : Option Addr} {n_ONE : Nat} {sl_ONE : Array (Option Value)} {t_ONE : Tok} (e_ONE : PySem.W.nsIn K mainGlobals "ONE" = some (some (.ref p_ONE))) (q_ONE : K.lookup p_ONE = some ⟨.type "tuple", dd_ONE, .seq #[.str "one" t_ONE] n_ONE, sl_ONE⟩)
    {t_DEEPEST : Tok} (e_DEEPEST : PySem.W.nsIn K mainGlobals "DEEPEST" = some (some (.int 40 t_DEEPEST))) :
    ∃ fd : FuncData, (∀ (s : Shared) (v : Value), BindsTo s fd ⟨[v], []⟩ [("_law_script", v)]) ∧ ∀ base : Heap, K.In base → base.Ns mainGlobals mg → FnOk l.prog w K mg base CX0 110 fa fd ["_law_script"] (liftSp K (lawSp 63)) := by
  have e := hfa.symm.trans (PySem.W.mg_of X G a_law)
  cases e
  have cl_Having : Cls K C_Having := ⟨cg_Having, ch_Having, co_Having, cs_Having⟩
  have N_is_mark' := fn_mk (ps := P_is_mark) X G a_is_mark l_is_mark c_is_mark k_is_mark fun _ _ _ _ _ _ us hl => match us, hl with | [_], _ => rfl
  have N_ends_of' := fn_mk (ps := P_ends_of) X G a_ends_of l_ends_of c_ends_of k_ends_of fun _ _ _ _ _ _ us hl => match us, hl with | [_], _ => rfl
  have N_ways_of' := fn_mk (ps := P_ways_of) X G a_ways_of l_ways_of c_ways_of k_ways_of fun _ _ _ _ _ _ us hl => match us, hl with | [_], _ => rfl
  have N_shown_kind' := fn_mk (ps := P_shown_kind) X G a_shown_kind l_shown_kind c_shown_kind k_shown_kind fun _ _ _ _ _ _ us hl => match us, hl with | [_], _ => rfl
  have N_are_marks' := fn_mk (ps := P_are_marks) X G a_are_marks l_are_marks c_are_marks k_are_marks fun _ _ _ _ _ _ us hl => match us, hl with | [_], _ => rfl
  have N_has_tree_form' := fn_mk (ps := P_has_tree_form) X G a_has_tree_form l_has_tree_form c_has_tree_form k_has_tree_form fun _ _ _ _ _ _ us hl => match us, hl with | [_, _], _ => rfl
  have N_is_tree' := fn_mk (ps := P_is_tree) X G a_is_tree l_is_tree c_is_tree k_is_tree fun _ _ _ _ _ _ us hl => match us, hl with | [_], _ => rfl
  have N_put_worlds' := fn_mk (ps := P_put_worlds) X G a_put_worlds l_put_worlds c_put_worlds k_put_worlds fun _ _ _ _ _ _ us hl => match us, hl with | [_, _], _ => rfl
  have N_worlds_in' := fn_mk (ps := P_worlds_in) X G a_worlds_in l_worlds_in c_worlds_in k_worlds_in fun _ _ _ _ _ _ us hl => match us, hl with | [_], _ => rfl
  have N_led_on' := fn_mk (ps := P_led_on) X G a_led_on l_led_on c_led_on k_led_on fun _ _ _ _ _ _ us hl => match us, hl with | [_, _, _], _ => rfl
  have N_truths' := fn_mk (ps := P_truths) X G a_truths l_truths c_truths k_truths fun _ _ _ _ _ _ us hl => match us, hl with | [_, _], _ => rfl
  have N_holds' := fn_mk (ps := P_holds) X G a_holds l_holds c_holds k_holds fun _ _ _ _ _ _ us hl => match us, hl with | [_, _], _ => rfl
  have N_bars' := fn_mk (ps := P_bars) X G a_bars l_bars c_bars k_bars fun _ _ _ _ _ _ us hl => match us, hl with | [_, _, _], _ => rfl
  have N_Having___init__' := mt_mk (ps := P_Having___init__) a_Having___init__ i_Having___init__ l_Having___init__ c_Having___init__ k_Having___init__ fun _ _ _ _ _ _ us hl => match us, hl with | [_], _ => rfl
  have N_Having_with_more' := mt_mk (ps := P_Having_with_more) a_Having_with_more i_Having_with_more l_Having_with_more c_Having_with_more k_Having_with_more fun _ _ _ _ _ _ us hl => match us, hl with | [_, _, _], _ => rfl
  have N_Having_had' := mt_mk (ps := P_Having_had) a_Having_had i_Having_had l_Having_had c_Having_had k_Having_had fun _ _ _ _ _ _ us hl => match us, hl with | [_, _], _ => rfl
  have N_Having_had_more' := mt_mk (ps := P_Having_had_more) a_Having_had_more i_Having_had_more l_Having_had_more c_Having_had_more k_Having_had_more fun _ _ _ _ _ _ us hl => match us, hl with | [_, _, _], _ => rfl
  have N_Having_first_not_had' := mt_mk (ps := P_Having_first_not_had) a_Having_first_not_had i_Having_first_not_had l_Having_first_not_had c_Having_first_not_had k_Having_first_not_had fun _ _ _ _ _ _ us hl => match us, hl with | [_, _, _, _], _ => rfl
  have N_Having_lack_of' := mt_mk (ps := P_Having_lack_of) a_Having_lack_of i_Having_lack_of l_Having_lack_of c_Having_lack_of k_Having_lack_of fun _ _ _ _ _ _ us hl => match us, hl with | [_, _, _, _], _ => rfl
  have N_Having_tree' := mt_mk (ps := P_Having_tree) a_Having_tree i_Having_tree l_Having_tree c_Having_tree k_Having_tree fun _ _ _ _ _ _ us hl => match us, hl with | [_, _], _ => rfl
  have N_barring' := fn_mk (ps := P_barring) X G a_barring l_barring c_barring k_barring fun _ _ _ _ _ _ us hl => match us, hl with | [_, _], _ => rfl
  have N__law_pool' := fn_mk (ps := P__law_pool) X G a__law_pool l__law_pool c__law_pool k__law_pool fun _ _ _ _ _ _ us hl => match us, hl with | [_, _], _ => rfl
  have N__law_take' := fn_mk (ps := P__law_take) X G a__law_take l__law_take c__law_take k__law_take fun _ _ _ _ _ _ us hl => match us, hl with | [_, _], _ => rfl
  have N__law_marks' := fn_mk (ps := P__law_marks) X G a__law_marks l__law_marks c__law_marks k__law_marks fun _ _ _ _ _ _ us hl => match us, hl with | [_], _ => rfl
  have N__law_kind' := fn_mk (ps := P__law_kind) X G a__law_kind l__law_kind c__law_kind k__law_kind fun _ _ _ _ _ _ us hl => match us, hl with | [_, _, _], _ => rfl
  have N__law_row' := fn_mk (ps := P__law_row) X G a__law_row l__law_row c__law_row k__law_row fun _ _ _ _ _ _ us hl => match us, hl with | [_, _, _], _ => rfl
  have N__law_tree' := fn_mk (ps := P__law_tree) X G a__law_tree l__law_tree c__law_tree k__law_tree fun _ _ _ _ _ _ us hl => match us, hl with | [_, _, _, _], _ => rfl
  have N__law_leaves' := fn_mk (ps := P__law_leaves) X G a__law_leaves l__law_leaves c__law_leaves k__law_leaves fun _ _ _ _ _ _ us hl => match us, hl with | [_], _ => rfl
  have N__law_told' := fn_mk (ps := P__law_told) X G a__law_told l__law_told c__law_told k__law_told fun _ _ _ _ _ _ us hl => match us, hl with | [_], _ => rfl
  have N__law_made' := fn_mk (ps := P__law_made) X G a__law_made l__law_made c__law_made k__law_made fun _ _ _ _ _ _ us hl => match us, hl with | [_, _, _, _], _ => rfl
  have N_law' := fn_mk (ps := P_law) X G a_law l_law c_law k_law fun _ _ _ _ _ _ us hl => match us, hl with | [_], _ => rfl
  have mn_Having : MkN K mg "Having" C_Having f_Having___init__ := ⟨⟨mm_Having, a_Having___init__, i_Having___init__, mk_Having⟩, PySem.W.mg_of X G ma_Having⟩
  have m_len : mg "len" = none := PySem.W.mg_none_of X G z_len
  have m_list : mg "list" = none := PySem.W.mg_none_of X G z_list
  have m_isinstance : mg "isinstance" = none := PySem.W.mg_none_of X G z_isinstance
  have m_str : mg "str" = none := PySem.W.mg_none_of X G z_str
  have m_tuple : mg "tuple" = none := PySem.W.mg_none_of X G z_tuple
  have m_reversed : mg "reversed" = none := PySem.W.mg_none_of X G z_reversed
  have m_range : mg "range" = none := PySem.W.mg_none_of X G z_range
  have m_zip : mg "zip" = none := PySem.W.mg_none_of X G z_zip
  have m_sorted : mg "sorted" = none := PySem.W.mg_none_of X G z_sorted
  have m_min : mg "min" = none := PySem.W.mg_none_of X G z_min
  have m_int : mg "int" = none := PySem.W.mg_none_of X G z_int
  have m_max : mg "max" = none := PySem.W.mg_none_of X G z_max
  have m_sum : mg "sum" = none := PySem.W.mg_none_of X G z_sum
  have c_LETTERS : Cst K mg "LETTERS" (.str "abcdefghijklmnopqrstuvwxyz") := cst_str (PySem.W.mg_of X G e_LETTERS)
  have c_LONGEST : Cst K mg "LONGEST" (.int 6) := cst_int (PySem.W.mg_of X G e_LONGEST)
  have c_ONE : Cst K mg "ONE" (.tup [.str "one"]) := cst_strs (ys := ["one"]) (PySem.W.mg_of X G e_ONE) q_ONE rfl rfl (.cons ⟨_, rfl⟩ .nil) (by decide)
  have c_DEEPEST : Cst K mg "DEEPEST" (.int 40) := cst_int (PySem.W.mg_of X G e_DEEPEST)
  let T : Tx K mg := { C_Having := C_Having, cl_Having := cl_Having, na_Having_kinds := na_Having_kinds, na_Having_found := na_Having_found, mk_Having := mn_Having, a_is_mark := _, fd_is_mark := _, n_is_mark := N_is_mark', a_ends_of := _, fd_ends_of := _, n_ends_of := N_ends_of', a_ways_of := _, fd_ways_of := _, n_ways_of := N_ways_of', a_shown_kind := _, fd_shown_kind := _, n_shown_kind := N_shown_kind', a_are_marks := _, fd_are_marks := _, n_are_marks := N_are_marks', a_has_tree_form := _, fd_has_tree_form := _, n_has_tree_form := N_has_tree_form', a_is_tree := _, fd_is_tree := _, n_is_tree := N_is_tree', a_put_worlds := _, fd_put_worlds := _, n_put_worlds := N_put_worlds', a_worlds_in := _, fd_worlds_in := _, n_worlds_in := N_worlds_in', a_led_on := _, fd_led_on := _, n_led_on := N_led_on', a_truths := _, fd_truths := _, n_truths := N_truths', a_holds := _, fd_holds := _, n_holds := N_holds', a_bars := _, fd_bars := _, n_bars := N_bars', a_Having___init__ := _, fd_Having___init__ := _, n_Having___init__ := N_Having___init__', a_Having_with_more := _, fd_Having_with_more := _, n_Having_with_more := N_Having_with_more', a_Having_had := _, fd_Having_had := _, n_Having_had := N_Having_had', a_Having_had_more := _, fd_Having_had_more := _, n_Having_had_more := N_Having_had_more', a_Having_first_not_had := _, fd_Having_first_not_had := _, n_Having_first_not_had := N_Having_first_not_had', a_Having_lack_of := _, fd_Having_lack_of := _, n_Having_lack_of := N_Having_lack_of', a_Having_tree := _, fd_Having_tree := _, n_Having_tree := N_Having_tree', a_barring := _, fd_barring := _, n_barring := N_barring', a__law_pool := _, fd__law_pool := _, n__law_pool := N__law_pool', a__law_take := _, fd__law_take := _, n__law_take := N__law_take', a__law_marks := _, fd__law_marks := _, n__law_marks := N__law_marks', a__law_kind := _, fd__law_kind := _, n__law_kind := N__law_kind', a__law_row := _, fd__law_row := _, n__law_row := N__law_row', a__law_tree := _, fd__law_tree := _, n__law_tree := N__law_tree', a__law_leaves := _, fd__law_leaves := _, n__law_leaves := N__law_leaves', a__law_told := _, fd__law_told := _, n__law_told := N__law_told', a__law_made := _, fd__law_made := _, n__law_made := N__law_made', a_law := _, fd_law := _, n_law := N_law', m_len := m_len, m_list := m_list, m_isinstance := m_isinstance, m_str := m_str, m_tuple := m_tuple, m_reversed := m_reversed, m_range := m_range, m_zip := m_zip, m_sorted := m_sorted, m_min := m_min, m_int := m_int, m_max := m_max, m_sum := m_sum, c_LETTERS := c_LETTERS, c_LONGEST := c_LONGEST, c_ONE := c_ONE, c_DEEPEST := c_DEEPEST }
  exact ⟨_, fun s v => .of_eq rfl, fun base _ _ => ok_law T⟩
end Kf
open PySem PySem.W PyProof.Rows
set_option maxHeartbeats 0 in
theorem PySem.Challenge.cw_kindfill_k39_whole_nothing_bars_programs_holds : PySem.Challenge.rw_kindfill_k39_whole_nothing_bars_programs.Holds := by
  w_on; o_law; k_head; (case hw => w_witness2)
  k_fill
  refine L2.walk_of (l := PySem.Challenge.rw_kindfill_k39_whole_nothing_bars_programs) (n := 63) (k := 110) (x := "_law_script") (CX := fun _ => L2.CX0) (sp := fun w => Kf.liftSp _ (Kf.lawSp 63)) rfl (by decide) rfl ⟨rfl, by decide, by decide⟩ (fun w h Y => PySem.W.kIn_of Y) ?F (fun _ _ a ns hl _ hS => Kf.law_start hl hS) (fun _ _ _ _ _ h => h)
  case F =>
    intro w mg fa h KX G hmg
    refine' Kf.all_mk KX G hmg ?cg_Having ?ch_Having ?co_Having ?cs_Having ?na_Having_kinds ?na_Having_found ?a_is_mark ?l_is_mark ?c_is_mark ?k_is_mark ?a_ends_of ?l_ends_of ?c_ends_of ?k_ends_of ?a_ways_of ?l_ways_of ?c_ways_of ?k_ways_of ?a_shown_kind ?l_shown_kind ?c_shown_kind ?k_shown_kind ?a_are_marks ?l_are_marks ?c_are_marks ?k_are_marks ?a_has_tree_form ?l_has_tree_form ?c_has_tree_form ?k_has_tree_form ?a_is_tree ?l_is_tree ?c_is_tree ?k_is_tree ?a_put_worlds ?l_put_worlds ?c_put_worlds ?k_put_worlds ?a_worlds_in ?l_worlds_in ?c_worlds_in ?k_worlds_in ?a_led_on ?l_led_on ?c_led_on ?k_led_on ?a_truths ?l_truths ?c_truths ?k_truths ?a_holds ?l_holds ?c_holds ?k_holds ?a_bars ?l_bars ?c_bars ?k_bars ?a_Having___init__ ?i_Having___init__ ?l_Having___init__ ?c_Having___init__ ?k_Having___init__ ?a_Having_with_more ?i_Having_with_more ?l_Having_with_more ?c_Having_with_more ?k_Having_with_more ?a_Having_had ?i_Having_had ?l_Having_had ?c_Having_had ?k_Having_had ?a_Having_had_more ?i_Having_had_more ?l_Having_had_more ?c_Having_had_more ?k_Having_had_more ?a_Having_first_not_had ?i_Having_first_not_had ?l_Having_first_not_had ?c_Having_first_not_had ?k_Having_first_not_had ?a_Having_lack_of ?i_Having_lack_of ?l_Having_lack_of ?c_Having_lack_of ?k_Having_lack_of ?a_Having_tree ?i_Having_tree ?l_Having_tree ?c_Having_tree ?k_Having_tree ?a_barring ?l_barring ?c_barring ?k_barring ?a__law_pool ?l__law_pool ?c__law_pool ?k__law_pool ?a__law_take ?l__law_take ?c__law_take ?k__law_take ?a__law_marks ?l__law_marks ?c__law_marks ?k__law_marks ?a__law_kind ?l__law_kind ?c__law_kind ?k__law_kind ?a__law_row ?l__law_row ?c__law_row ?k__law_row ?a__law_tree ?l__law_tree ?c__law_tree ?k__law_tree ?a__law_leaves ?l__law_leaves ?c__law_leaves ?k__law_leaves ?a__law_told ?l__law_told ?c__law_told ?k__law_told ?a__law_made ?l__law_made ?c__law_made ?k__law_made ?a_law ?l_law ?c_law ?k_law ?ma_Having ?mm_Having ?mk_Having ?z_len ?z_list ?z_isinstance ?z_str ?z_tuple ?z_reversed ?z_range ?z_zip ?z_sorted ?z_min ?z_int ?z_max ?z_sum ?e_LETTERS ?e_LONGEST ?e_ONE ?q_ONE ?e_DEEPEST
    (case ma_Having => k_is)
    (case cg_Having => k_is)
    (case ch_Having => k_is)
    (case co_Having => k_is)
    (case cs_Having => k_is)
    (case na_Having_kinds => k_is)
    (case na_Having_found => k_is)
    (case a_is_mark => k_is)
    (case l_is_mark => k_is)
    (case c_is_mark => k_is)
    (case k_is_mark => k_is)
    (case a_ends_of => k_is)
    (case l_ends_of => k_is)
    (case c_ends_of => k_is)
    (case k_ends_of => k_is)
    (case a_ways_of => k_is)
    (case l_ways_of => k_is)
    (case c_ways_of => k_is)
    (case k_ways_of => k_is)
    (case a_shown_kind => k_is)
    (case l_shown_kind => k_is)
    (case c_shown_kind => k_is)
    (case k_shown_kind => k_is)
    (case a_are_marks => k_is)
    (case l_are_marks => k_is)
    (case c_are_marks => k_is)
    (case k_are_marks => k_is)
    (case a_has_tree_form => k_is)
    (case l_has_tree_form => k_is)
    (case c_has_tree_form => k_is)
    (case k_has_tree_form => k_is)
    (case a_is_tree => k_is)
    (case l_is_tree => k_is)
    (case c_is_tree => k_is)
    (case k_is_tree => k_is)
    (case a_put_worlds => k_is)
    (case l_put_worlds => k_is)
    (case c_put_worlds => k_is)
    (case k_put_worlds => k_is)
    (case a_worlds_in => k_is)
    (case l_worlds_in => k_is)
    (case c_worlds_in => k_is)
    (case k_worlds_in => k_is)
    (case a_led_on => k_is)
    (case l_led_on => k_is)
    (case c_led_on => k_is)
    (case k_led_on => k_is)
    (case a_truths => k_is)
    (case l_truths => k_is)
    (case c_truths => k_is)
    (case k_truths => k_is)
    (case a_holds => k_is)
    (case l_holds => k_is)
    (case c_holds => k_is)
    (case k_holds => k_is)
    (case a_bars => k_is)
    (case l_bars => k_is)
    (case c_bars => k_is)
    (case k_bars => k_is)
    (case a_Having___init__ => k_is)
    (case i_Having___init__ => k_is)
    (case l_Having___init__ => k_is)
    (case c_Having___init__ => k_is)
    (case k_Having___init__ => k_is)
    (case a_Having_with_more => k_is)
    (case i_Having_with_more => k_is)
    (case l_Having_with_more => k_is)
    (case c_Having_with_more => k_is)
    (case k_Having_with_more => k_is)
    (case a_Having_had => k_is)
    (case i_Having_had => k_is)
    (case l_Having_had => k_is)
    (case c_Having_had => k_is)
    (case k_Having_had => k_is)
    (case a_Having_had_more => k_is)
    (case i_Having_had_more => k_is)
    (case l_Having_had_more => k_is)
    (case c_Having_had_more => k_is)
    (case k_Having_had_more => k_is)
    (case a_Having_first_not_had => k_is)
    (case i_Having_first_not_had => k_is)
    (case l_Having_first_not_had => k_is)
    (case c_Having_first_not_had => k_is)
    (case k_Having_first_not_had => k_is)
    (case a_Having_lack_of => k_is)
    (case i_Having_lack_of => k_is)
    (case l_Having_lack_of => k_is)
    (case c_Having_lack_of => k_is)
    (case k_Having_lack_of => k_is)
    (case a_Having_tree => k_is)
    (case i_Having_tree => k_is)
    (case l_Having_tree => k_is)
    (case c_Having_tree => k_is)
    (case k_Having_tree => k_is)
    (case a_barring => k_is)
    (case l_barring => k_is)
    (case c_barring => k_is)
    (case k_barring => k_is)
    (case a__law_pool => k_is)
    (case l__law_pool => k_is)
    (case c__law_pool => k_is)
    (case k__law_pool => k_is)
    (case a__law_take => k_is)
    (case l__law_take => k_is)
    (case c__law_take => k_is)
    (case k__law_take => k_is)
    (case a__law_marks => k_is)
    (case l__law_marks => k_is)
    (case c__law_marks => k_is)
    (case k__law_marks => k_is)
    (case a__law_kind => k_is)
    (case l__law_kind => k_is)
    (case c__law_kind => k_is)
    (case k__law_kind => k_is)
    (case a__law_row => k_is)
    (case l__law_row => k_is)
    (case c__law_row => k_is)
    (case k__law_row => k_is)
    (case a__law_tree => k_is)
    (case l__law_tree => k_is)
    (case c__law_tree => k_is)
    (case k__law_tree => k_is)
    (case a__law_leaves => k_is)
    (case l__law_leaves => k_is)
    (case c__law_leaves => k_is)
    (case k__law_leaves => k_is)
    (case a__law_told => k_is)
    (case l__law_told => k_is)
    (case c__law_told => k_is)
    (case k__law_told => k_is)
    (case a__law_made => k_is)
    (case l__law_made => k_is)
    (case c__law_made => k_is)
    (case k__law_made => k_is)
    (case a_law => k_is)
    (case l_law => k_is)
    (case c_law => k_is)
    (case k_law => k_is)
    (case mm_Having => k_is)
    (case mk_Having => k_is)
    (case z_len => k_is)
    (case z_list => k_is)
    (case z_isinstance => k_is)
    (case z_str => k_is)
    (case z_tuple => k_is)
    (case z_reversed => k_is)
    (case z_range => k_is)
    (case z_zip => k_is)
    (case z_sorted => k_is)
    (case z_min => k_is)
    (case z_int => k_is)
    (case z_max => k_is)
    (case z_sum => k_is)
    (case e_LETTERS => k_is)
    (case e_LONGEST => k_is)
    (case e_ONE => k_is)
    (case q_ONE => k_is)
    (case e_DEEPEST => k_is)
