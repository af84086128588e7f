import PyProof.Rows.All
import Wide.All
import OpenK.AllK
import Wide.FinOn
import PyProof.EqAt
import PyProof.EqKinds
import PyProof.TupleCall
import PySem.Challenge.RW_thrownslips_k95_bounds_small_judges
import HandS.ForMost
import HandS.ForExc
import HandS.IsInst
import HandS.TupAny
import HandS.Conv
import HandS.Small
import HandS.DictTup
import HandS.ExcOwn
import HandS.Flow
import HandS.Iter
set_option Elab.async false
set_option linter.all false
set_option maxRecDepth 100000
set_option autoImplicit false
set_option maxHeartbeats 4000000
/-! Mir0: mirrors of defs over plain values; the relation between a frame with its heap and a mirror's environment. -/
namespace Mir
open PySem PySem.Spec L2
open PyProof.Rows hiding St

/-- a plain value: no address in it; src: the one object that draws change -/
inductive P where
  | non | bl (b : Bool) | int (i : Int) | str (x : Str) | tup (ps : List P) | lst (ps : List P)
  | dK (kvs : List (Key × P)) | dT (kvs : List (List Key × P)) | src
  /-- a built-in class; a tuple of the written part -/
  | ty (n : String) | kt (ps : List P)

mutual
def P.imm : P → Bool
  | .non => true | .bl _ => true | .int _ => true | .str _ => true | .src => true | .ty _ => true
  | .kt ps => immL ps
  | .tup ps => immL ps
  | .lst _ => false | .dK _ => false | .dT _ => false
def immL : List P → Bool
  | [] => true
  | p :: ps => p.imm && immL ps
end

/-- the state of the drawing source -/
structure Src where
  cells : List Int
  at_ : Int
  big : Int
  left : Int
  seed : Int
  cnt : Int

inductive Res (α : Type) where
  | ok (a : α) (s : Src)
  | exc (c : Str) (fs : List P) (s : Src)
  | stuck

abbrev M (α : Type) := Src → Res α
def M.bind {α β : Type} (m : M α) (f : α → M β) : M β := fun s => match m s with
  | .ok a s' => f a s'
  | .exc c fs s' => .exc c fs s'
  | .stuck => .stuck
instance : Monad M where
  pure a := fun s => .ok a s
  bind := M.bind
def stk {α : Type} : M α := fun _ => .stuck
def lift {α : Type} (o : Option α) : M α := fun s => match o with
  | some a => .ok a s
  | none => .stuck
def guardM (b : Bool) : M Unit := fun s => if b = true then .ok () s else .stuck

inductive Md where
  | own | loc | par
  deriving DecidableEq
abbrev Env := List (Option (P × Md))
inductive Out where
  | nx (ρ : Env) | bk (ρ : Env) | ct (ρ : Env) | rt (p : P) | ex (c : Str) (fs : List P) (ρ : Env)

/-- what a context fixes: the written part, how an exception of a class with fields lies -/
structure Cn where
  K : PySem.W.Frag
  XA : Str → List P → Value → Option Addr → Hp → Prop

/-! ### values -/
mutual
inductive Rf (K : PySem.W.Frag) (s0 : Addr) (H : Hp) : P → V → List Addr → Prop
  | non : Rf K s0 H .non .non []
  | bl (b : Bool) : Rf K s0 H (.bl b) (.bl b) []
  | int (i : Int) : Rf K s0 H (.int i) (.int i) []
  | str (x : Str) : Rf K s0 H (.str x) (.str x) []
  | src : Rf K s0 H .src (.ref s0) []
  | ty (n : String) : Rf K s0 H (.ty n) (.ty n) []
  | kt {a : Addr} {vs : List V} {ps : List P} {o : Obj} {its : Array Value} {n : Nat} : K.lookup a = some o → o.cls = .type "tuple" → o.data = .seq its n → its.size ≤ sizeLine → Vals vs its.toList → RfL K s0 H ps vs [] → Rf K s0 H (.kt ps) (.ref a) []
  | tup {a : Addr} {vs : List V} {ps : List P} {F : List Addr} : H a = some (.tup vs) → RfL K s0 H ps vs F → Rf K s0 H (.tup ps) (.ref a) F
  | lst {a : Addr} {vs : List V} {ps : List P} {F : List Addr} : a ≠ s0 → H a = some (.lst vs) → RfL K s0 H ps vs F → Rf K s0 H (.lst ps) (.ref a) (a :: F)
  | dK {a : Addr} {hv : List (Key × V)} {kvs : List (Key × P)} {F : List Addr} : a ≠ s0 → H a = some (.dK hv) → kvs.map (·.1) = hv.map (·.1) → RfL K s0 H (kvs.map (·.2)) (hv.map (·.2)) F → Rf K s0 H (.dK kvs) (.ref a) (a :: F)
  | dT {a : Addr} {hv : List (List Key × V)} {kvs : List (List Key × P)} {F : List Addr} : a ≠ s0 → H a = some (.dT hv) → kvs.map (·.1) = hv.map (·.1) → RfL K s0 H (kvs.map (·.2)) (hv.map (·.2)) F → Rf K s0 H (.dT kvs) (.ref a) (a :: F)
inductive RfL (K : PySem.W.Frag) (s0 : Addr) (H : Hp) : List P → List V → List Addr → Prop
  | nil : RfL K s0 H [] [] []
  | cons {p : P} {v : V} {ps : List P} {vs : List V} {F G : List Addr} : Rf K s0 H p v F → RfL K s0 H ps vs G → RfL K s0 H (p :: ps) (v :: vs) (F ++ G)
end

/-- a step: all but s0 that was tracked stands as before; s0 is a list -/
structure Fr (s0 : Addr) (H H' : Hp) : Prop where
  keep : ∀ b o, H b = some o → b ≠ s0 → H' b = some o
  lst : ∃ vs, H s0 = some (.lst vs)
theorem Fr.refl {s0 : Addr} {H : Hp} (h : ∃ vs, H s0 = some (.lst vs)) : Fr s0 H H := ⟨fun _ _ e _ => e, h⟩
theorem Fr.trans {s0 : Addr} {H H1 H2 : Hp} (a : Fr s0 H H1) (b : Fr s0 H1 H2) : Fr s0 H H2 := ⟨fun c o e n => b.keep c o (a.keep c o e n) n, a.lst⟩
theorem Fr.none {s0 : Addr} {H H' : Hp} (h : Fr s0 H H') {a : Addr} (e : H' a = Option.none) (n : a ≠ s0) : H a = Option.none := by
  cases q : H a with
  | none => rfl
  | some o => rw [h.keep a o q n] at e; cases e
theorem Fr.new {s0 p : Addr} {H : Hp} {o : HO} (h : ∃ vs, H s0 = some (.lst vs)) (n : H p = Option.none) : Fr s0 H (upd H p o) :=
  ⟨fun b x e _ => by rw [upd_ne (ne_of_none e n)]; exact e, h⟩
theorem Fr.sqT {s0 : Addr} {H H' : Hp} (h : Fr s0 H H') {K : PySem.W.Frag} {a : Addr} {xs : List V} (x : SqT K H a xs) : SqT K H' a xs := by
  obtain ⟨vs, hs⟩ := h.lst
  rcases x with (x | ⟨o, x⟩) | x
  · exact .inl (.inl (h.keep a _ x fun e => by subst e; rw [hs] at x; cases x))
  · exact .inl (.inr ⟨o, h.keep a _ x fun e => by subst e; rw [hs] at x; cases x⟩)
  · exact .inr x
section
variable {K : PySem.W.Frag} {s0 : Addr} {H H' : Hp}
mutual
theorem Rf.fr (h : Fr s0 H H') : ∀ {p : P} {v : V} {F : List Addr}, Rf K s0 H p v F → Rf K s0 H' p v F
  | _, _, _, .non => .non
  | _, _, _, .bl b => .bl b
  | _, _, _, .int i => .int i
  | _, _, _, .str x => .str x
  | _, _, _, .src => .src
  | _, _, _, .ty n => .ty n
  | _, _, _, .kt e1 e2 e3 e4 e5 r => .kt e1 e2 e3 e4 e5 (RfL.fr h r)
  | _, _, _, .tup t r => .tup (h.keep _ _ t fun e => by
      obtain ⟨vs, hs⟩ := h.lst
      subst e; rw [hs] at t; cases t) (RfL.fr h r)
  | _, _, _, .lst n e r => .lst n (h.keep _ _ e n) (RfL.fr h r)
  | _, _, _, .dK n e k r => .dK n (h.keep _ _ e n) k (RfL.fr h r)
  | _, _, _, .dT n e k r => .dT n (h.keep _ _ e n) k (RfL.fr h r)
theorem RfL.fr (h : Fr s0 H H') : ∀ {ps : List P} {vs : List V} {F : List Addr}, RfL K s0 H ps vs F → RfL K s0 H' ps vs F
  | _, _, _, .nil => .nil
  | _, _, _, .cons a r => .cons (Rf.fr h a) (RfL.fr h r)
end
/-! footprints are tracked, and not s0 -/
mutual
theorem Rf.dom : ∀ {p : P} {v : V} {F : List Addr}, Rf K s0 H p v F → ∀ a ∈ F, a ≠ s0 ∧ ∃ o, H a = some o
  | _, _, _, .non => fun _ h => by cases h
  | _, _, _, .bl b => fun _ h => by cases h
  | _, _, _, .int i => fun _ h => by cases h
  | _, _, _, .str x => fun _ h => by cases h
  | _, _, _, .src => fun _ h => by cases h
  | _, _, _, .ty n => fun _ h => by cases h
  | _, _, _, .kt e1 e2 e3 e4 e5 r => fun _ h => by cases h
  | _, _, _, .tup t r => RfL.dom r
  | _, _, _, .lst n e r => fun a h => by
    rcases List.mem_cons.mp h with rfl | h
    · exact ⟨n, _, e⟩
    · exact RfL.dom r a h
  | _, _, _, .dK n e k r => fun a h => by
    rcases List.mem_cons.mp h with rfl | h
    · exact ⟨n, _, e⟩
    · exact RfL.dom r a h
  | _, _, _, .dT n e k r => fun a h => by
    rcases List.mem_cons.mp h with rfl | h
    · exact ⟨n, _, e⟩
    · exact RfL.dom r a h
theorem RfL.dom : ∀ {ps : List P} {vs : List V} {F : List Addr}, RfL K s0 H ps vs F → ∀ a ∈ F, a ≠ s0 ∧ ∃ o, H a = some o
  | _, _, _, .nil => fun _ h => by cases h
  | _, _, _, .cons x r => fun a h => by
    rcases List.mem_append.mp h with h | h
    · exact Rf.dom x a h
    · exact RfL.dom r a h
end
/-- a list or dict at a is changed that is not in the footprint -/
theorem SqT.at {a b : Addr} {o : HO} {xs : List V} (x : SqT K H b xs) (m : Mut (H a)) : SqT K (upd H a o) b xs := by
  rcases x with (x | ⟨q, x⟩) | x
  · exact .inl (.inl (by rw [upd_ne (fun e => by subst e; rw [x] at m; exact m)]; exact x))
  · exact .inl (.inr ⟨q, by rw [upd_ne (fun e => by subst e; rw [x] at m; exact m)]; exact x⟩)
  · exact .inr x
mutual
theorem Rf.wr {a : Addr} {o : HO} (m : Mut (H a)) : ∀ {p : P} {v : V} {F : List Addr}, Rf K s0 H p v F → a ∉ F → Rf K s0 (upd H a o) p v F
  | _, _, _, .non, _ => .non
  | _, _, _, .bl b, _ => .bl b
  | _, _, _, .int i, _ => .int i
  | _, _, _, .str x, _ => .str x
  | _, _, _, .src, _ => .src
  | _, _, _, .ty n, _ => .ty n
  | _, _, _, .kt e1 e2 e3 e4 e5 r, _ => .kt e1 e2 e3 e4 e5 (RfL.wr m r fun z => by cases z)
  | _, _, _, .tup t r, h => .tup (by rw [upd_ne (fun e => by subst e; rw [t] at m; exact m)]; exact t) (RfL.wr m r h)
  | _, _, _, .lst n e r, h => .lst n (by rw [upd_ne (fun z => h (by rw [z]; exact List.mem_cons_self))]; exact e) (RfL.wr m r fun z => h (List.mem_cons_of_mem _ z))
  | _, _, _, .dK n e k r, h => .dK n (by rw [upd_ne (fun z => h (by rw [z]; exact List.mem_cons_self))]; exact e) k (RfL.wr m r fun z => h (List.mem_cons_of_mem _ z))
  | _, _, _, .dT n e k r, h => .dT n (by rw [upd_ne (fun z => h (by rw [z]; exact List.mem_cons_self))]; exact e) k (RfL.wr m r fun z => h (List.mem_cons_of_mem _ z))
theorem RfL.wr {a : Addr} {o : HO} (m : Mut (H a)) : ∀ {ps : List P} {vs : List V} {F : List Addr}, RfL K s0 H ps vs F → a ∉ F → RfL K s0 (upd H a o) ps vs F
  | _, _, _, .nil, _ => .nil
  | _, _, _, .cons x r, h => .cons (Rf.wr m x fun z => h (List.mem_append_left _ z)) (RfL.wr m r fun z => h (List.mem_append_right _ z))
end
mutual
theorem Rf.imm : ∀ {p : P} {v : V} {F : List Addr}, Rf K s0 H p v F → p.imm = true → F = []
  | _, _, _, .non, _ => rfl
  | _, _, _, .bl b, _ => rfl
  | _, _, _, .int i, _ => rfl
  | _, _, _, .str x, _ => rfl
  | _, _, _, .src, _ => rfl
  | _, _, _, .ty n, _ => rfl
  | _, _, _, .kt _ _ _ _ _ _, _ => rfl
  | _, _, _, .tup t r, h => RfL.imm r (by simpa [P.imm] using h)
  | _, _, _, .lst _ _ _, h => by simp [P.imm] at h
  | _, _, _, .dK _ _ _ _, h => by simp [P.imm] at h
  | _, _, _, .dT _ _ _ _, h => by simp [P.imm] at h
theorem RfL.imm : ∀ {ps : List P} {vs : List V} {F : List Addr}, RfL K s0 H ps vs F → immL ps = true → F = []
  | _, _, _, .nil, _ => rfl
  | _, _, _, .cons x r, h => by
    simp only [immL, Bool.and_eq_true] at h
    rw [Rf.imm x h.1, RfL.imm r h.2]; rfl
end
theorem RfL.length : ∀ {ps : List P} {vs : List V} {F : List Addr}, RfL K s0 H ps vs F → ps.length = vs.length
  | _, _, _, .nil => rfl
  | _, _, _, .cons _ r => by rw [List.length_cons, List.length_cons, RfL.length r]
theorem RfL.get : ∀ {ps : List P} {vs : List V} {F : List Addr} {i : Nat} {p : P}, RfL K s0 H ps vs F → ps[i]? = some p → ∃ v G, vs[i]? = some v ∧ Rf K s0 H p v G ∧ G.Sublist F
  | _, _, _, _, _, .nil, e => by simp at e
  | _, _, _, 0, _, .cons x _, e => by
    simp at e; subst e
    exact ⟨_, _, rfl, x, List.sublist_append_left _ _⟩
  | _, _, _, i + 1, _, .cons _ r, e => by
    obtain ⟨v, G, h1, h2, h3⟩ := RfL.get (i := i) r (by simpa using e)
    exact ⟨v, G, by simpa using h1, h2, h3.trans (List.sublist_append_right _ _)⟩
theorem RfL.append : ∀ {ps qs : List P} {vs ws : List V} {F G : List Addr}, RfL K s0 H ps vs F → RfL K s0 H qs ws G → RfL K s0 H (ps ++ qs) (vs ++ ws) (F ++ G)
  | _, _, _, _, _, _, .nil, s => s
  | _, _, _, _, _, _, .cons x r, s => by
    rw [List.cons_append, List.cons_append, List.append_assoc]
    exact .cons x (RfL.append r s)
end

/-! ### the source -/
def SrcAt (s0 c0 : Addr) (S : Src) (H : Hp) : Prop :=
  H s0 = some (.lst [.ref c0, .int S.at_, .int S.big, .int S.left, .int S.seed, .int S.cnt]) ∧ H c0 = some (.lst (S.cells.map V.int)) ∧ c0 ≠ s0
theorem SrcAt.lst {s0 c0 : Addr} {S : Src} {H : Hp} (h : SrcAt s0 c0 S H) : ∃ vs, H s0 = some (.lst vs) := ⟨_, h.1⟩
theorem SrcAt.fr {s0 c0 : Addr} {S : Src} {H H' : Hp} (h : SrcAt s0 c0 S H) (f : Fr s0 H H') (e : H' s0 = H s0) : SrcAt s0 c0 S H' :=
  ⟨by rw [e]; exact h.1, f.keep _ _ h.2.1 h.2.2, h.2.2⟩
theorem SrcAt.upd {s0 c0 p : Addr} {S : Src} {H : Hp} {o : HO} (h : SrcAt s0 c0 S H) (n : H p = none) : SrcAt s0 c0 S (upd H p o) :=
  ⟨by rw [upd_ne (ne_of_none h.1 n)]; exact h.1, by rw [upd_ne (ne_of_none h.2.1 n)]; exact h.2.1, h.2.2⟩

/-! ### a frame and an environment -/
abbrev Pins := List (P × V × List Addr)
structure RelF (c : Cn) (s0 c0 : Addr) (Fs : Nat → List Addr) (H0 : Hp) (S : Src) (pins : Pins) (σ : St) (H : Hp) (ρ : Env) : Prop where
  fr : Fr s0 H0 H
  src : SrcAt s0 c0 S H
  c0in : ∃ o, H0 c0 = some o
  len : σ.length = ρ.length
  slot : ∀ i p m, ρ[i]? = some (some (p, m)) → ∃ v, σ[i]? = some (some v) ∧ Rf c.K s0 H p v (Fs i)
  fresh : ∀ i p m, ρ[i]? = some (some (p, m)) → m ≠ .par → (Fs i).Nodup ∧ ∀ a ∈ Fs i, H0 a = none
  dis : ∀ i j p q m, i ≠ j → ρ[i]? = some (some (p, .own)) → ρ[j]? = some (some (q, m)) → ∀ a ∈ Fs i, a ∉ Fs j
  pin : ∀ x ∈ pins, Rf c.K s0 H x.1 x.2.1 x.2.2 ∧ ∀ i p, ρ[i]? = some (some (p, .own)) → ∀ a ∈ Fs i, a ∉ x.2.2
section
variable {c : Cn} {s0 c0 : Addr} {Fs : Nat → List Addr} {H0 : Hp} {S S' : Src} {pins : Pins} {σ : St} {H H' : Hp} {ρ : Env}
theorem RelF.step (r : RelF c s0 c0 Fs H0 S pins σ H ρ) (f : Fr s0 H H') (q : SrcAt s0 c0 S' H') : RelF c s0 c0 Fs H0 S' pins σ H' ρ where
  fr := r.fr.trans f
  src := q
  c0in := r.c0in
  len := r.len
  slot := fun i p m e => by
    obtain ⟨v, h1, h2⟩ := r.slot i p m e
    exact ⟨v, h1, h2.fr f⟩
  fresh := r.fresh
  dis := r.dis
  pin := fun x h => ⟨(r.pin x h).1.fr f, (r.pin x h).2⟩
theorem RelF.new {p : Addr} {o : HO} (r : RelF c s0 c0 Fs H0 S pins σ H ρ) (n : H p = none) : RelF c s0 c0 Fs H0 S pins σ (upd H p o) ρ :=
  r.step (Fr.new r.src.lst n) (r.src.upd n)
theorem RelF.frNew {p : Addr} {o : HO} (r : RelF c s0 c0 Fs H0 S pins σ H ρ) (n : H p = none) : Fr s0 H (upd H p o) := Fr.new r.src.lst n
theorem RelF.unpin {x : P × V × List Addr} (r : RelF c s0 c0 Fs H0 S (x :: pins) σ H ρ) : RelF c s0 c0 Fs H0 S pins σ H ρ :=
  { r with pin := fun y h => r.pin y (List.mem_cons_of_mem _ h) }
theorem RelF.h0 (r : RelF c s0 c0 Fs H0 S pins σ H ρ) {a : Addr} (e : H a = none) : H0 a = none := r.fr.none e fun z => by
  obtain ⟨vs, h⟩ := r.src.lst
  subst z; rw [h] at e; cases e
end
/-- what is known of an expression's footprint -/
inductive Kd where
  | any | non | fre
def KindOk (kd : Kd) (Fs : Nat → List Addr) (ρ : Env) (H : Hp) (G : List Addr) : Prop :=
  match kd with
  | .any => True
  | .non => ∀ i p, ρ[i]? = some (some (p, .own)) → ∀ a ∈ Fs i, a ∉ G
  | .fre => G.Nodup ∧ ∀ a ∈ G, H a = none
section
variable {c : Cn} {s0 c0 : Addr} {Fs : Nat → List Addr} {H0 : Hp} {S S' : Src} {pins : Pins} {σ : St} {H H' : Hp} {ρ : Env}
theorem KindOk.nil {kd : Kd} : KindOk kd Fs ρ H [] := by
  cases kd with
  | any => trivial
  | non => exact fun _ _ _ _ _ h => by cases h
  | fre => exact ⟨List.nodup_nil, fun _ h => by cases h⟩
theorem KindOk.toNon {G : List Addr} (r : RelF c s0 c0 Fs H0 S pins σ H ρ) (k : KindOk .fre Fs ρ H G) : KindOk .non Fs ρ H G := fun i p e a ha hg => by
  obtain ⟨v, _, h2⟩ := r.slot i p _ e
  obtain ⟨_, o, q⟩ := h2.dom a ha
  rw [k.2 a hg] at q; cases q
theorem KindOk.sub {kd : Kd} {F G : List Addr} (k : KindOk kd Fs ρ H G) (s : F.Sublist G) : KindOk kd Fs ρ H F := by
  cases kd with
  | any => trivial
  | non => exact fun i p e a ha hg => k i p e a ha (s.subset hg)
  | fre => exact ⟨s.nodup k.1, fun a ha => k.2 a (s.subset ha)⟩
/-- a fresh address ahead of the footprint -/
theorem KindOk.cons {kd : Kd} {G : List Addr} {p : Addr} (r : RelF c s0 c0 Fs H0 S pins σ H ρ) (k : KindOk kd Fs ρ H G) (n : H p = none) (hg : p ∉ G) : KindOk kd Fs ρ H (p :: G) := by
  cases kd with
  | any => trivial
  | non =>
    intro i q e a ha hg
    rcases List.mem_cons.mp hg with rfl | hg
    · obtain ⟨v, _, h2⟩ := r.slot i q _ e
      obtain ⟨_, o, z⟩ := h2.dom a ha
      rw [n] at z; cases z
    · exact k i q e a ha hg
  | fre =>
    refine ⟨List.nodup_cons.mpr ⟨hg, k.1⟩, fun a ha => ?_⟩
    rcases List.mem_cons.mp ha with rfl | ha
    · exact n
    · exact k.2 a ha
/-- earlier fresh, later fresh -/
theorem KindOk.append {kd : Kd} {F G : List Addr} {K : PySem.W.Frag} {p : P} {v : V} (k : KindOk kd Fs ρ H F) (x : Rf K s0 H' p v F) (f : Fr s0 H H') (k2 : KindOk kd Fs ρ H' G) (hs : ∀ a ∈ G, a ≠ s0) : KindOk kd Fs ρ H (F ++ G) := by
  cases kd with
  | any => trivial
  | non =>
    intro i q e a ha hg
    rcases List.mem_append.mp hg with hg | hg
    · exact k i q e a ha hg
    · exact k2 i q e a ha hg
  | fre =>
    refine ⟨List.nodup_append.mpr ⟨k.1, k2.1, fun a ha b hb e => ?_⟩, fun a ha => ?_⟩
    · subst e
      obtain ⟨_, o, z⟩ := x.dom a ha
      rw [k2.2 a hb] at z; cases z
    · rcases List.mem_append.mp ha with h | h
      · exact k.2 a h
      · exact f.none (k2.2 a h) (hs a h)
end

/-! ### what a mirror's answer says of a reading -/
/-- how answers of a mirror lie as answers of a reading -/
structure Rep (α β : Type) where
  rel : PySem.W.Frag → Addr → Hp → α → β → List Addr → Prop
  dom : ∀ {K s0 H a b G}, rel K s0 H a b G → ∀ x ∈ G, x ≠ s0 ∧ ∃ o, H x = some o
  fr : ∀ {K s0 H H' a b G}, Fr s0 H H' → rel K s0 H a b G → rel K s0 H' a b G
def repE : Rep P V := ⟨Rf, fun h => Rf.dom h, fun f h => Rf.fr f h⟩
def repA : Rep (List P) (List V) := ⟨RfL, fun h => RfL.dom h, fun f h => RfL.fr f h⟩
def repV (α : Type) : Rep α α := ⟨fun _ _ _ a b G => a = b ∧ G = [], (fun h x z => by rw [h.2] at z; cases z), (fun _ h => h)⟩
abbrev repT : Rep Bool Bool := repV Bool
def Post {α β : Type} (R : Rep α β) (c : Cn) (W : WX) (s0 c0 : Addr) (Fs : Nat → List Addr) (H0 : Hp) (pins : Pins) (σ : St) (H : Hp) (ρ : Env) (kd : Kd) (Q : β → Hp → Prop) : Res α → Prop
  | .ok p S' => ∀ v H' G, RelF c s0 c0 Fs H0 S' pins σ H' ρ → Fr s0 H H' → R.rel c.K s0 H' p v G → KindOk kd Fs ρ H G → Q v H'
  | .exc k fs S' => ∀ cls d H', RelF c s0 c0 Fs H0 S' pins σ H' ρ → Fr s0 H H' → c.XA k fs cls d H' → W cls d σ H'
  | .stuck => False
/-- a reading does what a mirror says -/
def JM {α β : Type} (R : Rep α β) (c : Cn) (W : WX) (kd : Kd) (t : St → Hp → (β → Hp → Prop) → Prop) (m : Env → M α) : Prop :=
  ∀ s0 c0 Fs H0 S pins σ H ρ Q, RelF c s0 c0 Fs H0 S pins σ H ρ → Post R c W s0 c0 Fs H0 pins σ H ρ kd Q (m ρ S) → t σ H Q
abbrev EM (c : Cn) (W : WX) (kd : Kd) (t : TE) (m : Env → M P) : Prop := JM repE c W kd t m
abbrev AM (c : Cn) (W : WX) (kd : Kd) (t : TA) (m : Env → M (List P)) : Prop := JM repA c W kd t m
abbrev TM (c : Cn) (W : WX) (t : TT) (m : Env → M Bool) : Prop := JM repT c W .any t m
/-- behind a statement -/
def PostS (c : Cn) (W : WX) (s0 c0 : Addr) (H0 : Hp) (pins : Pins) (D : Ends) : Res Out → Prop
  | .ok (.nx ρ') S' => ∀ Fs σ H, RelF c s0 c0 Fs H0 S' pins σ H ρ' → D.nx σ H
  | .ok (.bk ρ') S' => ∀ Fs σ H, RelF c s0 c0 Fs H0 S' pins σ H ρ' → D.bk σ H
  | .ok (.ct ρ') S' => ∀ Fs σ H, RelF c s0 c0 Fs H0 S' pins σ H ρ' → D.ct σ H
  | .ok (.rt p) S' => ∀ v H G, Fr s0 H0 H → SrcAt s0 c0 S' H → Rf c.K s0 H p v G → G.Nodup → (∀ a ∈ G, H0 a = none) → D.rt v H
  | .ok (.ex k fs ρ') S' => ∀ Fs cls d σ H, RelF c s0 c0 Fs H0 S' pins σ H ρ' → c.XA k fs cls d H → W cls d σ H
  | .exc _ _ _ => False
  | .stuck => False
def SM (c : Cn) (W : WX) (t : TS) (m : Env → M Out) : Prop :=
  ∀ s0 c0 Fs H0 S pins σ H ρ D, RelF c s0 c0 Fs H0 S pins σ H ρ → PostS c W s0 c0 H0 pins D (m ρ S) → t D σ H
/-- evaluate, then go on; an exception ends the statement -/
def thenE {α : Type} (m : Env → M α) (f : α → Env → M Out) : Env → M Out := fun ρ S => match m ρ S with
  | .ok a S' => f a ρ S'
  | .exc k fs S' => .ok (.ex k fs ρ) S'
  | .stuck => .stuck

/-! ### binding -/
section
variable {α β γ δ : Type} {R1 : Rep α β} {R2 : Rep γ δ} {c : Cn} {W : WX} {s0 c0 : Addr} {Fs : Nat → List Addr} {H0 : Hp} {S : Src} {pins : Pins} {σ : St} {H H1 : Hp} {ρ : Env} {kd kd' : Kd}
/-- the second part of a row of two, behind the first -/
theorem Post.bind {Q : δ → Hp → Prop} {t : β → Hp → Prop} {m : M α} {f : α → M γ} (h : Post R2 c W s0 c0 Fs H0 pins σ H ρ kd Q (M.bind m f S))
    (k : ∀ p S' v H' G, m S = .ok p S' → RelF c s0 c0 Fs H0 S' pins σ H' ρ → Fr s0 H H' → R1.rel c.K s0 H' p v G → KindOk kd' Fs ρ H G → Post R2 c W s0 c0 Fs H0 pins σ H ρ kd Q (f p S') → t v H') :
    Post R1 c W s0 c0 Fs H0 pins σ H ρ kd' t (m S) := by
  unfold M.bind at h
  cases e : m S with
  | ok p S' =>
    rw [e] at h
    exact fun v H' G r fr x kk => k p S' v H' G e r fr x kk h
  | exc a b S' =>
    rw [e] at h
    exact h
  | stuck =>
    rw [e] at h
    exact h.elim
/-- the same, the start being moved on -/
theorem Post.bind2 {Q : δ → Hp → Prop} {t : β → Hp → Prop} {m : M α} {f : α → M γ} (f0 : Fr s0 H H1) (h : Post R2 c W s0 c0 Fs H0 pins σ H ρ kd Q (M.bind m f S))
    (k : ∀ p S' v H' G, m S = .ok p S' → RelF c s0 c0 Fs H0 S' pins σ H' ρ → Fr s0 H1 H' → R1.rel c.K s0 H' p v G → KindOk kd' Fs ρ H1 G → Post R2 c W s0 c0 Fs H0 pins σ H ρ kd Q (f p S') → t v H') :
    Post R1 c W s0 c0 Fs H0 pins σ H1 ρ kd' t (m S) := by
  unfold M.bind at h
  cases e : m S with
  | ok p S' =>
    rw [e] at h
    exact fun v H' G r fr x kk => k p S' v H' G e r fr x kk h
  | exc a b S' =>
    rw [e] at h
    exact fun cls d H' r fr x => h cls d H' r (f0.trans fr) x
  | stuck =>
    rw [e] at h
    exact h.elim
theorem KindOk.back {G : List Addr} (f : Fr s0 H H1) (h : KindOk kd Fs ρ H1 G) (hs : ∀ a ∈ G, a ≠ s0) : KindOk kd Fs ρ H G := by
  cases kd with
  | any => trivial
  | non => exact h
  | fre => exact ⟨h.1, fun a ha => f.none (h.2 a ha) (hs a ha)⟩
/-- the start is moved on -/
theorem Post.from {Q : β → Hp → Prop} {r : Res α} (f : Fr s0 H H1) (h : Post R1 c W s0 c0 Fs H0 pins σ H ρ kd Q r) : Post R1 c W s0 c0 Fs H0 pins σ H1 ρ kd Q r := by
  cases r with
  | ok p S' => exact fun v H' G r fr x kk => h v H' G r (f.trans fr) x (kk.back f fun a ha => (R1.dom x a ha).1)
  | exc a b S' => exact fun cls d H' r fr x => h cls d H' r (f.trans fr) x
  | stuck => exact h.elim
/-- a lesser kind is wanted -/
theorem JM.any {t : St → Hp → (β → Hp → Prop) → Prop} {m : Env → M α} (h : JM R1 c W kd t m) : JM R1 c W .any t m := by
  intro s0 c0 Fs H0 S pins σ H ρ Q r q
  refine h s0 c0 Fs H0 S pins σ H ρ Q r ?_
  cases e : m ρ S with
  | ok p S' => rw [e] at q; exact fun v H' G r fr x _ => q v H' G r fr x trivial
  | exc a b S' => rw [e] at q; exact q
  | stuck => rw [e] at q; exact q
theorem JM.non {t : St → Hp → (β → Hp → Prop) → Prop} {m : Env → M α} (h : JM R1 c W .fre t m) : JM R1 c W .non t m := by
  intro s0 c0 Fs H0 S pins σ H ρ Q r q
  refine h s0 c0 Fs H0 S pins σ H ρ Q r ?_
  cases e : m ρ S with
  | ok p S' => rw [e] at q; exact fun v H' G r' fr x k => q v H' G r' fr x (k.toNon r)
  | exc a b S' => rw [e] at q; exact q
  | stuck => rw [e] at q; exact q
end
end Mir

/-! Mir1: rules of expressions. -/
namespace Mir
open PySem PySem.Spec L2
open PyProof.Rows hiding St
section
variable {c : Cn} {W : WX} {kd ka kb : Kd}

/-! ### names, constants -/
def mVar (i : Nat) : Env → M P := fun ρ s => match ρ[i]? with
  | some (some (p, _)) => .ok p s
  | _ => .stuck
def mVarN (i : Nat) : Env → M P := fun ρ s => match ρ[i]? with
  | some (some (p, m)) => if m = .own ∧ p.imm = false then .stuck else .ok p s
  | _ => .stuck
def mC (p : P) : Env → M P := fun _ s => .ok p s
def mImm (m : Env → M P) : Env → M P := fun ρ s => match m ρ s with
  | .ok p s' => if p.imm = true then .ok p s' else .stuck
  | .exc a b s' => .exc a b s'
  | .stuck => .stuck
theorem em_var {i : Nat} : EM c W .any (tVar i) (mVar i) := by
  intro s0 c0 Fs H0 S pins σ H ρ Q r h
  unfold mVar at h
  split at h
  · rename_i p m e
    obtain ⟨v, h1, h2⟩ := r.slot i p m e
    exact ⟨v, h1, h v H (Fs i) r (Fr.refl r.src.lst) h2 trivial⟩
  · exact h.elim
theorem em_varN {i : Nat} : EM c W .non (tVar i) (mVarN i) := by
  intro s0 c0 Fs H0 S pins σ H ρ Q r h
  unfold mVarN at h
  split at h
  · rename_i p m e
    obtain ⟨v, h1, h2⟩ := r.slot i p m e
    by_cases q : m = .own ∧ p.imm = false
    · rw [if_pos q] at h; exact h.elim
    · rw [if_neg q] at h
      refine ⟨v, h1, h v H (Fs i) r (Fr.refl r.src.lst) h2 fun j p' e' a ha hg => ?_⟩
      by_cases hij : j = i
      · subst hij
        rw [e] at e'
        injection e' with e'
        injection e' with e'
        injection e' with e1 e2
        have hi : p.imm = true := by
          cases z : p.imm with
          | true => rfl
          | false => exact absurd ⟨e2, z⟩ q
        rw [h2.imm hi] at ha; cases ha
      · exact r.dis j i p' p m hij e' e a ha hg
  · exact h.elim
theorem em_c {p : P} {v : V} (hp : ∀ K s0 H, Rf K s0 H p v []) : EM c W kd (tC v) (mC p) := by
  intro s0 c0 Fs H0 S pins σ H ρ Q r h
  exact h v H [] r (Fr.refl r.src.lst) (hp _ _ _) KindOk.nil
theorem em_int {i : Int} : EM c W kd (tC (.int i)) (mC (.int i)) := em_c fun _ _ _ => .int i
theorem em_bl {b : Bool} : EM c W kd (tC (.bl b)) (mC (.bl b)) := em_c fun _ _ _ => .bl b
theorem em_non : EM c W kd (tC .non) (mC .non) := em_c fun _ _ _ => .non
theorem em_str {x : Str} : EM c W kd (tC (.str x)) (mC (.str x)) := em_c fun _ _ _ => .str x
theorem em_ty {n : String} : EM c W kd (tC (.ty n)) (mC (.ty n)) := em_c fun _ _ _ => .ty n
/-- a constant of the written part -/
theorem em_k {p : P} {v : V} (hp : ∀ s0 H, Rf c.K s0 H p v []) : EM c W kd (tC v) (mC p) := by
  intro s0 c0 Fs H0 S pins σ H ρ Q r h
  exact h v H [] r (Fr.refl r.src.lst) (hp _ _) KindOk.nil
theorem em_imm {t : TE} {m : Env → M P} (h : EM c W kd t m) : EM c W .fre t (mImm m) := by
  intro s0 c0 Fs H0 S pins σ H ρ Q r q
  refine h s0 c0 Fs H0 S pins σ H ρ Q r ?_
  unfold mImm at q
  cases e : m ρ S with
  | ok p S' =>
    rw [e] at q
    intro v H' G r' f x _
    dsimp only at q
    by_cases z : p.imm = true
    · rw [if_pos z] at q
      have hG := Rf.imm x z
      subst hG
      exact q v H' [] r' f x KindOk.nil
    · rw [if_neg z] at q; exact q.elim
  | exc a b S' => rw [e] at q; exact q
  | stuck => rw [e] at q; exact q.elim

/-! ### operators -/
/-- a reading of two values does what f says; its answer is new -/
def OpM (c : Cn) (r : R2) (f : P → P → Option P) : Prop := ∀ s0 c0 S H x y p q F G z Q, SrcAt s0 c0 S H → Rf c.K s0 H p x F → Rf c.K s0 H q y G → f p q = some z →
  (∀ v H' E, Fr s0 H H' → H' s0 = H s0 → Rf c.K s0 H' z v E → E.Nodup → (∀ a ∈ E, H a = none) → Q v H') → r x y H Q
def mOp (f : P → P → Option P) (ma mb : Env → M P) : Env → M P := fun ρ => M.bind (ma ρ) fun a => M.bind (mb ρ) fun b => lift (f a b)
theorem em_op {r : R2} {f : P → P → Option P} {ta tb : TE} {ma mb : Env → M P} (o : OpM c r f) (ha : EM c W ka ta ma) (hb : EM c W kb tb mb) : EM c W .fre (tOp r ta tb) (mOp f ma mb) := by
  intro s0 c0 Fs H0 S pins σ H ρ Q R h
  refine ha s0 c0 Fs H0 S pins σ H ρ _ R (Post.bind h fun p S1 v H1 G1 e1 R1 f1 x1 k1 h1 => ?_)
  refine hb s0 c0 Fs H0 S1 pins σ H1 ρ _ R1 (Post.bind (h1.from f1) fun q S2 w H2 G2 e2 R2 f2 x2 k2 h2 => ?_)
  have h3 := h2.from f2
  unfold lift at h3
  cases e : f p q with
  | none => rw [e] at h3; exact h3.elim
  | some z =>
    rw [e] at h3
    exact o s0 c0 S2 H2 v w p q G1 G2 z Q R2.src (x1.fr f2) x2 e fun u H' E f' e' x' n' d' => h3 u H' E (R2.step f' (R2.src.fr f' e')) f' x' ⟨n', d'⟩
theorem OpM.or1 {r r' : R2} {f : P → P → Option P} (h : OpM c r f) : OpM c (fun x y H Q => r x y H Q ∨ r' x y H Q) f := fun s0 c0 S H x y p q F G z Q s a b e k => .inl (h s0 c0 S H x y p q F G z Q s a b e k)
theorem OpM.or {r r' : R2} {f g : P → P → Option P} (h : OpM c r f) (h' : OpM c r' g) : OpM c (fun x y H Q => r x y H Q ∨ r' x y H Q) (fun p q => (f p q).or (g p q)) := by
  intro s0 c0 S H x y p q F G z Q s a b e k
  dsimp only at e
  cases z1 : f p q with
  | some u =>
    rw [z1] at e
    exact .inl (h s0 c0 S H x y p q F G z Q s a b (by rw [z1]; exact e) k)
  | none =>
    rw [z1] at e
    exact .inr (h' s0 c0 S H x y p q F G z Q s a b e k)
def pI (g : Int → Int → P) : P → P → Option P
  | .int i, .int j => some (g i j)
  | _, _ => none
def pIc (C : Int → Int → Bool) (g : Int → Int → P) : P → P → Option P
  | .int i, .int j => if C i j = true then some (g i j) else none
  | _, _ => none
theorem om_I0 {g : Int → Int → V} {g' : Int → Int → P} (hg : ∀ K s0 H i j, Rf K s0 H (g' i j) (g i j) []) : OpM c (rI0 g) (pI g') := by
  intro s0 c0 S H x y p q F G z Q s a b e k
  unfold pI at e
  split at e
  · cases a; cases b
    injection e with e
    subst e
    exact ⟨_, _, rfl, rfl, k _ H [] (Fr.refl s.lst) rfl (hg _ _ _ _ _) List.nodup_nil fun _ h => by cases h⟩
  · cases e
theorem om_I {C : Int → Int → Prop} {Cb : Int → Int → Bool} {g : Int → Int → V} {g' : Int → Int → P} (hC : ∀ i j, Cb i j = true → C i j) (hg : ∀ K s0 H i j, Rf K s0 H (g' i j) (g i j) []) : OpM c (rI C g) (pIc Cb g') := by
  intro s0 c0 S H x y p q F G z Q s a b e k
  unfold pIc at e
  split at e
  · cases a; cases b
    split at e
    · rename_i hc
      injection e with e
      subst e
      exact ⟨_, _, rfl, rfl, hC _ _ hc, k _ H [] (Fr.refl s.lst) rfl (hg _ _ _ _ _) List.nodup_nil fun _ h => by cases h⟩
    · cases e
  · cases e
abbrev pSub : P → P → Option P := pI fun i j => .int (i - j)
theorem om_sub : OpM c (rI0 fun i j => .int (i - j)) pSub := om_I0 fun _ _ _ _ _ => .int _
abbrev pLt : P → P → Option P := pI fun i j => .bl (decide (i < j))
abbrev pLe : P → P → Option P := pI fun i j => .bl (decide (i ≤ j))
abbrev pGt : P → P → Option P := pI fun i j => .bl (decide (j < i))
abbrev pGe : P → P → Option P := pI fun i j => .bl (decide (j ≤ i))
theorem om_lt : OpM c (rI0 fun i j => .bl (decide (i < j))) pLt := om_I0 fun _ _ _ _ _ => .bl _
theorem om_le : OpM c (rI0 fun i j => .bl (decide (i ≤ j))) pLe := om_I0 fun _ _ _ _ _ => .bl _
theorem om_gt : OpM c (rI0 fun i j => .bl (decide (j < i))) pGt := om_I0 fun _ _ _ _ _ => .bl _
theorem om_ge : OpM c (rI0 fun i j => .bl (decide (j ≤ i))) pGe := om_I0 fun _ _ _ _ _ => .bl _
def mulOk (i j : Int) : Bool := (decide (-(2 ^ 64) < i) && decide (i < 2 ^ 64)) || (decide (-(2 ^ 64) < j) && decide (j < 2 ^ 64))
abbrev pMul : P → P → Option P := pIc mulOk fun i j => .int (i * j)
theorem om_mul : OpM c (rI CMul fun i j => .int (i * j)) pMul := om_I (fun i j h => by
  unfold mulOk at h
  simp only [Bool.or_eq_true, Bool.and_eq_true, decide_eq_true_eq] at h
  exact h) fun _ _ _ _ _ => .int _
abbrev pDiv : P → P → Option P := pIc (fun _ j => decide (0 < j) && decide (j < 1073741824)) fun i j => .int (i / j)
theorem om_div : OpM c (rI CDiv fun i j => .int (i / j)) pDiv := om_I (fun i j h => by
  simp only [Bool.and_eq_true, decide_eq_true_eq] at h
  exact h) fun _ _ _ _ _ => .int _
abbrev pMod : P → P → Option P := pIc (fun _ j => decide (0 < j)) fun i j => .int (i % j)
theorem om_mod : OpM c (rI (fun _ j => 0 < j) fun i j => .int (i % j)) pMod := om_I (fun i j h => by
  simp only [decide_eq_true_eq] at h
  exact h) fun _ _ _ _ _ => .int _
/-- +: ints, texts, tuples, lists (of plain items) -/
def pAdd : P → P → Option P
  | .int i, .int j => some (.int (i + j))
  | .str x, .str y => if x.length + y.length ≤ sizeLine then some (.str (x ++ y)) else none
  | .tup xs, .tup ys => if immL xs = true ∧ immL ys = true ∧ xs.length + ys.length ≤ sizeLine then some (.tup (xs ++ ys)) else none
  | .lst xs, .lst ys => if immL xs = true ∧ immL ys = true ∧ xs.length + ys.length ≤ sizeLine then some (.lst (xs ++ ys)) else none
  | _, _ => none
def rAddA (K : PySem.W.Frag) : R2 := fun x y H Q => rI0 (fun i j => .int (i + j)) x y H Q ∨ (∃ i j, x = .str i ∧ y = .str j ∧ i.length + j.length ≤ sizeLine ∧ Q (.str (i ++ j)) H) ∨ rCatA K x y H Q ∨ rCat x y H Q
theorem op_addA {X : Cx} : OpR X (binaryOp .Add) (rAddA X.K) := OpR.or op_add (OpR.or op_add_str (OpR.or op_catA op_cat))
theorem om_add : OpM c (rAddA c.K) pAdd := by
  intro s0 c0 S H x y p q F G z Q s a b e k
  unfold pAdd at e
  split at e
  · cases a; cases b
    injection e with e; subst e
    exact .inl ⟨_, _, rfl, rfl, k _ H [] (Fr.refl s.lst) rfl (.int _) List.nodup_nil fun _ h => by cases h⟩
  · cases a; cases b
    split at e
    · rename_i hz
      injection e with e; subst e
      exact .inr (.inl ⟨_, _, rfl, rfl, hz, k _ H [] (Fr.refl s.lst) rfl (.str _) List.nodup_nil fun _ h => by cases h⟩)
    · cases e
  · split at e
    · rename_i hz
      obtain ⟨hx, hy, hz⟩ := hz
      injection e with e; subst e
      cases a with
      | tup ta ra =>
        cases b with
        | tup tb rb =>
          rename_i a1 vs1 a2 vs2
          have e1 := RfL.imm ra hx
          have e2 := RfL.imm rb hy
          subst e1 e2
          have l1 := RfL.length ra
          have l2 := RfL.length rb
          refine .inr (.inr (.inl ⟨_, _, vs1, vs2, rfl, rfl, .inl (.inl ta), .inl (.inl tb), by omega, fun h1 => ?_, fun h1 h2 => ?_, fun h1 h2 p hp => ?_⟩))
          · subst h1
            cases ra
            exact k _ H [] (Fr.refl s.lst) rfl (.tup tb rb) List.nodup_nil fun _ h => by cases h
          · subst h2
            cases rb
            exact k _ H [] (Fr.refl s.lst) rfl (.tup ta (by rw [List.append_nil]; exact ra)) List.nodup_nil fun _ h => by cases h
          · refine k _ _ [] (Fr.new s.lst hp) (by rw [upd_ne (ne_of_none s.1 hp)]) (.tup upd_same ?_) List.nodup_nil fun _ h => by cases h
            exact RfL.fr (Fr.new s.lst hp) (RfL.append ra rb)
    · cases e
  · split at e
    · rename_i hz
      obtain ⟨hx, hy, hz⟩ := hz
      injection e with e; subst e
      cases a with
      | lst na ta ra =>
        cases b with
        | lst nb tb rb =>
          rename_i a1 vs1 F1 a2 vs2 F2
          have e1 := RfL.imm ra hx
          have e2 := RfL.imm rb hy
          subst e1 e2
          have l1 := RfL.length ra
          have l2 := RfL.length rb
          refine .inr (.inr (.inr ⟨_, _, vs1, vs2, rfl, rfl, ta, tb, by omega, fun p hp => ?_⟩))
          refine k _ _ [p] (Fr.new s.lst hp) (by rw [upd_ne (ne_of_none s.1 hp)]) (.lst (ne_of_none s.1 hp).symm upd_same ?_) (by simp) fun b hb => ?_
          · exact RfL.fr (Fr.new s.lst hp) (RfL.append ra rb)
          · rw [List.mem_singleton] at hb
            subst hb; exact hp
    · cases e
  · cases e
end
end Mir

/-! Mir2: ==, in, subscripts, slices, displays, built-in calls, methods. -/
namespace Mir
open PySem PySem.Spec L2
open PyProof.Rows hiding St

/-! ### data -/
mutual
def P.dat : P → PyData
  | .non => .none | .bl b => .bool b | .int i => .int i | .str x => .str x
  | .tup ps => .tuple (datL ps) | .kt ps => .tuple (datL ps) | .lst ps => .list (datL ps)
  | .dK _ => .none | .dT _ => .none | .src => .none | .ty _ => .none
def datL : List P → List PyData
  | [] => []
  | p :: ps => p.dat :: datL ps
end
mutual
def P.isD : P → Bool
  | .non => true | .bl _ => true | .int _ => true | .str _ => true
  | .tup ps => isDL ps | .kt ps => isDL ps | .lst ps => isDL ps
  | .dK _ => false | .dT _ => false | .src => false | .ty _ => false
def isDL : List P → Bool
  | [] => true
  | p :: ps => p.isD && isDL ps
end
def P.okD (p : P) : Bool := p.isD && SeqAt.shaped p.dat
/-- the values of one object: its items -/
def P.items : P → Option (List P)
  | .tup ps => some ps | .lst ps => some ps | .kt ps => some ps | _ => none
section
variable {c : Cn} {W : WX} {kd ka kb : Kd} {K : PySem.W.Frag} {s0 : Addr} {H H' : Hp}
mutual
theorem Rf.dp : ∀ {p : P} {v : V} {F : List Addr}, Rf K s0 H p v F → p.isD = true → Dp K H v p.dat
  | _, _, _, .non, _ => .non
  | _, _, _, .bl b, _ => .bl b
  | _, _, _, .int i, _ => .int i
  | _, _, _, .str x, _ => .str x
  | _, _, _, .src, h => by simp [P.isD] at h
  | _, _, _, .ty n, h => by simp [P.isD] at h
  | _, _, _, .kt e1 e2 e3 e4 e5 r, h => .tup (.inr ⟨_, _, _, e1, e2, e3, e4, e5⟩) (RfL.dp r (by simpa [P.isD] using h))
  | _, _, _, .tup t r, h => .tup (.inl (.inl t)) (RfL.dp r (by simpa [P.isD] using h))
  | _, _, _, .lst n e r, h => .lst (.inl (.inl e)) (RfL.dp r (by simpa [P.isD] using h))
  | _, _, _, .dK _ _ _ _, h => by simp [P.isD] at h
  | _, _, _, .dT _ _ _ _, h => by simp [P.isD] at h
theorem RfL.dp : ∀ {ps : List P} {vs : List V} {F : List Addr}, RfL K s0 H ps vs F → isDL ps = true → DpAll K H vs (datL ps)
  | _, _, _, .nil, _ => .nil
  | _, _, _, .cons x r, h => by
    simp only [isDL, Bool.and_eq_true] at h
    exact .cons (Rf.dp x h.1) (RfL.dp r h.2)
end
/-- what a sequence is -/
theorem Rf.seq {p : P} {ps : List P} {v : V} {F : List Addr} (x : Rf K s0 H p v F) (h : p.items = some ps) : ∃ a vs G, v = .ref a ∧ (SqL K H a vs ∨ SqT K H a vs) ∧ RfL K s0 H ps vs G ∧ G.Sublist F := by
  cases x with
  | tup t r =>
    injection h with h; subst h
    exact ⟨_, _, _, rfl, .inr (.inl (.inl t)), r, List.Sublist.refl _⟩
  | kt e1 e2 e3 e4 e5 r =>
    injection h with h; subst h
    exact ⟨_, _, _, rfl, .inr (.inr ⟨_, _, _, e1, e2, e3, e4, e5⟩), r, List.Sublist.refl _⟩
  | lst n e r =>
    injection h with h; subst h
    exact ⟨_, _, _, rfl, .inl (.inl (.inl e)), r, List.sublist_cons_self _ _⟩
  | _ => cases h

def pEq : P → P → Option P := fun p q => if p.okD = true ∧ q.okD = true then some (.bl (PyData.eqv p.dat q.dat)) else none
def pNe : P → P → Option P := fun p q => if p.okD = true ∧ q.okD = true then some (.bl (!PyData.eqv p.dat q.dat)) else none
theorem om_eq : OpM c (rEqD c.K) pEq := by
  intro s0 c0 S H x y p q F G z Q s a b e k
  unfold pEq at e
  split at e
  · rename_i h
    obtain ⟨h1, h2⟩ := h
    simp only [P.okD, Bool.and_eq_true] at h1 h2
    injection e with e; subst e
    exact ⟨_, _, a.dp h1.1, b.dp h2.1, h1.2, h2.2, k _ H [] (Fr.refl s.lst) rfl (.bl _) List.nodup_nil fun _ h => by cases h⟩
  · cases e
theorem om_ne : OpM c (rNeD c.K) pNe := by
  intro s0 c0 S H x y p q F G z Q s a b e k
  unfold pNe at e
  split at e
  · rename_i h
    obtain ⟨h1, h2⟩ := h
    simp only [P.okD, Bool.and_eq_true] at h1 h2
    injection e with e; subst e
    exact ⟨_, _, a.dp h1.1, b.dp h2.1, h1.2, h2.2, k _ H [] (Fr.refl s.lst) rfl (.bl _) List.nodup_nil fun _ h => by cases h⟩
  · cases e

/-! is None, is not None -/
def P.isN : P → Bool
  | .non => true | _ => false
theorem Rf.isN {p : P} {v : V} {F : List Addr} (x : Rf K s0 H p v F) : decide (v = .non) = p.isN := by
  cases x <;> rfl
def pIsN : P → P → Option P := fun p q => match q with
  | .non => some (.bl p.isN)
  | _ => none
def pNotN : P → P → Option P := fun p q => match q with
  | .non => some (.bl (!p.isN))
  | _ => none
theorem om_isN : OpM c (fun x y H Q => y = .non ∧ Q (.bl (decide (x = .non))) H) pIsN := by
  intro s0 c0 S H x y p q F G z Q s a b e k
  unfold pIsN at e
  split at e
  · cases b
    injection e with e; subst e
    refine ⟨rfl, ?_⟩
    rw [a.isN]
    exact k _ H [] (Fr.refl s.lst) rfl (.bl _) List.nodup_nil fun _ h => by cases h
  · cases e
theorem om_notN : OpM c (fun x y H Q => y = .non ∧ Q (.bl (!decide (x = .non))) H) pNotN := by
  intro s0 c0 S H x y p q F G z Q s a b e k
  unfold pNotN at e
  split at e
  · cases b
    injection e with e; subst e
    refine ⟨rfl, ?_⟩
    rw [a.isN]
    exact k _ H [] (Fr.refl s.lst) rfl (.bl _) List.nodup_nil fun _ h => by cases h
  · cases e

/-! in, not in -/
def P.flat : P → Bool
  | .non => true | .bl _ => true | .int _ => true | .str _ => true | _ => false
def P.toV : P → V
  | .non => .non | .bl b => .bl b | .int i => .int i | .str x => .str x | _ => .non
/-- == of flat values -/
def eqF (p q : P) : Bool := eqV p.toV q.toV
theorem Rf.flat {p : P} {v : V} {F : List Addr} (x : Rf K s0 H p v F) (h : p.flat = true) : v = p.toV ∧ flatV v = true := by
  cases x <;> first | exact ⟨rfl, rfl⟩ | simp [P.flat] at h
theorem RfL.flat : ∀ {ps : List P} {vs : List V} {F : List Addr}, RfL K s0 H ps vs F → ps.all P.flat = true → vs = ps.map P.toV ∧ vs.all flatV = true
  | _, _, _, .nil, _ => ⟨rfl, rfl⟩
  | _, _, _, .cons x r, h => by
    simp only [List.all_cons, Bool.and_eq_true] at h
    obtain ⟨e, f⟩ := x.flat h.1
    obtain ⟨e2, f2⟩ := RfL.flat r h.2
    subst e; subst e2
    exact ⟨rfl, by simp only [List.all_cons, f, f2, Bool.and_self]⟩
def strIn (i j : Str) : Bool := !(Builtin.Str.occurrences j i 0 j.length 1).isEmpty
def pInB : P → P → Option Bool := fun p q => match q with
  | .str j => match p with
    | .str i => some (strIn i j)
    | _ => none
  | q => match q.items with
    | some ps => if p.flat = true ∧ ps.all P.flat = true then some (ps.any fun z => eqF z p) else none
    | none => none
def pIn : P → P → Option P := fun p q => (pInB p q).map P.bl
def pNotIn : P → P → Option P := fun p q => (pInB p q).map fun b => P.bl (!b)
def rInA (K : PySem.W.Frag) : R2 := fun x y H Q => (∃ i j, x = .str i ∧ y = .str j ∧ Q (.bl (!(Builtin.Str.occurrences j i 0 j.length 1).isEmpty)) H) ∨ rIn K false x y H Q
def rNotInA (K : PySem.W.Frag) : R2 := fun x y H Q => (∃ i j, x = .str i ∧ y = .str j ∧ Q (.bl (!(!(Builtin.Str.occurrences j i 0 j.length 1).isEmpty))) H) ∨ rIn K true x y H Q
theorem op_inA {X : Cx} : OpR X (compareOp .In) (rInA X.K) := OpR.or op_in_str op_in_seq
theorem op_notInA {X : Cx} : OpR X (compareOp .NotIn) (rNotInA X.K) := OpR.or op_notin_str op_notIn_seq
theorem in_core {p q : P} {x y : V} {F G : List Addr} {b : Bool} (a : Rf K s0 H p x F) (d : Rf K s0 H q y G) (e : pInB p q = some b) :
    (∃ i j, x = .str i ∧ y = .str j ∧ b = strIn i j) ∨ ∃ r xs, y = .ref r ∧ (SqL K H r xs ∨ SqT K H r xs) ∧ flatV x = true ∧ xs.all flatV = true ∧ b = inV x xs := by
  unfold pInB at e
  split at e
  · split at e
    · cases a; cases d
      injection e with e
      exact .inl ⟨_, _, rfl, rfl, e.symm⟩
    · cases e
  · split at e
    · rename_i ps hi
      split at e
      · rename_i h
        obtain ⟨h1, h2⟩ := h
        injection e with e
        obtain ⟨r, vs, G', rfl, sq, rl, _⟩ := d.seq hi
        obtain ⟨e1, f1⟩ := a.flat h1
        obtain ⟨e2, f2⟩ := rl.flat h2
        refine .inr ⟨r, vs, rfl, sq, f1, f2, ?_⟩
        subst e1; subst e2; subst e
        unfold inV eqF
        rw [List.any_map]; rfl
      · cases e
    · cases e
theorem om_in : OpM c (rInA c.K) pIn := by
  intro s0 c0 S H x y p q F G z Q s a b e k
  unfold pIn at e
  cases h : pInB p q with
  | none => rw [h] at e; cases e
  | some bb =>
    rw [h] at e
    injection e with e; subst e
    have kk := k _ H [] (Fr.refl s.lst) rfl (.bl bb) List.nodup_nil fun _ h => by cases h
    rcases in_core a b h with ⟨i, j, rfl, rfl, eb⟩ | ⟨r, xs, rfl, sq, f1, f2, eb⟩
    · exact .inl ⟨i, j, rfl, rfl, by rw [eb] at kk; exact kk⟩
    · exact .inr ⟨r, xs, rfl, sq, f1, f2, by rw [eb] at kk; exact kk⟩
theorem om_notIn : OpM c (rNotInA c.K) pNotIn := by
  intro s0 c0 S H x y p q F G z Q s a b e k
  unfold pNotIn at e
  cases h : pInB p q with
  | none => rw [h] at e; cases e
  | some bb =>
    rw [h] at e
    injection e with e; subst e
    have kk := k _ H [] (Fr.refl s.lst) rfl (.bl (!bb)) List.nodup_nil fun _ h => by cases h
    rcases in_core a b h with ⟨i, j, rfl, rfl, eb⟩ | ⟨r, xs, rfl, sq, f1, f2, eb⟩
    · exact .inl ⟨i, j, rfl, rfl, by rw [eb] at kk; exact kk⟩
    · exact .inr ⟨r, xs, rfl, sq, f1, f2, by rw [eb] at kk; exact kk⟩

/-! ### subscripts -/
def pIx : P → P → Option P := fun p q => match q with
  | .int i => match p with
    | .str z => if z.length ≤ sizeLine then (atI z.cps.toList i).map fun x => P.str ⟨#[x]⟩ else none
    | p => match p.items with
      | some ps => atI ps i
      | none => none
  | _ => none
theorem atI_rel {ps : List P} {vs : List V} {F : List Addr} {i : Int} {p : P} (r : RfL K s0 H ps vs F) (e : atI ps i = some p) : ∃ v G, atI vs i = some v ∧ Rf K s0 H p v G ∧ G.Sublist F := by
  unfold atI at e
  cases h : ixN ps.length i with
  | none => rw [h] at e; cases e
  | some j =>
    rw [h] at e
    obtain ⟨v, G, h1, h2, h3⟩ := r.get (i := j) e
    refine ⟨v, G, ?_, h2, h3⟩
    unfold atI
    rw [← r.length, h]
    exact h1
theorem pIx_cases {p q z : P} (e : pIx p q = some z) : ∃ i, q = .int i ∧ ((∃ y u, p = .str y ∧ y.length ≤ sizeLine ∧ atI y.cps.toList i = some u ∧ z = .str ⟨#[u]⟩) ∨ ∃ ps, p.items = some ps ∧ atI ps i = some z) := by
  unfold pIx at e
  cases q with
  | int i =>
    refine ⟨i, rfl, ?_⟩
    cases p with
    | str y =>
      dsimp only at e
      split at e
      · rename_i hz
        cases ea : atI y.cps.toList i with
        | none => rw [ea] at e; cases e
        | some u =>
          rw [ea] at e
          injection e with e; subst e
          exact .inl ⟨y, u, rfl, hz, ea, rfl⟩
      · cases e
    | tup ps => exact .inr ⟨ps, rfl, e⟩
    | lst ps => exact .inr ⟨ps, rfl, e⟩
    | kt ps => exact .inr ⟨ps, rfl, e⟩
    | _ => cases e
  | _ => cases e
def mIx (ma mb : Env → M P) : Env → M P := mOp pIx ma mb
theorem em_ix {ta tb : TE} {ma mb : Env → M P} (ha : EM c W kd ta ma) (hb : EM c W kb tb mb) : EM c W kd (tOp (rIx c.K) ta tb) (mIx ma mb) := by
  intro s0 c0 Fs H0 S pins σ H ρ Q R h
  refine ha s0 c0 Fs H0 S pins σ H ρ _ R (Post.bind h fun p S1 v H1 G1 e1 R1 f1 x1 k1 h1 => ?_)
  refine hb s0 c0 Fs H0 S1 pins σ H1 ρ _ R1 (Post.bind2 f1 h1 fun q S2 w H2 G2 e2 R2 f2 x2 k2 h2 => ?_)
  have x1 := Rf.fr f2 x1
  unfold lift at h2
  cases e : pIx p q with
  | none => rw [e] at h2; exact h2.elim
  | some z =>
    rw [e] at h2
    obtain ⟨i, rfl, ⟨y, u, rfl, hz, ea, rfl⟩ | ⟨ps, hi, ea⟩⟩ := pIx_cases e
    · cases x2; cases x1
      exact .inr (.inr ⟨_, _, u, rfl, rfl, hz, ea, h2 _ H2 [] R2 (f1.trans f2) (.str _) KindOk.nil⟩)
    · cases x2
      obtain ⟨a, vs, G, rfl, sq, rl, sb⟩ := x1.seq hi
      obtain ⟨v, G', h3, h4, h5⟩ := atI_rel rl ea
      have q := h2 v H2 G' R2 (f1.trans f2) h4 (k1.sub (h5.trans sb))
      rcases sq with sq | sq
      · exact .inl ⟨a, vs, i, v, rfl, rfl, sq, h3, q⟩
      · exact .inr (.inl ⟨a, vs, i, v, rfl, rfl, sq, h3, q⟩)

/-! ### slices -/
def cutL {α : Type} (xs : List α) (lo hi : Option Int) : List α := (xs.drop (HT.sIx xs.length 0 lo)).take (HT.sIx xs.length xs.length hi - HT.sIx xs.length 0 lo)
def pSl (p : P) (lo hi : Option Int) : Option P := match p with
  | .str z => if z.length ≤ sizeLine then some (.str (cutS z lo hi)) else none
  | .tup ps => if immL ps = true then some (.tup (cutL ps lo hi)) else none
  | .lst ps => if immL ps = true then some (.lst (cutL ps lo hi)) else none
  | _ => none
def rSlAny (K : PySem.W.Frag) : V → Option Int → Option Int → Hp → VK → Prop := fun x lo hi H Q => rSlA K x lo hi H Q ∨ rSlL K x lo hi H Q ∨ rSlS x lo hi H Q
theorem sl_any {X : Cx} : SlR X (rSlAny X.K) := SlR.or sl_tupA (SlR.or sl_list sl_str)
def partI : P → Option Int
  | .int i => some i
  | _ => none
abbrev PM (c : Cn) (W : WX) (t : St → Hp → (Option Int → Hp → Prop) → Prop) (m : Env → M (Option Int)) : Prop := JM (repV (Option Int)) c W .any t m
def mNoPart : Env → M (Option Int) := fun _ s => .ok none s
def mPart (m : Env → M P) : Env → M (Option Int) := fun ρ => M.bind (m ρ) fun p => lift ((partI p).map some)
theorem pm_none : PM c W tNoPart mNoPart := by
  intro s0 c0 Fs H0 S pins σ H ρ Q R h
  exact h none H [] R (Fr.refl R.src.lst) ⟨rfl, rfl⟩ trivial
theorem pm_some {t : TE} {m : Env → M P} (h : EM c W ka t m) : PM c W (tPart t) (mPart m) := by
  intro s0 c0 Fs H0 S pins σ H ρ Q R q
  refine h s0 c0 Fs H0 S pins σ H ρ _ R (Post.bind q fun p S1 v H1 G1 e1 R1 f1 x1 k1 h1 => ?_)
  unfold lift partI at h1
  cases p with
  | int i =>
    cases x1
    exact ⟨i, rfl, h1 (some i) H1 [] R1 f1 ⟨rfl, rfl⟩ trivial⟩
  | _ => exact h1.elim
theorem RfL.drop : ∀ {ps : List P} {vs : List V} {F : List Addr} (n : Nat), RfL K s0 H ps vs F → ∃ G, RfL K s0 H (ps.drop n) (vs.drop n) G ∧ G.Sublist F
  | _, _, _, 0, r => ⟨_, r, List.Sublist.refl _⟩
  | _, _, _, _ + 1, .nil => ⟨_, .nil, List.Sublist.refl _⟩
  | _, _, _, n + 1, .cons _ r => by
    obtain ⟨G, h1, h2⟩ := RfL.drop n r
    exact ⟨G, h1, h2.trans (List.sublist_append_right _ _)⟩
theorem RfL.take : ∀ {ps : List P} {vs : List V} {F : List Addr} (n : Nat), RfL K s0 H ps vs F → ∃ G, RfL K s0 H (ps.take n) (vs.take n) G ∧ G.Sublist F
  | _, _, _, 0, r => ⟨_, .nil, List.nil_sublist _⟩
  | _, _, _, _ + 1, .nil => ⟨_, .nil, List.Sublist.refl _⟩
  | _, _, _, n + 1, .cons x r => by
    obtain ⟨G, h1, h2⟩ := RfL.take n r
    exact ⟨_, .cons x h1, List.Sublist.append (List.Sublist.refl _) h2⟩
theorem RfL.cut {ps : List P} {vs : List V} {F : List Addr} (lo hi : Option Int) (r : RfL K s0 H ps vs F) : ∃ G, RfL K s0 H (cutL ps lo hi) (cutV vs lo hi) G ∧ G.Sublist F := by
  unfold cutL cutV
  rw [← r.length]
  obtain ⟨G, h1, h2⟩ := RfL.drop (HT.sIx ps.length 0 lo) r
  obtain ⟨G', h3, h4⟩ := RfL.take (HT.sIx ps.length ps.length hi - HT.sIx ps.length 0 lo) h1
  exact ⟨G', h3, h4.trans h2⟩
def mSl (m : Env → M P) (ml mh : Env → M (Option Int)) : Env → M P := fun ρ => M.bind (m ρ) fun p => M.bind (ml ρ) fun lo => M.bind (mh ρ) fun hi => lift (pSl p lo hi)
theorem RfL.imm0 {ps : List P} {vs : List V} {F : List Addr} (r : RfL K s0 H ps vs F) (h : immL ps = true) : RfL K s0 H ps vs [] := by
  have e := RfL.imm r h
  subst e; exact r
theorem em_sl {te : TE} {tl th : TO} {m : Env → M P} {ml mh : Env → M (Option Int)} (he : EM c W ka te m) (hl : PM c W tl ml) (hh : PM c W th mh) : EM c W .fre (tSl (rSlAny c.K) te tl th) (mSl m ml mh) := by
  intro s0 c0 Fs H0 S pins σ H ρ Q R h
  refine he s0 c0 Fs H0 S pins σ H ρ _ R (Post.bind h fun p S1 v H1 G1 e1 R1 f1 x1 k1 h1 => ?_)
  refine hl s0 c0 Fs H0 S1 pins σ H1 ρ _ R1 (Post.bind2 f1 h1 fun lo S2 lo' H2 G2 e2 R2 f2 x2 k2 h2 => ?_)
  refine hh s0 c0 Fs H0 S2 pins σ H2 ρ _ R2 (Post.bind2 (f1.trans f2) h2 fun hi S3 hi' H3 G3 e3 R3 f3 x3 k3 h3 => ?_)
  obtain ⟨rfl, rfl⟩ := x2
  obtain ⟨rfl, rfl⟩ := x3
  have x1 := Rf.fr (f2.trans f3) x1
  have f := (f1.trans f2).trans f3
  unfold lift at h3
  cases e : pSl p lo hi with
  | none => rw [e] at h3; exact h3.elim
  | some z =>
    rw [e] at h3
    cases p with
    | str y =>
      cases x1
      simp only [pSl] at e
      split at e
      · rename_i hz
        injection e with e; subst e
        exact .inr (.inr ⟨y, rfl, hz, h3 _ H3 [] R3 f (.str _) KindOk.nil⟩)
      · cases e
    | tup ps =>
      simp only [pSl] at e
      split at e
      · rename_i hi'
        injection e with e; subst e
        cases x1 with
        | tup t r =>
          rename_i a vs
          obtain ⟨G, rc, sb⟩ := (r.imm0 hi').cut lo hi
          have eG := List.sublist_nil.mp sb
          subst eG
          refine .inl ⟨a, vs, rfl, .inl (.inl t), fun hh => ?_, fun _ q hq => ?_⟩
          · refine h3 _ H3 [] R3 f (.tup t ?_) KindOk.nil
            have ec : cutV vs lo hi = vs := by
              unfold cutV
              rw [hh.1, hh.2, List.drop_zero, Nat.sub_zero, List.take_length]
            rw [ec] at rc
            exact rc
          · exact h3 _ _ [] (R3.new hq) (f.trans (R3.frNew hq)) (.tup upd_same (RfL.fr (R3.frNew hq) rc)) KindOk.nil
      · cases e
    | lst ps =>
      simp only [pSl] at e
      split at e
      · rename_i hi'
        injection e with e; subst e
        cases x1 with
        | lst n t r =>
          rename_i a vs F'
          obtain ⟨G, rc, sb⟩ := (r.imm0 hi').cut lo hi
          have eG := List.sublist_nil.mp sb
          subst eG
          refine .inr (.inl ⟨a, vs, rfl, .inl (.inl t), fun q hq => ?_⟩)
          have nq : q ≠ s0 := (ne_of_none R3.src.1 hq).symm
          refine h3 _ _ [q] (R3.new hq) (f.trans (R3.frNew hq)) (.lst nq upd_same (RfL.fr (R3.frNew hq) rc)) ⟨by simp, fun b hb => ?_⟩
          rw [List.mem_singleton] at hb
          subst hb; exact f.none hq nq
      · cases e
    | _ => cases e

/-! ### arguments, displays -/
def mNil : Env → M (List P) := fun _ s => .ok [] s
def mCons (m : Env → M P) (ms : Env → M (List P)) : Env → M (List P) := fun ρ => M.bind (m ρ) fun p => M.bind (ms ρ) fun ps => lift (some (p :: ps))
theorem am_nil : AM c W kd tNil mNil := by
  intro s0 c0 Fs H0 S pins σ H ρ Q R h
  exact h [] H [] R (Fr.refl R.src.lst) .nil KindOk.nil
theorem am_cons {t : TE} {ts : TA} {m : Env → M P} {ms : Env → M (List P)} (h1 : EM c W kd t m) (h2 : AM c W kd ts ms) : AM c W kd (tCons t ts) (mCons m ms) := by
  intro s0 c0 Fs H0 S pins σ H ρ Q R h
  refine h1 s0 c0 Fs H0 S pins σ H ρ _ R (Post.bind h fun p S1 v H1 G1 e1 R1 f1 x1 k1 h1 => ?_)
  refine h2 s0 c0 Fs H0 S1 pins σ H1 ρ _ R1 (Post.bind2 f1 h1 fun ps S2 vs H2 G2 e2 R2 f2 x2 k2 h2 => ?_)
  exact h2 (v :: vs) H2 (G1 ++ G2) R2 (f1.trans f2) (.cons (Rf.fr f2 x1) x2) (KindOk.append k1 x1 f1 k2 fun a ha => (RfL.dom x2 a ha).1)
def mTup (ms : Env → M (List P)) : Env → M P := fun ρ => M.bind (ms ρ) fun ps => lift (if ps.length ≤ sizeLine then some (.tup ps) else none)
def mLst (ms : Env → M (List P)) : Env → M P := fun ρ => M.bind (ms ρ) fun ps => lift (if ps.length ≤ sizeLine then some (.lst ps) else none)
theorem em_tup {t : TA} {ms : Env → M (List P)} (h : AM c W kd t ms) : EM c W kd (tTup t) (mTup ms) := by
  intro s0 c0 Fs H0 S pins σ H ρ Q R q
  refine h s0 c0 Fs H0 S pins σ H ρ _ R (Post.bind q fun ps S1 vs H1 G1 e1 R1 f1 x1 k1 h1 => ?_)
  unfold lift at h1
  by_cases z : ps.length ≤ sizeLine
  · rw [if_pos z] at h1
    exact ⟨by rw [← x1.length]; exact z, fun p hp => h1 _ _ G1 (R1.new hp) (f1.trans (R1.frNew hp)) (.tup upd_same (RfL.fr (R1.frNew hp) x1)) k1⟩
  · rw [if_neg z] at h1; exact h1.elim
theorem em_lst {t : TA} {ms : Env → M (List P)} (h : AM c W kd t ms) : EM c W kd (tLst t) (mLst ms) := by
  intro s0 c0 Fs H0 S pins σ H ρ Q R q
  refine h s0 c0 Fs H0 S pins σ H ρ _ R (Post.bind q fun ps S1 vs H1 G1 e1 R1 f1 x1 k1 h1 => ?_)
  unfold lift at h1
  by_cases z : ps.length ≤ sizeLine
  · rw [if_pos z] at h1
    refine ⟨by rw [← x1.length]; exact z, fun p hp => ?_⟩
    have np : p ≠ s0 := (ne_of_none R1.src.1 hp).symm
    refine h1 _ _ (p :: G1) (R1.new hp) (f1.trans (R1.frNew hp)) (.lst np upd_same (RfL.fr (R1.frNew hp) x1)) (KindOk.cons R k1 (f1.none hp np) fun hg => ?_)
    obtain ⟨_, o, e⟩ := RfL.dom x1 p hg
    rw [hp] at e; cases e
  · rw [if_neg z] at h1; exact h1.elim
def mDK : Env → M P := fun _ s => .ok (.dK []) s
def mDT : Env → M P := fun _ s => .ok (.dT []) s
theorem em_dK : EM c W .fre tDNewK mDK := by
  intro s0 c0 Fs H0 S pins σ H ρ Q R h p hp
  have np : p ≠ s0 := (ne_of_none R.src.1 hp).symm
  refine h _ _ [p] (R.new hp) (R.frNew hp) (.dK (hv := []) np upd_same rfl .nil) ⟨by simp, fun b hb => ?_⟩
  rw [List.mem_singleton] at hb
  subst hb; exact hp
theorem em_dT : EM c W .fre tDNewT mDT := by
  intro s0 c0 Fs H0 S pins σ H ρ Q R h p hp
  have np : p ≠ s0 := (ne_of_none R.src.1 hp).symm
  refine h _ _ [p] (R.new hp) (R.frNew hp) (.dT (hv := []) np upd_same rfl .nil) ⟨by simp, fun b hb => ?_⟩
  rw [List.mem_singleton] at hb
  subst hb; exact hp

/-! ### built-in calls by values -/
def CalM (c : Cn) (r : List V → Hp → VK → Prop) (f : List P → Option P) : Prop := ∀ s0 c0 S H xs ps G z Q, SrcAt s0 c0 S H → RfL c.K s0 H ps xs G → f ps = some z →
  (∀ v H' E, Fr s0 H H' → H' s0 = H s0 → Rf c.K s0 H' z v E → E.Nodup → (∀ a ∈ E, H a = none) → Q v H') → r xs H Q
def mCB (f : List P → Option P) (ms : Env → M (List P)) : Env → M P := fun ρ => M.bind (ms ρ) fun ps => lift (f ps)
theorem em_cb {r : List V → Hp → VK → Prop} {f : List P → Option P} {t : TA} {ms : Env → M (List P)} (o : CalM c r f) (h : AM c W ka t ms) : EM c W .fre (tCB r t) (mCB f ms) := by
  intro s0 c0 Fs H0 S pins σ H ρ Q R q
  refine h s0 c0 Fs H0 S pins σ H ρ _ R (Post.bind q fun ps S1 vs H1 G1 e1 R1 f1 x1 k1 h1 => ?_)
  unfold lift at h1
  cases e : f ps with
  | none => rw [e] at h1; exact h1.elim
  | some z =>
    rw [e] at h1
    refine o s0 c0 S1 H1 vs ps G1 z Q R1.src x1 e fun u H' E f' e' x' n' d' => h1 u H' E (R1.step f' (R1.src.fr f' e')) (f1.trans f') x' ⟨n', fun a ha => f1.none (d' a ha) (x'.dom a ha).1⟩
theorem CalM.or {r r' : List V → Hp → VK → Prop} {f g : List P → Option P} (h : CalM c r f) (h' : CalM c r' g) : CalM c (fun xs H Q => r xs H Q ∨ r' xs H Q) (fun ps => (f ps).or (g ps)) := by
  intro s0 c0 S H xs ps G z Q s x e k
  dsimp only at e
  cases z1 : f ps with
  | some u =>
    rw [z1] at e
    exact .inl (h s0 c0 S H xs ps G z Q s x (by rw [z1]; exact e) k)
  | none =>
    rw [z1] at e
    exact .inr (h' s0 c0 S H xs ps G z Q s x e k)
/-- an answer that is plain -/
theorem imm_fin {z : P} {v : V} {S : Src} {c0 : Addr} {Q : VK} (s : SrcAt s0 c0 S H) (x : Rf K s0 H z v []) (k : ∀ v H' E, Fr s0 H H' → H' s0 = H s0 → Rf K s0 H' z v E → E.Nodup → (∀ a ∈ E, H a = none) → Q v H') : Q v H :=
  k v H [] (Fr.refl s.lst) rfl x List.nodup_nil fun _ h => by cases h
def on1 (f : P → Option P) : List P → Option P
  | [p] => f p
  | _ => none
def on2 (f : P → P → Option P) : List P → Option P
  | [p, q] => f p q
  | _ => none
theorem CalM.on1 {r : List V → Hp → VK → Prop} {f : P → Option P} (h : ∀ s0 c0 S H x p G z Q, SrcAt s0 c0 S H → Rf c.K s0 H p x G → f p = some z →
    (∀ v H' E, Fr s0 H H' → H' s0 = H s0 → Rf c.K s0 H' z v E → E.Nodup → (∀ a ∈ E, H a = none) → Q v H') → r [x] H Q) : CalM c r (on1 f) := by
  intro s0 c0 S H xs ps G z Q s x e k
  cases x with
  | nil => cases e
  | cons x y =>
    cases y with
    | nil => exact h s0 c0 S H _ _ _ z Q s x e k
    | cons _ _ => cases e
theorem CalM.on2 {r : List V → Hp → VK → Prop} {f : P → P → Option P} (h : ∀ s0 c0 S H x y p q F G z Q, SrcAt s0 c0 S H → Rf c.K s0 H p x F → Rf c.K s0 H q y G → f p q = some z →
    (∀ v H' E, Fr s0 H H' → H' s0 = H s0 → Rf c.K s0 H' z v E → E.Nodup → (∀ a ∈ E, H a = none) → Q v H') → r [x, y] H Q) : CalM c r (on2 f) := by
  intro s0 c0 S H xs ps G z Q s x e k
  cases x with
  | nil => cases e
  | cons x y =>
    cases y with
    | nil => cases e
    | cons y y2 =>
      cases y2 with
      | nil => exact h s0 c0 S H _ _ _ _ _ _ z Q s x y e k
      | cons _ _ => cases e
def pLen : P → Option P
  | .str y => if y.length ≤ sizeLine then some (.int y.length) else none
  | p => p.items.map fun ps => .int ps.length
theorem cm_len : CalM c (fun xs H Q => ∃ x n, xs = [x] ∧ LenV c.K x H n ∧ Q (.int n) H) (on1 pLen) := by
  refine CalM.on1 fun s0 c0 S H x p G z Q s x e k => ?_
  cases hp : p.items with
  | some qs =>
    obtain ⟨a, vs, G', rfl, sq, rl, _⟩ := x.seq hp
    have e : some (P.int qs.length) = some z := by
      rw [← e]
      cases p <;> first | (cases hp; done) | (injection hp with hp; subst hp; rfl)
    injection e with e; subst e
    exact ⟨_, vs.length, rfl, sq.imp (fun h => ⟨vs, h, rfl⟩) fun h => ⟨vs, h, rfl⟩, by rw [← rl.length]; exact imm_fin s (.int _) k⟩
  | none =>
    cases p with
    | str y =>
      cases x
      simp only [pLen] at e
      split at e
      · rename_i hz
        injection e with e; subst e
        exact ⟨_, _, rfl, ⟨hz, rfl⟩, imm_fin s (.int _) k⟩
      · cases e
    | _ => first | (cases e; done) | (cases hp; done)
/-- int(i), int(text) -/
def pInt : P → Option P
  | .int i => some (.int i)
  | .bl b => some (.int (if b then 1 else 0))
  | .str a => if a.length ≤ 640 then (PySem.intText? a).map P.int else none
  | _ => none
def rIntA : List V → Hp → VK → Prop := fun xs H Q => ((∃ i, xs = [.int i] ∧ Q (.int i) H) ∨ ∃ k, xs = [.bl k] ∧ Q (.int (if k then 1 else 0)) H) ∨ (∃ a n, xs = [.str a] ∧ PySem.intText? a = some n ∧ a.length ≤ 640 ∧ Q (.int n) H)
theorem call_intA {X : Cx} : CallR X (.type "int") rIntA := CallR.or call_int1 call_int_str
theorem cm_int : CalM c rIntA (on1 pInt) := by
  refine CalM.on1 fun s0 c0 S H x p G z Q s x e k => ?_
  cases p with
  | int i =>
    cases x
    injection e with e; subst e
    exact .inl (.inl ⟨i, rfl, imm_fin s (.int _) k⟩)
  | bl b =>
    cases x
    injection e with e; subst e
    exact .inl (.inr ⟨b, rfl, imm_fin s (.int _) k⟩)
  | str a =>
    cases x
    simp only [pInt] at e
    split at e
    · rename_i hz
      cases ea : PySem.intText? a with
      | none => rw [ea] at e; cases e
      | some n =>
        rw [ea] at e
        injection e with e; subst e
        exact .inr ⟨a, n, rfl, ea, hz, imm_fin s (.int _) k⟩
    · cases e
  | _ => cases e
/-- str(i), str(text) -/
def pStr : P → Option P
  | .int i => if i.natAbs.log2 < 1920 then some (.str (toString i)) else none
  | .str a => some (.str a)
  | _ => none
def rStrI : List V → Hp → VK → Prop := fun xs H Q => ∃ i, xs = [.int i] ∧ i.natAbs.log2 < 1920 ∧ Q (.str (toString i)) H
theorem call_strI {X : Cx} : CallR X (.type "str") rStrI := call_str_int
theorem cm_str : CalM c rStrI (on1 fun p => match p with
    | .int i => if i.natAbs.log2 < 1920 then some (.str (toString i)) else none
    | _ => none) := by
  refine CalM.on1 fun s0 c0 S H x p G z Q s x e k => ?_
  cases p with
  | int i =>
    cases x
    dsimp only at e
    split at e
    · rename_i hz
      injection e with e; subst e
      exact ⟨i, rfl, hz, imm_fin s (.str _) k⟩
    · cases e
  | _ => cases e
def pMax2 : P → P → Option P := pI fun i j => .int (if j > i then j else i)
def pMin2 : P → P → Option P := pI fun i j => .int (if j < i then j else i)
theorem cm_max2 : CalM c (fun xs H Q => ∃ i j, xs = [.int i, .int j] ∧ Q (.int (if j > i then j else i)) H) (on2 pMax2) := by
  refine CalM.on2 fun s0 c0 S H x y p q F G z Q s x y e k => ?_
  unfold pMax2 pI at e
  split at e
  · cases x; cases y
    injection e with e; subst e
    exact ⟨_, _, rfl, imm_fin s (.int _) k⟩
  · cases e
theorem cm_min2 : CalM c (fun xs H Q => ∃ i j, xs = [.int i, .int j] ∧ Q (.int (if j < i then j else i)) H) (on2 pMin2) := by
  refine CalM.on2 fun s0 c0 S H x y p q F G z Q s x y e k => ?_
  unfold pMin2 pI at e
  split at e
  · cases x; cases y
    injection e with e; subst e
    exact ⟨_, _, rfl, imm_fin s (.int _) k⟩
  · cases e
/-- ints of a list -/
def intsP : List P → Option (List Int)
  | [] => some []
  | .int i :: r => (intsP r).map (i :: ·)
  | _ => none
theorem RfL.ints : ∀ {ps : List P} {vs : List V} {F : List Addr} {ns : List Int}, RfL K s0 H ps vs F → intsP ps = some ns → vs = ns.map V.int
  | _, _, _, _, .nil, e => by injection e with e; subst e; rfl
  | p :: ps, _, _, ns, .cons x r, e => by
    cases p with
    | int i =>
      cases x
      simp only [intsP] at e
      cases h : intsP ps with
      | none => rw [h] at e; cases e
      | some ms =>
        rw [h] at e
        injection e with e; subst e
        rw [RfL.ints r h]; rfl
    | _ => simp [intsP] at e
def pSum : P → Option P
  | .lst ps => (intsP ps).map fun ns => .int ns.sum
  | _ => none
theorem cm_sum : CalM c (rSum c.K) (on1 pSum) := by
  refine CalM.on1 fun s0 c0 S H x p G z Q s x e k => ?_
  cases p with
  | lst ps =>
    simp only [pSum] at e
    cases h : intsP ps with
    | none => rw [h] at e; cases e
    | some ns =>
      rw [h] at e
      injection e with e; subst e
      cases x with
      | lst n t r =>
        have := r.ints h
        subst this
        exact ⟨_, ns, rfl, .inl (.inl t), imm_fin s (.int _) k⟩
  | _ => cases e
/-- the greatest, the least of a list of ints (not empty) -/
def maxL : List Int → Option Int
  | [] => none
  | i :: r => some (r.foldl max i)
def minL : List Int → Option Int
  | [] => none
  | i :: r => some (r.foldl min i)
theorem foldl_max_ge : ∀ (r : List Int) (i : Int), i ≤ r.foldl max i ∧ ∀ y ∈ r, y ≤ r.foldl max i
  | [], i => ⟨Int.le_refl _, fun _ h => by cases h⟩
  | a :: r, i => by
    obtain ⟨h1, h2⟩ := foldl_max_ge r (max i a)
    refine ⟨Int.le_trans (Int.le_max_left _ _) h1, fun y hy => ?_⟩
    rcases List.mem_cons.mp hy with rfl | hy
    · exact Int.le_trans (Int.le_max_right _ _) h1
    · exact h2 y hy
theorem foldl_max_mem : ∀ (r : List Int) (i : Int), r.foldl max i = i ∨ r.foldl max i ∈ r
  | [], i => .inl rfl
  | a :: r, i => by
    rcases foldl_max_mem r (max i a) with h | h
    · rw [List.foldl_cons, h]
      by_cases q : a ≤ i
      · left; omega
      · right; rw [show max i a = a by omega]; exact List.mem_cons_self
    · right; rw [List.foldl_cons]; exact List.mem_cons_of_mem _ h
theorem foldl_min_le : ∀ (r : List Int) (i : Int), r.foldl min i ≤ i ∧ ∀ y ∈ r, r.foldl min i ≤ y
  | [], i => ⟨Int.le_refl _, fun _ h => by cases h⟩
  | a :: r, i => by
    obtain ⟨h1, h2⟩ := foldl_min_le r (min i a)
    refine ⟨Int.le_trans h1 (Int.min_le_left _ _), fun y hy => ?_⟩
    rcases List.mem_cons.mp hy with rfl | hy
    · exact Int.le_trans h1 (Int.min_le_right _ _)
    · exact h2 y hy
theorem foldl_min_mem : ∀ (r : List Int) (i : Int), r.foldl min i = i ∨ r.foldl min i ∈ r
  | [], i => .inl rfl
  | a :: r, i => by
    rcases foldl_min_mem r (min i a) with h | h
    · rw [List.foldl_cons, h]
      by_cases q : i ≤ a
      · left; omega
      · right; rw [show min i a = a by omega]; exact List.mem_cons_self
    · right; rw [List.foldl_cons]; exact List.mem_cons_of_mem _ h
def pMaxL : P → Option P
  | .lst ps => ((intsP ps).bind maxL).map P.int
  | _ => none
def pMinL : P → Option P
  | .lst ps => ((intsP ps).bind minL).map P.int
  | _ => none
theorem cm_maxL : CalM c (rMax c.K) (on1 pMaxL) := by
  refine CalM.on1 fun s0 c0 S H x p G z Q s x e k => ?_
  cases p with
  | lst ps =>
    simp only [pMaxL] at e
    cases h : intsP ps with
    | none => rw [h] at e; cases e
    | some ns =>
      rw [h] at e
      cases ns with
      | nil => cases e
      | cons i r =>
        injection e with e; subst e
        cases x with
        | lst n t rr =>
          have := rr.ints h
          subst this
          refine ⟨_, i :: r, rfl, .inl (.inl t), by simp, fun m hm hy => ?_⟩
          have g := foldl_max_ge r i
          have hm1 : m ≤ r.foldl max i := by
            rcases List.mem_cons.mp hm with rfl | hm
            · exact g.1
            · exact g.2 m hm
          have hm2 : r.foldl max i ≤ m := by
            rcases foldl_max_mem r i with q | q
            · rw [q]; exact hy i List.mem_cons_self
            · exact hy _ (List.mem_cons_of_mem _ q)
          have : m = r.foldl max i := Int.le_antisymm hm1 hm2
          subst this
          exact imm_fin s (.int _) k
  | _ => cases e
theorem cm_minL : CalM c (rMin c.K) (on1 pMinL) := by
  refine CalM.on1 fun s0 c0 S H x p G z Q s x e k => ?_
  cases p with
  | lst ps =>
    simp only [pMinL] at e
    cases h : intsP ps with
    | none => rw [h] at e; cases e
    | some ns =>
      rw [h] at e
      cases ns with
      | nil => cases e
      | cons i r =>
        injection e with e; subst e
        cases x with
        | lst n t rr =>
          have := rr.ints h
          subst this
          refine ⟨_, i :: r, rfl, .inl (.inl t), by simp, fun m hm hy => ?_⟩
          have g := foldl_min_le r i
          have hm1 : r.foldl min i ≤ m := by
            rcases List.mem_cons.mp hm with rfl | hm
            · exact g.1
            · exact g.2 m hm
          have hm2 : m ≤ r.foldl min i := by
            rcases foldl_min_mem r i with q | q
            · rw [q]; exact hy i List.mem_cons_self
            · exact hy _ (List.mem_cons_of_mem _ q)
          have : m = r.foldl min i := Int.le_antisymm hm2 hm1
          subst this
          exact imm_fin s (.int _) k
  | _ => cases e
/-- tuple(xs), list(xs) of plain items -/
def pTup : P → Option P
  | .lst ps => if immL ps = true then some (.tup ps) else none
  | .tup ps => if immL ps = true then some (.tup ps) else none
  | _ => none
def pLst : P → Option P := fun p => match p.items with
  | some ps => if immL ps = true then some (.lst ps) else none
  | none => none
theorem cm_tup : CalM c (fun xs H Q => ∃ p ys, xs = [.ref p] ∧ ((SqL c.K H p ys ∧ ∀ l, H l = none → Q (.ref l) (upd H l (.tup ys))) ∨ (SqT c.K H p ys ∧ Q (.ref p) H))) (on1 pTup) := by
  refine CalM.on1 fun s0 c0 S H x p G z Q s x e k => ?_
  cases p with
  | lst ps =>
    simp only [pTup] at e
    split at e
    · rename_i hi
      injection e with e; subst e
      cases x with
      | lst n t r =>
        refine ⟨_, _, rfl, .inl ⟨.inl (.inl t), fun l hl => ?_⟩⟩
        exact k _ _ [] (Fr.new s.lst hl) (by rw [upd_ne (ne_of_none s.1 hl)]) (.tup upd_same (RfL.fr (Fr.new s.lst hl) (r.imm0 hi))) List.nodup_nil fun _ h => by cases h
    · cases e
  | tup ps =>
    simp only [pTup] at e
    split at e
    · rename_i hi
      injection e with e; subst e
      cases x with
      | tup t r => exact ⟨_, _, rfl, .inr ⟨.inl (.inl t), imm_fin s (.tup t (r.imm0 hi)) k⟩⟩
    · cases e
  | _ => cases e
theorem cm_lst : CalM c (fun xs H Q => ∃ p ys, xs = [.ref p] ∧ (SqL c.K H p ys ∨ SqT c.K H p ys) ∧ ∀ l, H l = none → Q (.ref l) (upd H l (.lst ys))) (on1 pLst) := by
  refine CalM.on1 fun s0 c0 S H x p G z Q s x e k => ?_
  unfold pLst at e
  cases hp : p.items with
  | none => rw [hp] at e; cases e
  | some ps =>
    rw [hp] at e
    dsimp only at e
    split at e
    · rename_i hi
      injection e with e; subst e
      obtain ⟨a, vs, G', rfl, sq, rl, _⟩ := x.seq hp
      refine ⟨a, vs, rfl, sq, fun l hl => ?_⟩
      have nl : l ≠ s0 := (ne_of_none s.1 hl).symm
      refine k _ _ [l] (Fr.new s.lst hl) (by rw [upd_ne nl.symm]) (.lst nl upd_same (RfL.fr (Fr.new s.lst hl) (rl.imm0 hi))) (by simp) fun b hb => ?_
      rw [List.mem_singleton] at hb
      subst hb; exact hl
    · cases e
/-- isinstance(x, T) -/
def tyName : P → Option String
  | .non => some "NoneType" | .bl _ => some "bool" | .int _ => some "int" | .str _ => some "str" | .tup _ => some "tuple" | .kt _ => some "tuple" | .lst _ => some "list" | .dK _ => some "dict" | .dT _ => some "dict"
  | _ => none
def pIsi : P → P → Option P := fun p q => match q with
  | .ty n => ((tyName p).bind fun m => kitB m n).map P.bl
  | _ => none
theorem Rf.ty_of {p : P} {v : V} {F : List Addr} {n : String} (x : Rf K s0 H p v F) (e : tyName p = some n) : TyX K H v (.type n) := by
  cases x with
  | kt e1 e2 e3 e4 e5 r => injection e with e; subst e; exact .kTuple e1 e2
  | src => cases e
  | ty m => cases e
  | non => injection e with e; subst e; exact .base .non
  | bl b => injection e with e; subst e; exact .base (.bl b)
  | int b => injection e with e; subst e; exact .base (.int b)
  | str b => injection e with e; subst e; exact .base (.str b)
  | tup t r => injection e with e; subst e; exact .base (.tup t)
  | lst n t r => injection e with e; subst e; exact .base (.lst t)
  | dK n t r _ => injection e with e; subst e; exact .base (.dK t)
  | dT n t r _ => injection e with e; subst e; exact .base (.dT t)
theorem cm_isi : CalM c (rIsi c.K) (on2 pIsi) := by
  refine CalM.on2 fun s0 c0 S H x y p q F G z Q s x y e k => ?_
  unfold pIsi at e
  cases q with
  | ty n =>
    cases y
    dsimp only at e
    cases hp : tyName p with
    | none => rw [hp] at e; cases e
    | some m =>
      rw [hp] at e
      simp only [Option.bind_some] at e
      cases hk : kitB m n with
      | none => rw [hk] at e; cases e
      | some b =>
        rw [hk] at e
        injection e with e; subst e
        exact ⟨_, _, _, _, b, rfl, .ty n, x.ty_of hp, kit_ty hk, imm_fin s (.bl _) k⟩
  | _ => cases e
end
end Mir

/-! Mir3: methods, and/or/not, conditional expressions, tests, calls of defs. -/
namespace Mir
open PySem PySem.Spec L2
open PyProof.Rows hiding St
section
variable {c : Cn} {W : WX} {kd ka kb : Kd} {K : PySem.W.Frag} {s0 : Addr} {H H' : Hp}

/-! ### methods of texts with one argument -/
def P.isS : P → Bool
  | .str _ => true | _ => false
def mM1 (f : P → P → Option P) (ma mb : Env → M P) : Env → M P := fun ρ => M.bind (ma ρ) fun a => if a.isS = true then M.bind (mb ρ) fun b => lift (f a b) else stk
theorem em_m1 {r : V → List V → Hp → VK → Prop} {f : P → P → Option P} {ta tb : TE} {ma mb : Env → M P} (o : OpM c (fun x y H Q => r x [y] H Q) f) (ha : EM c W ka ta ma) (hb : EM c W kb tb mb) : EM c W .fre (tM1 r ta tb) (mM1 f ma mb) := by
  intro s0 c0 Fs H0 S pins σ H ρ Q R h
  refine ha s0 c0 Fs H0 S pins σ H ρ _ R (Post.bind h fun p S1 v H1 G1 e1 R1 f1 x1 k1 h1 => ?_)
  cases p with
  | str a =>
    cases x1
    refine ⟨⟨a, rfl⟩, ?_⟩
    rw [if_pos (show P.isS (.str a) = true from rfl)] at h1
    refine hb s0 c0 Fs H0 S1 pins σ H1 ρ _ R1 (Post.bind2 f1 h1 fun q S2 w H2 G2 e2 R2 f2 x2 k2 h2 => ?_)
    unfold lift at h2
    cases e : f (.str a) q with
    | none => rw [e] at h2; exact h2.elim
    | some z =>
      rw [e] at h2
      exact o s0 c0 S2 H2 _ w _ q [] G2 z Q R2.src (.str a) x2 e fun u H' E f' e' x' n' d' => h2 u H' E (R2.step f' (R2.src.fr f' e')) ((f1.trans f2).trans f') x' ⟨n', fun b hb => (f1.trans f2).none (d' b hb) (x'.dom b hb).1⟩
  | _ =>
    exact False.elim h1
theorem RfL.strs : ∀ (ys : List Str), RfL K s0 H (ys.map P.str) (ys.map V.str) []
  | [] => .nil
  | y :: ys => by
    have h := RfL.cons (F := []) (G := []) (Rf.str (K := K) (s0 := s0) (H := H) y) (RfL.strs ys)
    exact h
def pSplit : P → P → Option P := fun p q => match p, q with
  | .str a, .str b => if b.length ≠ 0 ∧ a.length + 2 ≤ sizeLine then some (.lst ((Txt.split a b).map P.str)) else none
  | _, _ => none
theorem om_split : OpM c (fun x y H Q => ∃ a b, x = .str a ∧ [y] = [.str b] ∧ (b.length == 0) = false ∧ a.length + 2 ≤ sizeLine ∧ rNewStrs (Txt.split a b) H Q) pSplit := by
  intro s0 c0 S H x y p q F G z Q s a b e k
  unfold pSplit at e
  split at e
  · rename_i u v
    cases a; cases b
    split at e
    · rename_i h
      injection e with e; subst e
      refine ⟨u, v, rfl, rfl, by simpa using h.1, h.2, fun l hl => ?_⟩
      have nl : l ≠ s0 := (ne_of_none s.1 hl).symm
      refine k _ _ [l] (Fr.new s.lst hl) (by rw [upd_ne nl.symm]) (.lst nl upd_same (RfL.strs _)) (by simp) fun b hb => ?_
      rw [List.mem_singleton] at hb
      subst hb; exact hl
    · cases e
  · cases e

/-! ### values of and, or, not, .. if .. else -/
def boolP {α : Type} (p : P) (f : Bool → M α) : M α := match p with
  | .bl b => f b
  | _ => stk
def mAnd (ma mb : Env → M P) : Env → M P := fun ρ => M.bind (ma ρ) fun p => boolP p fun b => if b = true then mb ρ else fun s => .ok (.bl false) s
def mOr (ma mb : Env → M P) : Env → M P := fun ρ => M.bind (ma ρ) fun p => boolP p fun b => if b = true then (fun s => .ok (.bl true) s) else mb ρ
def mNot (ma : Env → M P) : Env → M P := fun ρ => M.bind (ma ρ) fun p => boolP p fun b s => .ok (.bl (!b)) s
theorem em_and {ta tb : TE} {ma mb : Env → M P} (ha : EM c W ka ta ma) (hb : EM c W kd tb mb) : EM c W kd (tAndV ta tb) (mAnd ma mb) := by
  intro s0 c0 Fs H0 S pins σ H ρ Q R h
  refine ha s0 c0 Fs H0 S pins σ H ρ _ R (Post.bind h fun p S1 v H1 G1 e1 R1 f1 x1 k1 h1 => ?_)
  cases p with
  | bl b =>
    cases x1
    refine ⟨b, rfl, ?_⟩
    cases b with
    | true =>
      rw [if_pos rfl]
      exact hb s0 c0 Fs H0 S1 pins σ H1 ρ Q R1 (Post.from f1 h1)
    | false =>
      rw [if_neg Bool.false_ne_true]
      exact h1 _ H1 [] R1 f1 (.bl false) KindOk.nil
  | _ => exact h1.elim
theorem em_or {ta tb : TE} {ma mb : Env → M P} (ha : EM c W ka ta ma) (hb : EM c W kd tb mb) : EM c W kd (tOrV ta tb) (mOr ma mb) := by
  intro s0 c0 Fs H0 S pins σ H ρ Q R h
  refine ha s0 c0 Fs H0 S pins σ H ρ _ R (Post.bind h fun p S1 v H1 G1 e1 R1 f1 x1 k1 h1 => ?_)
  cases p with
  | bl b =>
    cases x1
    refine ⟨b, rfl, ?_⟩
    cases b with
    | false =>
      rw [if_neg Bool.false_ne_true]
      exact hb s0 c0 Fs H0 S1 pins σ H1 ρ Q R1 (Post.from f1 h1)
    | true =>
      rw [if_pos rfl]
      exact h1 _ H1 [] R1 f1 (.bl true) KindOk.nil
  | _ => exact h1.elim
theorem em_not {ta : TE} {ma : Env → M P} (ha : EM c W ka ta ma) : EM c W kd (tNotV ta) (mNot ma) := by
  intro s0 c0 Fs H0 S pins σ H ρ Q R h
  refine ha s0 c0 Fs H0 S pins σ H ρ _ R (Post.bind h fun p S1 v H1 G1 e1 R1 f1 x1 k1 h1 => ?_)
  cases p with
  | bl b =>
    cases x1
    exact ⟨b, rfl, h1 _ H1 [] R1 f1 (.bl _) KindOk.nil⟩
  | _ => exact h1.elim

/-! ### tests -/
def mTst (m : Env → M P) : Env → M Bool := fun ρ => M.bind (m ρ) fun p => boolP p fun b s => .ok b s
theorem tm_val {t : TE} {m : Env → M P} (h : EM c W ka t m) : TM c W (tB t) (mTst m) := by
  intro s0 c0 Fs H0 S pins σ H ρ Q R q
  refine h s0 c0 Fs H0 S pins σ H ρ _ R (Post.bind q fun p S1 v H1 G1 e1 R1 f1 x1 k1 h1 => ?_)
  cases p with
  | bl b =>
    cases x1
    exact ⟨b, rfl, h1 b H1 [] R1 f1 ⟨rfl, rfl⟩ trivial⟩
  | _ => exact h1.elim
theorem tm_tst {t : TE} {m : Env → M P} (h : EM c W ka t m) : TM c W (tTest t) (mTst m) := tm_val h
def truP : P → Option Bool
  | .non => some false
  | .bl b => some b
  | .int i => some (i != 0)
  | .str y => if y.length ≤ sizeLine then some ((y.length : Int) != 0) else none
  | .tup ps => some (!ps.isEmpty) | .lst ps => some (!ps.isEmpty) | .kt ps => some (!ps.isEmpty)
  | .dK kvs => some (!kvs.isEmpty)
  | _ => none
theorem RfL.isE : ∀ {ps : List P} {vs : List V} {F : List Addr}, RfL K s0 H ps vs F → ps.isEmpty = vs.isEmpty
  | _, _, _, .nil => rfl
  | _, _, _, .cons _ _ => rfl
theorem Rf.tru {p : P} {v : V} {F : List Addr} {b : Bool} (x : Rf K s0 H p v F) (e : truP p = some b) : TruV K v H b := by
  cases x with
  | non => injection e with e; exact e.symm
  | bl d => injection e with e; exact e.symm
  | int i => injection e with e; exact e.symm
  | str y =>
    simp only [truP] at e
    split at e
    · rename_i hz
      injection e with e
      exact ⟨hz, e.symm⟩
    · cases e
  | tup t r =>
    injection e with e; subst e
    exact .inr (.inl ⟨_, .inl (.inl t), by rw [r.isE]⟩)
  | kt e1 e2 e3 e4 e5 r =>
    injection e with e; subst e
    exact .inr (.inl ⟨_, .inr ⟨_, _, _, e1, e2, e3, e4, e5⟩, by rw [r.isE]⟩)
  | lst n t r =>
    injection e with e; subst e
    exact .inl ⟨_, .inl (.inl t), by rw [r.isE]⟩
  | dK n t hk r =>
    rename_i hv kvs F'
    injection e with e; subst e
    refine .inr (.inr ⟨_, t, ?_⟩)
    cases kvs <;> cases hv <;> first | rfl | (simp at hk)
  | dT n t hk r => cases e
  | src => cases e
  | ty n => cases e
def mTru (m : Env → M P) : Env → M Bool := fun ρ => M.bind (m ρ) fun p => lift (truP p)
theorem tm_tru {t : TE} {m : Env → M P} (h : EM c W ka t m) : TM c W (fun σ H Q => t σ H fun x H' => ∃ k, TruV c.K x H' k ∧ Q k H') (mTru m) := by
  intro s0 c0 Fs H0 S pins σ H ρ Q R q
  refine h s0 c0 Fs H0 S pins σ H ρ _ R (Post.bind q fun p S1 v H1 G1 e1 R1 f1 x1 k1 h1 => ?_)
  unfold lift at h1
  cases e : truP p with
  | none => rw [e] at h1; exact h1.elim
  | some b =>
    rw [e] at h1
    exact ⟨b, x1.tru e, h1 b H1 [] R1 f1 ⟨rfl, rfl⟩ trivial⟩
def tAndM (ma mb : Env → M Bool) : Env → M Bool := fun ρ => M.bind (ma ρ) fun b => if b = true then mb ρ else fun s => .ok false s
def tOrM (ma mb : Env → M Bool) : Env → M Bool := fun ρ => M.bind (ma ρ) fun b => if b = true then (fun s => .ok true s) else mb ρ
def tNotM (ma : Env → M Bool) : Env → M Bool := fun ρ => M.bind (ma ρ) fun b s => .ok (!b) s
theorem tm_and {ta tb : TT} {ma mb : Env → M Bool} (ha : TM c W ta ma) (hb : TM c W tb mb) : TM c W (tAnd ta tb) (tAndM ma mb) := by
  intro s0 c0 Fs H0 S pins σ H ρ Q R h
  refine ha s0 c0 Fs H0 S pins σ H ρ _ R (Post.bind h fun p S1 v H1 G1 e1 R1 f1 x1 k1 h1 => ?_)
  obtain ⟨rfl, rfl⟩ := x1
  cases p with
  | true =>
    rw [if_pos rfl]
    exact hb s0 c0 Fs H0 S1 pins σ H1 ρ Q R1 (Post.from f1 h1)
  | false =>
    rw [if_neg Bool.false_ne_true]
    exact h1 false H1 [] R1 f1 ⟨rfl, rfl⟩ trivial
theorem tm_or {ta tb : TT} {ma mb : Env → M Bool} (ha : TM c W ta ma) (hb : TM c W tb mb) : TM c W (tOr ta tb) (tOrM ma mb) := by
  intro s0 c0 Fs H0 S pins σ H ρ Q R h
  refine ha s0 c0 Fs H0 S pins σ H ρ _ R (Post.bind h fun p S1 v H1 G1 e1 R1 f1 x1 k1 h1 => ?_)
  obtain ⟨rfl, rfl⟩ := x1
  cases p with
  | false =>
    rw [if_neg Bool.false_ne_true]
    exact hb s0 c0 Fs H0 S1 pins σ H1 ρ Q R1 (Post.from f1 h1)
  | true =>
    rw [if_pos rfl]
    exact h1 true H1 [] R1 f1 ⟨rfl, rfl⟩ trivial
theorem tm_not {ta : TT} {ma : Env → M Bool} (ha : TM c W ta ma) : TM c W (tNot ta) (tNotM ma) := by
  intro s0 c0 Fs H0 S pins σ H ρ Q R h
  refine ha s0 c0 Fs H0 S pins σ H ρ _ R (Post.bind h fun p S1 v H1 G1 e1 R1 f1 x1 k1 h1 => ?_)
  obtain ⟨rfl, rfl⟩ := x1
  exact h1 _ H1 [] R1 f1 ⟨rfl, rfl⟩ trivial
/-- a if t else b -/
def mIfE (mt : Env → M Bool) (ma mb : Env → M P) : Env → M P := fun ρ => M.bind (mt ρ) fun b => if b = true then ma ρ else mb ρ
theorem em_if {tt : TT} {ta tb : TE} {mt : Env → M Bool} {ma mb : Env → M P} (ht : TM c W tt mt) (ha : EM c W kd ta ma) (hb : EM c W kd tb mb) : EM c W kd (tIf tt ta tb) (mIfE mt ma mb) := by
  intro s0 c0 Fs H0 S pins σ H ρ Q R h
  refine ht s0 c0 Fs H0 S pins σ H ρ _ R (Post.bind h fun p S1 v H1 G1 e1 R1 f1 x1 k1 h1 => ?_)
  obtain ⟨rfl, rfl⟩ := x1
  cases p with
  | true =>
    rw [if_pos rfl]
    exact ha s0 c0 Fs H0 S1 pins σ H1 ρ Q R1 (Post.from f1 h1)
  | false =>
    rw [if_neg Bool.false_ne_true]
    exact hb s0 c0 Fs H0 S1 pins σ H1 ρ Q R1 (Post.from f1 h1)
/-- a chain a op b op' cc -/
def mChain (f g : P → P → Option P) (ma mb mc : Env → M P) : Env → M P := fun ρ => M.bind (ma ρ) fun p => M.bind (mb ρ) fun q => M.bind (lift (f p q)) fun z => boolP z fun b => if b = true then M.bind (mc ρ) fun u => lift (g q u) else fun s => .ok (.bl false) s
theorem em_chain {r r' : R2} {f g : P → P → Option P} {ta tb tc : TE} {ma mb mc : Env → M P} (o : OpM c r f) (o' : OpM c r' g) (ha : EM c W ka ta ma) (hb : EM c W ka tb mb) (hc : EM c W ka tc mc) :
    EM c W .fre (tChain r r' ta tb tc) (mChain f g ma mb mc) := by
  intro s0 c0 Fs H0 S pins σ H ρ Q R h
  refine ha s0 c0 Fs H0 S pins σ H ρ _ R (Post.bind h fun p S1 v H1 G1 e1 R1 f1 x1 k1 h1 => ?_)
  refine hb s0 c0 Fs H0 S1 pins σ H1 ρ _ R1 (Post.bind2 f1 h1 fun q S2 w H2 G2 e2 R2 f2 x2 k2 h2 => ?_)
  have x1' := Rf.fr f2 x1
  have f12 := f1.trans f2
  unfold lift M.bind at h2
  cases e : f p q with
  | none => rw [e] at h2; exact h2.elim
  | some z =>
    rw [e] at h2
    dsimp only at h2
    cases z with
    | bl b =>
      refine o s0 c0 S2 H2 v w p q G1 G2 _ _ R2.src x1' x2 e fun u H' E f' e' x' n' d' => ?_
      cases x'
      have R3 := R2.step f' (R2.src.fr f' e')
      refine ⟨b, rfl, ?_⟩
      cases b with
      | true =>
        rw [if_pos rfl]
        refine hc s0 c0 Fs H0 S2 pins σ H' ρ _ R3 (Post.bind2 (f12.trans f') h2 fun u S3 u' H4 G4 e4 R4 f4 x4 k4 h4 => ?_)
        unfold lift at h4
        cases e5 : g q u with
        | none => rw [e5] at h4; exact h4.elim
        | some z =>
          rw [e5] at h4
          refine o' s0 c0 S3 H4 w u' q u G2 G4 z Q R4.src (Rf.fr (f'.trans f4) x2) x4 e5 fun u H' E f5 e' x' n' d' => h4 u H' E (R4.step f5 (R4.src.fr f5 e')) (((f12.trans f').trans f4).trans f5) x' ⟨n', fun a ha => ((f12.trans f').trans f4).none (d' a ha) (x'.dom a ha).1⟩
      | false =>
        rw [if_neg Bool.false_ne_true]
        exact h2 _ H' [] R3 (f12.trans f') (.bl false) KindOk.nil
    | _ => exact h2.elim

/-! ### calls of defs -/
/-- what a def does that computes f -/
def spM (c : Cn) (n : Nat) (f : List P → M P) : Sp := fun vs H Q E =>
  vs.length = n ∧ ∃ s0 c0 ps S G, RfL c.K s0 H ps vs G ∧ SrcAt s0 c0 S H ∧ match f ps S with
    | .ok p S' => ∀ v H' G, Fr s0 H H' → SrcAt s0 c0 S' H' → Rf c.K s0 H' p v G → G.Nodup → (∀ a ∈ G, H a = none) → Q v H'
    | .exc k fs S' => ∀ cls d H', Fr s0 H H' → SrcAt s0 c0 S' H' → c.XA k fs cls d H' → E cls d H'
    | .stuck => False
def mCall (f : List P → M P) (ms : Env → M (List P)) : Env → M P := fun ρ => M.bind (ms ρ) f
theorem em_call {n : Nat} {f : List P → M P} {t : TA} {ms : Env → M (List P)} (h : AM c W ka t ms) (hn : ∀ ρ S ps S', ms ρ S = .ok ps S' → ps.length = n) : EM c W .fre (tCallS (spM c n f) (WE W) t) (mCall f ms) := by
  intro s0 c0 Fs H0 S pins σ H ρ Q R q
  refine h s0 c0 Fs H0 S pins σ H ρ _ R (Post.bind q fun ps S1 vs H1 G1 e1 R1 f1 x1 k1 h1 => ?_)
  refine ⟨by rw [← x1.length]; exact hn ρ S ps S1 e1, s0, c0, ps, S1, G1, x1, R1.src, ?_⟩
  cases e : f ps S1 with
  | ok p S' =>
    rw [e] at h1
    exact fun v H' G f' q' x' n' d' => h1 v H' G (R1.step f' q') (f1.trans f') x' ⟨n', fun a ha => f1.none (d' a ha) (x'.dom a ha).1⟩
  | exc k fs S' =>
    rw [e] at h1
    exact fun cls d H' f' q' x' => h1 cls d H' (R1.step f' q') (f1.trans f') x'
  | stuck =>
    rw [e] at h1; exact h1
/-- how many arguments -/
def Many (ms : Env → M (List P)) (n : Nat) : Prop := ∀ ρ S ps S', ms ρ S = .ok ps S' → ps.length = n
theorem many_nil : Many mNil 0 := fun ρ S ps S' e => by
  unfold mNil at e
  injection e with e1 e2
  subst e1; rfl
theorem many_cons {m : Env → M P} {ms : Env → M (List P)} {n : Nat} (h : Many ms n) : Many (mCons m ms) (n + 1) := fun ρ S ps S' e => by
  unfold mCons M.bind at e
  cases e1 : m ρ S with
  | ok p S1 =>
    rw [e1] at e
    dsimp only at e
    cases e2 : ms ρ S1 with
    | ok qs S2 =>
      rw [e2] at e
      unfold lift at e
      dsimp only at e
      injection e with e3 e4
      subst e3
      rw [List.length_cons, h _ _ _ _ e2]
    | exc a b s => rw [e2] at e; cases e
    | stuck => rw [e2] at e; cases e
  | exc a b s => rw [e1] at e; cases e
  | stuck => rw [e1] at e; cases e
end
end Mir

/-! Mir4: statements, stores, loops, comprehensions. -/
namespace Mir
open PySem PySem.Spec L2
open PyProof.Rows hiding St
section
variable {c : Cn} {W : WX} {kd ka kb : Kd} {K : PySem.W.Frag} {s0 c0 : Addr} {H H' H0 : Hp} {Fs : Nat → List Addr} {S S' : Src} {pins : Pins} {σ : St} {ρ : Env}

/-! ### slots -/
theorem set_get {α : Type} {l : List α} {i j : Nat} {x y : α} (e : (l.set i x)[j]? = some y) : (j = i ∧ y = x ∧ i < l.length) ∨ (j ≠ i ∧ l[j]? = some y) := by
  rw [List.getElem?_set] at e
  by_cases h : i = j
  · subst h
    rw [if_pos rfl] at e
    by_cases q : i < l.length
    · rw [if_pos q] at e
      injection e with e
      exact .inl ⟨rfl, e.symm, q⟩
    · rw [if_neg q] at e; cases e
  · rw [if_neg h] at e
    exact .inr ⟨fun z => h z.symm, e⟩
theorem set_at {α : Type} {l : List α} {i : Nat} {x : α} (h : i < l.length) : (l.set i x)[i]? = some x := by
  rw [List.getElem?_set, if_pos rfl, if_pos h]
theorem set_ne {α : Type} {l : List α} {i j : Nat} {x : α} (h : j ≠ i) : (l.set i x)[j]? = l[j]? := by
  rw [List.getElem?_set, if_neg fun z => h z.symm]
def fset (Fs : Nat → List Addr) (i : Nat) (G : List Addr) : Nat → List Addr := fun k => if k = i then G else Fs k
theorem fset_at {i : Nat} {G : List Addr} : fset Fs i G i = G := if_pos rfl
theorem fset_ne {i j : Nat} {G : List Addr} (h : j ≠ i) : fset Fs i G j = Fs j := if_neg h
theorem RelF.set (r : RelF c s0 c0 Fs H0 S pins σ H ρ) {i : Nat} {p : P} {m : Md} {v : V} {G : List Addr} (x : Rf c.K s0 H p v G) (fr : m ≠ .par → G.Nodup ∧ ∀ a ∈ G, H0 a = none)
    (d1 : ∀ j q m', j ≠ i → ρ[j]? = some (some (q, m')) → (m = .own ∨ m' = .own) → ∀ a ∈ Fs j, a ∉ G) (d2 : m = .own → ∀ y ∈ pins, ∀ a ∈ G, a ∉ y.2.2) :
    RelF c s0 c0 (fset Fs i G) H0 S pins (σ.set i (some v)) H (ρ.set i (some (p, m))) where
  fr := r.fr
  src := r.src
  c0in := r.c0in
  len := by rw [List.length_set, List.length_set]; exact r.len
  slot := fun j q m' e => by
    rcases set_get e with ⟨rfl, e, hl⟩ | ⟨hj, e⟩
    · injection e with e
      injection e with e1 e2
      subst e1 e2
      exact ⟨v, set_at (by rw [r.len]; exact hl), by rw [fset_at]; exact x⟩
    · obtain ⟨w, h1, h2⟩ := r.slot j q m' e
      exact ⟨w, by rw [set_ne hj]; exact h1, by rw [fset_ne hj]; exact h2⟩
  fresh := fun j q m' e hm => by
    rcases set_get e with ⟨rfl, e, hl⟩ | ⟨hj, e⟩
    · injection e with e
      injection e with e1 e2
      subst e1 e2
      rw [fset_at]; exact fr hm
    · rw [fset_ne hj]; exact r.fresh j q m' e hm
  dis := fun j k q q' m' hjk ej ek => by
    rcases set_get ej with ⟨rfl, ej, hl⟩ | ⟨hj, ej⟩
    · injection ej with ej
      injection ej with e1 e2
      rcases set_get ek with ⟨rfl, _, _⟩ | ⟨hk, ek⟩
      · exact absurd rfl hjk
      · rw [fset_at, fset_ne hk]
        intro a ha hb
        exact d1 k q' m' hk ek (.inl e2.symm) a hb ha
    · rcases set_get ek with ⟨z, ek, _⟩ | ⟨hk, ek⟩
      · subst z
        rw [fset_at, fset_ne hj]
        exact d1 j q .own hj (by assumption) (.inr rfl)
      · rw [fset_ne hj, fset_ne hk]
        exact r.dis j k q q' m' hjk ej ek
  pin := fun y hy => ⟨(r.pin y hy).1, fun j q e => by
    rcases set_get e with ⟨rfl, e, hl⟩ | ⟨hj, e⟩
    · injection e with e
      injection e with e1 e2
      rw [fset_at]
      exact d2 e2.symm y hy
    · rw [fset_ne hj]
      exact (r.pin y hy).2 j q e⟩
/-- a new value, made since H1 -/
theorem RelF.setNew {H1 : Hp} (r1 : RelF c s0 c0 Fs H0 S' pins σ H1 ρ) (r : RelF c s0 c0 Fs H0 S pins σ H ρ) {i : Nat} {p : P} {m : Md} {v : V} {G : List Addr} (x : Rf c.K s0 H p v G) (k : KindOk .fre Fs ρ H1 G) :
    RelF c s0 c0 (fset Fs i G) H0 S pins (σ.set i (some v)) H (ρ.set i (some (p, m))) := by
  refine r.set x (fun _ => ⟨k.1, fun a ha => r1.h0 (k.2 a ha)⟩) (fun j q m' hj e _ a ha hg => ?_) fun _ y hy a ha hg => ?_
  · obtain ⟨w, _, h2⟩ := r1.slot j q m' e
    obtain ⟨_, o, z⟩ := h2.dom a ha
    rw [k.2 a hg] at z; cases z
  · obtain ⟨_, o, z⟩ := (r1.pin y hy).1.dom a hg
    rw [k.2 a ha] at z; cases z
/-- a value that no own slot has part in -/
theorem RelF.setNon (r : RelF c s0 c0 Fs H0 S pins σ H ρ) {i : Nat} {p : P} {v : V} {G : List Addr} (x : Rf c.K s0 H p v G) (k : ∀ j q, ρ[j]? = some (some (q, .own)) → ∀ a ∈ Fs j, a ∉ G) :
    RelF c s0 c0 (fset Fs i G) H0 S pins (σ.set i (some v)) H (ρ.set i (some (p, .par))) :=
  r.set x (fun h => absurd rfl h) (fun j q m' hj e h => by
    rcases h with h | rfl
    · cases h
    · exact k j q e) fun h => by cases h
/-- a slot is not spoken of any more -/
theorem RelF.unset (r : RelF c s0 c0 Fs H0 S pins σ H ρ) {i : Nat} {x : Option V} : RelF c s0 c0 Fs H0 S pins (σ.set i x) H (ρ.set i none) where
  fr := r.fr
  src := r.src
  c0in := r.c0in
  len := by rw [List.length_set, List.length_set]; exact r.len
  slot := fun j q m' e => by
    rcases set_get e with ⟨rfl, e, hl⟩ | ⟨hj, e⟩
    · cases e
    · obtain ⟨w, h1, h2⟩ := r.slot j q m' e
      exact ⟨w, by rw [set_ne hj]; exact h1, h2⟩
  fresh := fun j q m' e hm => by
    rcases set_get e with ⟨rfl, e, hl⟩ | ⟨hj, e⟩
    · cases e
    · exact r.fresh j q m' e hm
  dis := fun j k q q' m' hjk ej ek => by
    rcases set_get ej with ⟨rfl, ej, hl⟩ | ⟨hj, ej⟩
    · cases ej
    · rcases set_get ek with ⟨rfl, ek, _⟩ | ⟨hk, ek⟩
      · cases ek
      · exact r.dis j k q q' m' hjk ej ek
  pin := fun y hy => ⟨(r.pin y hy).1, fun j q e => by
    rcases set_get e with ⟨rfl, e, hl⟩ | ⟨hj, e⟩
    · cases e
    · exact (r.pin y hy).2 j q e⟩
/-- an own slot is from now on read only -/
def frz (i : Nat) (ρ : Env) : Env := match ρ[i]? with
  | some (some (p, .own)) => ρ.set i (some (p, .loc))
  | _ => ρ
theorem RelF.frz (r : RelF c s0 c0 Fs H0 S pins σ H ρ) (i : Nat) : RelF c s0 c0 Fs H0 S pins σ H (Mir.frz i ρ) := by
  unfold Mir.frz
  split
  · rename_i p e
    refine ⟨r.fr, r.src, r.c0in, by rw [List.length_set]; exact r.len, fun j q m' ej => ?_, fun j q m' ej hm => ?_, fun j k q q' m' hjk ej ek => ?_, fun y hy => ⟨(r.pin y hy).1, fun j q ej => ?_⟩⟩
    · rcases set_get ej with ⟨rfl, ej, hl⟩ | ⟨hj, ej⟩
      · injection ej with ej; injection ej with e1 e2; subst e1 e2
        exact r.slot j _ _ e
      · exact r.slot j q m' ej
    · rcases set_get ej with ⟨rfl, ej, hl⟩ | ⟨hj, ej⟩
      · exact r.fresh j _ _ e (by decide)
      · exact r.fresh j q m' ej hm
    · rcases set_get ej with ⟨rfl, ej, hl⟩ | ⟨hj, ej⟩
      · injection ej with ej; injection ej with e1 e2; cases e2
      · rcases set_get ek with ⟨z, ek, hl⟩ | ⟨hk, ek⟩
        · subst z
          exact r.dis j k q p .own hjk (by assumption) e
        · exact r.dis j k q q' m' hjk ej ek
    · rcases set_get ej with ⟨rfl, ej, hl⟩ | ⟨hj, ej⟩
      · injection ej with ej; injection ej with e1 e2; cases e2
      · exact (r.pin y hy).2 j q ej
  · exact r

/-! ### small statements -/
def mNext : Env → M Out := fun ρ s => .ok (.nx ρ) s
def mSeq (m n : Env → M Out) : Env → M Out := fun ρ s => match m ρ s with
  | .ok (.nx ρ') s' => n ρ' s'
  | r => r
theorem sm_nil : SM c W tNext mNext := fun s0 c0 Fs H0 S pins σ H ρ D r h => h Fs σ H r
theorem sm_cons {t u : TS} {m n : Env → M Out} (h1 : SM c W t m) (h2 : SM c W u n) : SM c W (tSeq t u) (mSeq m n) := by
  intro s0 c0 Fs H0 S pins σ H ρ D r h
  refine h1 s0 c0 Fs H0 S pins σ H ρ _ r ?_
  unfold mSeq at h
  cases e : m ρ S with
  | ok o S' =>
    rw [e] at h
    cases o with
    | nx ρ' => exact fun Fs' σ' H' r' => h2 s0 c0 Fs' H0 S' pins σ' H' ρ' D r' h
    | bk ρ' => exact h
    | ct ρ' => exact h
    | rt p => exact h
    | ex a b ρ' => exact h
  | exc a b s => rw [e] at h; exact h
  | stuck => rw [e] at h; exact h
def mStuck : Env → M Out := fun _ _ => .stuck
theorem sm_never {t : TS} : SM c W t mStuck := fun s0 c0 Fs H0 S pins σ H ρ D r h => h.elim
/-- evaluate, then go on -/
theorem thenE_post {α β : Type} {R1 : Rep α β} {m : Env → M α} {f : α → Env → M Out} {D : Ends} {t : β → Hp → Prop} (h : PostS c W s0 c0 H0 pins D (thenE m f ρ S))
    (k : ∀ p S' v H' G, m ρ S = .ok p S' → RelF c s0 c0 Fs H0 S' pins σ H' ρ → Fr s0 H H' → R1.rel c.K s0 H' p v G → KindOk kd Fs ρ H G → PostS c W s0 c0 H0 pins D (f p ρ S') → t v H') :
    Post R1 c W s0 c0 Fs H0 pins σ H ρ kd t (m ρ S) := by
  unfold thenE at h
  cases e : m ρ S with
  | ok p S' =>
    rw [e] at h
    exact fun v H' G r fr x kk => k p S' v H' G e r fr x kk h
  | exc a b S' =>
    rw [e] at h
    exact fun cls d H' r fr x => h Fs cls d σ H' r x
  | stuck => rw [e] at h; exact h.elim
def mSet (i : Nat) (m : Env → M P) : Env → M Out := thenE m fun p ρ s => .ok (.nx (ρ.set i (some (p, .own)))) s
def mSetN (i : Nat) (m : Env → M P) : Env → M Out := thenE m fun p ρ s => .ok (.nx (ρ.set i (some (p, .par)))) s
theorem sm_set {i : Nat} {t : TE} {m : Env → M P} (h : EM c W .fre t m) : SM c W (tAsg t (gName i)) (mSet i m) := by
  intro s0 c0 Fs H0 S pins σ H ρ D r q
  exact h s0 c0 Fs H0 S pins σ H ρ _ r (thenE_post q fun p S' v H' G e r' f x k q' => q' _ _ _ (r.setNew r' x k))
theorem sm_setN {i : Nat} {t : TE} {m : Env → M P} (h : EM c W .non t m) : SM c W (tAsg t (gName i)) (mSetN i m) := by
  intro s0 c0 Fs H0 S pins σ H ρ D r q
  exact h s0 c0 Fs H0 S pins σ H ρ _ r (thenE_post q fun p S' v H' G e r' f x k q' => q' _ _ _ (r'.setNon x k))
/-- y = x: both read only from now on -/
def mAli (i j : Nat) : Env → M Out := fun ρ s => match (frz j ρ)[j]? with
  | some (some (p, m)) => if m = .own then .stuck else .ok (.nx ((frz j ρ).set i (some (p, m)))) s
  | _ => .stuck
theorem sm_ali {i j : Nat} : SM c W (tAsg (tVar j) (gName i)) (mAli i j) := by
  intro s0 c0 Fs H0 S pins σ H ρ D r q
  have r1 := r.frz j
  unfold mAli at q
  split at q
  · rename_i p m e
    split at q
    · exact q.elim
    · rename_i hm
      obtain ⟨v, h1, h2⟩ := r1.slot j p m e
      refine ⟨v, h1, q _ _ _ (r1.set h2 (fun h => r1.fresh j p m e h) (fun k q' m' hk ek hh => ?_) fun h => absurd h hm)⟩
      rcases hh with hh | rfl
      · exact absurd hh hm
      · by_cases hkj : k = j
        · subst hkj
          rw [e] at ek
          injection ek with ek; injection ek with ek; injection ek with e1 e2
          exact absurd e2 hm
        · exact r1.dis k j q' p m hkj ek e
  · exact q.elim
def mRet (m : Env → M P) : Env → M Out := thenE m fun p _ s => .ok (.rt p) s
theorem sm_ret {t : TE} {m : Env → M P} (h : EM c W .fre t m) : SM c W (tRet t) (mRet m) := by
  intro s0 c0 Fs H0 S pins σ H ρ D r q
  exact h s0 c0 Fs H0 S pins σ H ρ _ r (thenE_post q fun p S' v H' G e r' f x k q' => q' v H' G r'.fr r'.src x k.1 fun a ha => r.h0 (k.2 a ha))
/-- return x -/
def mRetV (i : Nat) : Env → M Out := fun ρ s => match ρ[i]? with
  | some (some (p, m)) => if m = .par ∧ p.imm = false then .stuck else .ok (.rt p) s
  | _ => .stuck
theorem sm_retV {i : Nat} : SM c W (tRet (tVar i)) (mRetV i) := by
  intro s0 c0 Fs H0 S pins σ H ρ D r q
  unfold mRetV at q
  split at q
  · rename_i p m e
    split at q
    · exact q.elim
    · rename_i hm
      obtain ⟨v, h1, h2⟩ := r.slot i p m e
      refine ⟨v, h1, q v H (Fs i) r.fr r.src h2 ?_ ?_⟩
      · by_cases z : m = .par
        · have hi : p.imm = true := by
            cases y : p.imm with
            | true => rfl
            | false => exact absurd ⟨z, y⟩ hm
          rw [Rf.imm h2 hi]; exact List.nodup_nil
        · exact (r.fresh i p m e z).1
      · by_cases z : m = .par
        · have hi : p.imm = true := by
            cases y : p.imm with
            | true => rfl
            | false => exact absurd ⟨z, y⟩ hm
          rw [Rf.imm h2 hi]; exact fun _ h => by cases h
        · exact (r.fresh i p m e z).2
  · exact q.elim
def mRet0 : Env → M Out := fun _ s => .ok (.rt .non) s
theorem sm_ret0 : SM c W tRetN mRet0 := fun s0 c0 Fs H0 S pins σ H ρ D r q => q _ H [] r.fr r.src .non List.nodup_nil fun _ h => by cases h
def mBrk : Env → M Out := fun ρ s => .ok (.bk ρ) s
def mCnt : Env → M Out := fun ρ s => .ok (.ct ρ) s
theorem sm_break : SM c W tBreak mBrk := fun s0 c0 Fs H0 S pins σ H ρ D r h => h Fs σ H r
theorem sm_continue : SM c W tCont mCnt := fun s0 c0 Fs H0 S pins σ H ρ D r h => h Fs σ H r
def mDrop (m : Env → M P) : Env → M Out := thenE m fun _ ρ s => .ok (.nx ρ) s
theorem sm_drop {t : TE} {m : Env → M P} (h : EM c W ka t m) : SM c W (tDrop t) (mDrop m) := by
  intro s0 c0 Fs H0 S pins σ H ρ D r q
  exact h s0 c0 Fs H0 S pins σ H ρ _ r (thenE_post q fun p S' v H' G e r' f x k q' => q' _ _ _ r')
def mIf (mt : Env → M Bool) (m n : Env → M Out) : Env → M Out := thenE mt fun b ρ => if b = true then m ρ else n ρ
theorem sm_if {tt : TT} {t u : TS} {mt : Env → M Bool} {m n : Env → M Out} (ht : TM c W tt mt) (h1 : SM c W t m) (h2 : SM c W u n) : SM c W (tIfS tt t u) (mIf mt m n) := by
  intro s0 c0 Fs H0 S pins σ H ρ D r q
  refine ht s0 c0 Fs H0 S pins σ H ρ _ r (thenE_post q fun b S' v H' G e r' f x k q' => ?_)
  obtain ⟨rfl, rfl⟩ := x
  cases b with
  | true =>
    rw [if_pos rfl]
    exact h1 s0 c0 Fs H0 S' pins σ H' ρ D r' q'
  | false =>
    rw [if_neg Bool.false_ne_true]
    exact h2 s0 c0 Fs H0 S' pins σ H' ρ D r' q'
end
end Mir

/-! Mir5: what a for walks, targets, for, comprehensions. -/
namespace Mir
open PySem PySem.Spec L2
open PyProof.Rows hiding St

/-- a list, a tuple or a text, walked -/
def iAny (K : PySem.W.Frag) (tl : TE) : TI := fun σ H R => tl σ H fun x H1 =>
  (∃ a, x = .ref a ∧ ((∃ xs, SqL K H1 a xs) ∧ R (Itl K a) H1 ∨ (∃ xs, SqT K H1 a xs) ∧ R (Itt K a) H1)) ∨ ∃ z, x = .str z ∧ R (Its z) H1
theorem pi_any {X : Cx} {tg l : Expr} {tl : TE} (hl : PE X l tl) : PI X tg l (iAny X.K tl) := by
  refine ⟨fun pins s σ H R I h => ?_⟩
  refine thn (hl.run pins s σ H _ I h) fun v s1 ⟨x, H1, I1, r1, q1⟩ => ?_
  rcases q1 with ⟨a, e, ⟨⟨xs, hq⟩, q⟩ | ⟨⟨xs, hq⟩, q⟩⟩ | ⟨z, ex, q⟩
  · subst e
    cases r1
    obtain ⟨its, rv, p, hz⟩ := I1.list hq
    refine wpAny_pyIter_list p.isList ?_
    refine ⟨s1.heap.objs.size, [s1.heap.objs.size], _, _, H1, rfl, I1.kept (t' := s1.toks) fun b o e => Heap.get?_push_of_some _ e, turn_list a _, ⟨_, Heap.get?_push_size _ rfl, rfl, rfl⟩, fun b hb => ?_, q⟩
    have e : b = s1.heap.objs.size := by simpa using hb
    subst e
    exact I1.fpOk (Nat.le_refl _) (I1.hok.fresh (Nat.le_refl _))
  · subst e
    cases r1
    obtain ⟨its, rv, p, hz⟩ := I1.tuple hq
    refine wpAny_pyIter_tuple (show s1.heap.IsTuple a its.toArray from p) ?_
    refine ⟨s1.heap.objs.size, [s1.heap.objs.size], _, _, H1, rfl, I1.kept (t' := s1.toks) fun b o e => Heap.get?_push_of_some _ e, turn_tuple a _, ⟨_, Heap.get?_push_size _ rfl, rfl, rfl⟩, fun b hb => ?_, q⟩
    have e : b = s1.heap.objs.size := by simpa using hb
    subst e
    exact I1.fpOk (Nat.le_refl _) (I1.hok.fresh (Nat.le_refl _))
  · subst ex
    obtain ⟨t, rfl⟩ := r1
    cases ha : z.cps.all (· < 128)
    · exact wpAny_pyIter_wide ha (pi_one (tk := s1.toks) I1 _ (turn_str _ z t "str_iterator" (.inr rfl)) ⟨_, Heap.get?_push_size _ rfl, rfl, rfl⟩ q)
    · exact wpAny_pyIter_ascii ha (pi_one (tk := s1.toks) I1 _ (turn_str _ z t "str_ascii_iterator" (.inl rfl)) ⟨_, Heap.get?_push_size _ rfl, rfl, rfl⟩ q)

section
variable {c : Cn} {W : WX} {kd ka kb : Kd} {K : PySem.W.Frag} {s0 c0 : Addr} {H H' H0 : Hp} {Fs : Nat → List Addr} {S S' : Src} {pins : Pins} {σ : St} {ρ : Env}

/-! ### iterators -/
/-- an iterator hands out the items ps, while pin stands -/
def ItOk (c : Cn) (s0 : Addr) (J : It) (ps : List P) (pin : P × V × List Addr) : Prop := ∀ H i, Rf c.K s0 H pin.1 pin.2.1 pin.2.2 →
  (∀ p, ps[i]? = some p → J.go i H ∧ ∀ x H', J.yld i H x H' → H' = H ∧ ∃ G, Rf c.K s0 H p x G ∧ ∀ a ∈ G, a ∈ pin.2.2) ∧ (ps[i]? = none → J.stop i H)
def PostI (c : Cn) (W : WX) (s0 c0 : Addr) (Fs : Nat → List Addr) (H0 : Hp) (pins : Pins) (σ : St) (H : Hp) (ρ : Env) (R : It → Hp → Prop) : Res (List P × Env) → Prop
  | .ok (ps, ρ') S' => ∀ J H' pin, RelF c s0 c0 Fs H0 S' (pin :: pins) σ H' ρ' → Fr s0 H H' → ItOk c s0 J ps pin → R J H'
  | .exc k fs S' => ∀ cls d H', RelF c s0 c0 Fs H0 S' pins σ H' ρ → Fr s0 H H' → c.XA k fs cls d H' → W cls d σ H'
  | .stuck => False
def IM (c : Cn) (W : WX) (wi : TI) (m : Env → M (List P × Env)) : Prop :=
  ∀ s0 c0 Fs H0 S pins σ H ρ R, RelF c s0 c0 Fs H0 S pins σ H ρ → PostI c W s0 c0 Fs H0 pins σ H ρ R (m ρ S) → wi σ H R
theorem RelF.pinNew (r : RelF c s0 c0 Fs H0 S pins σ H ρ) {p : P} {v : V} {G : List Addr} (x : Rf c.K s0 H p v G) (k : ∀ j q, ρ[j]? = some (some (q, .own)) → ∀ a ∈ Fs j, a ∉ G) :
    RelF c s0 c0 Fs H0 S ((p, v, G) :: pins) σ H ρ :=
  ⟨r.fr, r.src, r.c0in, r.len, r.slot, r.fresh, r.dis, fun y hy => by
    rcases List.mem_cons.mp hy with rfl | hy
    · exact ⟨x, k⟩
    · exact r.pin y hy⟩
/-- the items of a list, a tuple, a text -/
def itemsA : P → Option (List P)
  | .str z => some (z.cps.toList.map fun c => P.str ⟨#[c]⟩)
  | p => p.items
theorem it_list {a : Addr} {ps : List P} {G : List Addr} : ItOk c s0 (Itl c.K a) ps (.lst ps, .ref a, G) := by
  intro H i x
  cases x with
  | lst n t r =>
    rename_i vs F
    have hs : SqL c.K H a vs := .inl (.inl t)
    refine ⟨fun p hp => ?_, fun hn => ⟨vs, hs, ?_⟩⟩
    · obtain ⟨v, G, h1, h2, h3⟩ := r.get hp
      refine ⟨⟨vs, v, hs, h1⟩, fun x H' y => ?_⟩
      obtain ⟨e, y⟩ := y
      have := y vs hs
      rw [h1] at this
      injection this with e2
      subst e2
      exact ⟨e, G, h2, fun a ha => List.mem_cons_of_mem _ (h3.subset ha)⟩
    · rw [← r.length]; exact List.getElem?_eq_none_iff.mp hn
theorem it_tup {a : Addr} {ps : List P} {G : List Addr} : ItOk c s0 (Itt c.K a) ps (.tup ps, .ref a, G) := by
  intro H i x
  cases x with
  | tup t r =>
    rename_i vs
    have hs : SqT c.K H a vs := .inl (.inl t)
    refine ⟨fun p hp => ?_, fun hn => ⟨vs, hs, ?_⟩⟩
    · obtain ⟨v, G', h1, h2, h3⟩ := r.get hp
      refine ⟨⟨vs, v, hs, h1⟩, fun x H' y => ?_⟩
      obtain ⟨e, y⟩ := y
      have := y vs hs
      rw [h1] at this
      injection this with e2
      subst e2
      exact ⟨e, G', h2, fun a ha => h3.subset ha⟩
    · rw [← r.length]; exact List.getElem?_eq_none_iff.mp hn
theorem it_kt {a : Addr} {ps : List P} {G : List Addr} : ItOk c s0 (Itt c.K a) ps (.kt ps, .ref a, G) := by
  intro H i x
  cases x with
  | kt e1 e2 e3 e4 e5 r =>
    rename_i vs o its n
    have hs : SqT c.K H a vs := .inr ⟨_, _, _, e1, e2, e3, e4, e5⟩
    refine ⟨fun p hp => ?_, fun hn => ⟨vs, hs, ?_⟩⟩
    · obtain ⟨v, G', h1, h2, h3⟩ := r.get hp
      refine ⟨⟨vs, v, hs, h1⟩, fun x H' y => ?_⟩
      obtain ⟨e, y⟩ := y
      have := y vs hs
      rw [h1] at this
      injection this with e2
      subst e2
      exact ⟨e, G', h2, fun a ha => h3.subset ha⟩
    · rw [← r.length]; exact List.getElem?_eq_none_iff.mp hn
theorem it_str {z : Str} {p : P} {v : V} {G : List Addr} : ItOk c s0 (Its z) (z.cps.toList.map fun c => P.str ⟨#[c]⟩) (p, v, G) := by
  intro H i x
  refine ⟨fun p hp => ?_, fun hn => ?_⟩
  · rw [List.getElem?_map] at hp
    cases e : z.cps.toList[i]? with
    | none => rw [e] at hp; cases hp
    | some d =>
      rw [e] at hp
      injection hp with hp; subst hp
      have hl : i < z.cps.size := by
        have := (List.getElem?_eq_some_iff.mp e).1
        simpa using this
      refine ⟨hl, fun x H' y => ?_⟩
      obtain ⟨e1, d', e2, rfl⟩ := y
      refine ⟨e1, [], ?_, fun _ h => by cases h⟩
      rw [← Array.getElem?_toList, e] at e2
      injection e2 with e2
      subst e2
      exact .str _
  · have := List.getElem?_eq_none_iff.mp hn
    rw [List.length_map] at this
    show z.cps.size ≤ i
    simpa using this
/-- the parts of iAny, from a related value -/
theorem iAny_go {p : P} {ps : List P} {v : V} {G : List Addr} {R : It → Hp → Prop} (x : Rf c.K s0 H p v G) (e : itemsA p = some ps)
    (k : ∀ J, ItOk c s0 J ps (p, v, G) → R J H) : (∃ a, v = .ref a ∧ ((∃ xs, SqL c.K H a xs) ∧ R (Itl c.K a) H ∨ (∃ xs, SqT c.K H a xs) ∧ R (Itt c.K a) H)) ∨ ∃ z, v = .str z ∧ R (Its z) H := by
  cases x with
  | str z =>
    injection e with e; subst e
    exact .inr ⟨z, rfl, k _ it_str⟩
  | lst n t r =>
    injection e with e; subst e
    exact .inl ⟨_, rfl, .inl ⟨⟨_, .inl (.inl t)⟩, k _ it_list⟩⟩
  | tup t r =>
    injection e with e; subst e
    exact .inl ⟨_, rfl, .inr ⟨⟨_, .inl (.inl t)⟩, k _ it_tup⟩⟩
  | kt e1 e2 e3 e4 e5 r =>
    injection e with e; subst e
    exact .inl ⟨_, rfl, .inr ⟨⟨_, .inr ⟨_, _, _, e1, e2, e3, e4, e5⟩⟩, k _ it_kt⟩⟩
  | _ => cases e
/-- over a value that no own slot has part in -/
def mIt (m : Env → M P) : Env → M (List P × Env) := fun ρ => M.bind (m ρ) fun p => lift ((itemsA p).map fun ps => (ps, ρ))
theorem im_any {t : TE} {m : Env → M P} (h : EM c W .non t m) : IM c W (iAny c.K t) (mIt m) := by
  intro s0 c0 Fs H0 S pins σ H ρ R r q
  refine h s0 c0 Fs H0 S pins σ H ρ _ r ?_
  unfold mIt M.bind at q
  cases e : m ρ S with
  | ok p S' =>
    rw [e] at q
    intro v H' G r' f x k
    unfold lift at q
    dsimp only at q
    cases ei : itemsA p with
    | none => rw [ei] at q; exact q.elim
    | some ps =>
      rw [ei] at q
      exact iAny_go x ei fun J hJ => q J H' _ (r'.pinNew x k) f hJ
  | exc a b s => rw [e] at q; exact q
  | stuck => rw [e] at q; exact q
/-- over a name: read only from now on -/
def mItV (i : Nat) : Env → M (List P × Env) := fun ρ s => match (frz i ρ)[i]? with
  | some (some (p, m)) => if m = .own then .stuck else match itemsA p with
    | some ps => .ok (ps, frz i ρ) s
    | none => .stuck
  | _ => .stuck
theorem im_var {i : Nat} : IM c W (iAny c.K (tVar i)) (mItV i) := by
  intro s0 c0 Fs H0 S pins σ H ρ R r q
  have r1 := r.frz i
  unfold mItV at q
  split at q
  · rename_i p m e
    split at q
    · exact q.elim
    · rename_i hm
      split at q
      · rename_i ps ei
        obtain ⟨v, h1, h2⟩ := r1.slot i p m e
        refine ⟨v, h1, iAny_go h2 ei fun J hJ => q J H _ (r1.pinNew h2 fun j q' ej => ?_) (Fr.refl r.src.lst) hJ⟩
        by_cases hji : j = i
        · subst hji
          rw [e] at ej
          injection ej with ej; injection ej with ej; injection ej with e1 e2
          exact absurd e2 hm
        · exact r1.dis j i q' p m hji ej e
      · exact q.elim
  · exact q.elim
/-- range(n), range(a, b) -/
def intsFrom (lo : Int) (n : Nat) : List P := (List.range n).map fun (k : Nat) => P.int (lo + (k : Int))
theorem it_rng {lo : Int} {n : Nat} {pin : P × V × List Addr} : ItOk c s0 (Itr lo n) (intsFrom lo n) pin := by
  intro H i x
  unfold intsFrom
  refine ⟨fun p hp => ?_, fun hn => ?_⟩
  · rw [List.getElem?_map] at hp
    by_cases hi : i < n
    · rw [List.getElem?_range hi] at hp
      injection hp with hp; subst hp
      exact ⟨hi, fun x H' y => ⟨y.1, [], by rw [y.2]; exact .int _, fun _ h => by cases h⟩⟩
    · rw [List.getElem?_eq_none_iff.mpr (by simpa using hi)] at hp; cases hp
  · have := List.getElem?_eq_none_iff.mp hn
    have h : n ≤ i := by simpa using this
    exact h
def okR (i : Int) : Bool := decide (-(2 ^ 62) ≤ i) && decide (i < 2 ^ 62)
def rng1 : List P → Option (List P)
  | [.int j] => if okR j = true then some (intsFrom 0 j.toNat) else none
  | _ => none
def rng2 : List P → Option (List P)
  | [.int i, .int j] => if okR i = true ∧ okR j = true then some (intsFrom i (j - i).toNat) else none
  | _ => none
def mRng (f : List P → Option (List P)) (ms : Env → M (List P)) : Env → M (List P × Env) := fun ρ => M.bind (ms ρ) fun ps => lift ((f ps).map fun qs => (qs, ρ))
theorem RelF.pinNil (r : RelF c s0 c0 Fs H0 S pins σ H ρ) : RelF c s0 c0 Fs H0 S ((.non, .non, []) :: pins) σ H ρ := r.pinNew .non fun _ _ _ _ _ h => by cases h
theorem im_rng1 {t : TA} {ms : Env → M (List P)} (h : AM c W ka t ms) : IM c W (iRng1 t) (mRng rng1 ms) := by
  intro s0 c0 Fs H0 S pins σ H ρ R r q
  refine h s0 c0 Fs H0 S pins σ H ρ _ r ?_
  unfold mRng M.bind at q
  cases e : ms ρ S with
  | ok ps S' =>
    rw [e] at q
    intro vs H' G r' f x k
    unfold lift at q
    dsimp only at q
    cases ei : rng1 ps with
    | none => rw [ei] at q; exact q.elim
    | some qs =>
      rw [ei] at q
      unfold rng1 at ei
      split at ei
      · rename_i j
        split at ei
        · rename_i hj
          injection ei with ei; subst ei
          cases x with
          | cons x y =>
            cases y
            cases x
            simp only [okR, Bool.and_eq_true, decide_eq_true_eq] at hj
            exact ⟨j, rfl, hj.1, hj.2, q _ H' _ r'.pinNil f it_rng⟩
        · cases ei
      · cases ei
  | exc a b s => rw [e] at q; exact q
  | stuck => rw [e] at q; exact q
theorem im_rng2 {t : TA} {ms : Env → M (List P)} (h : AM c W ka t ms) : IM c W (iRng2 t) (mRng rng2 ms) := by
  intro s0 c0 Fs H0 S pins σ H ρ R r q
  refine h s0 c0 Fs H0 S pins σ H ρ _ r ?_
  unfold mRng M.bind at q
  cases e : ms ρ S with
  | ok ps S' =>
    rw [e] at q
    intro vs H' G r' f x k
    unfold lift at q
    dsimp only at q
    cases ei : rng2 ps with
    | none => rw [ei] at q; exact q.elim
    | some qs =>
      rw [ei] at q
      unfold rng2 at ei
      split at ei
      · rename_i i j
        split at ei
        · rename_i hj
          injection ei with ei; subst ei
          cases x with
          | cons x y =>
            cases y with
            | cons y y2 =>
              cases y2
              cases x; cases y
              simp only [okR, Bool.and_eq_true, decide_eq_true_eq] at hj
              exact ⟨i, j, rfl, ⟨hj.1.1, hj.1.2, hj.2.1, hj.2.2⟩, q _ H' _ r'.pinNil f it_rng⟩
        · cases ei
      · cases ei
  | exc a b s => rw [e] at q; exact q
  | stuck => rw [e] at q; exact q

/-! ### targets of for and comprehensions -/
/-- a target takes a value that no own slot has part in; only the slots ks are changed -/
def GM (c : Cn) (ks : List Nat) (g : TG) (m : P → Env → Option Env) : Prop := ∀ s0 c0 Fs H0 S pins σ H ρ p v G ρ' (Q : St → Hp → Prop), RelF c s0 c0 Fs H0 S pins σ H ρ → Rf c.K s0 H p v G →
  (∀ j q, ρ[j]? = some (some (q, .own)) → ∀ a ∈ Fs j, a ∉ G) → m p ρ = some ρ' →
  (∀ Fs' σ', RelF c s0 c0 Fs' H0 S pins σ' H ρ' → (∀ j, j ∉ ks → σ'[j]? = σ[j]?) → σ'.length = σ.length → (∀ j q, ρ'[j]? = some (some (q, .own)) → ρ[j]? = some (some (q, .own)) ∧ Fs' j = Fs j) → Q σ' H) → g v σ H Q
def gmName (i : Nat) : P → Env → Option Env := fun p ρ => some (ρ.set i (some (p, .par)))
theorem gm_name {i : Nat} : GM c [i] (gName i) (gmName i) := by
  intro s0 c0 Fs H0 S pins σ H ρ p v G ρ' Q r x k e q
  injection e with e; subst e
  refine q _ _ (r.setNon x k) (fun j hj => set_ne fun z => hj (by rw [z]; exact List.mem_singleton_self _)) List.length_set fun j q' ej => ?_
  rcases set_get ej with ⟨rfl, ej, _⟩ | ⟨hj, ej⟩
  · injection ej with ej; injection ej with e1 e2; cases e2
  · exact ⟨ej, fset_ne hj⟩
def GMs (c : Cn) (ks : List Nat) (g : TGs) (m : List P → Env → Option Env) : Prop := ∀ s0 c0 Fs H0 S pins σ H ρ ps vs G ρ' (Q : St → Hp → Prop), RelF c s0 c0 Fs H0 S pins σ H ρ → RfL c.K s0 H ps vs G →
  (∀ j q, ρ[j]? = some (some (q, .own)) → ∀ a ∈ Fs j, a ∉ G) → m ps ρ = some ρ' →
  (∀ Fs' σ', RelF c s0 c0 Fs' H0 S pins σ' H ρ' → (∀ j, j ∉ ks → σ'[j]? = σ[j]?) → σ'.length = σ.length → (∀ j q, ρ'[j]? = some (some (q, .own)) → ρ[j]? = some (some (q, .own)) ∧ Fs' j = Fs j) → Q σ' H) → g vs σ H Q
def gmNil : List P → Env → Option Env
  | [], ρ => some ρ
  | _, _ => none
def gmCons (m : P → Env → Option Env) (ms : List P → Env → Option Env) : List P → Env → Option Env
  | p :: ps, ρ => (m p ρ).bind fun ρ1 => ms ps ρ1
  | _, _ => none
theorem gms_nil : GMs c [] gNil gmNil := by
  intro s0 c0 Fs H0 S pins σ H ρ ps vs G ρ' Q r x k e q
  cases x with
  | nil =>
    injection e with e; subst e
    exact ⟨rfl, q Fs σ r (fun _ _ => rfl) rfl fun j q h => ⟨h, rfl⟩⟩
  | cons _ _ => cases e
theorem gms_cons {ks ls : List Nat} {g : TG} {gs : TGs} {m : P → Env → Option Env} {ms : List P → Env → Option Env} (h1 : GM c ks g m) (h2 : GMs c ls gs ms) : GMs c (ks ++ ls) (gCons g gs) (gmCons m ms) := by
  intro s0 c0 Fs H0 S pins σ H ρ ps vs G ρ' Q r x k e q
  cases x with
  | nil => cases e
  | cons x y =>
    rename_i p v ps vs F G
    simp only [gmCons] at e
    cases e1 : m p ρ with
    | none => rw [e1] at e; cases e
    | some ρ1 =>
      rw [e1] at e
      refine ⟨v, vs, rfl, ?_⟩
      refine h1 s0 c0 Fs H0 S pins σ H ρ p v F ρ1 _ r x (fun j q' ej a ha hf => k j q' ej a ha (List.mem_append_left _ hf)) e1 fun Fs1 σ1 r1 o1 l1 w1 => ?_
      refine h2 s0 c0 Fs1 H0 S pins σ1 H ρ1 ps vs G ρ' Q r1 y (fun j q' ej a ha hg => ?_) e fun Fs2 σ2 r2 o2 l2 w2 => ?_
      · obtain ⟨h3, h4⟩ := w1 j q' ej
        rw [h4] at ha
        exact k j q' h3 a ha (List.mem_append_right _ hg)
      · refine q Fs2 σ2 r2 (fun j hj => ?_) (l2.trans l1) fun j q' ej => ?_
        · rw [o2 j fun z => hj (List.mem_append_right _ z), o1 j fun z => hj (List.mem_append_left _ z)]
        · obtain ⟨h3, h4⟩ := w2 j q' ej
          obtain ⟨h5, h6⟩ := w1 j q' h3
          exact ⟨h5, h4.trans h6⟩
def gmTup (n : Nat) (ms : List P → Env → Option Env) : P → Env → Option Env
  | .tup ps, ρ => if ps.length = n then ms ps ρ else none
  | .kt ps, ρ => if ps.length = n then ms ps ρ else none
  | _, _ => none
theorem gm_tup {ks : List Nat} {n : Nat} {gs : TGs} {ms : List P → Env → Option Env} (h : GMs c ks gs ms) : GM c ks (gTup c.K n gs) (gmTup n ms) := by
  intro s0 c0 Fs H0 S pins σ H ρ p v G ρ' Q r x k e q
  cases x with
  | tup t rl =>
    simp only [gmTup] at e
    split at e
    · rename_i hn
      exact ⟨_, _, rfl, .inl (.inl t), by rw [← rl.length]; exact hn, h s0 c0 Fs H0 S pins σ H ρ _ _ _ ρ' Q r rl k e q⟩
    · cases e
  | kt e1 e2 e3 e4 e5 rl =>
    simp only [gmTup] at e
    split at e
    · rename_i hn
      exact ⟨_, _, rfl, .inr ⟨_, _, _, e1, e2, e3, e4, e5⟩, by rw [← rl.length]; exact hn, h s0 c0 Fs H0 S pins σ H ρ _ _ _ ρ' Q r rl k e q⟩
    · cases e
  | _ => cases e

/-! ### for -/
def loopM (g : P → Env → Option Env) (body : Env → M Out) : List P → Env → M Out
  | [], ρ => fun s => .ok (.nx ρ) s
  | p :: ps, ρ => fun s => match g p ρ with
    | none => .stuck
    | some ρ1 => match body ρ1 s with
      | .ok (.nx ρ2) s' => loopM g body ps ρ2 s'
      | .ok (.ct ρ2) s' => loopM g body ps ρ2 s'
      | .ok (.bk ρ2) s' => .ok (.nx ρ2) s'
      | r => r
def mFor (it : Env → M (List P × Env)) (g : P → Env → Option Env) (body : Env → M Out) : Env → M Out := fun ρ S => match it ρ S with
  | .ok (ps, ρ') S' => loopM g body ps ρ' S'
  | .exc k fs S' => .ok (.ex k fs ρ) S'
  | .stuck => .stuck
theorem sm_for {wi : TI} {ks : List Nat} {g : TG} {t : TS} {it : Env → M (List P × Env)} {gm : P → Env → Option Env} {body : Env → M Out} (hi : IM c W wi it) (hg : GM c ks g gm) (hb : SM c W t body) : SM c W (tFor wi g t) (mFor it gm body) := by
  intro s0 c0 Fs H0 S pins σ H ρ D r q
  refine hi s0 c0 Fs H0 S pins σ H ρ _ r ?_
  unfold mFor at q
  cases e : it ρ S with
  | exc a b s => rw [e] at q; exact fun cls d H' r f x => q Fs cls d σ H' r x
  | stuck => rw [e] at q; exact q.elim
  | ok pr S' =>
    obtain ⟨ps, ρ'⟩ := pr
    rw [e] at q
    intro J H' pin r' f hJ
    refine ⟨fun i n σ H => n = ps.length - i ∧ ∃ Fs S ρ, RelF c s0 c0 Fs H0 S (pin :: pins) σ H ρ ∧ PostS c W s0 c0 H0 pins D (loopM gm body (ps.drop i) ρ S), ⟨_, rfl, Fs, S', ρ', r', q⟩, ?_⟩
    rintro i n σ1 H1 ⟨rfl, Fs1, S1, ρ1, r1, q1⟩
    obtain ⟨hgo, hstop⟩ := hJ H1 i (r1.pin pin List.mem_cons_self).1
    cases hp : ps[i]? with
    | none =>
      have hl := List.getElem?_eq_none_iff.mp hp
      rw [List.drop_eq_nil_of_le hl] at q1
      exact .inl ⟨hstop hp, q1 Fs1 σ1 H1 r1.unpin⟩
    | some p =>
      obtain ⟨hgo1, hy⟩ := hgo p hp
      have hl : i < ps.length := (List.getElem?_eq_some_iff.mp hp).1
      have hd : ps.drop i = p :: ps.drop (i + 1) := by
        rw [List.drop_eq_getElem_cons hl]
        congr 1
        exact (List.getElem?_eq_some_iff.mp hp).2
      rw [hd] at q1
      unfold loopM at q1
      cases eg : gm p ρ1 with
      | none => rw [eg] at q1; exact q1.elim
      | some ρ2 =>
        rw [eg] at q1
        dsimp only at q1
        refine .inr ⟨hgo1, fun σ' H' => ∃ Fs S ρ, RelF c s0 c0 Fs H0 S (pin :: pins) σ' H' ρ ∧ PostS c W s0 c0 H0 pins D (loopM gm body (ps.drop (i + 1)) ρ S), fun σ' H' hN => ⟨_, by omega, rfl, hN⟩, fun x H2 hx => ?_⟩
        obtain ⟨rfl, G, xG, sG⟩ := hy x H2 hx
        refine hg s0 c0 Fs1 H0 S1 (pin :: pins) σ1 H2 ρ1 p x G ρ2 _ r1 xG (fun j q' ej a ha hG => (r1.pin pin List.mem_cons_self).2 j q' ej a ha (sG a hG)) eg fun Fs2 σ2 r2 _ _ _ => ?_
        refine hb s0 c0 Fs2 H0 S1 (pin :: pins) σ2 H2 ρ2 _ r2 ?_
        cases eb : body ρ2 S1 with
        | ok o S3 =>
          rw [eb] at q1
          cases o with
          | nx ρ3 => exact fun Fs3 σ3 H3 r3 => ⟨Fs3, S3, ρ3, r3, q1⟩
          | ct ρ3 => exact fun Fs3 σ3 H3 r3 => ⟨Fs3, S3, ρ3, r3, q1⟩
          | bk ρ3 => exact fun Fs3 σ3 H3 r3 => q1 Fs3 σ3 H3 r3.unpin
          | rt p => exact q1
          | ex k fs ρ3 => exact fun Fs3 cls d σ3 H3 r3 x => q1 Fs3 cls d σ3 H3 r3.unpin x
        | exc a b s => rw [eb] at q1; exact q1
        | stuck => rw [eb] at q1; exact q1

/-! ### comprehensions -/
abbrev WF : WX := fun _ _ _ _ => False
theorem takesF {X : Cx} : Takes X WF := fun _ _ ⟨_, _, _, _, _, _, _, _, _, _, _, _, _, _, _, _, h⟩ => h.elim
def wipeE (ρ : Env) : List Nat → Env
  | [] => ρ
  | v :: vs => (wipeE ρ vs).set v none
theorem RelF.wipe (r : RelF c s0 c0 Fs H0 S pins σ H ρ) : ∀ vs : List Nat, RelF c s0 c0 Fs H0 S pins (L2.wipe σ vs) H (wipeE ρ vs)
  | [] => r
  | v :: vs => (RelF.wipe r vs).unset
theorem wipe_get (σ : St) (j : Nat) : ∀ vs : List Nat, (L2.wipe σ vs)[j]? = if j ∈ vs then (if j < σ.length then some none else none) else σ[j]?
  | [] => by simp [L2.wipe]
  | v :: vs => by
    unfold L2.wipe
    rw [List.getElem?_set, L2.wipe_length]
    have ih := wipe_get σ j vs
    by_cases h : v = j
    · subst h
      simp
    · rw [if_neg h, ih]
      have e : (j ∈ v :: vs) = (j ∈ vs) := by
        simp only [List.mem_cons, eq_iff_iff]
        exact ⟨fun z => z.resolve_left fun y => h y.symm, .inr⟩
      simp only [e]
theorem wipe_same {σ σ2 : St} {ks vs : List Nat} (hk : ∀ k ∈ ks, k ∈ vs) (h : ∀ j, j ∉ ks → σ2[j]? = (L2.wipe σ vs)[j]?) (hl : σ2.length = (L2.wipe σ vs).length) : L2.wipe σ2 vs = L2.wipe σ vs := by
  rw [L2.wipe_length] at hl
  apply List.ext_getElem?
  intro j
  rw [wipe_get, wipe_get, hl]
  by_cases hj : j ∈ vs
  · rw [if_pos hj, if_pos hj]
  · rw [if_neg hj, if_neg hj, h j fun z => hj (hk j z), wipe_get, if_neg hj]
def lcM (g : P → Env → Option Env) (mt : Env → M Bool) (me : Env → M P) (vs : List Nat) : List P → List P → Env → M (List P)
  | [], acc, _ => fun s => .ok acc s
  | p :: ps, acc, ρ => fun s => match g p (wipeE ρ vs) with
    | none => .stuck
    | some ρ1 => match mt ρ1 s with
      | .ok true s1 => match me ρ1 s1 with
        | .ok q s2 => if acc.length < sizeLine then lcM g mt me vs ps (acc ++ [q]) ρ s2 else .stuck
        | _ => .stuck
      | .ok false s1 => lcM g mt me vs ps acc ρ s1
      | _ => .stuck
def finLc : Res (List P) → Res P
  | .ok acc s => .ok (.lst acc) s
  | _ => .stuck
def mLc (it : Env → M (List P × Env)) (g : P → Env → Option Env) (mt : Env → M Bool) (me : Env → M P) (vs : List Nat) : Env → M P := fun ρ S => match it ρ S with
  | .ok (ps, ρ') S' => finLc (lcM g mt me vs ps [] ρ' S')
  | .exc k fs S' => .exc k fs S'
  | .stuck => .stuck
theorem Fr.updNew {p : Addr} {o : HO} (f : Fr s0 H H') (n : H p = Option.none) : Fr s0 H (upd H' p o) :=
  ⟨fun b x e nb => by rw [upd_ne (ne_of_none e n)]; exact f.keep b x e nb, f.lst⟩
def mYes : Env → M Bool := fun _ s => .ok true s
theorem tm_yes : TM c W tYes mYes := fun s0 c0 Fs H0 S pins σ H ρ Q r h => h true H [] r (Fr.refl r.src.lst) ⟨rfl, rfl⟩ trivial
theorem em_lc {wi : TI} {ks : List Nat} {g : TG} {tt : TT} {te : TE} {vs : List Nat} {it : Env → M (List P × Env)} {gm : P → Env → Option Env} {mt : Env → M Bool} {me : Env → M P} (hi : IM c W wi it) (hg : GM c ks g gm) (ht : TM c WF tt mt) (he : EM c WF .fre te me)
    (hk : ∀ k ∈ ks, k ∈ vs) : EM c W .fre (tLc wi g tt te vs) (mLc it gm mt me vs) := by
  intro s0 c0 Fs H0 S pins σ H ρ Q r q
  refine hi s0 c0 Fs H0 S pins σ H ρ _ r ?_
  unfold mLc at q
  cases e : it ρ S with
  | exc a b s => rw [e] at q; exact q
  | stuck => rw [e] at q; exact q
  | ok pr S' =>
    obtain ⟨ps, ρ'⟩ := pr
    rw [e] at q
    intro J H' pin r' f hJ D hD
    have nD : D ≠ s0 := (ne_of_none r'.src.1 hD).symm
    refine ⟨fun i n H2 => n = ps.length - i ∧ ∃ S acc av G, SrcAt s0 c0 S H2 ∧ Fr s0 H' H2 ∧ H2 D = some (.lst av) ∧ RfL c.K s0 H2 acc av G ∧ D ∉ G ∧ G.Nodup ∧ (∀ a ∈ G, H' a = none) ∧
      Post repE c W s0 c0 Fs H0 pins σ H ρ .fre Q (finLc (lcM gm mt me vs (ps.drop i) acc ρ' S)),
      ⟨_, rfl, S', [], [], [], r'.src.upd hD, r'.frNew hD, upd_same, .nil, (fun h => by cases h), List.nodup_nil, (fun _ h => by cases h), q⟩, ?_⟩
    rintro i n H2 ⟨rfl, S2, acc, av, G, sa, f2, hDv, rl, nG, ndG, frG, q2⟩
    have r2 : RelF c s0 c0 Fs H0 S2 (pin :: pins) σ H2 ρ' := r'.step f2 sa
    obtain ⟨hgo, hstop⟩ := hJ H2 i (r2.pin pin List.mem_cons_self).1
    cases hp : ps[i]? with
    | none =>
      have hl := List.getElem?_eq_none_iff.mp hp
      rw [List.drop_eq_nil_of_le hl] at q2
      refine .inl ⟨hstop hp, q2 _ H2 (D :: G) (r.step (f.trans f2) sa) (f.trans f2) (.lst nD hDv rl) ⟨List.nodup_cons.mpr ⟨nG, ndG⟩, fun a ha => ?_⟩⟩
      rcases List.mem_cons.mp ha with rfl | ha
      · exact f.none hD nD
      · exact f.none (frG a ha) (RfL.dom rl a ha).1
    | some p =>
      obtain ⟨hgo1, hy⟩ := hgo p hp
      have hl : i < ps.length := (List.getElem?_eq_some_iff.mp hp).1
      have hd : ps.drop i = p :: ps.drop (i + 1) := by
        rw [List.drop_eq_getElem_cons hl]
        congr 1
        exact (List.getElem?_eq_some_iff.mp hp).2
      rw [hd] at q2
      unfold lcM at q2
      cases eg : gm p (wipeE ρ' vs) with
      | none => rw [eg] at q2; exact q2.elim
      | some ρ1 =>
        rw [eg] at q2
        dsimp only at q2
        refine .inr ⟨hgo1, fun H2 => ∃ S acc av G, SrcAt s0 c0 S H2 ∧ Fr s0 H' H2 ∧ H2 D = some (.lst av) ∧ RfL c.K s0 H2 acc av G ∧ D ∉ G ∧ G.Nodup ∧ (∀ a ∈ G, H' a = none) ∧
          Post repE c W s0 c0 Fs H0 pins σ H ρ .fre Q (finLc (lcM gm mt me vs (ps.drop (i + 1)) acc ρ' S)), fun H3 hN => ⟨_, by omega, rfl, hN⟩, fun x H3 hx => ?_⟩
        obtain ⟨rfl, Gx, xG, sG⟩ := hy x H3 hx
        have rw2 := r2.wipe vs
        refine hg s0 c0 Fs H0 S2 (pin :: pins) (L2.wipe σ vs) H3 (wipeE ρ' vs) p x Gx ρ1 _ rw2 xG (fun j q' ej a ha hG => (rw2.pin pin List.mem_cons_self).2 j q' ej a ha (sG a hG)) eg fun Fs2 σ2 r3 o3 l3 _ => ?_
        refine ⟨wipe_same hk o3 l3, ?_⟩
        refine ht s0 c0 Fs2 H0 S2 (pin :: pins) σ2 H3 ρ1 _ r3 ?_
        cases et : mt ρ1 S2 with
        | exc a b s => rw [et] at q2; exact q2.elim
        | stuck => rw [et] at q2; exact q2.elim
        | ok b S3 =>
          rw [et] at q2
          intro b' H4 G4 r4 f4 eb _
          obtain ⟨rfl, rfl⟩ := eb
          have rl4 := RfL.fr f4 rl
          cases b with
          | false =>
            rw [if_neg Bool.false_ne_true]
            exact ⟨S3, acc, av, G, r4.src, f2.trans f4, f4.keep _ _ hDv nD, rl4, nG, ndG, frG, q2⟩
          | true =>
            rw [if_pos rfl]
            refine he s0 c0 Fs2 H0 S3 (pin :: pins) σ2 H4 ρ1 _ r4 ?_
            dsimp only at q2
            cases ee : me ρ1 S3 with
            | exc a b s => rw [ee] at q2; exact q2.elim
            | stuck => rw [ee] at q2; exact q2.elim
            | ok z S5 =>
              rw [ee] at q2
              intro y H5 G5 r5 f5 x5 k5
              dsimp only at q2
              by_cases hz : acc.length < sizeLine
              · rw [if_pos hz] at q2
                have hD5 : H5 D = some (.lst av) := f5.keep _ _ (f4.keep _ _ hDv nD) nD
                have rl5 := RfL.fr f5 rl4
                have n5 : D ∉ G5 := fun h => by
                  have := k5.2 D h
                  rw [f4.keep _ _ hDv nD] at this; cases this
                have mD : Mut (H5 D) := by rw [hD5]; trivial
                have fU : Fr s0 H' (upd H5 D (.lst (av ++ [y]))) := ((f2.trans f4).trans f5).updNew hD
                have nc : c0 ≠ D := ne_of_none r'.src.2.1 hD
                refine ⟨av, hD5, by rw [← rl.length]; exact hz, S5, acc ++ [z], av ++ [y], G ++ (G5 ++ []), ?_, fU, upd_same, RfL.append (RfL.wr mD rl5 nG) (.cons (Rf.wr mD x5 n5) .nil), ?_, ?_, ?_, q2⟩
                · exact ⟨by rw [upd_ne nD.symm]; exact r5.src.1, by rw [upd_ne nc]; exact r5.src.2.1, r5.src.2.2⟩
                · rw [List.append_nil]
                  exact fun h => (List.mem_append.mp h).elim nG n5
                · rw [List.append_nil]
                  refine List.nodup_append.mpr ⟨ndG, k5.1, fun a ha b hb eab => ?_⟩
                  subst eab
                  obtain ⟨_, o, ho⟩ := RfL.dom rl4 a ha
                  rw [k5.2 a hb] at ho; cases ho
                · rw [List.append_nil]
                  intro a ha
                  rcases List.mem_append.mp ha with h | h
                  · exact frG a h
                  · exact (f2.trans f4).none (k5.2 a h) (Rf.dom x5 a h).1
              · rw [if_neg hz] at q2; exact q2.elim
end
end Mir

/-! Mir6: dicts, stores into own lists and dicts, append, pop. -/
namespace L2
open PySem PySem.Spec PyProof.Rows
/-- d[y] as a subscript by values -/
def rIxD : R2 := fun x y H Q => ∃ a v, x = .ref a ∧ DGet H a y (some v) ∧ Q v H
theorem ix_dict {X : Cx} (hu : X.A.units + 1 < cLine) : IxR X rIxD := by
  intro value slice pins s σ H x y v u Q I rx ry h hs
  obtain ⟨a, z, ex, g, q⟩ := h
  subst ex
  obtain rfl : v = Value.ref a := rx
  have hT := dict_typeIs I g
  unfold subscriptTail
  refine wpAny_bind ?_
  rw [getitemInPython_of_ne hT.not_modules]
  refine wpAny_bind (wpAny_specialOf hT PySem.F.slot_dict_getitem.lookup ?_)
  have fin : wpAny (model X.prog X.w) X.A (subscripted slice false (.ref a) u) (fun r s₃ => wpAny (model X.prog X.w) X.A (letTemporaryGo value (.ref a) r >>= fun _ => pure r) (EP X pins σ Q) X.xe s₃) X.xe s := by
    rw [hs]
    exact wpAny_operating (wpAny_mono (d_getItem (Q := fun r s3 => EP X pins σ Q r s3) hu I g ry fun w' s3 I3 rw' => ⟨z, H, I3, rw', q⟩) (fun r s₃ h₃ => wpAny_bind (wpAny_letTemporaryGo (wpAny_pure h₃))) fun _ _ x => x)
  first
    | exact wpAny_pure (wpAny_bind fin)
    | exact wpAny_bind (wpAny_pure (wpAny_bind fin))
    | exact wpAny_bind fin
theorem op_dIn {X : Cx} (hu : X.A.units + 1 < cLine) : OpR X (compareOp .In) (fun x y H Q => ∃ a o, y = .ref a ∧ DGet H a x o ∧ Q (.bl o.isSome) H) := by
  intro pins s σ H x y v u Q I rx ry h
  obtain ⟨a, o, rfl, g, q⟩ := h
  obtain rfl : u = Value.ref a := ry
  exact d_in hu I g rx fun s3 I3 => ⟨.bl o.isSome, H, I3, rfl, q⟩
theorem op_dNotIn {X : Cx} (hu : X.A.units + 1 < cLine) : OpR X (compareOp .NotIn) (fun x y H Q => ∃ a o, y = .ref a ∧ DGet H a x o ∧ Q (.bl (!o.isSome)) H) := by
  intro pins s σ H x y v u Q I rx ry h
  obtain ⟨a, o, rfl, g, q⟩ := h
  obtain rfl : u = Value.ref a := ry
  exact d_notIn hu I g rx fun s3 I3 => ⟨.bl (!o.isSome), H, I3, rfl, q⟩
theorem PSet.or {X : Cx} {t t' : TSet} (h : PSet X t) (h' : PSet X t') : PSet X (fun o i v H Q => t o i v H Q ∨ t' o i v H Q) := by
  intro pins s σ H o i v ov iv u Q I ro ri rv q
  rcases q with q | q
  · exact h pins s σ H o i v ov iv u Q I ro ri rv q
  · exact h' pins s σ H o i v ov iv u Q I ro ri rv q
end L2
namespace Mir
open PySem PySem.Spec L2
open PyProof.Rows hiding St
section
variable {c : Cn} {W : WX} {kd ka kb : Kd} {K : PySem.W.Frag} {s0 c0 : Addr} {H H' H0 H1 : Hp} {Fs : Nat → List Addr} {S S' S1 : Src} {pins : Pins} {σ : St} {ρ : Env}

/-! ### keys -/
def keyOf : P → Option Key
  | .int i => some (.inl i)
  | .str x => some (.inr x)
  | _ => none
def keysOf : List P → Option (List Key)
  | [] => some []
  | p :: ps => (keyOf p).bind fun k => (keysOf ps).map (k :: ·)
def tkeyOf : P → Option (List Key)
  | .tup ps => keysOf ps
  | _ => none
theorem Rf.key {p : P} {v : V} {F : List Addr} {k : Key} (x : Rf K s0 H p v F) (e : keyOf p = some k) : v = kV k := by
  cases x <;> first | (injection e with e; subst e; rfl) | cases e
theorem RfL.keys : ∀ {ps : List P} {vs : List V} {F : List Addr} {ks : List Key}, RfL K s0 H ps vs F → keysOf ps = some ks → vs = ks.map kV
  | _, _, _, _, .nil, e => by injection e with e; subst e; rfl
  | p :: ps, _, _, _, .cons x r, e => by
    simp only [keysOf] at e
    cases e1 : keyOf p with
    | none => rw [e1] at e; cases e
    | some k =>
      rw [e1] at e
      cases e2 : keysOf ps with
      | none => rw [e2] at e; cases e
      | some ks =>
        rw [e2] at e
        injection e with e; subst e
        rw [x.key e1, RfL.keys r e2]; rfl
theorem Rf.tkey {p : P} {v : V} {F : List Addr} {ks : List Key} (x : Rf K s0 H p v F) (e : tkeyOf p = some ks) : ∃ b, v = .ref b ∧ H b = some (.tup (ks.map kV)) := by
  cases x with
  | tup t r =>
    have := r.keys e
    subst this
    exact ⟨_, rfl, t⟩
  | _ => cases e
section
variable {κ : Type} [DecidableEq κ]
def valQ (kvs : List (κ × P)) (k : κ) : Option P := (kvs.find? fun kv => decide (kv.1 = k)).map (·.2)
def putQ (kvs : List (κ × P)) (k : κ) (p : P) : List (κ × P) :=
  if (kvs.any fun kv => decide (kv.1 = k)) = true then kvs.map (fun kv => if kv.1 = k then (kv.1, p) else kv) else kvs ++ [(k, p)]
theorem val_rel {k : κ} : ∀ {kvs : List (κ × P)} {hv : List (κ × V)} {F : List Addr}, kvs.map (·.1) = hv.map (·.1) → RfL K s0 H (kvs.map (·.2)) (hv.map (·.2)) F →
    (∀ p, valQ kvs k = some p → ∃ v G, valV hv k = some v ∧ Rf K s0 H p v G ∧ G.Sublist F) ∧ (valQ kvs k = none → valV hv k = none)
  | [], [], _, _, _ => ⟨(fun _ h => by cases h), (fun _ => rfl)⟩
  | [], _ :: _, _, h, _ => by cases h
  | _ :: _, [], _, h, _ => by cases h
  | a :: kvs, b :: hv, F, h, r => by
    rw [List.map_cons, List.map_cons] at h
    injection h with h1 h2
    cases r with
    | cons x r =>
      obtain ⟨i1, i2⟩ := val_rel (k := k) h2 r
      by_cases e : a.1 = k
      · have eb : b.1 = k := h1 ▸ e
        have va : valQ (a :: kvs) k = some a.2 := by simp [valQ, List.find?_cons, e]
        have vb : valV (b :: hv) k = some b.2 := valV_pos eb
        rw [va, vb]
        refine ⟨fun p hp => ?_, fun hn => by cases hn⟩
        injection hp with hp; subst hp
        exact ⟨b.2, _, rfl, x, List.sublist_append_left _ _⟩
      · have eb : ¬ b.1 = k := fun z => e (h1.trans z)
        have va : valQ (a :: kvs) k = valQ kvs k := by simp [valQ, List.find?_cons, e]
        have vb : valV (b :: hv) k = valV hv k := valV_neg eb
        rw [va, vb]
        exact ⟨fun p hp => by
          obtain ⟨v, G, q1, q2, q3⟩ := i1 p hp
          exact ⟨v, G, q1, q2, q3.trans (List.sublist_append_right _ _)⟩, i2⟩
theorem any_rel {k : κ} {kvs : List (κ × P)} {hv : List (κ × V)} (h : kvs.map (·.1) = hv.map (·.1)) : (kvs.any fun kv => decide (kv.1 = k)) = hv.any fun kv => decide (kv.1 = k) := by
  have e1 : (kvs.any fun kv => decide (kv.1 = k)) = (kvs.map (·.1)).any fun x => decide (x = k) := by rw [List.any_map]; rfl
  have e2 : (hv.any fun kv => decide (kv.1 = k)) = (hv.map (·.1)).any fun x => decide (x = k) := by rw [List.any_map]; rfl
  rw [e1, e2, h]
theorem put_keys {k : κ} {p : P} {v : V} {kvs : List (κ × P)} {hv : List (κ × V)} (h : kvs.map (·.1) = hv.map (·.1)) : (putQ kvs k p).map (·.1) = (putK hv k v).map (·.1) := by
  unfold putQ putK
  rw [any_rel h]
  split
  · rw [List.map_map, List.map_map]
    have e1 : ((fun x : κ × P => x.1) ∘ fun kv => if kv.1 = k then (kv.1, p) else kv) = fun x => x.1 := by
      funext kv; simp only [Function.comp]; split <;> rfl
    have e2 : ((fun x : κ × V => x.1) ∘ fun kv => if kv.1 = k then (kv.1, v) else kv) = fun x => x.1 := by
      funext kv; simp only [Function.comp]; split <;> rfl
    rw [e1, e2, h]
  · rw [List.map_append, List.map_append, h]; rfl
theorem put_mid {k : κ} {p : P} {v : V} (x : Rf K s0 H p v []) : ∀ {kvs : List (κ × P)} {hv : List (κ × V)}, kvs.map (·.1) = hv.map (·.1) → RfL K s0 H (kvs.map (·.2)) (hv.map (·.2)) [] →
    RfL K s0 H ((kvs.map fun kv => if kv.1 = k then (kv.1, p) else kv).map (·.2)) ((hv.map fun kv => if kv.1 = k then (kv.1, v) else kv).map (·.2)) []
  | [], [], _, _ => .nil
  | [], _ :: _, h, _ => by cases h
  | _ :: _, [], h, _ => by cases h
  | a :: kvs, b :: hv, h, r => by
    rw [List.map_cons, List.map_cons] at h
    injection h with h1 h2
    rw [List.map_cons, List.map_cons] at r
    generalize e : ([] : List Addr) = E at r
    cases r with
    | cons y r =>
      rename_i F G
      obtain ⟨rfl, rfl⟩ := List.append_eq_nil_iff.mp e.symm
      have ih := put_mid (k := k) x h2 r
      have e1 : (b.1 = k) = (a.1 = k) := by rw [h1]
      simp only [List.map_cons]
      by_cases q : a.1 = k
      · have q' : b.1 = k := h1 ▸ q
        rw [if_pos q, if_pos q']
        exact RfL.cons (F := []) (G := []) x ih
      · have q' : ¬ b.1 = k := fun z => q (h1.trans z)
        rw [if_neg q, if_neg q']
        exact RfL.cons (F := []) (G := []) y ih
theorem put_rel {k : κ} {p : P} {v : V} (x : Rf K s0 H p v []) {kvs : List (κ × P)} {hv : List (κ × V)} (h : kvs.map (·.1) = hv.map (·.1)) (r : RfL K s0 H (kvs.map (·.2)) (hv.map (·.2)) []) :
    RfL K s0 H ((putQ kvs k p).map (·.2)) ((putK hv k v).map (·.2)) [] := by
  unfold putQ putK
  rw [any_rel h]
  split
  · exact put_mid x h r
  · rw [List.map_append, List.map_append]
    exact RfL.append (G := []) r (RfL.cons (F := []) (G := []) x .nil)
end
/-! ### d[k], k in d -/
/-- what stands at a key: the dict, the key -/
def getQ (d k : P) : Option (Option P) := match d with
  | .dK kvs => (keyOf k).map fun k => valQ kvs k
  | .dT kvs => (tkeyOf k).map fun k => valQ kvs k
  | _ => none
theorem get_rel {d k : P} {x y : V} {F G : List Addr} {o : Option P} (a : Rf K s0 H d x F) (b : Rf K s0 H k y G) (e : getQ d k = some o) :
    ∃ r, x = .ref r ∧ (∀ p, o = some p → ∃ v G', DGet H r y (some v) ∧ Rf K s0 H p v G' ∧ G'.Sublist F) ∧ (o = none → DGet H r y none) := by
  cases a with
  | dK n t hk rl =>
    simp only [getQ] at e
    cases e1 : keyOf k with
    | none => rw [e1] at e; cases e
    | some kk =>
      rw [e1] at e
      injection e with e; subst e
      have := b.key e1
      subst this
      obtain ⟨i1, i2⟩ := val_rel (k := kk) hk rl
      refine ⟨_, rfl, fun p e2 => ?_, fun e2 => .inl ⟨_, kk, .inl t, rfl, (i2 e2).symm⟩⟩
      obtain ⟨v, G', q1, q2, q3⟩ := i1 p e2
      exact ⟨v, G', .inl ⟨_, kk, .inl t, rfl, q1.symm⟩, q2, q3.trans (List.sublist_cons_self _ _)⟩
  | dT n t hk rl =>
    simp only [getQ] at e
    cases e1 : tkeyOf k with
    | none => rw [e1] at e; cases e
    | some kk =>
      rw [e1] at e
      injection e with e; subst e
      obtain ⟨bb, rfl, tb⟩ := b.tkey e1
      obtain ⟨i1, i2⟩ := val_rel (k := kk) hk rl
      refine ⟨_, rfl, fun p e2 => ?_, fun e2 => .inr ⟨_, kk, bb, .inl t, rfl, tb, (i2 e2).symm⟩⟩
      obtain ⟨v, G', q1, q2, q3⟩ := i1 p e2
      exact ⟨v, G', .inr ⟨_, kk, bb, .inl t, rfl, tb, q1.symm⟩, q2, q3.trans (List.sublist_cons_self _ _)⟩
  | _ => cases e
/-- a subscript of anything -/
def pIxA : P → P → Option P := fun p q => match p with
  | .dK _ => (getQ p q).join
  | .dT _ => (getQ p q).join
  | p => pIx p q
def rIxA (K : PySem.W.Frag) : R2 := fun x y H Q => rIx K x y H Q ∨ rIxD x y H Q
theorem ix_anyA {X : Cx} (hu : X.A.units + 1 < cLine) : IxR X (rIxA X.K) := IxR.or ix_seq (ix_dict hu)
theorem pIxA_cases {p q z : P} (e : pIxA p q = some z) : pIx p q = some z ∨ getQ p q = some (some z) := by
  cases p with
  | dK kvs =>
    right
    have e : (getQ (.dK kvs) q).join = some z := e
    cases h : getQ (.dK kvs) q with
    | none => rw [h] at e; cases e
    | some o => rw [h] at e; rw [← e]; rfl
  | dT kvs =>
    right
    have e : (getQ (.dT kvs) q).join = some z := e
    cases h : getQ (.dT kvs) q with
    | none => rw [h] at e; cases e
    | some o => rw [h] at e; rw [← e]; rfl
  | _ => exact .inl e
def mIxA (ma mb : Env → M P) : Env → M P := mOp pIxA ma mb
/-- by values: an item, with a footprint within -/
theorem ixA_core {p q z : P} {x y : V} {F G : List Addr} {Q : VK} (a : Rf K s0 H p x F) (b : Rf K s0 H q y G) (e : pIxA p q = some z) (k : ∀ v E, Rf K s0 H z v E → E.Sublist F → Q v H) : rIxA K x y H Q := by
  rcases pIxA_cases e with e | e
  · obtain ⟨i, rfl, ⟨y', u, rfl, hz, ea, rfl⟩ | ⟨ps, hi, ea⟩⟩ := pIx_cases e
    · cases b; cases a
      exact .inl (.inr (.inr ⟨_, _, u, rfl, rfl, hz, ea, k _ [] (.str _) (List.Sublist.refl _)⟩))
    · cases b
      obtain ⟨r, vs, G', rfl, sq, rl, sb⟩ := a.seq hi
      obtain ⟨v, G2, h3, h4, h5⟩ := atI_rel rl ea
      have q := k v G2 h4 (h5.trans sb)
      rcases sq with sq | sq
      · exact .inl (.inl ⟨r, vs, i, v, rfl, rfl, sq, h3, q⟩)
      · exact .inl (.inr (.inl ⟨r, vs, i, v, rfl, rfl, sq, h3, q⟩))
  · obtain ⟨r, rfl, hs, _⟩ := get_rel a b e
    obtain ⟨v, G', h1, h2, h3⟩ := hs z rfl
    exact .inr ⟨r, v, rfl, h1, k v G' h2 h3⟩
theorem em_ixA {ta tb : TE} {ma mb : Env → M P} (ha : EM c W kd ta ma) (hb : EM c W kb tb mb) : EM c W kd (tOp (rIxA c.K) ta tb) (mIxA ma mb) := by
  intro s0 c0 Fs H0 S pins σ H ρ Q R h
  refine ha s0 c0 Fs H0 S pins σ H ρ _ R (Post.bind h fun p S1 v H1 G1 e1 R1 f1 x1 k1 h1 => ?_)
  refine hb s0 c0 Fs H0 S1 pins σ H1 ρ _ R1 (Post.bind2 f1 h1 fun q S2 w H2 G2 e2 R2 f2 x2 k2 h2 => ?_)
  unfold lift at h2
  cases e : pIxA p q with
  | none => rw [e] at h2; exact h2.elim
  | some z =>
    rw [e] at h2
    exact ixA_core (Rf.fr f2 x1) x2 e fun v E x s => h2 v H2 E R2 (f1.trans f2) x (k1.sub s)
/-- in, not in: lists, tuples, texts, dicts -/
def pInBA (p q : P) : Option Bool := match q with
  | .dK _ => (getQ q p).map (·.isSome)
  | .dT _ => (getQ q p).map (·.isSome)
  | q => pInB p q
def pInA : P → P → Option P := fun p q => (pInBA p q).map P.bl
def pNotInA : P → P → Option P := fun p q => (pInBA p q).map fun b => P.bl (!b)
def rInD (K : PySem.W.Frag) : R2 := fun x y H Q => rInA K x y H Q ∨ ∃ a o, y = .ref a ∧ DGet H a x o ∧ Q (.bl o.isSome) H
def rNotInD (K : PySem.W.Frag) : R2 := fun x y H Q => rNotInA K x y H Q ∨ ∃ a o, y = .ref a ∧ DGet H a x o ∧ Q (.bl (!o.isSome)) H
theorem op_inAll {X : Cx} (hu : X.A.units + 1 < cLine) : OpR X (compareOp .In) (rInD X.K) := OpR.or op_inA (op_dIn hu)
theorem op_notInAll {X : Cx} (hu : X.A.units + 1 < cLine) : OpR X (compareOp .NotIn) (rNotInD X.K) := OpR.or op_notInA (op_dNotIn hu)
theorem inA_core {p q : P} {x y : V} {F G : List Addr} {b : Bool} (a : Rf K s0 H p x F) (d : Rf K s0 H q y G) (e : pInBA p q = some b) : pInB p q = some b ∨ ∃ r o, y = .ref r ∧ DGet H r x o ∧ b = o.isSome := by
  have g : getQ q p = none ∨ ∃ o, getQ q p = some o := by cases getQ q p; exact .inl rfl; exact .inr ⟨_, rfl⟩
  have fin : (getQ q p).map (·.isSome) = some b → ∃ r o, y = .ref r ∧ DGet H r x o ∧ b = o.isSome := fun e => by
    rcases g with g | ⟨o, g⟩
    · rw [g] at e; cases e
    · rw [g] at e
      injection e with e; subst e
      obtain ⟨r, rfl, hs, hn⟩ := get_rel d a g
      cases o with
      | none => exact ⟨r, none, rfl, hn rfl, rfl⟩
      | some p => obtain ⟨v, _, h1, _⟩ := hs p rfl; exact ⟨r, some v, rfl, h1, rfl⟩
  cases q with
  | dK kvs => exact .inr (fin e)
  | dT kvs => exact .inr (fin e)
  | _ => exact .inl e
theorem om_inA : OpM c (rInD c.K) pInA := by
  intro s0 c0 S H x y p q F G z Q s a b e k
  unfold pInA at e
  cases h : pInBA p q with
  | none => rw [h] at e; cases e
  | some bb =>
    rw [h] at e
    injection e with e; subst e
    rcases inA_core a b h with h | ⟨r, o, rfl, g, rfl⟩
    · exact .inl (om_in s0 c0 S H x y p q F G _ Q s a b (by unfold pIn; rw [h]; rfl) k)
    · exact .inr ⟨r, o, rfl, g, imm_fin s (.bl _) k⟩
theorem om_notInA : OpM c (rNotInD c.K) pNotInA := by
  intro s0 c0 S H x y p q F G z Q s a b e k
  unfold pNotInA at e
  cases h : pInBA p q with
  | none => rw [h] at e; cases e
  | some bb =>
    rw [h] at e
    injection e with e; subst e
    rcases inA_core a b h with h | ⟨r, o, rfl, g, rfl⟩
    · exact .inl (om_notIn s0 c0 S H x y p q F G _ Q s a b (by unfold pNotIn; rw [h]; rfl) k)
    · exact .inr ⟨r, o, rfl, g, imm_fin s (.bl _) k⟩
end
end Mir

/-! Mir7: stores into own lists and dicts, append, pop. -/
namespace Mir
open PySem PySem.Spec L2
open PyProof.Rows hiding St
section
variable {c : Cn} {W : WX} {kd ka kb : Kd} {K : PySem.W.Frag} {s0 c0 : Addr} {H H' H0 H1 Hs : Hp} {Fs : Nat → List Addr} {S S' S1 Ss : Src} {pins : Pins} {σ : St} {ρ : Env}
/-- the object at a, of own slot i, is changed -/
theorem RelF.wrt (rs : RelF c s0 c0 Fs H0 Ss pins σ Hs ρ) (r : RelF c s0 c0 Fs H0 S pins σ H ρ) {i : Nat} {a : Addr} {p p' : P} {v : V} {o : HO} {G : List Addr} (ei : ρ[i]? = some (some (p, .own))) (ev : σ[i]? = some (some v)) (ha : a ∈ Fs i) (m : Mut (H a))
    (x : Rf c.K s0 (upd H a o) p' v G) (nd : G.Nodup) (sub : ∀ b ∈ G, b ∈ Fs i ∨ Hs b = none) : RelF c s0 c0 (fset Fs i G) H0 S pins σ (upd H a o) (ρ.set i (some (p', .own))) := by
  have h0a : H0 a = none := (r.fresh i p .own ei (by decide)).2 a ha
  have na0 : a ≠ s0 := by
    obtain ⟨w, _, h2⟩ := r.slot i p .own ei
    exact (h2.dom a ha).1
  have nac : c0 ≠ a := by
    obtain ⟨o, ho⟩ := r.c0in
    exact ne_of_none ho h0a
  have out : ∀ j q m', j ≠ i → ρ[j]? = some (some (q, m')) → ∀ b ∈ G, b ∉ Fs j := fun j q m' hj ej b hb hbj => by
    rcases sub b hb with h | h
    · exact r.dis i j p q m' (fun z => hj z.symm) ei ej b h hbj
    · obtain ⟨w, _, h2⟩ := rs.slot j q m' ej
      obtain ⟨_, o, ho⟩ := h2.dom b hbj
      rw [h] at ho; cases ho
  refine ⟨r.fr.updNew h0a, ⟨by rw [upd_ne na0.symm]; exact r.src.1, by rw [upd_ne nac]; exact r.src.2.1, r.src.2.2⟩, r.c0in, by rw [List.length_set]; exact r.len, fun j q m' ej => ?_, fun j q m' ej hm => ?_, fun j k q q' m' hjk ej ek => ?_, fun y hy => ⟨?_, fun j q ej => ?_⟩⟩
  · rcases set_get ej with ⟨rfl, ej, hl⟩ | ⟨hj, ej⟩
    · injection ej with ej; injection ej with e1 e2; subst e1 e2
      exact ⟨v, ev, by rw [fset_at]; exact x⟩
    · obtain ⟨w, h1, h2⟩ := r.slot j q m' ej
      exact ⟨w, h1, by rw [fset_ne hj]; exact h2.wr m fun z => r.dis i j p q m' (fun z => hj z.symm) ei ej a ha z⟩
  · rcases set_get ej with ⟨rfl, ej, hl⟩ | ⟨hj, ej⟩
    · rw [fset_at]
      refine ⟨nd, fun b hb => ?_⟩
      rcases sub b hb with h | h
      · exact (r.fresh j p .own ei (by decide)).2 b h
      · exact rs.h0 h
    · rw [fset_ne hj]; exact r.fresh j q m' ej hm
  · rcases set_get ej with ⟨z, ej', hl⟩ | ⟨hj, ej'⟩
    · subst z
      rcases set_get ek with ⟨z, _, _⟩ | ⟨hk, ek'⟩
      · exact absurd z.symm hjk
      · rw [fset_at, fset_ne hk]
        exact out k q' m' hk ek'
    · rcases set_get ek with ⟨z, _, _⟩ | ⟨hk, ek'⟩
      · subst z
        rw [fset_at, fset_ne hj]
        exact fun b hb hg => out j q .own hj ej' b hg hb
      · rw [fset_ne hj, fset_ne hk]
        exact r.dis j k q q' m' hjk ej' ek'
  · exact Rf.wr m (r.pin y hy).1 fun z => (r.pin y hy).2 i p ei a ha z
  · rcases set_get ej with ⟨z, ej', hl⟩ | ⟨hj, ej'⟩
    · subst z
      rw [fset_at]
      intro b hb hy'
      rcases sub b hb with h | h
      · exact (r.pin y hy).2 j p ei b h hy'
      · obtain ⟨_, o, ho⟩ := (rs.pin y hy).1.dom b hy'
        rw [h] at ho; cases ho
    · rw [fset_ne hj]; exact (r.pin y hy).2 j q ej'

/-! ### x[k] = z, by values -/
def rSetA : TSet := fun o i v H Q => rSetL o i v H Q ∨ rSetD o i v H Q
theorem set_any {X : Cx} (hu : X.A.units + 1 < cLine) : PSet X rSetA := PSet.or set_list (set_dict hu)
def stoP (p k z : P) : Option P := match p with
  | .lst ps => match k with
    | .int i => if immL ps = true ∧ z.imm = true then (ixN ps.length i).map fun n => .lst (ps.set n z) else none
    | _ => none
  | .dK kvs => if immL (kvs.map (·.2)) = true ∧ z.imm = true ∧ kvs.length < sizeLine then (keyOf k).map fun k => .dK (putQ kvs k z) else none
  | .dT kvs => if immL (kvs.map (·.2)) = true ∧ z.imm = true ∧ kvs.length < sizeLine then (tkeyOf k).map fun k => .dT (putQ kvs k z) else none
  | _ => none
theorem RfL.setImm0 {z : P} {w : V} (x : Rf K s0 H z w []) : ∀ {ps : List P} {vs : List V} {E : List Addr} (n : Nat), RfL K s0 H ps vs E → E = [] → RfL K s0 H (ps.set n z) (vs.set n w) []
  | _, _, _, _, .nil, _ => .nil
  | _, _, _, 0, .cons y r, e => by
    obtain ⟨rfl, rfl⟩ := List.append_eq_nil_iff.mp e
    exact RfL.cons (F := []) (G := []) x r
  | _, _, _, n + 1, .cons y r, e => by
    obtain ⟨rfl, rfl⟩ := List.append_eq_nil_iff.mp e
    exact RfL.cons (F := []) (G := []) y (RfL.setImm0 x n r rfl)
theorem RfL.setImm {ps : List P} {vs : List V} {z : P} {w : V} (n : Nat) (r : RfL K s0 H ps vs []) (x : Rf K s0 H z w []) : RfL K s0 H (ps.set n z) (vs.set n w) [] := RfL.setImm0 x n r rfl
theorem length_keys {κ α β : Type} {kvs : List (κ × α)} {hv : List (κ × β)} (h : kvs.map (·.1) = hv.map (·.1)) : kvs.length = hv.length := by
  have := congrArg List.length h
  simpa using this
theorem sto_core {p k z p' : P} {x y w : V} {F Fk Fz : List Addr} (a : Rf K s0 H p x F) (b : Rf K s0 H k y Fk) (d : Rf K s0 H z w Fz) (e : stoP p k z = some p') :
    ∃ r o, x = .ref r ∧ F = [r] ∧ Mut (H r) ∧ Rf K s0 (upd H r o) p' x [r] ∧ ∀ Q, Q (upd H r o) → rSetA x y w H Q := by
  cases a with
  | lst n t rl =>
    rename_i r vs ps F
    simp only [stoP] at e
    split at e
    · rename_i i
      split at e
      · rename_i h
        obtain ⟨h1, h2⟩ := h
        cases b
        cases e1 : ixN ps.length i with
        | none => rw [e1] at e; cases e
        | some j =>
          rw [e1] at e
          injection e with e; subst e
          have ez := d.imm h2
          subst ez
          have ef := rl.imm h1
          subst ef
          have m : Mut (H r) := by rw [t]; trivial
          refine ⟨r, .lst (vs.set j w), rfl, rfl, m, .lst n upd_same (RfL.setImm j (RfL.wr m rl (by simp)) (Rf.wr m d (by simp))), fun Q q => .inl ⟨r, vs, i, j, rfl, rfl, t, by rw [← rl.length]; exact e1, q⟩⟩
      · cases e
    · cases e
  | dK n t hk rl =>
    rename_i r hv kvs F
    simp only [stoP] at e
    split at e
    · rename_i h
      obtain ⟨h1, h2, h3⟩ := h
      cases e1 : keyOf k with
      | none => rw [e1] at e; cases e
      | some kk =>
        rw [e1] at e
        injection e with e; subst e
        have ez := d.imm h2
        subst ez
        have ef := rl.imm h1
        subst ef
        have := b.key e1
        subst this
        have m : Mut (H r) := by rw [t]; trivial
        exact ⟨r, .dK (putK hv kk w), rfl, rfl, m, .dK n upd_same (put_keys hk) (put_rel (Rf.wr m d (by simp)) hk (RfL.wr m rl (by simp))), fun Q q => .inr ⟨r, _, rfl, .inl ⟨hv, kk, t, rfl, by rw [← length_keys hk]; exact h3, rfl⟩, q⟩⟩
    · cases e
  | dT n t hk rl =>
    rename_i r hv kvs F
    simp only [stoP] at e
    split at e
    · rename_i h
      obtain ⟨h1, h2, h3⟩ := h
      cases e1 : tkeyOf k with
      | none => rw [e1] at e; cases e
      | some kk =>
        rw [e1] at e
        injection e with e; subst e
        have ez := d.imm h2
        subst ez
        have ef := rl.imm h1
        subst ef
        obtain ⟨bb, rfl, tb⟩ := b.tkey e1
        have m : Mut (H r) := by rw [t]; trivial
        exact ⟨r, .dT (putK hv kk w), rfl, rfl, m, .dT n upd_same (put_keys hk) (put_rel (Rf.wr m d (by simp)) hk (RfL.wr m rl (by simp))), fun Q q => .inr ⟨r, _, rfl, .inr ⟨hv, kk, bb, t, rfl, tb, by rw [← length_keys hk]; exact h3, rfl⟩, q⟩⟩
    · cases e
  | _ => cases e
def setOwn (j : Nat) (f : P → Option P) : Env → M Out := fun ρ s => match ρ[j]? with
  | some (some (p, .own)) => match f p with
    | some p' => .ok (.nx (ρ.set j (some (p', .own)))) s
    | none => .stuck
  | _ => .stuck
/-- x[k] = e -/
def mSto (j : Nat) (me mi : Env → M P) : Env → M Out := thenE me fun z => thenE mi fun k => setOwn j fun p => stoP p k z
theorem setOwn_own {j : Nat} {f : P → Option P} {D : Ends} (h : PostS c W s0 c0 H0 pins D (setOwn j f ρ S)) : ∃ p p', ρ[j]? = some (some (p, .own)) ∧ f p = some p' ∧ PostS c W s0 c0 H0 pins D (.ok (.nx (ρ.set j (some (p', .own)))) S) := by
  unfold setOwn at h
  split at h
  · rename_i p e
    split at h
    · rename_i p' e'
      exact ⟨p, p', e, e', h⟩
    · exact h.elim
  · exact h.elim
/-- what a second expression's mirror leaves, when the name behind is looked at first -/
theorem own_of_then {j : Nat} {m : Env → M P} {f : P → P → Option P} {D : Ends} (h : PostS c W s0 c0 H0 pins D (thenE m (fun k => setOwn j (f k)) ρ S)) : (∃ k fs S', m ρ S = .exc k fs S') ∨ ∃ p, ρ[j]? = some (some (p, .own)) := by
  unfold thenE at h
  cases e : m ρ S with
  | ok p S' =>
    rw [e] at h
    obtain ⟨p, _, h1, _⟩ := setOwn_own h
    exact .inr ⟨p, h1⟩
  | exc a b S' => exact .inl ⟨a, b, S', rfl⟩
  | stuck => rw [e] at h; exact h.elim
/-- the name is looked at ahead: it must be own -/
def own? (j : Nat) (m : Env → M Out) : Env → M Out := fun ρ s => match ρ[j]? with
  | some (some (_, .own)) => m ρ s
  | _ => .stuck
theorem own?_own {j : Nat} {m : Env → M Out} {D : Ends} (h : PostS c W s0 c0 H0 pins D (own? j m ρ S)) : ∃ p, ρ[j]? = some (some (p, .own)) ∧ PostS c W s0 c0 H0 pins D (m ρ S) := by
  unfold own? at h
  split at h
  · rename_i p e
    exact ⟨p, e, h⟩
  · exact h.elim
def mStore (j : Nat) (me mi : Env → M P) : Env → M Out := own? j (mSto j me mi)
theorem sm_store {j : Nat} {te ti : TE} {me mi : Env → M P} (he : EM c W ka te me) (hi : EM c W kb ti mi) : SM c W (tAsg te (gSub (tVar j) ti rSetA)) (mStore j me mi) := by
  intro s0 c0 Fs H0 S pins σ H ρ D r q
  obtain ⟨p0, e0, q⟩ := own?_own q
  unfold mSto at q
  refine he s0 c0 Fs H0 S pins σ H ρ _ r (thenE_post q fun z S1 w H1 G1 e1 r1 f1 x1 k1 q1 => ?_)
  obtain ⟨v, ev, xv⟩ := r1.slot j p0 .own e0
  refine ⟨v, ev, ?_⟩
  refine hi s0 c0 Fs H0 S1 pins σ H1 ρ _ r1 (thenE_post q1 fun k S2 y H2 G2 e2 r2 f2 x2 k2 q2 => ?_)
  obtain ⟨p, p', ep, es, q3⟩ := setOwn_own q2
  rw [e0] at ep
  injection ep with ep; injection ep with ep; injection ep with ep _
  subst ep
  obtain ⟨rr, o, rfl, hF, m, x', fin⟩ := sto_core (Rf.fr f2 xv) x2 (Rf.fr f2 x1) es
  have hr : rr ∈ Fs j := by rw [hF]; exact List.mem_singleton_self _
  exact fin _ (q3 _ _ _ (r2.wrt r2 e0 ev hr m x' (by simp) fun b hb => .inl (by rw [hF]; exact hb)))

/-! ### x[k][l] = z -/
theorem RfL.setAt {b : Addr} {o : HO} {row' : P} (m : Mut (H b)) (x' : Rf K s0 (upd H b o) row' (.ref b) [b]) : ∀ {ps : List P} {vs : List V} {F : List Addr} {n : Nat} {row : P}, RfL K s0 H ps vs F → F.Nodup → ps[n]? = some row → vs[n]? = some (.ref b) →
    (∀ G, Rf K s0 H row (.ref b) G → G = [b]) → RfL K s0 (upd H b o) (ps.set n row') vs F
  | _, _, _, _, _, .nil, _, e, _, _ => by simp at e
  | _, _, _, 0, _, .cons x r, nd, e, ev, hG => by
    simp at e ev
    subst e; subst ev
    have := hG _ x
    subst this
    refine .cons x' (RfL.wr m r fun z => ?_)
    rw [List.nodup_append] at nd
    exact nd.2.2 b (List.mem_singleton_self _) b z rfl
  | p :: ps, v :: vs, _, n + 1, row, .cons x r, nd, e, ev, hG => by
    have e' : ps[n]? = some row := by simpa using e
    have ev' : vs[n]? = some (.ref b) := by simpa using ev
    rw [List.nodup_append] at nd
    refine .cons (Rf.wr m x fun z => ?_) (RfL.setAt m x' r nd.2.1 e' ev' hG)
    obtain ⟨v', G', h1, h2, h3⟩ := r.get e'
    rw [ev'] at h1
    injection h1 with h1; subst h1
    have := hG _ h2
    subst this
    exact nd.2.2 b z b (h3.subset (List.mem_singleton_self _)) rfl
theorem Rf.lst_inv {ps : List P} {v : V} {F : List Addr} (x : Rf K s0 H (.lst ps) v F) : ∃ a vs G, v = .ref a ∧ F = a :: G ∧ a ≠ s0 ∧ H a = some (.lst vs) ∧ RfL K s0 H ps vs G := by
  cases x with
  | lst n t r => exact ⟨_, _, _, rfl, rfl, n, t, r⟩
def setRow (n : Nat) (l z : P) (p : P) : Option P := match p with
  | .lst ps => (ps[n]?).bind fun row => (stoP row l z).map fun row' => .lst (ps.set n row')
  | _ => none
def rowOf (p k : P) : Option Nat := match p with
  | .lst ps => match k with
    | .int i => ixN ps.length i
    | _ => none
  | _ => none
def mSto2 (j : Nat) (me mi ml : Env → M P) : Env → M Out := own? j (thenE me fun z => thenE mi fun k ρ S => match ρ[j]? with
  | some (some (p, _)) => match rowOf p k with
    | some n => thenE ml (fun l => setOwn j (setRow n l z)) ρ S
    | none => .stuck
  | _ => .stuck)
theorem sm_store2 {j : Nat} {te ti tl : TE} {me mi ml : Env → M P} (he : EM c W ka te me) (hi : EM c W kb ti mi) (hl : EM c W kd tl ml) : SM c W (tAsg te (gSub (tOp (rIxA c.K) (tVar j) ti) tl rSetA)) (mSto2 j me mi ml) := by
  intro s0 c0 Fs H0 S pins σ H ρ D r q
  obtain ⟨p0, e0, q⟩ := own?_own q
  refine he s0 c0 Fs H0 S pins σ H ρ _ r (thenE_post q fun z S1 w H1 G1 e1 r1 f1 x1 k1 q1 => ?_)
  obtain ⟨v, ev, xv⟩ := r1.slot j p0 .own e0
  refine ⟨v, ev, ?_⟩
  refine hi s0 c0 Fs H0 S1 pins σ H1 ρ _ r1 (thenE_post q1 fun k S2 y H2 G2 e2 r2 f2 x2 k2 q2 => ?_)
  rw [e0] at q2
  dsimp only at q2
  cases hx : rowOf p0 k with
  | none => rw [hx] at q2; exact q2.elim
  | some n =>
    rw [hx] at q2
    dsimp only at q2
    cases p0 with
    | lst ps =>
      cases k with
      | int i =>
        cases x2
        have hx : ixN ps.length i = some n := hx
        obtain ⟨a, vs, G, rfl, hF, na, ta, rl⟩ := (Rf.fr f2 xv).lst_inv
        have hn : n < vs.length := by rw [← rl.length]; exact (ixN_seq hx).2.1
        refine .inl (.inl ⟨a, vs, i, vs[n], rfl, rfl, .inl (.inl ta), ?_, ?_⟩)
        · unfold atI
          rw [← rl.length, hx]
          exact List.getElem?_eq_getElem hn
        refine hl s0 c0 Fs H0 S2 pins σ H2 ρ _ r2 (thenE_post q2 fun l S3 y3 H3 G3 e3 r3 f3 x3 k3 q3 => ?_)
        obtain ⟨p, p', ep, es, q4⟩ := setOwn_own q3
        rw [e0] at ep
        injection ep with ep; injection ep with ep; injection ep with ep _
        subst ep
        have ta3 := f3.keep _ _ ta na
        have rl3 := RfL.fr f3 rl
        have nd := (r3.fresh j _ .own e0 (by decide)).1
        rw [hF] at nd
        obtain ⟨naG, ndG⟩ := List.nodup_cons.mp nd
        simp only [setRow] at es
        cases e5 : ps[n]? with
        | none => rw [e5] at es; cases es
        | some row =>
          rw [e5] at es
          simp only [Option.bind_some] at es
          cases e6 : stoP row l z with
          | none => rw [e6] at es; cases es
          | some row' =>
            rw [e6] at es
            injection es with es; subst es
            obtain ⟨u, Gr, h1, h2, h3⟩ := rl3.get e5
            rw [List.getElem?_eq_getElem hn] at h1
            injection h1 with h1
            rw [h1]
            obtain ⟨rr, o, eu, hFr, m, x', fin⟩ := sto_core h2 x3 (Rf.fr f3 (Rf.fr f2 x1)) e6
            subst eu
            have hrr : rr ∈ G := h3.subset (by rw [hFr]; exact List.mem_singleton_self _)
            have hne : a ≠ rr := fun z => naG (by rw [z]; exact hrr)
            have x'' : Rf c.K s0 (upd H3 rr o) (.lst (ps.set n row')) (.ref a) (Fs j) := by
              rw [hF]
              refine .lst na (by rw [upd_ne hne]; exact ta3) (RfL.setAt m x' rl3 ndG e5 (by rw [List.getElem?_eq_getElem hn, h1]) fun G' hG' => ?_)
              obtain ⟨r2', o2, e2', hF2, _⟩ := sto_core hG' x3 (Rf.fr f3 (Rf.fr f2 x1)) e6
              injection e2' with e2'
              rw [hF2, e2']
            obtain ⟨v3, ev3, _⟩ := r3.slot j _ .own e0
            rw [ev] at ev3
            injection ev3 with ev3; injection ev3 with ev3
            exact fin _ (q4 _ _ _ (r3.wrt r3 e0 ev (by rw [hF]; exact List.mem_cons_of_mem _ hrr) m x'' (by rw [hF]; exact nd) fun b hb => .inl hb))
      | _ => cases hx
    | _ => cases hx

/-! ### append, pop -/
/-- x.append(e) -/
def P.isL : P → Bool
  | .lst _ => true | _ => false
def listSlot (j : Nat) (m : Env → M Out) : Env → M Out := fun ρ s => match ρ[j]? with
  | some (some (.lst _, .own)) => m ρ s
  | _ => .stuck
theorem listSlot_own {j : Nat} {m : Env → M Out} {D : Ends} (h : PostS c W s0 c0 H0 pins D (listSlot j m ρ S)) : ∃ ps, ρ[j]? = some (some (.lst ps, .own)) ∧ PostS c W s0 c0 H0 pins D (m ρ S) := by
  unfold listSlot at h
  split at h
  · rename_i p e
    exact ⟨p, e, h⟩
  · exact h.elim
def appP (z p : P) : Option P := match p with
  | .lst ps => if ps.length < sizeLine then some (.lst (ps ++ [z])) else none
  | _ => none
def mApp (j : Nat) (me : Env → M P) : Env → M Out := listSlot j (thenE me fun z => setOwn j (appP z))
theorem sm_app {j : Nat} {te : TE} {me : Env → M P} (he : EM c W .fre te me) : SM c W (tDrop (tBM c.K "list" rAppend (tVar j) (tCons te tNil))) (mApp j me) := by
  intro s0 c0 Fs H0 S pins σ H ρ D r q
  obtain ⟨ps, e0, q⟩ := listSlot_own q
  obtain ⟨v, ev, xv⟩ := r.slot j _ .own e0
  obtain ⟨a, vs, G, rfl, hF, na, ta, rl⟩ := xv.lst_inv
  refine ⟨_, ev, .inl ⟨rfl, _, .inl (.inl ta)⟩, ?_⟩
  refine he s0 c0 Fs H0 S pins σ H ρ _ r (thenE_post q fun z S1 w H1 G1 e1 r1 f1 x1 k1 q1 => ?_)
  obtain ⟨p, p', ep, es, q4⟩ := setOwn_own q1
  rw [e0] at ep
  injection ep with ep; injection ep with ep; injection ep with ep _
  subst ep
  simp only [appP] at es
  split at es
  · rename_i hz
    injection es with es; subst es
    have ta1 := f1.keep _ _ ta na
    have rl1 := RfL.fr f1 rl
    have m : Mut (H1 a) := by rw [ta1]; trivial
    have nd := (r1.fresh j _ .own e0 (by decide)).1
    rw [hF] at nd
    obtain ⟨naG, ndG⟩ := List.nodup_cons.mp nd
    have out : ∀ b ∈ G1, b ∉ Fs j := fun b hb hbj => by
      obtain ⟨w', _, h2⟩ := r.slot j _ .own e0
      obtain ⟨_, o, ho⟩ := h2.dom b hbj
      rw [k1.2 b hb] at ho; cases ho
    have naG1 : a ∉ G1 := fun h => out a h (by rw [hF]; exact List.mem_cons_self)
    refine ⟨a, vs, w, rfl, rfl, ta1, by rw [← rl.length]; exact hz, q4 _ _ _ (r.wrt r1 (G := a :: (G ++ (G1 ++ []))) e0 ev (by rw [hF]; exact List.mem_cons_self) m (.lst na upd_same (RfL.append (RfL.wr m rl1 naG) (.cons (Rf.wr m x1 naG1) .nil))) ?_ fun b hb => ?_)⟩
    · rw [List.append_nil]
      refine List.nodup_cons.mpr ⟨fun h => (List.mem_append.mp h).elim naG naG1, List.nodup_append.mpr ⟨ndG, k1.1, fun x hx y hy exy => ?_⟩⟩
      subst exy
      exact out x hy (by rw [hF]; exact List.mem_cons_of_mem _ hx)
    · rw [List.append_nil] at hb
      rcases List.mem_cons.mp hb with rfl | hb
      · exact .inl (by rw [hF]; exact List.mem_cons_self)
      · rcases List.mem_append.mp hb with hb | hb
        · exact .inl (by rw [hF]; exact List.mem_cons_of_mem _ hb)
        · exact .inr (k1.2 b hb)
  · cases es
/-- x.append(y.pop(e)) -/
def popIx (p q : P) : Option Nat := match p with
  | .lst ps => match q with
    | .int i => if immL ps = true ∧ -(2 ^ 63) ≤ i ∧ i < 2 ^ 63 then (seqIndex? i ps.length).bind fun n => if n < ps.length then some n else none else none
    | _ => none
  | _ => none
def mAppPop (j k : Nat) (me : Env → M P) : Env → M Out := listSlot j (listSlot k (thenE me fun q ρ s => match ρ[k]? with
  | some (some (.lst ps, .own)) => match popIx (.lst ps) q with
    | some n => match ps[n]? with
      | some y => setOwn j (appP y) (ρ.set k (some (.lst (ps.eraseIdx n), .own))) s
      | none => .stuck
    | none => .stuck
  | _ => .stuck))
theorem RfL.erase : ∀ {ps : List P} {vs : List V} {E : List Addr} (n : Nat), RfL K s0 H ps vs E → E = [] → RfL K s0 H (ps.eraseIdx n) (vs.eraseIdx n) []
  | _, _, _, _, .nil, _ => .nil
  | _, _, _, 0, .cons y r, e => by
    obtain ⟨rfl, rfl⟩ := List.append_eq_nil_iff.mp e
    exact r
  | _, _, _, n + 1, .cons y r, e => by
    obtain ⟨rfl, rfl⟩ := List.append_eq_nil_iff.mp e
    exact RfL.cons (F := []) (G := []) y (RfL.erase n r rfl)
theorem sm_appPop {j k : Nat} {te : TE} {me : Env → M P} (hjk : j ≠ k) (he : EM c W ka te me) :
    SM c W (tDrop (tBM c.K "list" rAppend (tVar j) (tCons (tBM c.K "list" rPopAt (tVar k) (tCons te tNil)) tNil))) (mAppPop j k me) := by
  intro s0 c0 Fs H0 S pins σ H ρ D r q
  obtain ⟨ps, e0, q⟩ := listSlot_own q
  obtain ⟨qs, e1, q⟩ := listSlot_own q
  obtain ⟨v, ev, xv⟩ := r.slot j _ .own e0
  obtain ⟨a, vs, G, rfl, hF, na, ta, rl⟩ := xv.lst_inv
  refine ⟨_, ev, .inl ⟨rfl, _, .inl (.inl ta)⟩, ?_⟩
  obtain ⟨v2, ev2, xv2⟩ := r.slot k _ .own e1
  obtain ⟨b, us, G2, rfl, hF2, nb, tb, rl2⟩ := xv2.lst_inv
  refine ⟨_, ev2, .inl ⟨rfl, _, .inl (.inl tb)⟩, ?_⟩
  refine he s0 c0 Fs H0 S pins σ H ρ _ r (thenE_post q fun z S1 w H1 G1 ez r1 f1 x1 k1 q1 => ?_)
  rw [e1] at q1
  dsimp only at q1
  cases hp : popIx (.lst qs) z with
  | none => rw [hp] at q1; exact q1.elim
  | some n =>
    rw [hp] at q1
    dsimp only at q1
    cases hy : qs[n]? with
    | none => rw [hy] at q1; exact q1.elim
    | some y =>
      rw [hy] at q1
      dsimp only at q1
      simp only [popIx] at hp
      split at hp
      · rename_i i
        cases x1
        split at hp
        · rename_i hc
          obtain ⟨him, hlo, hhi⟩ := hc
          cases hs : seqIndex? i qs.length with
          | none => rw [hs] at hp; cases hp
          | some n' =>
            rw [hs] at hp
            simp only [Option.bind_some] at hp
            split at hp
            · rename_i hn
              injection hp with hp; subst hp
              have tb1 := f1.keep _ _ tb nb
              have rl21 := RfL.fr f1 rl2
              have hG2 := rl2.imm him
              subst hG2
              obtain ⟨yv, Gy, h1, h2, h3⟩ := rl21.get hy
              have hGy := List.sublist_nil.mp h3
              subst hGy
              have mb : Mut (H1 b) := by rw [tb1]; trivial
              have r2 := r1.wrt r1 (i := k) (a := b) (o := .lst (us.eraseIdx n')) (G := [b]) (p' := .lst (qs.eraseIdx n')) e1 ev2 (by rw [hF2]; exact List.mem_singleton_self _) mb (.lst nb upd_same (RfL.erase n' (RfL.wr mb rl21 (by simp)) rfl)) (by simp) fun x hx => .inl (by rw [hF2]; exact hx)
              refine ⟨b, us, i, n', yv, rfl, rfl, tb1, hlo, hhi, by rw [← rl2.length]; exact hs, h1, ?_⟩
              obtain ⟨p, p', ep, es, q4⟩ := setOwn_own q1
              rw [set_ne hjk, e0] at ep
              injection ep with ep; injection ep with ep; injection ep with ep _
              subst ep
              simp only [appP] at es
              split at es
              · rename_i hz
                injection es with es; subst es
                have hab : a ≠ b := fun z => r.dis j k _ _ _ hjk e0 e1 a (by rw [hF]; exact List.mem_cons_self) (by rw [hF2, z]; exact List.mem_singleton_self _)
                have ta1 := f1.keep _ _ ta na
                have rl1 := RfL.fr f1 rl
                have nd := (r1.fresh j _ .own e0 (by decide)).1
                rw [hF] at nd
                obtain ⟨naG, ndG⟩ := List.nodup_cons.mp nd
                have nbG : b ∉ G := fun z => r.dis j k _ _ _ hjk e0 e1 b (by rw [hF]; exact List.mem_cons_of_mem _ z) (by rw [hF2]; exact List.mem_singleton_self _)
                have ta2 : (upd H1 b (.lst (us.eraseIdx n'))) a = some (.lst vs) := by rw [upd_ne hab]; exact ta1
                have ma : Mut ((upd H1 b (.lst (us.eraseIdx n'))) a) := by rw [ta2]; trivial
                have e0' : (ρ.set k (some (P.lst (qs.eraseIdx n'), Md.own)))[j]? = some (some (.lst ps, .own)) := by rw [set_ne hjk]; exact e0
                have hFj : fset Fs k [b] j = a :: G := by rw [fset_ne hjk]; exact hF
                refine ⟨a, vs, yv, rfl, rfl, ta2, by rw [← rl.length]; exact hz, q4 _ _ _ (r2.wrt r2 (G := a :: (G ++ ([] ++ []))) e0' ev (by rw [hFj]; exact List.mem_cons_self) ma (.lst na upd_same (RfL.append (RfL.wr ma (RfL.wr mb rl1 nbG) naG) (.cons (Rf.wr ma (Rf.wr mb h2 (by simp)) (by simp)) .nil))) ?_ fun x hx => .inl ?_)⟩
                · rw [List.append_nil, List.append_nil]; exact nd
                · rw [List.append_nil, List.append_nil] at hx
                  rw [hFj]; exact hx
              · cases es
            · cases hp
        · cases hp
      · cases hp
end
end Mir

/-! Mir8: a def; the source read and written; the rules with their syntax. -/
namespace Mir
open PySem PySem.Spec L2
open PyProof.Rows hiding St
section
variable {c : Cn} {W : WX} {kd ka kb : Kd} {K : PySem.W.Frag} {s0 c0 : Addr} {H H' H0 H1 Hs : Hp} {Fs : Nat → List Addr} {S S' S1 Ss : Src} {pins : Pins} {σ : St} {ρ : Env}

/-! ### a def -/
def startE (n : Nat) (ps : List P) : Env := ps.map (fun p => some (p, Md.par)) ++ List.replicate (n - ps.length) none
def outM : Res Out → Res P
  | .ok (.rt p) S => .ok p S
  | .ok (.nx _) S => .ok .non S
  | .ok (.ex k fs _) S => .exc k fs S
  | _ => .stuck
def fnM (n : Nat) (m : Env → M Out) (ps : List P) : M P := fun S => outM (m (startE n ps) S)
theorem RfL.fn : ∀ {ps : List P} {vs : List V} {F : List Addr}, RfL K s0 H ps vs F → ∃ Fs : Nat → List Addr, ∀ i p, ps[i]? = some p → ∃ v, vs[i]? = some v ∧ Rf K s0 H p v (Fs i)
  | _, _, _, .nil => ⟨fun _ => [], fun _ _ h => by simp at h⟩
  | _, _, _, .cons (F := F) x r => by
    obtain ⟨Fs, h⟩ := RfL.fn r
    refine ⟨fun i => match i with
      | 0 => F
      | i + 1 => Fs i, fun i p e => ?_⟩
    cases i with
    | zero =>
      simp at e; subst e
      exact ⟨_, rfl, x⟩
    | succ i => exact h i p (by simpa using e)
theorem fn_read {E : XK} {t : TS} {m : Env → M Out} {N : List Str} {k : Nat} (h : SM c (fun cls d _ H => E cls d H) t m) {vs : List V} {H : Hp} {Q : VK} (hsp : spM c k (fnM N.length m) vs H Q E) :
    t { nx := fun _ H' => Q .non H', rt := Q } (L2.start N vs) H := by
  obtain ⟨hk, s0, c0, ps, S, G, rl, sa, hm⟩ := hsp
  obtain ⟨Fs, hFs⟩ := rl.fn
  have hl := rl.length
  have hS : ∀ i p m', (startE N.length ps)[i]? = some (some (p, m')) → m' = .par ∧ ∃ v, (L2.start N vs)[i]? = some (some v) ∧ Rf c.K s0 H p v (Fs i) := fun i p m' e => by
    unfold startE at e
    rw [List.getElem?_append] at e
    split at e
    · rename_i hi
      rw [List.getElem?_map] at e
      cases ei : ps[i]? with
      | none => rw [ei] at e; cases e
      | some q =>
        rw [ei] at e
        injection e with e; injection e with e; injection e with e1 e2
        subst e1
        obtain ⟨v, h1, h2⟩ := hFs i q ei
        refine ⟨e2.symm, v, ?_, h2⟩
        unfold L2.start
        rw [List.getElem?_append_left (by rw [List.length_map]; exact (List.getElem?_eq_some_iff.mp h1).1), List.getElem?_map, h1]
        rfl
    · rw [List.getElem?_replicate] at e
      split at e <;> cases e
  have R : RelF c s0 c0 Fs H S [] (L2.start N vs) H (startE N.length ps) := by
    refine ⟨Fr.refl sa.lst, sa, ⟨_, sa.2.1⟩, ?_, fun i p m' e => (hS i p m' e).2, fun i p m' e hm' => absurd (hS i p m' e).1 hm', fun i j p q m' _ e => ?_, fun x hx => by cases hx⟩
    · unfold L2.start startE
      rw [List.length_append, List.length_append, List.length_map, List.length_map, List.length_replicate, List.length_replicate, hl]
    · exact nomatch (hS i p _ e).1
  refine h s0 c0 Fs H S [] _ H _ _ R ?_
  unfold fnM at hm
  cases e : m (startE N.length ps) S with
  | ok o S' =>
    rw [e] at hm
    cases o with
    | nx ρ' => exact fun Fs' σ' H' r' => hm .non H' [] r'.fr r'.src .non List.nodup_nil fun _ h => by cases h
    | rt p => exact fun v H' G f q x n d => hm v H' G f q x n d
    | ex a b ρ' => exact fun Fs' cls d σ' H' r' x => hm cls d H' r'.fr r'.src x
    | bk ρ' => exact hm.elim
    | ct ρ' => exact hm.elim
  | exc a b s => rw [e] at hm; exact hm.elim
  | stuck => rw [e] at hm; exact hm.elim

/-! ### the source -/
def Src.get (S : Src) : Int → Option P
  | 1 => some (.int S.at_) | 2 => some (.int S.big) | 3 => some (.int S.left) | 4 => some (.int S.seed) | 5 => some (.int S.cnt)
  | _ => none
def Src.set (S : Src) (i v : Int) : Option Src := match i with
  | 1 => some { S with at_ := v } | 2 => some { S with big := v } | 3 => some { S with left := v } | 4 => some { S with seed := v } | 5 => some { S with cnt := v }
  | _ => none
theorem Rf.src_inv {v : V} {F : List Addr} (x : Rf K s0 H .src v F) : v = .ref s0 := by
  cases x; rfl
def srcSlot {α : Type} (j : Nat) (m : M α) : Env → M α := fun ρ s => match ρ[j]? with
  | some (some (.src, _)) => m s
  | _ => .stuck
/-- source[i] -/
def mSrc (j : Nat) (i : Int) : Env → M P := srcSlot j fun S => match S.get i with
  | some p => .ok p S
  | none => .stuck
theorem srcSlot_ok {α β : Type} {R1 : Rep α β} {j : Nat} {m : M α} {Q : β → Hp → Prop} (r : RelF c s0 c0 Fs H0 S pins σ H ρ) (h : Post R1 c W s0 c0 Fs H0 pins σ H ρ kd Q (srcSlot j m ρ S)) : σ[j]? = some (some (.ref s0)) ∧ Post R1 c W s0 c0 Fs H0 pins σ H ρ kd Q (m S) := by
  unfold srcSlot at h
  split at h
  · rename_i m' e
    obtain ⟨v, h1, h2⟩ := r.slot j _ _ e
    cases h2.src_inv
    exact ⟨h1, h⟩
  · exact h.elim
theorem Src.get_at {S : Src} {i : Int} {p : P} (e : S.get i = some p) : ∃ n : Int, p = .int n ∧ atI [V.ref c0, .int S.at_, .int S.big, .int S.left, .int S.seed, .int S.cnt] i = some (.int n) := by
  unfold Src.get at e
  split at e <;> first | (injection e with e; subst e; exact ⟨_, rfl, rfl⟩) | cases e
theorem em_src {j : Nat} {i : Int} : EM c W .fre (tOp (rIxA c.K) (tVar j) (tC (.int i))) (mSrc j i) := by
  intro s0 c0 Fs H0 S pins σ H ρ Q r h
  obtain ⟨e, h⟩ := srcSlot_ok r h
  refine ⟨_, e, ?_⟩
  cases eg : S.get i with
  | none =>
    rw [eg] at h
    exact h.elim
  | some p =>
    rw [eg] at h
    obtain ⟨n, rfl, ea⟩ := Src.get_at (c0 := c0) eg
    exact .inl (.inl ⟨s0, _, i, _, rfl, rfl, .inl (.inl r.src.1), ea, h _ H [] r (Fr.refl r.src.lst) (.int _) KindOk.nil⟩)
/-- source[0][e] -/
def cellP (S : Src) (q : P) : Option P := match q with
  | .int i => (atI S.cells i).map P.int
  | _ => none
def mSrcCell (j : Nat) (m : Env → M P) : Env → M P := fun ρ S => match ρ[j]? with
  | some (some (.src, _)) => M.bind (m ρ) (fun q S => match cellP S q with
    | some p => .ok p S
    | none => .stuck) S
  | _ => .stuck
theorem em_srcCell {j : Nat} {t : TE} {m : Env → M P} (hm : EM c W ka t m) : EM c W .fre (tOp (rIxA c.K) (tOp (rIxA c.K) (tVar j) (tC (.int 0))) t) (mSrcCell j m) := by
  intro s0 c0 Fs H0 S pins σ H ρ Q r h
  unfold mSrcCell at h
  split at h
  · rename_i m' e
    obtain ⟨v, h1, h2⟩ := r.slot j _ _ e
    cases h2.src_inv
    refine ⟨_, h1, .inl (.inl ⟨s0, _, 0, _, rfl, rfl, .inl (.inl r.src.1), rfl, ?_⟩)⟩
    refine hm s0 c0 Fs H0 S pins σ H ρ _ r (Post.bind h fun q S1 w H1 G1 e1 R1 f1 x1 k1 h1 => ?_)
    cases eg : cellP S1 q with
    | none => rw [eg] at h1; exact h1.elim
    | some p =>
      rw [eg] at h1
      unfold cellP at eg
      cases q with
      | int i =>
        cases x1
        dsimp only at eg
        cases ea : atI S1.cells i with
        | none => rw [ea] at eg; cases eg
        | some n =>
          rw [ea] at eg
          injection eg with eg; subst eg
          refine .inl (.inl ⟨c0, S1.cells.map V.int, i, .int n, rfl, rfl, .inl (.inl R1.src.2.1), ?_, h1 _ H1 [] R1 f1 (.int _) KindOk.nil⟩)
          unfold atI at ea ⊢
          rw [List.length_map]
          cases ei : ixN S1.cells.length i with
          | none => rw [ei] at ea; cases ea
          | some k =>
            rw [ei] at ea
            show (S1.cells.map V.int)[k]? = _
            rw [List.getElem?_map, show S1.cells[k]? = some n from ea]
            rfl
      | _ => cases eg
  · exact h.elim
/-- len(source[0]) -/
def mSrcLen (j : Nat) : Env → M P := srcSlot j fun S => .ok (.int S.cells.length) S
theorem em_srcLen {j : Nat} : EM c W .fre (tCB (fun xs H Q => ∃ x n, xs = [x] ∧ LenV c.K x H n ∧ Q (.int n) H) (tCons (tOp (rIxA c.K) (tVar j) (tC (.int 0))) tNil)) (mSrcLen j) := by
  intro s0 c0 Fs H0 S pins σ H ρ Q r h
  obtain ⟨e, h⟩ := srcSlot_ok r h
  refine ⟨_, e, .inl (.inl ⟨s0, _, 0, .ref c0, rfl, rfl, .inl (.inl r.src.1), rfl, ?_⟩)⟩
  refine ⟨_, S.cells.length, rfl, .inl ⟨_, .inl (.inl r.src.2.1), by rw [List.length_map]⟩, ?_⟩
  exact h _ H [] r (Fr.refl r.src.lst) (.int _) KindOk.nil
/-- source[i] = e -/
def mSrcSet (j : Nat) (i : Int) (m : Env → M P) : Env → M Out := fun ρ S => match ρ[j]? with
  | some (some (.src, _)) => thenE m (fun p ρ S => match p with
    | .int v => match S.set i v with
      | some S' => .ok (.nx ρ) S'
      | none => .stuck
    | _ => .stuck) ρ S
  | _ => .stuck
theorem Src.set_at {S S' : Src} {i v : Int} (e : S.set i v = some S') : ∃ k : Nat, ixN 6 i = some k ∧ S'.cells = S.cells ∧
    [V.ref c0, .int S.at_, .int S.big, .int S.left, .int S.seed, .int S.cnt].set k (.int v) = [V.ref c0, .int S'.at_, .int S'.big, .int S'.left, .int S'.seed, .int S'.cnt] := by
  unfold Src.set at e
  split at e <;> first | (injection e with e; subst e; exact ⟨_, rfl, rfl, rfl⟩) | cases e
theorem sm_srcSet {j : Nat} {i : Int} {t : TE} {m : Env → M P} (hm : EM c W ka t m) : SM c W (tAsg t (gSub (tVar j) (tC (.int i)) rSetA)) (mSrcSet j i m) := by
  intro s0 c0 Fs H0 S pins σ H ρ D r q
  unfold mSrcSet at q
  split at q
  · rename_i m' e
    obtain ⟨v, h1, h2⟩ := r.slot j _ _ e
    cases h2.src_inv
    refine hm s0 c0 Fs H0 S pins σ H ρ _ r (thenE_post q fun p S1 w H1 G1 e1 r1 f1 x1 k1 q1 => ?_)
    cases p with
    | int n =>
      cases x1
      refine ⟨_, h1, ?_⟩
      dsimp only at q1
      cases es : S1.set i n with
      | none => rw [es] at q1; exact q1.elim
      | some S2 =>
        rw [es] at q1
        obtain ⟨k, ek, ec, el⟩ := Src.set_at (c0 := c0) es
        refine .inl ⟨s0, _, i, k, rfl, rfl, r1.src.1, ek, ?_⟩
        rw [el]
        refine q1 Fs σ _ (r1.step ⟨fun b o e n => by rw [upd_ne n]; exact e, r1.src.lst⟩ ⟨upd_same, ?_, r1.src.2.2⟩)
        rw [upd_ne r1.src.2.2, ec]
        exact r1.src.2.1
    | _ => exact q1.elim
  · exact q.elim
end
end Mir

/-! Mir9: the rules with their syntax. -/
namespace Mir
open PySem PySem.Spec L2
open PyProof.Rows hiding St
structure Ex (c : Cn) (W : WX) (X : Cx) (e : Expr) (kd : Kd) (t : TE) (m : Env → M P) : Prop where
  pe : PE X e t
  em : EM c W kd t m
structure Ts (c : Cn) (W : WX) (X : Cx) (e : Expr) (t : TT) (m : Env → M Bool) : Prop where
  pt : PT X e t
  tm : TM c W t m
structure Tw (c : Cn) (W : WX) (X : Cx) (e : Expr) (t : TT) (m : Env → M Bool) : Prop where
  pw : PW X e t
  tm : TM c W t m
structure Tss (c : Cn) (W : WX) (X : Cx) (es : List Expr) (t : TT) (m : Env → M Bool) : Prop where
  pt : PTs X es t
  tm : TM c W t m
structure Ar (c : Cn) (W : WX) (X : Cx) (es : List Expr) (kd : Kd) (t : TA) (m : Env → M (List P)) (n : Nat) : Prop where
  pa : PA X es t
  am : AM c W kd t m
  many : Many m n
structure Pr (c : Cn) (W : WX) (X : Cx) (e : Option Expr) (t : TO) (m : Env → M (Option Int)) : Prop where
  po : PO X e t
  pm : PM c W t m
structure Ir (c : Cn) (W : WX) (X : Cx) (tg iter : Expr) (t : TI) (m : Env → M (List P × Env)) : Prop where
  pi : PI X tg iter t
  im : IM c W t m
structure Gr (c : Cn) (X : Cx) (tg : Expr) (ks : List Nat) (g : TG) (m : P → Env → Option Env) : Prop where
  pg : PG X tg g
  gm : GM c ks g m
structure Grs (c : Cn) (X : Cx) (tgs : List Expr) (ks : List Nat) (g : TGs) (m : List P → Env → Option Env) : Prop where
  pg : PGs X tgs g
  gm : GMs c ks g m
structure Sr (c : Cn) (W : WX) (X : Cx) (s : Stmt) (t : TS) (m : Env → M Out) : Prop where
  ps : PS X s t
  sm : SM c W t m
structure Srs (c : Cn) (W : WX) (X : Cx) (s : List Stmt) (t : TS) (m : Env → M Out) : Prop where
  ps : PSs X s t
  sm : SM c W t m
/-- a def that may be called: its name, how many arguments, what it computes, its level -/
structure Cl (c : Cn) (Pg : Program) (w : World) (K : PySem.W.Frag) (mg : Str → Option Value) (base : Heap) (x : Str) (n : Nat) (g : List P → M P) (k : Nat) : Prop where
  ex : ∃ (f : Addr) (fd : FuncData) (ps : List Str), FnOk Pg w K mg base (L2.CX Pg w) k f fd ps (spM c n g) ∧ mg x = some (.ref f) ∧ PySem.W.keepIn K (.ref f) = true ∧ Binds K fd ps []
section
variable {c : Cn} {W : WX} {X : Cx} {kd ka kb : Kd} {pos p1 p2 p3 : Pos} {a b e : Expr} {es : List Expr} {ta tb te : TE} {ma mb me : Env → M P} {j : Nat}

/-! ### expressions -/
theorem x_var (i : Nat) {x : Str} (hN : X.N[i]? = some x := by rfl) (hv : Vis X.env.scope x := by first | exact Or.inl rfl | exact Or.inr (Or.inl rfl) | exact Or.inr (Or.inr rfl)) (hd : (x == ("__debug__" : Str)) = false := by decide)
    (hcd : (x == ("__classdict__" : Str)) = false := by decide) : Ex c W X (.Name x pos) .any (tVar i) (mVar i) := ⟨pv i hN hv hd hcd, em_var⟩
theorem x_varN (i : Nat) {x : Str} (hN : X.N[i]? = some x := by rfl) (hv : Vis X.env.scope x := by first | exact Or.inl rfl | exact Or.inr (Or.inl rfl) | exact Or.inr (Or.inr rfl)) (hd : (x == ("__debug__" : Str)) = false := by decide)
    (hcd : (x == ("__classdict__" : Str)) = false := by decide) : Ex c W X (.Name x pos) .non (tVar i) (mVarN i) := ⟨pv i hN hv hd hcd, em_varN⟩
theorem x_int {i : Int} {k} : Ex c W X (.Constant (.int i) k pos) .fre (tC (.int i)) (mC (.int i)) := ⟨pe_int, em_int⟩
theorem x_bl {i : Bool} {k} : Ex c W X (.Constant (.bool i) k pos) .fre (tC (.bl i)) (mC (.bl i)) := ⟨pe_bl, em_bl⟩
theorem x_non {k} : Ex c W X (.Constant .none k pos) .fre (tC .non) (mC .non) := ⟨pe_non, em_non⟩
theorem x_str {i : Str} {k} : Ex c W X (.Constant (.str i) k pos) .fre (tC (.str i)) (mC (.str i)) := ⟨pe_str, em_str⟩
theorem x_neg {i : Int} {k} : Ex c W X (.UnaryOp .USub (.Constant (.int i) k p1) pos) .fre (tUn (rU fun i => .int (-i)) (tC (.int i))) (mC (.int (-i))) :=
  ⟨pe_un un_neg pe_int, fun s0 c0 Fs H0 S pins σ H ρ Q r h => ⟨i, rfl, h _ H [] r (Fr.refl r.src.lst) (.int _) KindOk.nil⟩⟩
theorem x_ty {x : Str} {n : String} (hm : X.mg x = none) (hv : bootBuiltins x = some (.type n)) (hg : Gl X x := by rfl) (hn : x ≠ "__name__" := by decide) (hd : (x == ("__debug__" : Str)) = false := by decide) : Ex c W X (.Name x pos) .fre (tC (.ty n)) (mC (.ty n)) :=
  ⟨pe_bltn hg hm hv rfl hn hd, em_ty⟩
/-- a constant of the module: an int, a text, a tuple of such -/
structure Kon (c : Cn) (mg : Str → Option Value) (x : Str) (p : P) : Prop where
  ex : ∃ u v, mg x = some u ∧ RelV v u ∧ ∀ s0 H, Rf c.K s0 H p v []
theorem x_kon {x : Str} {p : P} {v : V} {u : Value} (hm : X.mg x = some u) (r : RelV v u) (hp : ∀ s0 H, Rf c.K s0 H p v []) (hg : Gl X x := by rfl) (hd : (x == ("__debug__" : Str)) = false := by decide) : Ex c W X (.Name x pos) .fre (tC v) (mC p) :=
  ⟨pe_glob hg hm r hd, em_k hp⟩
theorem x_any (h : Ex c W X e kd te me) : Ex c W X e .any te me := ⟨h.pe, h.em.any⟩
theorem x_nof (h : Ex c W X e .fre te me) : Ex c W X e .non te me := ⟨h.pe, h.em.non⟩
theorem x_imm (h : Ex c W X e kd te me) : Ex c W X e .fre te (mImm me) := ⟨h.pe, em_imm h.em⟩
theorem x_add (ha : Ex c W X a ka ta ma) (hb : Ex c W X b kb tb mb) (hK : X.K = c.K := by rfl) : Ex c W X (.BinOp a .Add b pos) .fre (tOp (rAddA c.K) ta tb) (mOp pAdd ma mb) :=
  ⟨pe_op (hK ▸ op_addA) ha.pe hb.pe, em_op om_add ha.em hb.em⟩
theorem x_sub (ha : Ex c W X a ka ta ma) (hb : Ex c W X b kb tb mb) : Ex c W X (.BinOp a .Sub b pos) .fre (tOp (rI0 fun i j => .int (i - j)) ta tb) (mOp pSub ma mb) := ⟨pe_op op_sub ha.pe hb.pe, em_op om_sub ha.em hb.em⟩
theorem x_mul (ha : Ex c W X a ka ta ma) (hb : Ex c W X b kb tb mb) : Ex c W X (.BinOp a .Mult b pos) .fre (tOp (rI CMul fun i j => .int (i * j)) ta tb) (mOp pMul ma mb) := ⟨pe_op op_mul ha.pe hb.pe, em_op om_mul ha.em hb.em⟩
theorem x_div (ha : Ex c W X a ka ta ma) (hb : Ex c W X b kb tb mb) : Ex c W X (.BinOp a .FloorDiv b pos) .fre (tOp (rI CDiv fun i j => .int (i / j)) ta tb) (mOp pDiv ma mb) := ⟨pe_op op_fdiv ha.pe hb.pe, em_op om_div ha.em hb.em⟩
theorem x_mod (ha : Ex c W X a ka ta ma) (hb : Ex c W X b kb tb mb) : Ex c W X (.BinOp a .Mod b pos) .fre (tOp (rI (fun _ j => 0 < j) fun i j => .int (i % j)) ta tb) (mOp pMod ma mb) := ⟨pe_op op_mod ha.pe hb.pe, em_op om_mod ha.em hb.em⟩
/-- one comparison, by values -/
structure Cmp (c : Cn) (X : Cx) (op : CmpOp) (r : R2) (f : P → P → Option P) : Prop where
  op : OpR X (compareOp op) r
  om : OpM c r f
theorem k_lt : Cmp c X .Lt (rI0 fun i j => .bl (decide (i < j))) pLt := ⟨op_lt, om_lt⟩
theorem k_le : Cmp c X .LtE (rI0 fun i j => .bl (decide (i ≤ j))) pLe := ⟨op_le, om_le⟩
theorem k_gt : Cmp c X .Gt (rI0 fun i j => .bl (decide (j < i))) pGt := ⟨op_gt, om_gt⟩
theorem k_ge : Cmp c X .GtE (rI0 fun i j => .bl (decide (j ≤ i))) pGe := ⟨op_ge, om_ge⟩
theorem k_eq {k : Nat} (hr : Room k X.A) (hK : X.K = c.K := by rfl) : Cmp c X .Eq (rEqD c.K) pEq := ⟨hK ▸ op_eqD hr.units, om_eq⟩
theorem k_ne {k : Nat} (hr : Room k X.A) (hK : X.K = c.K := by rfl) : Cmp c X .NotEq (rNeD c.K) pNe := ⟨hK ▸ op_neD hr.units, om_ne⟩
theorem k_is : Cmp c X .Is (fun x y H Q => y = .non ∧ Q (.bl (decide (x = .non))) H) pIsN := ⟨op_isN, om_isN⟩
theorem k_isnot : Cmp c X .IsNot (fun x y H Q => y = .non ∧ Q (.bl (!decide (x = .non))) H) pNotN := ⟨op_notN, om_notN⟩
theorem k_in {k : Nat} (hr : Room k X.A) (hK : X.K = c.K := by rfl) : Cmp c X .In (rInD c.K) pInA := ⟨hK ▸ op_inAll (hu_of hr), om_inA⟩
theorem k_notin {k : Nat} (hr : Room k X.A) (hK : X.K = c.K := by rfl) : Cmp c X .NotIn (rNotInD c.K) pNotInA := ⟨hK ▸ op_notInAll (hu_of hr), om_notInA⟩
theorem x_cmp {op : CmpOp} {r : R2} {f : P → P → Option P} (k : Cmp c X op r f) (ha : Ex c W X a ka ta ma) (hb : Ex c W X b kb tb mb) (hm : behindInMarks op b = false := by first | exact nomark _ | rfl) :
    Ex c W X (.Compare a [op] [b] pos) .fre (tOp r ta tb) (mOp f ma mb) := ⟨pe_cmpR k.op ha.pe hb.pe hm, em_op k.om ha.em hb.em⟩
theorem x_chain {op op' : CmpOp} {r r' : R2} {f g : P → P → Option P} {d : Expr} {td : TE} {md : Env → M P} (k : Cmp c X op r f) (k' : Cmp c X op' r' g) (ha : Ex c W X a .any ta ma) (hb : Ex c W X b .any tb mb) (hd : Ex c W X d .any td md)
    (hm : lastMarks [op, op'] [b, d] = false := by with_unfolding_all rfl) : Ex c W X (.Compare a [op, op'] [b, d] pos) .fre (tChain r r' ta tb td) (mChain f g ma mb md) := ⟨pe_chain k.op k'.op ha.pe hb.pe hd.pe hm, em_chain k.om k'.om ha.em hb.em hd.em⟩
theorem x_and1 {op} (h : Ex c W X a kd ta ma) : Ex c W X (.BoolOp op [a] pos) kd ta ma := ⟨pe_one h.pe, h.em⟩
theorem x_and {rest : List Expr} (ha : Ex c W X a ka ta ma) (hb : Ex c W X (.BoolOp .And (b :: rest) pos) kd tb mb) : Ex c W X (.BoolOp .And (a :: b :: rest) pos) kd (tAndV ta tb) (mAnd ma mb) := ⟨pe_and ha.pe hb.pe, em_and ha.em hb.em⟩
theorem x_or {rest : List Expr} (ha : Ex c W X a ka ta ma) (hb : Ex c W X (.BoolOp .Or (b :: rest) pos) kd tb mb) : Ex c W X (.BoolOp .Or (a :: b :: rest) pos) kd (tOrV ta tb) (mOr ma mb) := ⟨pe_or ha.pe hb.pe, em_or ha.em hb.em⟩
theorem x_not (ha : Ex c W X a ka ta ma) : Ex c W X (.UnaryOp .Not a pos) .fre (tNotV ta) (mNot ma) := ⟨pe_not ha.pe, em_not ha.em⟩
/-- not e, by truth -/
def mNotT (m : Env → M P) : Env → M P := fun ρ => M.bind (m ρ) fun p => lift ((truP p).map fun b => P.bl (!b))
theorem em_notT (ha : EM c W ka ta ma) : EM c W kd (tNotT c.K ta) (mNotT ma) := by
  intro s0 c0 Fs H0 S pins σ H ρ Q R q
  refine ha s0 c0 Fs H0 S pins σ H ρ _ R (Post.bind q fun p S1 v H1 G1 e1 R1 f1 x1 k1 h1 => ?_)
  unfold lift at h1
  cases e : truP p with
  | none => rw [e] at h1; exact h1.elim
  | some b =>
    rw [e] at h1
    exact ⟨b, Rf.tru x1 e, h1 (.bl (!b)) H1 [] R1 f1 (.bl _) KindOk.nil⟩
theorem x_notT (ha : Ex c W X a ka ta ma) (hK : X.K = c.K := by rfl) : Ex c W X (.UnaryOp .Not a pos) .fre (tNotT c.K ta) (mNotT ma) := ⟨hK ▸ pe_notT ha.pe, em_notT ha.em⟩
theorem x_if {d : Expr} {tt : TT} {mt : Env → M Bool} (ht : Ts c W X d tt mt) (ha : Ex c W X a kd ta ma) (hb : Ex c W X b kd tb mb) : Ex c W X (.IfExp d a b pos) kd (tIf tt ta tb) (mIfE mt ma mb) := ⟨pe_ifExp ht.pt ha.pe hb.pe, em_if ht.tm ha.em hb.em⟩
theorem x_ix {k : Nat} (hr : Room k X.A) (ha : Ex c W X a kd ta ma) (hb : Ex c W X b kb tb mb) (hs : PlainIx b := by exact fun _ _ => rfl) (hK : X.K = c.K := by rfl) : Ex c W X (.Subscript a b pos) kd (tOp (rIxA c.K) ta tb) (mIxA ma mb) :=
  ⟨pe_ix (hK ▸ ix_anyA (hu_of hr)) ha.pe hb.pe hs, em_ixA ha.em hb.em⟩
theorem o_none : Pr c W X none tNoPart mNoPart := ⟨po_none, pm_none⟩
theorem o_some (h : Ex c W X e ka te me) : Pr c W X (some e) (tPart te) (mPart me) := ⟨po_some h.pe, pm_some h.em⟩
theorem x_sl {lo hi : Option Expr} {tl th : TO} {ml mh : Env → M (Option Int)} (he : Ex c W X e ka te me) (hl : Pr c W X lo tl ml) (hh : Pr c W X hi th mh) (hK : X.K = c.K := by rfl) :
    Ex c W X (.Subscript e (.Slice lo hi none p2) pos) .fre (tSl (rSlAny c.K) te tl th) (mSl me ml mh) := ⟨pe_slice (hK ▸ sl_any) he.pe hl.po hh.po, em_sl he.em hl.pm hh.pm⟩

/-! ### arguments, displays, calls -/
variable {t ts : TA} {ms : Env → M (List P)} {n : Nat}
theorem a_nil : Ar c W X [] kd tNil mNil 0 := ⟨pa_nil, am_nil, many_nil⟩
theorem a_cons (h : Ex c W X e kd te me) (hs : Ar c W X es kd ts ms n) (hst : starEach (e :: es) X.env = (false, eval e X.env) :: starEach es X.env := by rfl) : Ar c W X (e :: es) kd (tCons te ts) (mCons me ms) (n + 1) :=
  ⟨pa_cons h.pe hs.pa hst, am_cons h.em hs.am, many_cons hs.many⟩
theorem x_tup {x1} (h : Ar c W X es kd t ms n) : Ex c W X (.Tuple es x1 pos) kd (tTup t) (mTup ms) := ⟨pe_tup h.pa, em_tup h.am⟩
theorem x_lst (h : Ar c W X es kd t ms n) : Ex c W X (.List es pos) kd (tLst t) (mLst ms) := ⟨pe_lst h.pa, em_lst h.am⟩
theorem x_dK : Ex c W X (.Dict [] [] pos) .fre tDNewK mDK := ⟨pe_dnewK, em_dK⟩
theorem x_dT : Ex c W X (.Dict [] [] pos) .fre tDNewT mDT := ⟨pe_dnewT, em_dT⟩
/-- a built-in function by values -/
structure Bi (c : Cn) (X : Cx) (x : Str) (r : List V → Hp → VK → Prop) (f : List P → Option P) : Prop where
  ex : ∀ {e : Expr} {es : List Expr} {t : TA} {p pos : Pos}, PA X (e :: es) t → Gl X x → starEach (e :: es) X.env = (false, eval e X.env) :: starEach es X.env → (backTo pos (starEach es X.env)).any (·.1) = false → PE X (.Call (.Name x p) (e :: es) [] pos) (tCB r t)
  cm : CalM c r f
theorem x_bi {x : Str} {r : List V → Hp → VK → Prop} {f : List P → Option P} (b : Bi c X x r f) (h : Ar c W X (e :: es) ka t ms n) (hg : Gl X x := by rfl) (hs : starEach (e :: es) X.env = (false, eval e X.env) :: starEach es X.env := by rfl)
    (hpl : (backTo pos (starEach es X.env)).any (·.1) = false := by rfl) : Ex c W X (.Call (.Name x p1) (e :: es) [] pos) .fre (tCB r t) (mCB f ms) := ⟨b.ex h.pa hg hs hpl, em_cb b.cm h.am⟩
theorem bB {id : String} {x : Str} {r : List V → Hp → VK → Prop} {f : List P → Option P} (hc : CallR X (.builtin id) r) (hm : X.mg x = none) (hv : bootBuiltins x = some (.builtin id)) (cm : CalM c r f) (hn : x ≠ "__name__" := by decide) (hdb : (x == ("__debug__" : Str)) = false := by decide) : Bi c X x r f :=
  ⟨fun ha hg hs hpl => pe_callB hc hg hm hv ha hn hdb hs hpl, cm⟩
theorem bT {id : String} {x : Str} {r : List V → Hp → VK → Prop} {f : List P → Option P} (hc : CallR X (.type id) r) (hm : X.mg x = none) (hv : bootBuiltins x = some (.type id)) (cm : CalM c r f) (hn : x ≠ "__name__" := by decide) (hdb : (x == ("__debug__" : Str)) = false := by decide) : Bi c X x r f :=
  ⟨fun ha hg hs hpl => pe_callTy hc hg hm hv ha hn hdb hs hpl, cm⟩
theorem b_len (hm : X.mg "len" = none) (hK : X.K = c.K := by rfl) : Bi c X "len" (fun xs H Q => ∃ x n, xs = [x] ∧ LenV c.K x H n ∧ Q (.int n) H) (on1 pLen) := bB (hK ▸ call_len) hm PySem.boot_len cm_len
theorem b_int (hm : X.mg "int" = none) : Bi c X "int" rIntA (on1 pInt) := bT call_intA hm (by decide +kernel) cm_int
theorem b_str (hm : X.mg "str" = none) : Bi c X "str" rStrI (on1 fun p => match p with
    | .int i => if i.natAbs.log2 < 1920 then some (.str (toString i)) else none
    | _ => none) := bT call_strI hm (by decide +kernel) cm_str
theorem b_max2 (hm : X.mg "max" = none) (hc : X.calm = true := by rfl) : Bi c X "max" (fun xs H Q => ∃ i j, xs = [.int i, .int j] ∧ Q (.int (if j > i then j else i)) H) (on2 pMax2) := bB (call_max2 hc) hm PyProof.Rows.boot_max cm_max2
theorem b_min2 (hm : X.mg "min" = none) (hc : X.calm = true := by rfl) : Bi c X "min" (fun xs H Q => ∃ i j, xs = [.int i, .int j] ∧ Q (.int (if j < i then j else i)) H) (on2 pMin2) := bB (call_min2 hc) hm PyProof.Rows.boot_min cm_min2
theorem b_sum (hm : X.mg "sum" = none) (hc : X.calm = true := by rfl) (hK : X.K = c.K := by rfl) : Bi c X "sum" (rSum c.K) (on1 pSum) := bB (hK ▸ cr_sum hc) hm PyProof.Rows.boot_sum cm_sum
theorem b_maxL (hm : X.mg "max" = none) (hc : X.calm = true := by rfl) (hK : X.K = c.K := by rfl) : Bi c X "max" (rMax c.K) (on1 pMaxL) := bB (hK ▸ cr_max hc) hm PyProof.Rows.boot_max cm_maxL
theorem b_minL (hm : X.mg "min" = none) (hc : X.calm = true := by rfl) (hK : X.K = c.K := by rfl) : Bi c X "min" (rMin c.K) (on1 pMinL) := bB (hK ▸ cr_min hc) hm PyProof.Rows.boot_min cm_minL
theorem b_tuple (hm : X.mg "tuple" = none) (hK : X.K = c.K := by rfl) : Bi c X "tuple" (fun xs H Q => ∃ p ys, xs = [.ref p] ∧ ((SqL c.K H p ys ∧ ∀ l, H l = none → Q (.ref l) (upd H l (.tup ys))) ∨ (SqT c.K H p ys ∧ Q (.ref p) H))) (on1 pTup) :=
  bT (hK ▸ call_tuple_of) hm (by decide +kernel) cm_tup
theorem b_list (hm : X.mg "list" = none) (hK : X.K = c.K := by rfl) : Bi c X "list" (fun xs H Q => ∃ p ys, xs = [.ref p] ∧ (SqL c.K H p ys ∨ SqT c.K H p ys) ∧ ∀ l, H l = none → Q (.ref l) (upd H l (.lst ys))) (on1 pLst) :=
  bT (hK ▸ call_list_of) hm (by decide +kernel) cm_lst
theorem b_isi (hm : X.mg "isinstance" = none) (hK : X.K = c.K := by rfl) : Bi c X "isinstance" (rIsi c.K) (on2 pIsi) := bB (hK ▸ call_isi) hm PyProof.Rows.boot_isinstance cm_isi
/-- a.split(b) -/
theorem x_split (ha : Ex c W X a ka ta ma) (hb : Ex c W X b kb tb mb) (hs : starEach [b] X.env = [(false, eval b X.env)] := by rfl) (hbase : attributeBase a "split" X.env (eval a X.env) = eval a X.env := by rfl) (hline : (p1.endLine == pos.line) = true := by rfl) :
    Ex c W X (.Call (.Attribute a "split" p1) [b] [] pos) .fre (tM1 (fun x xs H Q => ∃ a b, x = .str a ∧ xs = [.str b] ∧ (b.length == 0) = false ∧ a.length + 2 ≤ sizeLine ∧ rNewStrs (Txt.split a b) H Q) ta tb) (mM1 pSplit ma mb) :=
  ⟨pe_split ha.pe hb.pe hs hbase hline, em_m1 om_split ha.em hb.em⟩
/-- a call of a def -/
theorem x_call {x : Str} {g : List P → M P} {k k0 : Nat} (F : Cl c X.prog X.w X.K X.mg X.base x n g k) (hr : Room k0 X.A) (tk : Takes X W) (h : Ar c W X (e :: es) ka t ms n) (hj : k ≤ k0 := by decide) (hg : Gl X x := by rfl)
    (hdb : (x == ("__debug__" : Str)) = false := by decide) (hs : starEach (e :: es) X.env = (false, eval e X.env) :: starEach es X.env := by rfl) (hpl : (backTo pos (starEach es X.env)).any (·.1) = false := by rfl) :
    Ex c W X (.Call (.Name x p1) (e :: es) [] pos) .fre (tCallS (spM c n g) (WE W) t) (mCall g ms) := by
  obtain ⟨f, fd, ps, F, hm, hk, hb⟩ := F.ex
  exact ⟨pe_callS F (hr.mono hj) hg hm hk hb (fun σ => passAt tk σ) h.pa hdb hs hpl, em_call h.am h.many⟩

/-! ### tests -/
variable {tA tB : TT} {mA mB : Env → M Bool} {rest : List Expr}
theorem t_cmp {op : CmpOp} {r : R2} {f : P → P → Option P} (k : Cmp c X op r f) (ha : Ex c W X a ka ta ma) (hb : Ex c W X b kb tb mb) (hm : behindInMarks op b = false := by first | exact nomark _ | rfl) :
    Ts c W X (.Compare a [op] [b] pos) (tTest (tOp r ta tb)) (mTst (mOp f ma mb)) := ⟨pt_cmpR k.op ha.pe hb.pe hm, tm_tst (em_op k.om ha.em hb.em)⟩
theorem t_chain {op op' : CmpOp} {r r' : R2} {f g : P → P → Option P} {d : Expr} {td : TE} {md : Env → M P} (k : Cmp c X op r f) (k' : Cmp c X op' r' g) (ha : Ex c W X a .any ta ma) (hb : Ex c W X b .any tb mb) (hd : Ex c W X d .any td md)
    (hm : lastMarks [op, op'] [b, d] = false := by with_unfolding_all rfl) : Ts c W X (.Compare a [op, op'] [b, d] pos) (tTest (tChain r r' ta tb td)) (mTst (mChain f g ma mb md)) := ⟨pt_chain k.op k'.op ha.pe hb.pe hd.pe hm, tm_tst (em_chain k.om k'.om ha.em hb.em hd.em)⟩
theorem t_tru (ha : Ex c W X a ka ta ma) (he : ∀ whole, isTrue a X.env whole = (do let v ← whole; standAt a.pos; holding [v] (truthy v)) := by exact fun _ => rfl) (hK : X.K = c.K := by rfl) :
    Ts c W X a (fun σ H Q => ta σ H fun x H' => ∃ k, TruV c.K x H' k ∧ Q k H') (mTru ma) := ⟨hK ▸ pt_truth ha.pe he, tm_tru ha.em⟩
theorem t_not (ha : Ts c W X a tA mA) : Ts c W X (.UnaryOp .Not a pos) (tNot tA) (tNotM mA) := ⟨pt_not ha.pt, tm_not ha.tm⟩
theorem w_and1 (ha : Ts c W X a tA mA) : Tw c W X (.BoolOp .And [a] pos) tA mA := ⟨pw_and1 ha.pt, ha.tm⟩
theorem w_or1 (ha : Ts c W X a tA mA) : Tw c W X (.BoolOp .Or [a] pos) tA mA := ⟨pw_or1 ha.pt, ha.tm⟩
theorem w_and (ha : Ts c W X a tA mA) (hb : Tw c W X (.BoolOp .And (b :: rest) pos) tB mB) : Tw c W X (.BoolOp .And (a :: b :: rest) pos) (tAnd tA tB) (tAndM mA mB) := ⟨pw_and ha.pt hb.pw, tm_and ha.tm hb.tm⟩
theorem w_or (ha : Ts c W X a tA mA) (hb : Tw c W X (.BoolOp .Or (b :: rest) pos) tB mB) : Tw c W X (.BoolOp .Or (a :: b :: rest) pos) (tOr tA tB) (tOrM mA mB) := ⟨pw_or ha.pt hb.pw, tm_or ha.tm hb.tm⟩
theorem t_w (h : Tw c W X a tA mA) : Ts c W X a tA mA := ⟨h.pw.pt, h.tm⟩
theorem ts_nil : Tss c W X [] tYes mYes := ⟨pts_nil, tm_yes⟩
theorem ts_one (h : Ts c W X a tA mA) : Tss c W X [a] tA mA := ⟨pts_one h.pt, h.tm⟩

/-! ### iterators, targets, comprehensions -/
variable {tg iter : Expr} {wi : TI} {it : Env → M (List P × Env)} {ks ls : List Nat} {g : TG} {gs : TGs} {gm : P → Env → Option Env} {gms : List P → Env → Option Env}
theorem i_any (h : Ex c W X a .non ta ma) (hK : X.K = c.K := by rfl) : Ir c W X tg a (iAny c.K ta) (mIt ma) := ⟨hK ▸ pi_any h.pe, im_any h.em⟩
theorem i_var (i : Nat) {x : Str} (hK : X.K = c.K := by rfl) (hN : X.N[i]? = some x := by rfl) (hv : Vis X.env.scope x := by first | exact Or.inl rfl | exact Or.inr (Or.inl rfl) | exact Or.inr (Or.inr rfl)) (hd : (x == ("__debug__" : Str)) = false := by decide)
    (hcd : (x == ("__classdict__" : Str)) = false := by decide) : Ir c W X tg (.Name x pos) (iAny c.K (tVar i)) (mItV i) := ⟨hK ▸ pi_any (pv i hN hv hd hcd), im_var⟩
theorem i_rng1 (hm : X.mg "range" = none) (h : Ar c W X [a] ka t ms n) (hg : Gl X "range" := by rfl) (hs : starEach [a] X.env = [(false, eval a X.env)] := by rfl) : Ir c W X tg (.Call (.Name "range" p1) [a] [] pos) (iRng1 t) (mRng rng1 ms) :=
  ⟨pi_range1 hg hm h.pa hs, im_rng1 h.am⟩
theorem i_rng2 (hm : X.mg "range" = none) (h : Ar c W X [a, b] ka t ms n) (hg : Gl X "range" := by rfl) (hs : starEach [a, b] X.env = [(false, eval a X.env), (false, eval b X.env)] := by rfl) (hs2 : starEach [b] X.env = [(false, eval b X.env)] := by rfl) : Ir c W X tg (.Call (.Name "range" p1) [a, b] [] pos) (iRng2 t) (mRng rng2 ms) :=
  ⟨pi_range2 hg hm h.pa hs hs2, im_rng2 h.am⟩
theorem g_name (i : Nat) {x : Str} (hN : X.N.Nodup) (hi : X.N[i]? = some x := by rfl) (hx : Loc X.env.scope x := by first | exact Or.inl rfl | exact Or.inr rfl) (hf : X.fn x = true ∨ X.env.scope.names.lookup x = some .local := by first | exact .inl rfl | exact .inr rfl) :
    Gr c X (.Name x pos) [i] (gName i) (gmName i) := ⟨pg_name hN hi hx hf, gm_name⟩
theorem gs_nil : Grs c X [] [] gNil gmNil := ⟨pgs_nil, gms_nil⟩
theorem gs_cons (h1 : Gr c X e ks g gm) (h2 : Grs c X es ls gs gms) (hs : (assignEach (e :: es) X.env).map (·.2) = assign e X.env :: (assignEach es X.env).map (·.2) := by rfl) : Grs c X (e :: es) (ks ++ ls) (gCons g gs) (gmCons gm gms) :=
  ⟨pgs_cons h1.pg h2.pg hs, gms_cons h1.gm h2.gm⟩
theorem g_tup {k : Nat} (h : Grs c X es ks gs gms) (hn : (assignEach es X.env).length = n := by rfl) (hst : (assignEach es X.env).findIdx? (·.1) = none := by rfl) (hc : X.calm = true := by rfl) (hK : X.K = c.K := by rfl) :
    Gr c X (.Tuple es k pos) ks (gTup c.K n gs) (gmTup n gms) := ⟨hK ▸ pg_tup hc h.pg hn hst, gm_tup h.gm⟩
theorem x_lc {elt : Expr} {ifs : List Expr} {scope : Scope} {tt : TT} (own : List (Str × Nat)) (hN : X.N.Nodup) (hi : Ir c W X tg iter wi it) (ok : blkC X.N X.env.scope scope own = true)
    (hg : ∀ (s : Shared) (H : Hp) (C : Addr) (cl : List (Str × Addr)) (fp : List Addr), Gr c (X.blk s H scope (compEnvC scope cl C X.env) fp) tg ks g gm) (ht : ∀ (s : Shared) (H : Hp) (C : Addr) (cl : List (Str × Addr)) (fp : List Addr), Tss c WF (X.blk s H scope (compEnvC scope cl C X.env) fp) ifs tt mA)
    (he : ∀ (s : Shared) (H : Hp) (C : Addr) (cl : List (Str × Addr)) (fp : List Addr), Ex c WF (X.blk s H scope (compEnvC scope cl C X.env) fp) elt .fre te me) (hk : ∀ k ∈ ks, k ∈ own.map (·.2) := by decide) (hc : X.calm = true := by rfl) (hs : ∀ x, foldedSetIterable iter X.env x = pure x := by exact fun _ => rfl) :
    Ex c W X (.ListComp elt [⟨tg, iter, ifs, 0⟩] scope pos) .fre (tLc wi g tt te (own.map (·.2))) (mLc it gm mA me (own.map (·.2))) := by
  have s : Shared := X.s_0
  exact ⟨pe_lc hc hN hi.pi (blkOk_by ok) (fun s H C cl fp => (hg s H C cl fp).pg) (fun s H C cl fp => (ht s H C cl fp).pt) (fun s H C cl fp => (he s H C cl fp).pe) hs,
    em_lc hi.im (hg s X.H_0 0 [] []).gm (ht s X.H_0 0 [] []).tm (he s X.H_0 0 [] []).em hk⟩

/-! ### statements -/
variable {st : Stmt} {sts sts' : List Stmt} {u v : TS} {m1 m2 : Env → M Out}
theorem ss_nil : Srs c W X [] tNext mNext := ⟨pss_nil, sm_nil⟩
theorem ss_cons (h1 : Sr c W X st u m1) (h2 : Srs c W X sts v m2) : Srs c W X (st :: sts) (tSeq u v) (mSeq m1 m2) := ⟨pss_cons h1.ps h2.ps, sm_cons h1.sm h2.sm⟩
theorem ss_one (h1 : Sr c W X st u m1) : Srs c W X [st] u m1 := ⟨pss_one h1.ps, h1.sm⟩
theorem s_set (i : Nat) {x : Str} (hN : X.N.Nodup) (he : Ex c W X e .fre te me) (hi : X.N[i]? = some x := by rfl) (hx : Loc X.env.scope x := by first | exact Or.inl rfl | exact Or.inr rfl) (hs : swapsWith e (some (.Name x p1)) pos.line X.env = pure false := by rfl)
    (hf : X.fn x = true ∨ X.env.scope.names.lookup x = some .local := by first | exact .inl rfl | exact .inr rfl) : Sr c W X (.Assign [.Name x p1] e pos) (tAsg te (gName i)) (mSet i me) := ⟨ps_set hN hi hx he.pe hs hf, sm_set he.em⟩
theorem s_setN (i : Nat) {x : Str} (hN : X.N.Nodup) (he : Ex c W X e .non te me) (hi : X.N[i]? = some x := by rfl) (hx : Loc X.env.scope x := by first | exact Or.inl rfl | exact Or.inr rfl) (hs : swapsWith e (some (.Name x p1)) pos.line X.env = pure false := by rfl)
    (hf : X.fn x = true ∨ X.env.scope.names.lookup x = some .local := by first | exact .inl rfl | exact .inr rfl) : Sr c W X (.Assign [.Name x p1] e pos) (tAsg te (gName i)) (mSetN i me) := ⟨ps_set hN hi hx he.pe hs hf, sm_setN he.em⟩
/-- y = x -/
theorem s_ali (i k : Nat) {x y : Str} (hN : X.N.Nodup) (hi : X.N[i]? = some x := by rfl) (hk : X.N[k]? = some y := by rfl) (hx : Loc X.env.scope x := by first | exact Or.inl rfl | exact Or.inr rfl) (hv : Vis X.env.scope y := by first | exact Or.inl rfl | exact Or.inr (Or.inl rfl) | exact Or.inr (Or.inr rfl))
    (hs : swapsWith (.Name y p2) (some (.Name x p1)) pos.line X.env = pure false := by rfl) (hf : X.fn x = true ∨ X.env.scope.names.lookup x = some .local := by first | exact .inl rfl | exact .inr rfl) (hd : (y == ("__debug__" : Str)) = false := by decide) (hcd : (y == ("__classdict__" : Str)) = false := by decide) :
    Sr c W X (.Assign [.Name x p1] (.Name y p2) pos) (tAsg (tVar k) (gName i)) (mAli i k) := ⟨ps_set hN hi hx (pv k hk hv hd hcd) hs hf, sm_ali⟩
/-- name = [.. for ..] on one line, the name a local -/
theorem s_setLc (i : Nat) {x : Str} {elt : Expr} {ifs : List Expr} {scope : Scope} {tt : TT} (own : List (Str × Nat)) (hN : X.N.Nodup) (hir : Ir c W X tg iter wi it) (ok : blkC X.N X.env.scope scope own = true)
    (hg : ∀ (s : Shared) (H : Hp) (C : Addr) (cl : List (Str × Addr)) (fp : List Addr), Gr c (X.blk s H scope (compEnvC scope cl C X.env) fp) tg ks g gm) (ht : ∀ (s : Shared) (H : Hp) (C : Addr) (cl : List (Str × Addr)) (fp : List Addr), Tss c WF (X.blk s H scope (compEnvC scope cl C X.env) fp) ifs tt mA)
    (he : ∀ (s : Shared) (H : Hp) (C : Addr) (cl : List (Str × Addr)) (fp : List Addr), Ex c WF (X.blk s H scope (compEnvC scope cl C X.env) fp) elt .fre te me) (hk : ∀ k ∈ ks, k ∈ own.map (·.2) := by decide) (hi : X.N[i]? = some x := by rfl)
    (hyl : X.env.scope.names.lookup x = some .local := by rfl) (hsw : swapsWith (.ListComp elt [⟨tg, iter, ifs, 0⟩] scope p2) (some (.Name x p1)) pos.line X.env = pure true := by exact sw_true rfl rfl rfl (by decide +kernel)) (hc : X.calm = true := by rfl) (hs : ∀ x, foldedSetIterable iter X.env x = pure x := by exact fun _ => rfl) :
    Sr c W X (.Assign [.Name x p1] (.ListComp elt [⟨tg, iter, ifs, 0⟩] scope p2) pos) (tAsg (tLc wi g tt te (own.map (·.2))) (gName i)) (mSet i (mLc it gm mA me (own.map (·.2)))) := by
  have s : Shared := X.s_0
  exact ⟨ps_setLc hc hN hi hyl hsw hir.pi (blkOk_by ok) (fun s H C cl fp => (hg s H C cl fp).pg) (fun s H C cl fp => (ht s H C cl fp).pt) (fun s H C cl fp => (he s H C cl fp).pe) hs,
    sm_set (em_lc hir.im (hg s X.H_0 0 [] []).gm (ht s X.H_0 0 [] []).tm (he s X.H_0 0 [] []).em hk)⟩
theorem s_ret (he : Ex c W X e .fre te me) : Sr c W X (.Return (some e) pos) (tRet te) (mRet me) := ⟨ps_ret he.pe, sm_ret he.em⟩
theorem s_retV (k : Nat) {y : Str} (hk : X.N[k]? = some y := by rfl) (hv : Vis X.env.scope y := by first | exact Or.inl rfl | exact Or.inr (Or.inl rfl) | exact Or.inr (Or.inr rfl)) (hd : (y == ("__debug__" : Str)) = false := by decide) (hcd : (y == ("__classdict__" : Str)) = false := by decide) :
    Sr c W X (.Return (some (.Name y p1)) pos) (tRet (tVar k)) (mRetV k) := ⟨ps_ret (pv k hk hv hd hcd), sm_retV⟩
theorem s_ret0 : Sr c W X (.Return none pos) tRetN mRet0 := ⟨ps_retN, sm_ret0⟩
theorem s_break : Sr c W X (.Break pos) tBreak mBrk := ⟨ps_break, sm_break⟩
theorem s_continue : Sr c W X (.Continue pos) tCont mCnt := ⟨ps_continue, sm_continue⟩
theorem s_pass : Sr c W X (.Pass pos) tNext mNext := ⟨ps_pass, sm_nil⟩
theorem s_never : Sr c W X st tNever mStuck := ⟨ps_never, sm_never⟩
theorem s_expr (he : Ex c W X e ka te me) (hs : swapsWith e none pos.line X.env = pure false := by rfl) : Sr c W X (.Expr e pos) (tDrop te) (mDrop me) := ⟨ps_expr he.pe hs, sm_drop he.em⟩
theorem s_if {d : Expr} (ht : Ts c W X d tA mA) (h1 : Srs c W X sts u m1) (h2 : Srs c W X sts' v m2) : Sr c W X (.If d sts sts' pos) (tIfS tA u v) (mIf mA m1 m2) := ⟨ps_if ht.pt h1.ps h2.ps, sm_if ht.tm h1.sm h2.sm⟩
theorem s_for (hp : PassesOwn (model X.prog X.w) X.A X.env X.xe) (hi : Ir c W X tg iter wi it) (hg : Gr c X tg ks g gm) (hb : Srs c W X sts u m1) (hc : X.calm = true := by rfl) (hs : ∀ x, foldedSetIterable iter X.env x = pure x := by exact fun _ => rfl) :
    Sr c W X (.For tg iter sts [] pos) (tFor wi g u) (mFor it gm m1) := ⟨ps_for hp hc hi.pi hg.pg hb.ps hs, sm_for hi.im hg.gm hb.sm⟩
/-- x[i] = e -/
theorem s_store (k : Nat) {x : Str} {k0 : Nat} (hr : Room k0 X.A) (he : Ex c W X e ka te me) (hb : Ex c W X b kb tb mb) (hk : X.N[k]? = some x := by rfl) (hv : Vis X.env.scope x := by first | exact Or.inl rfl | exact Or.inr (Or.inl rfl) | exact Or.inr (Or.inr rfl))
    (ha : ∀ v, assign (.Subscript (.Name x p1) b p2) X.env v = (do
      let ov ← holding [v] (eval (.Name x p1) X.env)
      let iv ← holding [v, ov] (eval b X.env)
      standAt p2
      holding [v, ov, iv] (setItem ov iv v)
      release [v, ov, iv] []) := by exact fun _ => rfl)
    (hs : swapsWithSole [.Subscript (.Name x p1) b p2] e pos.line X.env = pure false := by rfl) (hw : swappedStores [.Subscript (.Name x p1) b p2] e X.env = pure none := by rfl)
    (h1 : (assignEach [.Subscript (.Name x p1) b p2] X.env).map (·.2) = [assign (.Subscript (.Name x p1) b p2) X.env] := by rfl) (hd : (x == ("__debug__" : Str)) = false := by decide) (hcd : (x == ("__classdict__" : Str)) = false := by decide) :
    Sr c W X (.Assign [.Subscript (.Name x p1) b p2] e pos) (tAsg te (gSub (tVar k) tb rSetA)) (mStore k me mb) :=
  ⟨ps_asg he.pe (pg_sub (pv k hk hv hd hcd) hb.pe (set_any (hu_of hr)) ha) hs hw h1, sm_store he.em hb.em⟩
/-- x[i][j] = e -/
theorem s_store2 (k : Nat) {x : Str} {k0 : Nat} {d : Expr} {td : TE} {md : Env → M P} (hr : Room k0 X.A) (he : Ex c W X e ka te me) (hb : Ex c W X b kb tb mb) (hd' : Ex c W X d kd td md) (hk : X.N[k]? = some x := by rfl) (hv : Vis X.env.scope x := by first | exact Or.inl rfl | exact Or.inr (Or.inl rfl) | exact Or.inr (Or.inr rfl))
    (hpi : PlainIx b := by exact fun _ _ => rfl) (hK : X.K = c.K := by rfl)
    (ha : ∀ v, assign (.Subscript (.Subscript (.Name x p1) b p3) d p2) X.env v = (do
      let ov ← holding [v] (eval (.Subscript (.Name x p1) b p3) X.env)
      let iv ← holding [v, ov] (eval d X.env)
      standAt p2
      holding [v, ov, iv] (setItem ov iv v)
      release [v, ov, iv] []) := by exact fun _ => rfl)
    (hs : swapsWithSole [.Subscript (.Subscript (.Name x p1) b p3) d p2] e pos.line X.env = pure false := by rfl) (hw : swappedStores [.Subscript (.Subscript (.Name x p1) b p3) d p2] e X.env = pure none := by rfl)
    (h1 : (assignEach [.Subscript (.Subscript (.Name x p1) b p3) d p2] X.env).map (·.2) = [assign (.Subscript (.Subscript (.Name x p1) b p3) d p2) X.env] := by rfl) (hd : (x == ("__debug__" : Str)) = false := by decide) (hcd : (x == ("__classdict__" : Str)) = false := by decide) :
    Sr c W X (.Assign [.Subscript (.Subscript (.Name x p1) b p3) d p2] e pos) (tAsg te (gSub (tOp (rIxA c.K) (tVar k) tb) td rSetA)) (mSto2 k me mb md) :=
  ⟨ps_asg he.pe (pg_sub (pe_ix (hK ▸ ix_anyA (hu_of hr)) (pv k hk hv hd hcd) hb.pe hpi) hd'.pe (set_any (hu_of hr)) ha) hs hw h1, sm_store2 he.em hb.em hd'.em⟩
/-- source[i] = e -/
theorem s_src (k : Nat) {x : Str} {i : Int} {kk : Nat} {k0 : Nat} (hr : Room k0 X.A) (he : Ex c W X e ka te me) (hk : X.N[k]? = some x := by rfl) (hv : Vis X.env.scope x := by first | exact Or.inl rfl | exact Or.inr (Or.inl rfl) | exact Or.inr (Or.inr rfl))
    (ha : ∀ v, assign (.Subscript (.Name x p1) (.Constant (.int i) kk p3) p2) X.env v = (do
      let ov ← holding [v] (eval (.Name x p1) X.env)
      let iv ← holding [v, ov] (eval (.Constant (.int i) kk p3) X.env)
      standAt p2
      holding [v, ov, iv] (setItem ov iv v)
      release [v, ov, iv] []) := by exact fun _ => rfl)
    (hs : swapsWithSole [.Subscript (.Name x p1) (.Constant (.int i) kk p3) p2] e pos.line X.env = pure false := by rfl) (hw : swappedStores [.Subscript (.Name x p1) (.Constant (.int i) kk p3) p2] e X.env = pure none := by rfl)
    (h1 : (assignEach [.Subscript (.Name x p1) (.Constant (.int i) kk p3) p2] X.env).map (·.2) = [assign (.Subscript (.Name x p1) (.Constant (.int i) kk p3) p2) X.env] := by rfl) (hd : (x == ("__debug__" : Str)) = false := by decide) (hcd : (x == ("__classdict__" : Str)) = false := by decide) :
    Sr c W X (.Assign [.Subscript (.Name x p1) (.Constant (.int i) kk p3) p2] e pos) (tAsg te (gSub (tVar k) (tC (.int i)) rSetA)) (mSrcSet k i me) :=
  ⟨ps_asg he.pe (pg_sub (pv k hk hv hd hcd) pe_int (set_any (hu_of hr)) ha) hs hw h1, sm_srcSet he.em⟩
/-- source[i], source[0][e], len(source[0]) -/
theorem x_src (k : Nat) {x : Str} {i : Int} {kk k0 : Nat} (hr : Room k0 X.A) (hN : X.N[k]? = some x := by rfl) (hv : Vis X.env.scope x := by first | exact Or.inl rfl | exact Or.inr (Or.inl rfl) | exact Or.inr (Or.inr rfl)) (hK : X.K = c.K := by rfl) (hd : (x == ("__debug__" : Str)) = false := by decide)
    (hcd : (x == ("__classdict__" : Str)) = false := by decide) : Ex c W X (.Subscript (.Name x p1) (.Constant (.int i) kk p2) pos) .fre (tOp (rIxA c.K) (tVar k) (tC (.int i))) (mSrc k i) :=
  ⟨pe_ix (hK ▸ ix_anyA (hu_of hr)) (pv k hN hv hd hcd) pe_int (fun _ _ => rfl), em_src⟩
theorem x_srcCell (k : Nat) {x : Str} {kk k0 : Nat} (hr : Room k0 X.A) (he : Ex c W X e ka te me) (hN : X.N[k]? = some x := by rfl) (hv : Vis X.env.scope x := by first | exact Or.inl rfl | exact Or.inr (Or.inl rfl) | exact Or.inr (Or.inr rfl)) (hs : PlainIx e := by exact fun _ _ => rfl) (hK : X.K = c.K := by rfl) (hd : (x == ("__debug__" : Str)) = false := by decide)
    (hcd : (x == ("__classdict__" : Str)) = false := by decide) : Ex c W X (.Subscript (.Subscript (.Name x p1) (.Constant (.int 0) kk p2) p3) e pos) .fre (tOp (rIxA c.K) (tOp (rIxA c.K) (tVar k) (tC (.int 0))) te) (mSrcCell k me) :=
  ⟨pe_ix (hK ▸ ix_anyA (hu_of hr)) (pe_ix (hK ▸ ix_anyA (hu_of hr)) (pv k hN hv hd hcd) pe_int (fun _ _ => rfl)) he.pe hs, em_srcCell he.em⟩
theorem x_srcLen (k : Nat) {x : Str} {kk k0 : Nat} {p4 : Pos} (hr : Room k0 X.A) (hm : X.mg "len" = none) (hN : X.N[k]? = some x := by rfl) (hv : Vis X.env.scope x := by first | exact Or.inl rfl | exact Or.inr (Or.inl rfl) | exact Or.inr (Or.inr rfl)) (hK : X.K = c.K := by rfl) (hd : (x == ("__debug__" : Str)) = false := by decide)
    (hcd : (x == ("__classdict__" : Str)) = false := by decide) (hg : Gl X "len" := by rfl) : Ex c W X (.Call (.Name "len" p4) [.Subscript (.Name x p1) (.Constant (.int 0) kk p2) p3] [] pos) .fre (tCB (fun xs H Q => ∃ x n, xs = [x] ∧ LenV c.K x H n ∧ Q (.int n) H) (tCons (tOp (rIxA c.K) (tVar k) (tC (.int 0))) tNil)) (mSrcLen k) :=
  ⟨pe_callB (hK ▸ call_len) hg hm PySem.boot_len (pa_cons (pe_ix (hK ▸ ix_anyA (hu_of hr)) (pv k hN hv hd hcd) pe_int (fun _ _ => rfl)) pa_nil), em_srcLen⟩
/-- x.append(e) -/
theorem s_app (k : Nat) {x : Str} {cpos : Pos} (he : Ex c W X e .fre te me) (hK : X.K = c.K := by rfl) (hk : X.N[k]? = some x := by rfl) (hv : Vis X.env.scope x := by first | exact Or.inl rfl | exact Or.inr (Or.inl rfl) | exact Or.inr (Or.inr rfl))
    (hbase : attributeBase (.Name x p1) "append" X.env (eval (.Name x p1) X.env) = eval (.Name x p1) X.env := by rfl)
    (hfew : ((backTo cpos (starEach [e] X.env)).all (fun x => !x.1) && (backToKw cpos (keywordEach [] X.env)).all (fun x => x.1.isSome) && decide ([e].length + ([] : List Keyword).length + (if ([] : List Keyword).isEmpty then 0 else 1) < 30)) = true := by rfl)
    (hline : (p2.endLine == cpos.line) = true := by rfl) (hst : starEach [e] X.env = (false, eval e X.env) :: starEach [] X.env := by rfl) (hpl : (backTo cpos (starEach [] X.env)).any (·.1) = false := by rfl)
    (hs : swapsWith (.Call (.Attribute (.Name x p1) "append" p2) [e] [] cpos) none pos.line X.env = pure false := by rfl) (hd : (x == ("__debug__" : Str)) = false := by decide) (hcd : (x == ("__classdict__" : Str)) = false := by decide) :
    Sr c W X (.Expr (.Call (.Attribute (.Name x p1) "append" p2) [e] [] cpos) pos) (tDrop (tBM c.K "list" rAppend (tVar k) (tCons te tNil))) (mApp k me) :=
  ⟨ps_expr (hK ▸ pe_bm PySem.F.plainAttrs_list PySem.F.slot_list_append PySem.F.type_list_append mt_append (pv k hk hv hd hcd) (pa_cons he.pe pa_nil hst) hbase hfew hline hst hpl) hs, sm_app he.em⟩
/-- x.append(y.pop(e)) -/
theorem s_appPop (k l : Nat) {x y : Str} {cpos p4 cpos2 : Pos} (hkl : k ≠ l) (he : Ex c W X e ka te me)
    (hp : PE X (.Call (.Attribute (.Name x p1) "append" p2) [.Call (.Attribute (.Name y p3) "pop" p4) [e] [] cpos2] [] cpos) (tBM c.K "list" rAppend (tVar k) (tCons (tBM c.K "list" rPopAt (tVar l) (tCons te tNil)) tNil)))
    (hs : swapsWith (.Call (.Attribute (.Name x p1) "append" p2) [.Call (.Attribute (.Name y p3) "pop" p4) [e] [] cpos2] [] cpos) none pos.line X.env = pure false := by rfl) :
    Sr c W X (.Expr (.Call (.Attribute (.Name x p1) "append" p2) [.Call (.Attribute (.Name y p3) "pop" p4) [e] [] cpos2] [] cpos) pos) (tDrop (tBM c.K "list" rAppend (tVar k) (tCons (tBM c.K "list" rPopAt (tVar l) (tCons te tNil)) tNil))) (mAppPop k l me) :=
  ⟨ps_expr hp hs, sm_appPop hkl he.em⟩
/-- a, b = e -/
def mUnp (gm : P → Env → Option Env) (m : Env → M P) : Env → M Out := thenE m fun p ρ s => match gm p ρ with
  | some ρ' => .ok (.nx ρ') s
  | none => .stuck
theorem sm_unp {g : TG} {gm : P → Env → Option Env} (he : EM c W .non te me) (hg : GM c ks g gm) : SM c W (tAsg te g) (mUnp gm me) := by
  intro s0 c0 Fs H0 S pins σ H ρ D r q
  refine he s0 c0 Fs H0 S pins σ H ρ _ r (thenE_post q fun p S' v H' G e r' f x k q' => ?_)
  cases eg : gm p ρ with
  | none => rw [eg] at q'; exact q'.elim
  | some ρ' =>
    rw [eg] at q'
    exact hg s0 c0 Fs H0 S' pins σ H' ρ p v G ρ' _ r' x k eg fun Fs' σ' r2 _ _ _ => q' Fs' σ' H' r2
theorem s_unp (he : Ex c W X e .non te me) (hg : Gr c X tg ks g gm) (hs : swapsWithSole [tg] e pos.line X.env = pure false := by rfl) (hw : swappedStores [tg] e X.env = pure none := by rfl) (h1 : (assignEach [tg] X.env).map (·.2) = [assign tg X.env] := by rfl) :
    Sr c W X (.Assign [tg] e pos) (tAsg te g) (mUnp gm me) := ⟨ps_asg he.pe hg.pg hs hw h1, sm_unp he.em hg.gm⟩
end
/-! ### a def -/
section
variable {Pg : Program} {w : World} {mg : Str → Option Value} {base : Heap} {c : Cn}
/-- a def is what its body's mirror says -/
theorem def_ok {x qual : Str} {st : Stmt} {f : Addr} {fd : FuncData} {N ps : List Str} {k : Nat} {m : Env → M Out} (F : L2.Fun c.K x qual st f fd) (S : FnScope N ps (defScope st)) (hmg : mg x = some (.ref f)) (hb : Binds c.K fd ps [])
    (hbody : ∀ (cdv : Value) (A : Around) (outer : List PySem.Env) (s : Shared) (H : Hp) (E : XK), Room k (A.deeper (envOfC qual (defScope st) s.heap.objs.size f cdv)) →
      ∃ t, Srs c (fun cls d _ H => E cls d H) (cxOf (L2.CX Pg w) Pg w c.K mg base N qual (defScope st) f cdv A outer s H E) (defBody st) t m) : Cl c Pg w c.K mg base x ps.length (fnM N.length m) (k + 1) := by
  refine ⟨f, fd, ps, ?_, hmg, F.kp, hb⟩
  refine F.okX S (fun vs H Q E h => h.1) fun cdv A outer s H vs Q E hr h => ?_
  obtain ⟨t, hs⟩ := hbody cdv A outer s H E hr
  exact ⟨t, hs.ps, fn_read hs.sm h⟩
end
end Mir

/-! Mir10: what a mirror comes to: the rules by which mirrors are run forward. -/
namespace Mir
open PySem PySem.Spec L2
open PyProof.Rows hiding St
def Wy {α : Type} (m : M α) (S : Src) (Q : α → Src → Prop) : Prop := ∃ a S', m S = .ok a S' ∧ Q a S'
abbrev Wx {α : Type} (m : Env → M α) (ρ : Env) (S : Src) (Q : α → Src → Prop) : Prop := Wy (m ρ) S Q
section
variable {α β : Type} {ρ : Env} {S S' : Src} {i j : Nat} {p : P} {md : Md} {ma mb mc me : Env → M P} {ms : Env → M (List P)} {mt mu : Env → M Bool} {Q : P → Src → Prop} {QB : Bool → Src → Prop} {QL : List P → Src → Prop} {QO : Out → Src → Prop}
theorem Wy.of {m : M α} {a : α} {Q : α → Src → Prop} (e : m S = .ok a S') (h : Q a S') : Wy m S Q := ⟨a, S', e, h⟩
theorem Wy.imp {m : M α} {Q Q' : α → Src → Prop} (h : Wy m S Q) (k : ∀ a S', Q a S' → Q' a S') : Wy m S Q' := by
  obtain ⟨a, S', e, q⟩ := h
  exact ⟨a, S', e, k a S' q⟩
theorem wy_ok {a : α} {Q : α → Src → Prop} (h : Q a S) : Wy (fun s => .ok a s) S Q := ⟨a, S, rfl, h⟩
theorem wy_bind {m : M α} {f : α → M β} {Q : β → Src → Prop} (h : Wy m S fun a S1 => Wy (f a) S1 Q) : Wy (M.bind m f) S Q := by
  obtain ⟨a, S1, e, b, S2, e2, q⟩ := h
  refine ⟨b, S2, ?_, q⟩
  unfold M.bind
  rw [e]
  exact e2
theorem wy_lift {o : Option α} {Q : α → Src → Prop} (h : ∃ z, o = some z ∧ Q z S) : Wy (lift o) S Q := by
  obtain ⟨z, rfl, q⟩ := h
  exact ⟨z, S, rfl, q⟩
theorem wx_c (h : Q p S) : Wx (mC p) ρ S Q := ⟨p, S, rfl, h⟩
theorem wx_var (e : ρ[i]? = some (some (p, md))) (h : Q p S) : Wx (mVar i) ρ S Q := ⟨p, S, by unfold mVar; rw [e], h⟩
theorem wx_varN (e : ρ[i]? = some (some (p, md))) (hm : md = .own → p.imm = true) (h : Q p S) : Wx (mVarN i) ρ S Q := ⟨p, S, (by
  unfold mVarN
  rw [e]
  dsimp only
  rw [if_neg]
  rintro ⟨h1, h2⟩
  rw [hm h1] at h2; cases h2), h⟩
theorem wx_imm (h : Wx me ρ S fun p S1 => p.imm = true ∧ Q p S1) : Wx (mImm me) ρ S Q := by
  obtain ⟨p, S1, e, hi, q⟩ := h
  refine ⟨p, S1, ?_, q⟩
  unfold mImm
  rw [e]
  dsimp only
  rw [if_pos hi]
theorem wx_op {f : P → P → Option P} (h : Wx ma ρ S fun a S1 => Wx mb ρ S1 fun b S2 => ∃ z, f a b = some z ∧ Q z S2) : Wx (mOp f ma mb) ρ S Q := wy_bind (h.imp fun _ _ h => wy_bind (h.imp fun _ _ h => wy_lift h))
theorem wx_ix (h : Wx ma ρ S fun a S1 => Wx mb ρ S1 fun b S2 => ∃ z, pIxA a b = some z ∧ Q z S2) : Wx (mIxA ma mb) ρ S Q := wx_op h
theorem wx_sl {ml mh : Env → M (Option Int)} (h : Wx me ρ S fun a S1 => Wx ml ρ S1 fun lo S2 => Wx mh ρ S2 fun hi S3 => ∃ z, pSl a lo hi = some z ∧ Q z S3) : Wx (mSl me ml mh) ρ S Q :=
  wy_bind (h.imp fun _ _ h => wy_bind (h.imp fun _ _ h => wy_bind (h.imp fun _ _ h => wy_lift h)))
theorem wx_noPart {Q : Option Int → Src → Prop} (h : Q none S) : Wx mNoPart ρ S Q := ⟨none, S, rfl, h⟩
theorem wx_part {Q : Option Int → Src → Prop} (h : Wx me ρ S fun p S1 => ∃ i, p = .int i ∧ Q (some i) S1) : Wx (mPart me) ρ S Q := wy_bind (h.imp fun _ _ ⟨i, e, q⟩ => wy_lift ⟨some i, by rw [e]; rfl, q⟩)
theorem wx_nil (h : QL [] S) : Wx mNil ρ S QL := ⟨[], S, rfl, h⟩
theorem wx_cons (h : Wx me ρ S fun p S1 => Wx ms ρ S1 fun ps S2 => QL (p :: ps) S2) : Wx (mCons me ms) ρ S QL := wy_bind (h.imp fun _ _ h => wy_bind (h.imp fun _ _ h => wy_lift ⟨_, rfl, h⟩))
theorem wx_tup (h : Wx ms ρ S fun ps S1 => ps.length ≤ sizeLine ∧ Q (.tup ps) S1) : Wx (mTup ms) ρ S Q := wy_bind (h.imp fun _ _ h => wy_lift ⟨_, by rw [if_pos h.1], h.2⟩)
theorem wx_lst (h : Wx ms ρ S fun ps S1 => ps.length ≤ sizeLine ∧ Q (.lst ps) S1) : Wx (mLst ms) ρ S Q := wy_bind (h.imp fun _ _ h => wy_lift ⟨_, by rw [if_pos h.1], h.2⟩)
theorem wx_dK (h : Q (.dK []) S) : Wx mDK ρ S Q := ⟨_, S, rfl, h⟩
theorem wx_dT (h : Q (.dT []) S) : Wx mDT ρ S Q := ⟨_, S, rfl, h⟩
theorem wx_cb {f : List P → Option P} (h : Wx ms ρ S fun ps S1 => ∃ z, f ps = some z ∧ Q z S1) : Wx (mCB f ms) ρ S Q := wy_bind (h.imp fun _ _ h => wy_lift h)
theorem wx_m1 {f : P → P → Option P} (h : Wx ma ρ S fun a S1 => a.isS = true ∧ Wx mb ρ S1 fun b S2 => ∃ z, f a b = some z ∧ Q z S2) : Wx (mM1 f ma mb) ρ S Q :=
  wy_bind (h.imp fun _ _ h => by rw [if_pos h.1]; exact wy_bind (h.2.imp fun _ _ h => wy_lift h))
theorem wx_call {f : List P → M P} (h : Wx ms ρ S fun ps S1 => Wy (f ps) S1 Q) : Wx (mCall f ms) ρ S Q := wy_bind h
theorem wx_and (h : Wx ma ρ S fun p S1 => ∃ b, p = .bl b ∧ (b = true → Wx mb ρ S1 Q) ∧ (b = false → Q (.bl false) S1)) : Wx (mAnd ma mb) ρ S Q := wy_bind (h.imp fun _ _ ⟨b, e, h1, h2⟩ => by
  subst e
  cases b with
  | true => exact h1 rfl
  | false => exact ⟨_, _, rfl, h2 rfl⟩)
theorem wx_or (h : Wx ma ρ S fun p S1 => ∃ b, p = .bl b ∧ (b = true → Q (.bl true) S1) ∧ (b = false → Wx mb ρ S1 Q)) : Wx (mOr ma mb) ρ S Q := wy_bind (h.imp fun _ _ ⟨b, e, h1, h2⟩ => by
  subst e
  cases b with
  | true => exact ⟨_, _, rfl, h1 rfl⟩
  | false => exact h2 rfl)
theorem wx_notT (h : Wx me ρ S fun p S1 => ∃ b, truP p = some b ∧ Q (.bl (!b)) S1) : Wx (mNotT me) ρ S Q := wy_bind (h.imp fun _ _ ⟨b, e, h⟩ => wy_lift ⟨_, by rw [e]; rfl, h⟩)
theorem wx_if (h : Wx mt ρ S fun b S1 => (b = true → Wx ma ρ S1 Q) ∧ (b = false → Wx mb ρ S1 Q)) : Wx (mIfE mt ma mb) ρ S Q := wy_bind (h.imp fun b _ ⟨h1, h2⟩ => by
  cases b with
  | true => exact h1 rfl
  | false => exact h2 rfl)
theorem wx_chain {f g : P → P → Option P} (h : Wx ma ρ S fun a S1 => Wx mb ρ S1 fun b S2 => ∃ z, f a b = some (.bl z) ∧ (z = true → Wx mc ρ S2 fun d S3 => ∃ y, g b d = some y ∧ Q y S3) ∧ (z = false → Q (.bl false) S2)) : Wx (mChain f g ma mb mc) ρ S Q :=
  wy_bind (h.imp fun _ _ h => wy_bind (h.imp fun _ _ ⟨z, e, h1, h2⟩ => wy_bind (wy_lift ⟨_, e, by
    cases z with
    | true => exact wy_bind ((h1 rfl).imp fun _ _ h => wy_lift h)
    | false => exact ⟨_, _, rfl, h2 rfl⟩⟩)))
theorem wx_tst (h : Wx me ρ S fun p S1 => ∃ b, p = .bl b ∧ QB b S1) : Wx (mTst me) ρ S QB := wy_bind (h.imp fun _ _ ⟨b, e, h⟩ => by subst e; exact ⟨_, _, rfl, h⟩)
theorem wx_tru (h : Wx me ρ S fun p S1 => ∃ b, truP p = some b ∧ QB b S1) : Wx (mTru me) ρ S QB := wy_bind (h.imp fun _ _ h => wy_lift h)
theorem wx_tand (h : Wx mt ρ S fun b S1 => (b = true → Wx mu ρ S1 QB) ∧ (b = false → QB false S1)) : Wx (tAndM mt mu) ρ S QB := wy_bind (h.imp fun b _ ⟨h1, h2⟩ => by
  cases b with
  | true => exact h1 rfl
  | false => exact ⟨_, _, rfl, h2 rfl⟩)
theorem wx_tor (h : Wx mt ρ S fun b S1 => (b = true → QB true S1) ∧ (b = false → Wx mu ρ S1 QB)) : Wx (tOrM mt mu) ρ S QB := wy_bind (h.imp fun b _ ⟨h1, h2⟩ => by
  cases b with
  | true => exact ⟨_, _, rfl, h1 rfl⟩
  | false => exact h2 rfl)
theorem wx_tnot (h : Wx mt ρ S fun b S1 => QB (!b) S1) : Wx (tNotM mt) ρ S QB := wy_bind (h.imp fun _ _ h => ⟨_, _, rfl, h⟩)
theorem wx_yes (h : QB true S) : Wx mYes ρ S QB := ⟨_, _, rfl, h⟩
theorem wx_src {n : Int} (e : ρ[j]? = some (some (.src, md))) (h : ∃ p, S.get n = some p ∧ Q p S) : Wx (mSrc j n) ρ S Q := by
  obtain ⟨p, e2, q⟩ := h
  refine ⟨p, S, ?_, q⟩
  unfold mSrc srcSlot
  rw [e]
  dsimp only
  rw [e2]
theorem wx_srcLen (e : ρ[j]? = some (some (.src, md))) (h : Q (.int S.cells.length) S) : Wx (mSrcLen j) ρ S Q := by
  refine ⟨_, S, ?_, h⟩
  unfold mSrcLen srcSlot
  rw [e]
theorem wx_srcCell (e : ρ[j]? = some (some (.src, md))) (h : Wx me ρ S fun q S1 => ∃ p, cellP S1 q = some p ∧ Q p S1) : Wx (mSrcCell j me) ρ S Q := by
  have h2 : Wy (M.bind (me ρ) (fun q S => match cellP S q with | some p => .ok p S | none => .stuck)) S Q := wy_bind (h.imp fun q S1 ⟨p, e2, h⟩ => ⟨p, S1, by dsimp only; rw [e2], h⟩)
  obtain ⟨a, S', e3, h3⟩ := h2
  refine ⟨a, S', ?_, h3⟩
  unfold mSrcCell
  rw [e]
  exact e3

/-! ### statements -/
theorem wy_thenE {m : Env → M α} {f : α → Env → M Out} (h : Wx m ρ S fun a S1 => Wy (f a ρ) S1 QO) : Wx (thenE m f) ρ S QO := by
  obtain ⟨a, S1, e, b, S2, e2, q⟩ := h
  refine ⟨b, S2, ?_, q⟩
  unfold thenE
  rw [e]
  exact e2
/-- what is wanted behind a first statement -/
def andThen (n : Env → M Out) (QO : Out → Src → Prop) : Out → Src → Prop := fun o S => match o with
  | .nx ρ => Wx n ρ S QO
  | o => QO o S
theorem ws_seq {m n : Env → M Out} (h : Wx m ρ S (andThen n QO)) : Wx (mSeq m n) ρ S QO := by
  obtain ⟨o, S1, e, q⟩ := h
  cases o with
  | nx ρ' =>
    obtain ⟨o2, S2, e2, q2⟩ := q
    exact ⟨o2, S2, by unfold mSeq; rw [e]; exact e2, q2⟩
  | bk ρ' => exact ⟨_, S1, by unfold mSeq; rw [e], q⟩
  | ct ρ' => exact ⟨_, S1, by unfold mSeq; rw [e], q⟩
  | rt p => exact ⟨_, S1, by unfold mSeq; rw [e], q⟩
  | ex a b ρ' => exact ⟨_, S1, by unfold mSeq; rw [e], q⟩
theorem ws_next (h : QO (.nx ρ) S) : Wx mNext ρ S QO := ⟨_, S, rfl, h⟩
theorem ws_set (h : Wx me ρ S fun p S1 => QO (.nx (ρ.set i (some (p, .own)))) S1) : Wx (mSet i me) ρ S QO := wy_thenE (h.imp fun _ _ h => ⟨_, _, rfl, h⟩)
theorem ws_setN (h : Wx me ρ S fun p S1 => QO (.nx (ρ.set i (some (p, .par)))) S1) : Wx (mSetN i me) ρ S QO := wy_thenE (h.imp fun _ _ h => ⟨_, _, rfl, h⟩)
theorem ws_ret (h : Wx me ρ S fun p S1 => QO (.rt p) S1) : Wx (mRet me) ρ S QO := wy_thenE (h.imp fun _ _ h => ⟨_, _, rfl, h⟩)
theorem ws_retV (e : ρ[i]? = some (some (p, md))) (hm : md = .par → p.imm = true) (h : QO (.rt p) S) : Wx (mRetV i) ρ S QO := ⟨_, S, (by
  unfold mRetV
  rw [e]
  dsimp only
  rw [if_neg]
  rintro ⟨h1, h2⟩
  rw [hm h1] at h2; cases h2), h⟩
theorem ws_ret0 (h : QO (.rt .non) S) : Wx mRet0 ρ S QO := ⟨_, S, rfl, h⟩
theorem ws_brk (h : QO (.bk ρ) S) : Wx mBrk ρ S QO := ⟨_, S, rfl, h⟩
theorem ws_cnt (h : QO (.ct ρ) S) : Wx mCnt ρ S QO := ⟨_, S, rfl, h⟩
theorem ws_drop (h : Wx me ρ S fun _ S1 => QO (.nx ρ) S1) : Wx (mDrop me) ρ S QO := wy_thenE (h.imp fun _ _ h => ⟨_, _, rfl, h⟩)
theorem ws_if {m n : Env → M Out} (h : Wx mt ρ S fun b S1 => (b = true → Wx m ρ S1 QO) ∧ (b = false → Wx n ρ S1 QO)) : Wx (mIf mt m n) ρ S QO := wy_thenE (h.imp fun b _ ⟨h1, h2⟩ => by
  cases b with
  | true => exact h1 rfl
  | false => exact h2 rfl)
theorem ws_ali (e : (frz j ρ)[j]? = some (some (p, md))) (hm : md ≠ .own) (h : QO (.nx ((frz j ρ).set i (some (p, md)))) S) : Wx (mAli i j) ρ S QO := ⟨_, S, by
  unfold mAli
  rw [e]
  dsimp only
  rw [if_neg hm], h⟩
theorem wy_setOwn {f : P → Option P} (e : ρ[j]? = some (some (p, .own))) (h : ∃ p', f p = some p' ∧ QO (.nx (ρ.set j (some (p', .own)))) S) : Wx (setOwn j f) ρ S QO := by
  obtain ⟨p', e2, q⟩ := h
  exact ⟨_, S, by unfold setOwn; rw [e]; dsimp only; rw [e2], q⟩
theorem wy_own? {m : Env → M Out} (e : ρ[j]? = some (some (p, .own))) (h : Wx m ρ S QO) : Wx (own? j m) ρ S QO := by
  obtain ⟨o, S1, e1, q⟩ := h
  exact ⟨o, S1, by unfold own?; rw [e]; exact e1, q⟩
theorem ws_store (e : ρ[j]? = some (some (p, .own))) (h : Wx me ρ S fun z S1 => Wx mb ρ S1 fun k S2 => ∃ p', stoP p k z = some p' ∧ QO (.nx (ρ.set j (some (p', .own)))) S2) : Wx (mStore j me mb) ρ S QO :=
  wy_own? e (wy_thenE (h.imp fun _ _ h => wy_thenE (h.imp fun _ _ h => wy_setOwn e h)))
theorem ws_store2 (e : ρ[j]? = some (some (p, .own))) (h : Wx me ρ S fun z S1 => Wx mb ρ S1 fun k S2 => ∃ n, rowOf p k = some n ∧ Wx mc ρ S2 fun l S3 => ∃ p', setRow n l z p = some p' ∧ QO (.nx (ρ.set j (some (p', .own)))) S3) : Wx (mSto2 j me mb mc) ρ S QO := by
  refine wy_own? e (wy_thenE (h.imp fun z S1 h => wy_thenE (h.imp fun k S2 ⟨n, e1, h⟩ => ?_)))
  have h2 := wy_thenE (h.imp fun l S3 h => wy_setOwn e h)
  obtain ⟨o, S4, e4, q⟩ := h2
  refine ⟨o, S4, ?_, q⟩
  dsimp only
  rw [e]
  dsimp only
  rw [e1]
  exact e4
theorem ws_app {ps : List P} (e : ρ[j]? = some (some (.lst ps, .own))) (h : Wx me ρ S fun z S1 => ps.length < sizeLine ∧ QO (.nx (ρ.set j (some (.lst (ps ++ [z]), .own)))) S1) : Wx (mApp j me) ρ S QO := by
  have h2 : Wx (thenE me fun z => setOwn j (appP z)) ρ S QO := wy_thenE (h.imp fun z S1 h => wy_setOwn e ⟨_, by unfold appP; dsimp only; rw [if_pos h.1], h.2⟩)
  obtain ⟨o, S1, e1, q⟩ := h2
  exact ⟨o, S1, by unfold mApp listSlot; rw [e]; exact e1, q⟩
theorem ws_appPop {ps qs : List P} (hjk : j ≠ i) (e : ρ[j]? = some (some (.lst ps, .own))) (e2 : ρ[i]? = some (some (.lst qs, .own)))
    (h : Wx me ρ S fun q S1 => ∃ n y, popIx (.lst qs) q = some n ∧ qs[n]? = some y ∧ ps.length < sizeLine ∧ QO (.nx ((ρ.set i (some (.lst (qs.eraseIdx n), .own))).set j (some (.lst (ps ++ [y]), .own)))) S1) : Wx (mAppPop j i me) ρ S QO := by
  obtain ⟨q, S1, e3, n, y, h1, h2, h3, h4⟩ := h
  refine ⟨_, S1, ?_, h4⟩
  unfold mAppPop listSlot
  rw [e]
  dsimp only
  rw [e2]
  dsimp only
  unfold thenE
  rw [e3]
  dsimp only
  rw [e2]
  dsimp only
  rw [h1]
  dsimp only
  rw [h2]
  dsimp only
  unfold setOwn
  rw [set_ne hjk, e]
  dsimp only
  unfold appP
  dsimp only
  rw [if_pos h3]
theorem ws_srcSet {n : Int} (e : ρ[j]? = some (some (.src, md))) (h : Wx me ρ S fun p S1 => ∃ v S2, p = .int v ∧ S1.set n v = some S2 ∧ QO (.nx ρ) S2) : Wx (mSrcSet j n me) ρ S QO := by
  have h2 : Wx (thenE me (fun p ρ S => match p with
    | .int v => match S.set n v with
      | some S' => .ok (.nx ρ) S'
      | none => .stuck
    | _ => .stuck)) ρ S QO := wy_thenE (h.imp fun p S1 ⟨v, S2, e1, e2, q⟩ => ⟨_, S2, by subst e1; dsimp only; rw [e2], q⟩)
  obtain ⟨o, S1, e1, q⟩ := h2
  exact ⟨o, S1, by unfold mSrcSet; rw [e]; exact e1, q⟩
theorem ws_unp {gm : P → Env → Option Env} (h : Wx me ρ S fun p S1 => ∃ ρ', gm p ρ = some ρ' ∧ QO (.nx ρ') S1) : Wx (mUnp gm me) ρ S QO := wy_thenE (h.imp fun p S1 ⟨ρ', e, q⟩ => ⟨_, S1, by dsimp only; rw [e], q⟩)

/-! ### iterators, loops, comprehensions -/
theorem wi_it {Q : List P × Env → Src → Prop} (h : Wx me ρ S fun p S1 => ∃ ps, itemsA p = some ps ∧ Q (ps, ρ) S1) : Wx (mIt me) ρ S Q := wy_bind (h.imp fun _ _ ⟨ps, e, q⟩ => wy_lift ⟨_, by rw [e]; rfl, q⟩)
theorem wi_var {Q : List P × Env → Src → Prop} {ps : List P} (e : (frz i ρ)[i]? = some (some (p, md))) (hm : md ≠ .own) (e2 : itemsA p = some ps) (h : Q (ps, frz i ρ) S) : Wx (mItV i) ρ S Q := ⟨_, S, by
  unfold mItV
  rw [e]
  dsimp only
  rw [if_neg hm, e2], h⟩
theorem wi_rng {f : List P → Option (List P)} {Q : List P × Env → Src → Prop} (h : Wx ms ρ S fun ps S1 => ∃ qs, f ps = some qs ∧ Q (qs, ρ) S1) : Wx (mRng f ms) ρ S Q := wy_bind (h.imp fun _ _ ⟨ps, e, q⟩ => wy_lift ⟨_, by rw [e]; rfl, q⟩)
/-- a loop, by an invariant over the items that are left -/
theorem wl_loop {g : P → Env → Option Env} {body : Env → M Out} (I : List P → Env → Src → Prop) (step : ∀ p ps ρ S, I (p :: ps) ρ S → ∃ ρ1, g p ρ = some ρ1 ∧ Wx body ρ1 S fun o S' => match o with
    | .nx ρ2 => I ps ρ2 S'
    | .ct ρ2 => I ps ρ2 S'
    | .bk ρ2 => QO (.nx ρ2) S'
    | .rt p => QO (.rt p) S'
    | .ex a b ρ2 => QO (.ex a b ρ2) S') (fin : ∀ ρ S, I [] ρ S → QO (.nx ρ) S) : ∀ ps ρ S, I ps ρ S → Wx (loopM g body ps) ρ S QO
  | [], ρ, S, h => ⟨_, S, rfl, fin ρ S h⟩
  | p :: ps, ρ, S, h => by
    obtain ⟨ρ1, eg, o, S', eb, q⟩ := step p ps ρ S h
    have e : ∀ r, (match body ρ1 S with
      | .ok (.nx ρ2) s' => loopM g body ps ρ2 s'
      | .ok (.ct ρ2) s' => loopM g body ps ρ2 s'
      | .ok (.bk ρ2) s' => .ok (.nx ρ2) s'
      | r => r) = r → loopM g body (p :: ps) ρ S = r := fun r hr => by
      rw [← hr]
      show (match g p ρ with | none => Res.stuck | some ρ1 => _) = _
      rw [eg]
      all_goals rfl
    cases o with
    | nx ρ2 =>
      obtain ⟨o2, S2, e2, q2⟩ := wl_loop I step fin ps ρ2 S' q
      exact ⟨o2, S2, e _ (by rw [eb]; exact e2), q2⟩
    | ct ρ2 =>
      obtain ⟨o2, S2, e2, q2⟩ := wl_loop I step fin ps ρ2 S' q
      exact ⟨o2, S2, e _ (by rw [eb]; exact e2), q2⟩
    | bk ρ2 => exact ⟨_, S', e _ (by rw [eb]), q⟩
    | rt p => exact ⟨_, S', e _ (by rw [eb]), q⟩
    | ex a b ρ2 => exact ⟨_, S', e _ (by rw [eb]), q⟩
theorem ws_for {it : Env → M (List P × Env)} {g : P → Env → Option Env} {body : Env → M Out} (h : Wx it ρ S fun r S1 => Wx (loopM g body r.1) r.2 S1 QO) : Wx (mFor it g body) ρ S QO := by
  obtain ⟨⟨ps, ρ'⟩, S1, e, o, S2, e2, q⟩ := h
  exact ⟨o, S2, by unfold mFor; rw [e]; exact e2, q⟩
theorem wl_lc {g : P → Env → Option Env} {vs : List Nat} (I : List P → List P → Src → Prop) (step : ∀ p ps acc S, I (p :: ps) acc S → ∃ ρ1, g p (wipeE ρ vs) = some ρ1 ∧ Wx mt ρ1 S fun b S1 => (b = true → Wx me ρ1 S1 fun q S2 => acc.length < sizeLine ∧ I ps (acc ++ [q]) S2) ∧ (b = false → I ps acc S1))
    (fin : ∀ acc S, I [] acc S → Q (.lst acc) S) : ∀ ps acc S, I ps acc S → ∃ p S', finLc (lcM g mt me vs ps acc ρ S) = .ok p S' ∧ Q p S'
  | [], acc, S, h => ⟨_, S, rfl, fin acc S h⟩
  | p :: ps, acc, S, h => by
    obtain ⟨ρ1, eg, b, S1, et, h1, h2⟩ := step p ps acc S h
    cases b with
    | true =>
      obtain ⟨q, S2, ee, hl, hI⟩ := h1 rfl
      obtain ⟨r, S3, e3, q3⟩ := wl_lc I step fin ps _ S2 hI
      refine ⟨r, S3, ?_, q3⟩
      unfold lcM
      rw [eg]
      dsimp only
      rw [et]
      dsimp only
      rw [ee]
      dsimp only
      rw [if_pos hl]
      exact e3
    | false =>
      obtain ⟨r, S3, e3, q3⟩ := wl_lc I step fin ps acc S1 (h2 rfl)
      refine ⟨r, S3, ?_, q3⟩
      unfold lcM
      rw [eg]
      dsimp only
      rw [et]
      exact e3
theorem wx_lc {it : Env → M (List P × Env)} {g : P → Env → Option Env} {vs : List Nat} (h : Wx it ρ S fun r S1 => ∃ p S', finLc (lcM g mt me vs r.1 [] r.2 S1) = .ok p S' ∧ Q p S') : Wx (mLc it g mt me vs) ρ S Q := by
  obtain ⟨⟨ps, ρ'⟩, S1, e, p, S2, e2, q⟩ := h
  exact ⟨p, S2, by unfold mLc; rw [e]; exact e2, q⟩
/-- a def -/
def retQ (Q : P → Src → Prop) : Out → Src → Prop := fun o S => match o with
  | .rt p => Q p S
  | .nx _ => Q .non S
  | _ => False
theorem wy_fn {n : Nat} {m : Env → M Out} {ps : List P} (h : Wx m (startE n ps) S (retQ Q)) : Wy (fnM n m ps) S Q := by
  obtain ⟨o, S1, e, q⟩ := h
  cases o with
  | rt p => exact ⟨p, S1, by unfold fnM; rw [e]; rfl, q⟩
  | nx ρ' => exact ⟨.non, S1, by unfold fnM; rw [e]; rfl, q⟩
  | bk _ => exact q.elim
  | ct _ => exact q.elim
  | ex _ _ _ => exact q.elim
end
end Mir

namespace G
open PySem PySem.Spec L2 Mir
open PyProof.Rows hiding St
abbrev Env := Mir.Env
def topS (i : Nat) : Stmt := PySem.Challenge.pw_thrownslips_k95_bounds_small_judges.main.body.getD i (.Pass ⟨0, 0, 0, 0⟩)
structure Bn (mg : Str → Option Value) : Prop where
  n_len : mg "len" = none
  n_range : mg "range" = none
  n_int : mg "int" = none
  n_bool : mg "bool" = none
  n_str : mg "str" = none
  n_min : mg "min" = none
  n_max : mg "max" = none
  n_sum : mg "sum" = none
  n_tuple : mg "tuple" = none
  n_list : mg "list" = none
  n_isinstance : mg "isinstance" = none
theorem bt_int : bootBuiltins "int" = some (.type "int") := by decide +kernel
theorem bt_bool : bootBuiltins "bool" = some (.type "bool") := by decide +kernel
theorem bt_tuple : bootBuiltins "tuple" = some (.type "tuple") := by decide +kernel
abbrev pStrI : List P → Option P := on1 fun p => match p with
    | .int i => if i.natAbs.log2 < 1920 then some (.str (toString i)) else none
    | _ => none
section
variable {Pg : Program} {w : World} {mg : Str → Option Value} {base : Heap} {c : Cn}
/-! walk -/
abbrev s_walk : Stmt := topS 1
def b1_walk : Env → M Out := (mSeq (mSet 6 (mImm (mIxA (mIxA (mVar 3) (mVar 1)) (mVar 5))))
  (mSeq (mIf (mTst (mOp pIsN (mVar 6) (mC .non)))
  (mRet (mC .non))
  mNext)
  (mSeq (mSet 1 (mImm (mIxA (mVar 6) (mC (.int 0)))))
  (mSet 4 (mOp pAdd (mVar 4) (mIxA (mVar 6) (mC (.int 1))))))))
def m_walk : Env → M Out := (mSeq (mSet 3 (mImm (mIxA (mVar 0) (mC (.int 2)))))
  (mSeq (mSet 4 (mC (.int 0)))
  (mSeq (mFor (mItV 2) (gmName 5) b1_walk)
  (mRet (mTup (mCons (mImm (mVar 1)) (mCons (mImm (mVar 4)) mNil)))))))
def f_walk : List P → M P := fnM 7 m_walk
theorem sc_walk : FnScope ["machine", "state", "word", "moves", "fares", "kind", "move"] ["machine", "state", "word"] (defScope s_walk) := ⟨rfl, rfl, rfl, by decide +kernel, rfl, by decide +kernel, by decide +kernel⟩
theorem ok_walk {f : Addr} {fd : FuncData} (F : L2.Fun c.K "walk" "walk" s_walk f fd) (g : mg "walk" = some (.ref f)) (b : Binds c.K fd ["machine", "state", "word"] []) (T : Bn mg)  : Cl c Pg w c.K mg base "walk" 3 f_walk 1 := by
  refine def_ok (N := ["machine", "state", "word", "moves", "fares", "kind", "move"]) (k := 0) F sc_walk g b fun cdv A outer s H E hr => ?_
  have nd : (["machine", "state", "word", "moves", "fares", "kind", "move"] : List Str).Nodup := sc_walk.nd
  have tk : Takes (cxOf (L2.CX Pg w) Pg w c.K mg base ["machine", "state", "word", "moves", "fares", "kind", "move"] "walk" (defScope s_walk) f cdv A outer s H E) (fun cls d _ H => E cls d H) := takes_of rfl rfl rfl rfl
  have hp : PassesOwn (model Pg w) (cxOf (L2.CX Pg w) Pg w c.K mg base ["machine", "state", "word", "moves", "fares", "kind", "move"] "walk" (defScope s_walk) f cdv A outer s H E).A (cxOf (L2.CX Pg w) Pg w c.K mg base ["machine", "state", "word", "moves", "fares", "kind", "move"] "walk" (defScope s_walk) f cdv A outer s H E).env (cxOf (L2.CX Pg w) Pg w c.K mg base ["machine", "state", "word", "moves", "fares", "kind", "move"] "walk" (defScope s_walk) f cdv A outer s H E).xe := passes_of rfl
  exact ⟨_, (ss_cons (s_set 3 nd (x_imm (x_ix hr (x_var 0) x_int)))
  (ss_cons (s_set 4 nd x_int)
  (ss_cons (s_for hp (i_var 2) (g_name 5 nd)
  (ss_cons (s_set 6 nd (x_imm (x_ix hr (x_ix hr (x_var 3) (x_var 1)) (x_var 5))))
  (ss_cons (s_if (t_cmp k_is (x_var 6) x_non)
  (ss_one (s_ret x_non))
  ss_nil)
  (ss_cons (s_set 1 nd (x_imm (x_ix hr (x_var 6) x_int)))
  (ss_one (s_set 4 nd (x_add (x_var 4) (x_ix hr (x_var 6) x_int))))))))
  (ss_one (s_ret (x_tup (a_cons (x_imm (x_var 1)) (a_cons (x_imm (x_var 4)) a_nil))))))))⟩

/-! price -/
abbrev s_price : Stmt := topS 2
def m_price : Env → M Out := (mSeq (mSet 3 (mCall f_walk (mCons (mVar 0) (mCons (mVar 1) (mCons (mVar 2) mNil)))))
  (mSeq (mIf (mTst (mOp pIsN (mVar 3) (mC .non)))
  (mRet (mC .non))
  mNext)
  (mSeq (mSet 4 (mImm (mIxA (mIxA (mVar 0) (mC (.int 3))) (mIxA (mVar 3) (mC (.int 0))))))
  (mSeq (mIf (mTst (mOp pIsN (mVar 4) (mC .non)))
  (mRet (mC .non))
  mNext)
  (mRet (mOp pAdd (mIxA (mVar 3) (mC (.int 1))) (mVar 4)))))))
def f_price : List P → M P := fnM 5 m_price
theorem sc_price : FnScope ["machine", "state", "word", "behind", "fee"] ["machine", "state", "word"] (defScope s_price) := ⟨rfl, rfl, rfl, by decide +kernel, rfl, by decide +kernel, by decide +kernel⟩
theorem ok_price {f : Addr} {fd : FuncData} (F : L2.Fun c.K "price" "price" s_price f fd) (g : mg "price" = some (.ref f)) (b : Binds c.K fd ["machine", "state", "word"] []) (T : Bn mg) (C_walk : Cl c Pg w c.K mg base "walk" 3 f_walk 1) : Cl c Pg w c.K mg base "price" 3 f_price 2 := by
  refine def_ok (N := ["machine", "state", "word", "behind", "fee"]) (k := 1) F sc_price g b fun cdv A outer s H E hr => ?_
  have nd : (["machine", "state", "word", "behind", "fee"] : List Str).Nodup := sc_price.nd
  have tk : Takes (cxOf (L2.CX Pg w) Pg w c.K mg base ["machine", "state", "word", "behind", "fee"] "price" (defScope s_price) f cdv A outer s H E) (fun cls d _ H => E cls d H) := takes_of rfl rfl rfl rfl
  have hp : PassesOwn (model Pg w) (cxOf (L2.CX Pg w) Pg w c.K mg base ["machine", "state", "word", "behind", "fee"] "price" (defScope s_price) f cdv A outer s H E).A (cxOf (L2.CX Pg w) Pg w c.K mg base ["machine", "state", "word", "behind", "fee"] "price" (defScope s_price) f cdv A outer s H E).env (cxOf (L2.CX Pg w) Pg w c.K mg base ["machine", "state", "word", "behind", "fee"] "price" (defScope s_price) f cdv A outer s H E).xe := passes_of rfl
  exact ⟨_, (ss_cons (s_set 3 nd (x_call C_walk hr tk (a_cons (x_var 0) (a_cons (x_var 1) (a_cons (x_var 2) a_nil)))))
  (ss_cons (s_if (t_cmp k_is (x_var 3) x_non)
  (ss_one (s_ret x_non))
  ss_nil)
  (ss_cons (s_set 4 nd (x_imm (x_ix hr (x_ix hr (x_var 0) x_int) (x_ix hr (x_var 3) x_int))))
  (ss_cons (s_if (t_cmp k_is (x_var 4) x_non)
  (ss_one (s_ret x_non))
  ss_nil)
  (ss_one (s_ret (x_add (x_ix hr (x_var 3) x_int) (x_var 4))))))))⟩

/-! good_word -/
abbrev s_good_word : Stmt := topS 3
def b1_good_word : Env → M Out := (mIf (tOrM (tNotM (mTru (mCB (on2 pIsi) (mCons (mVar 2) (mCons (mC (.ty "int")) mNil))))) (tOrM (mTru (mCB (on2 pIsi) (mCons (mVar 2) (mCons (mC (.ty "bool")) mNil)))) (tNotM (mTst (mChain pLe pLt (mC (.int 0)) (mVar 2) (mCB (on1 pLen) (mCons (mIxA (mVar 0) (mC (.int 0))) mNil)))))))
  (mRet (mC (.bl false)))
  mNext)
def m_good_word : Env → M Out := (mSeq (mIf (tNotM (mTru (mCB (on2 pIsi) (mCons (mVar 1) (mCons (mC (.ty "tuple")) mNil)))))
  (mRet (mC (.bl false)))
  mNext)
  (mSeq (mFor (mItV 1) (gmName 2) b1_good_word)
  (mRet (mC (.bl true)))))
def f_good_word : List P → M P := fnM 3 m_good_word
theorem sc_good_word : FnScope ["machine", "word", "kind"] ["machine", "word"] (defScope s_good_word) := ⟨rfl, rfl, rfl, by decide +kernel, rfl, by decide +kernel, by decide +kernel⟩
theorem ok_good_word {f : Addr} {fd : FuncData} (F : L2.Fun c.K "good_word" "good_word" s_good_word f fd) (g : mg "good_word" = some (.ref f)) (b : Binds c.K fd ["machine", "word"] []) (T : Bn mg)  : Cl c Pg w c.K mg base "good_word" 2 f_good_word 1 := by
  refine def_ok (N := ["machine", "word", "kind"]) (k := 0) F sc_good_word g b fun cdv A outer s H E hr => ?_
  have nd : (["machine", "word", "kind"] : List Str).Nodup := sc_good_word.nd
  have tk : Takes (cxOf (L2.CX Pg w) Pg w c.K mg base ["machine", "word", "kind"] "good_word" (defScope s_good_word) f cdv A outer s H E) (fun cls d _ H => E cls d H) := takes_of rfl rfl rfl rfl
  have hp : PassesOwn (model Pg w) (cxOf (L2.CX Pg w) Pg w c.K mg base ["machine", "word", "kind"] "good_word" (defScope s_good_word) f cdv A outer s H E).A (cxOf (L2.CX Pg w) Pg w c.K mg base ["machine", "word", "kind"] "good_word" (defScope s_good_word) f cdv A outer s H E).env (cxOf (L2.CX Pg w) Pg w c.K mg base ["machine", "word", "kind"] "good_word" (defScope s_good_word) f cdv A outer s H E).xe := passes_of rfl
  exact ⟨_, (ss_cons (s_if (t_not (t_tru (x_bi (b_isi T.n_isinstance) (a_cons (x_var 1) (a_cons (x_any (x_ty T.n_tuple bt_tuple)) a_nil)))))
  (ss_one (s_ret x_bl))
  ss_nil)
  (ss_cons (s_for hp (i_var 1) (g_name 2 nd)
  (ss_one (s_if (t_w (w_or (t_not (t_tru (x_bi (b_isi T.n_isinstance) (a_cons (x_var 2) (a_cons (x_any (x_ty T.n_int bt_int)) a_nil))))) (w_or (t_tru (x_bi (b_isi T.n_isinstance) (a_cons (x_var 2) (a_cons (x_any (x_ty T.n_bool bt_bool)) a_nil)))) (w_or1 (t_not (t_chain k_le k_lt (x_any x_int) (x_var 2) (x_any (x_bi (b_len T.n_len) (a_cons (x_ix hr (x_var 0) x_int) a_nil)))))))))
  (ss_one (s_ret x_bl))
  ss_nil)))
  (ss_one (s_ret x_bl))))⟩

/-! is_state -/
abbrev s_is_state : Stmt := topS 4
def m_is_state : Env → M Out := (mSeq (mIf (tOrM (tNotM (mTru (mCB (on2 pIsi) (mCons (mVar 1) (mCons (mC (.ty "int")) mNil))))) (mTru (mCB (on2 pIsi) (mCons (mVar 1) (mCons (mC (.ty "bool")) mNil)))))
  (mRet (mC (.bl false)))
  mNext)
  (mRet (mChain pLe pLt (mC (.int 0)) (mVar 1) (mCB (on1 pLen) (mCons (mIxA (mVar 0) (mC (.int 1))) mNil)))))
def f_is_state : List P → M P := fnM 2 m_is_state
theorem sc_is_state : FnScope ["machine", "state"] ["machine", "state"] (defScope s_is_state) := ⟨rfl, rfl, rfl, by decide +kernel, rfl, by decide +kernel, by decide +kernel⟩
theorem ok_is_state {f : Addr} {fd : FuncData} (F : L2.Fun c.K "is_state" "is_state" s_is_state f fd) (g : mg "is_state" = some (.ref f)) (b : Binds c.K fd ["machine", "state"] []) (T : Bn mg)  : Cl c Pg w c.K mg base "is_state" 2 f_is_state 1 := by
  refine def_ok (N := ["machine", "state"]) (k := 0) F sc_is_state g b fun cdv A outer s H E hr => ?_
  have nd : (["machine", "state"] : List Str).Nodup := sc_is_state.nd
  have tk : Takes (cxOf (L2.CX Pg w) Pg w c.K mg base ["machine", "state"] "is_state" (defScope s_is_state) f cdv A outer s H E) (fun cls d _ H => E cls d H) := takes_of rfl rfl rfl rfl
  have hp : PassesOwn (model Pg w) (cxOf (L2.CX Pg w) Pg w c.K mg base ["machine", "state"] "is_state" (defScope s_is_state) f cdv A outer s H E).A (cxOf (L2.CX Pg w) Pg w c.K mg base ["machine", "state"] "is_state" (defScope s_is_state) f cdv A outer s H E).env (cxOf (L2.CX Pg w) Pg w c.K mg base ["machine", "state"] "is_state" (defScope s_is_state) f cdv A outer s H E).xe := passes_of rfl
  exact ⟨_, (ss_cons (s_if (t_w (w_or (t_not (t_tru (x_bi (b_isi T.n_isinstance) (a_cons (x_var 1) (a_cons (x_any (x_ty T.n_int bt_int)) a_nil))))) (w_or1 (t_tru (x_bi (b_isi T.n_isinstance) (a_cons (x_var 1) (a_cons (x_any (x_ty T.n_bool bt_bool)) a_nil)))))))
  (ss_one (s_ret x_bl))
  ss_nil)
  (ss_one (s_ret (x_chain k_le k_lt (x_any x_int) (x_var 1) (x_any (x_bi (b_len T.n_len) (a_cons (x_ix hr (x_var 0) x_int) a_nil)))))))⟩

/-! deads_close -/
abbrev s_deads_close : Stmt := topS 6
def b1_deads_close : Env → M Out := (mSeq (mIf (tOrM (tNotM (mTru (mCall f_is_state (mCons (mVar 0) (mCons (mVar 3) mNil))))) (mTst (mOp pInA (mVar 3) (mVar 2))))
  (mRet (mC (.bl false)))
  mNext)
  (mStore 2 (mC (.bl true)) (mVar 3)))
def b2_deads_close : Env → M Out := (mIf (tAndM (mTst (mOp pNotN (mVar 4) (mC .non))) (mTst (mOp pNotInA (mIxA (mVar 4) (mC (.int 0))) (mVar 2))))
  (mRet (mC (.bl false)))
  mNext)
def b3_deads_close : Env → M Out := (mSeq (mIf (mTst (mOp pNotN (mIxA (mIxA (mVar 0) (mC (.int 3))) (mVar 3)) (mC .non)))
  (mRet (mC (.bl false)))
  mNext)
  (mFor (mIt (mIxA (mIxA (mVarN 0) (mC (.int 2))) (mVar 3))) (gmName 4) b2_deads_close))
def m_deads_close : Env → M Out := (mSeq (mSet 2 mDK)
  (mSeq (mFor (mItV 1) (gmName 3) b1_deads_close)
  (mSeq (mFor (mItV 1) (gmName 3) b3_deads_close)
  (mRet (mC (.bl true))))))
def f_deads_close : List P → M P := fnM 5 m_deads_close
theorem sc_deads_close : FnScope ["machine", "deads", "held", "state", "move"] ["machine", "deads"] (defScope s_deads_close) := ⟨rfl, rfl, rfl, by decide +kernel, rfl, by decide +kernel, by decide +kernel⟩
theorem ok_deads_close {f : Addr} {fd : FuncData} (F : L2.Fun c.K "deads_close" "deads_close" s_deads_close f fd) (g : mg "deads_close" = some (.ref f)) (b : Binds c.K fd ["machine", "deads"] []) (T : Bn mg) (C_is_state : Cl c Pg w c.K mg base "is_state" 2 f_is_state 1) : Cl c Pg w c.K mg base "deads_close" 2 f_deads_close 2 := by
  refine def_ok (N := ["machine", "deads", "held", "state", "move"]) (k := 1) F sc_deads_close g b fun cdv A outer s H E hr => ?_
  have nd : (["machine", "deads", "held", "state", "move"] : List Str).Nodup := sc_deads_close.nd
  have tk : Takes (cxOf (L2.CX Pg w) Pg w c.K mg base ["machine", "deads", "held", "state", "move"] "deads_close" (defScope s_deads_close) f cdv A outer s H E) (fun cls d _ H => E cls d H) := takes_of rfl rfl rfl rfl
  have hp : PassesOwn (model Pg w) (cxOf (L2.CX Pg w) Pg w c.K mg base ["machine", "deads", "held", "state", "move"] "deads_close" (defScope s_deads_close) f cdv A outer s H E).A (cxOf (L2.CX Pg w) Pg w c.K mg base ["machine", "deads", "held", "state", "move"] "deads_close" (defScope s_deads_close) f cdv A outer s H E).env (cxOf (L2.CX Pg w) Pg w c.K mg base ["machine", "deads", "held", "state", "move"] "deads_close" (defScope s_deads_close) f cdv A outer s H E).xe := passes_of rfl
  exact ⟨_, (ss_cons (s_set 2 nd x_dK)
  (ss_cons (s_for hp (i_var 1) (g_name 3 nd)
  (ss_cons (s_if (t_w (w_or (t_not (t_tru (x_call C_is_state hr tk (a_cons (x_var 0) (a_cons (x_var 3) a_nil))))) (w_or1 (t_cmp (k_in hr) (x_var 3) (x_var 2)))))
  (ss_one (s_ret x_bl))
  ss_nil)
  (ss_one (s_store 2 hr x_bl (x_var 3)))))
  (ss_cons (s_for hp (i_var 1) (g_name 3 nd)
  (ss_cons (s_if (t_cmp k_isnot (x_ix hr (x_ix hr (x_var 0) x_int) (x_var 3)) x_non)
  (ss_one (s_ret x_bl))
  ss_nil)
  (ss_one (s_for hp (i_any (x_ix hr (x_ix hr (x_varN 0) x_int) (x_var 3))) (g_name 4 nd)
  (ss_one (s_if (t_w (w_and (t_cmp k_isnot (x_var 4) x_non) (w_and1 (t_cmp (k_notin hr) (x_ix hr (x_var 4) x_int) (x_var 2)))))
  (ss_one (s_ret x_bl))
  ss_nil))))))
  (ss_one (s_ret x_bl)))))⟩

/-! base_of -/
abbrev s_base_of : Stmt := topS 8
def m_base_of : Env → M Out := (mRet (mIxA (mM1 pSplit (mVar 0) (mC (.str "@"))) (mC (.int 0))))
def f_base_of : List P → M P := fnM 1 m_base_of
theorem sc_base_of : FnScope ["name"] ["name"] (defScope s_base_of) := ⟨rfl, rfl, rfl, by decide +kernel, rfl, by decide +kernel, by decide +kernel⟩
theorem ok_base_of {f : Addr} {fd : FuncData} (F : L2.Fun c.K "base_of" "base_of" s_base_of f fd) (g : mg "base_of" = some (.ref f)) (b : Binds c.K fd ["name"] []) (T : Bn mg)  : Cl c Pg w c.K mg base "base_of" 1 f_base_of 1 := by
  refine def_ok (N := ["name"]) (k := 0) F sc_base_of g b fun cdv A outer s H E hr => ?_
  have nd : (["name"] : List Str).Nodup := sc_base_of.nd
  have tk : Takes (cxOf (L2.CX Pg w) Pg w c.K mg base ["name"] "base_of" (defScope s_base_of) f cdv A outer s H E) (fun cls d _ H => E cls d H) := takes_of rfl rfl rfl rfl
  have hp : PassesOwn (model Pg w) (cxOf (L2.CX Pg w) Pg w c.K mg base ["name"] "base_of" (defScope s_base_of) f cdv A outer s H E).A (cxOf (L2.CX Pg w) Pg w c.K mg base ["name"] "base_of" (defScope s_base_of) f cdv A outer s H E).env (cxOf (L2.CX Pg w) Pg w c.K mg base ["name"] "base_of" (defScope s_base_of) f cdv A outer s H E).xe := passes_of rfl
  exact ⟨_, (ss_one (s_ret (x_ix hr (x_split (x_var 0) x_str) x_int)))⟩

/-! mark_of -/
abbrev s_mark_of : Stmt := topS 9
def m_mark_of : Env → M Out := (mRet (mIxA (mM1 pSplit (mCall f_base_of (mCons (mVar 0) mNil)) (mC (.str "/"))) (mC (.int 0))))
def f_mark_of : List P → M P := fnM 1 m_mark_of
theorem sc_mark_of : FnScope ["name"] ["name"] (defScope s_mark_of) := ⟨rfl, rfl, rfl, by decide +kernel, rfl, by decide +kernel, by decide +kernel⟩
theorem ok_mark_of {f : Addr} {fd : FuncData} (F : L2.Fun c.K "mark_of" "mark_of" s_mark_of f fd) (g : mg "mark_of" = some (.ref f)) (b : Binds c.K fd ["name"] []) (T : Bn mg) (C_base_of : Cl c Pg w c.K mg base "base_of" 1 f_base_of 1) : Cl c Pg w c.K mg base "mark_of" 1 f_mark_of 2 := by
  refine def_ok (N := ["name"]) (k := 1) F sc_mark_of g b fun cdv A outer s H E hr => ?_
  have nd : (["name"] : List Str).Nodup := sc_mark_of.nd
  have tk : Takes (cxOf (L2.CX Pg w) Pg w c.K mg base ["name"] "mark_of" (defScope s_mark_of) f cdv A outer s H E) (fun cls d _ H => E cls d H) := takes_of rfl rfl rfl rfl
  have hp : PassesOwn (model Pg w) (cxOf (L2.CX Pg w) Pg w c.K mg base ["name"] "mark_of" (defScope s_mark_of) f cdv A outer s H E).A (cxOf (L2.CX Pg w) Pg w c.K mg base ["name"] "mark_of" (defScope s_mark_of) f cdv A outer s H E).env (cxOf (L2.CX Pg w) Pg w c.K mg base ["name"] "mark_of" (defScope s_mark_of) f cdv A outer s H E).xe := passes_of rfl
  exact ⟨_, (ss_one (s_ret (x_ix hr (x_split (x_call C_base_of hr tk (a_cons (x_var 0) a_nil)) x_str) x_int)))⟩

/-! fits_goes -/
abbrev s_fits_goes : Stmt := topS 10
def m_fits_goes : Env → M Out := (mSeq (mIf (mTst (mOp pEq (mVar 0) (mC (.str "any"))))
  (mRet (mC (.bl true)))
  mNext)
  (mSeq (mIf (mTst (mOp pInA (mC (.str "/")) (mVar 0)))
  (mRet (mOp pEq (mCall f_base_of (mCons (mVar 1) mNil)) (mVar 0)))
  mNext)
  (mRet (mOp pEq (mCall f_mark_of (mCons (mVar 1) mNil)) (mVar 0)))))
def f_fits_goes : List P → M P := fnM 2 m_fits_goes
theorem sc_fits_goes : FnScope ["pattern", "name"] ["pattern", "name"] (defScope s_fits_goes) := ⟨rfl, rfl, rfl, by decide +kernel, rfl, by decide +kernel, by decide +kernel⟩
theorem ok_fits_goes {f : Addr} {fd : FuncData} (F : L2.Fun c.K "fits_goes" "fits_goes" s_fits_goes f fd) (g : mg "fits_goes" = some (.ref f)) (b : Binds c.K fd ["pattern", "name"] []) (T : Bn mg) (C_base_of : Cl c Pg w c.K mg base "base_of" 1 f_base_of 1) (C_mark_of : Cl c Pg w c.K mg base "mark_of" 1 f_mark_of 2) : Cl c Pg w c.K mg base "fits_goes" 2 f_fits_goes 3 := by
  refine def_ok (N := ["pattern", "name"]) (k := 2) F sc_fits_goes g b fun cdv A outer s H E hr => ?_
  have nd : (["pattern", "name"] : List Str).Nodup := sc_fits_goes.nd
  have tk : Takes (cxOf (L2.CX Pg w) Pg w c.K mg base ["pattern", "name"] "fits_goes" (defScope s_fits_goes) f cdv A outer s H E) (fun cls d _ H => E cls d H) := takes_of rfl rfl rfl rfl
  have hp : PassesOwn (model Pg w) (cxOf (L2.CX Pg w) Pg w c.K mg base ["pattern", "name"] "fits_goes" (defScope s_fits_goes) f cdv A outer s H E).A (cxOf (L2.CX Pg w) Pg w c.K mg base ["pattern", "name"] "fits_goes" (defScope s_fits_goes) f cdv A outer s H E).env (cxOf (L2.CX Pg w) Pg w c.K mg base ["pattern", "name"] "fits_goes" (defScope s_fits_goes) f cdv A outer s H E).xe := passes_of rfl
  exact ⟨_, (ss_cons (s_if (t_cmp (k_eq hr) (x_var 0) x_str)
  (ss_one (s_ret x_bl))
  ss_nil)
  (ss_cons (s_if (t_cmp (k_in hr) x_str (x_var 0))
  (ss_one (s_ret (x_cmp (k_eq hr) (x_call C_base_of hr tk (a_cons (x_var 1) a_nil)) (x_var 0))))
  ss_nil)
  (ss_one (s_ret (x_cmp (k_eq hr) (x_call C_mark_of hr tk (a_cons (x_var 1) a_nil)) (x_var 0))))))⟩

/-! ahead_of -/
abbrev s_ahead_of : Stmt := topS 12
def b1_ahead_of : Env → M Out := (mSeq (mSet 4 (mLc (mItV 1) (gmTup 2 (gmCons (gmName 5) (gmCons (gmName 6) gmNil))) (mTru (mCall f_fits_goes (mCons (mVar 5) (mCons (mVar 3) mNil)))) (mImm (mVar 6)) [5, 6]))
  (mApp 2 (mIfE (mTru (mVar 4)) (mCB (on1 pMaxL) (mCons (mVar 4) mNil)) (mC .non))))
def m_ahead_of : Env → M Out := (mSeq (mSet 2 (mLst mNil))
  (mSeq (mFor (mIt (mIxA (mVarN 0) (mC (.int 1)))) (gmName 3) b1_ahead_of)
  (mRet (mCB (on1 pTup) (mCons (mVar 2) mNil)))))
def f_ahead_of : List P → M P := fnM 7 m_ahead_of
theorem sc_ahead_of : FnScope ["machine", "bounds", "table", "name", "numbers", "pattern", "number"] ["machine", "bounds"] (defScope s_ahead_of) := ⟨rfl, rfl, rfl, by decide +kernel, rfl, by decide +kernel, by decide +kernel⟩
theorem ok_ahead_of {f : Addr} {fd : FuncData} (F : L2.Fun c.K "ahead_of" "ahead_of" s_ahead_of f fd) (g : mg "ahead_of" = some (.ref f)) (b : Binds c.K fd ["machine", "bounds"] []) (T : Bn mg) (C_fits_goes : Cl c Pg w c.K mg base "fits_goes" 2 f_fits_goes 3) : Cl c Pg w c.K mg base "ahead_of" 2 f_ahead_of 4 := by
  refine def_ok (N := ["machine", "bounds", "table", "name", "numbers", "pattern", "number"]) (k := 3) F sc_ahead_of g b fun cdv A outer s H E hr => ?_
  have nd : (["machine", "bounds", "table", "name", "numbers", "pattern", "number"] : List Str).Nodup := sc_ahead_of.nd
  have tk : Takes (cxOf (L2.CX Pg w) Pg w c.K mg base ["machine", "bounds", "table", "name", "numbers", "pattern", "number"] "ahead_of" (defScope s_ahead_of) f cdv A outer s H E) (fun cls d _ H => E cls d H) := takes_of rfl rfl rfl rfl
  have hp : PassesOwn (model Pg w) (cxOf (L2.CX Pg w) Pg w c.K mg base ["machine", "bounds", "table", "name", "numbers", "pattern", "number"] "ahead_of" (defScope s_ahead_of) f cdv A outer s H E).A (cxOf (L2.CX Pg w) Pg w c.K mg base ["machine", "bounds", "table", "name", "numbers", "pattern", "number"] "ahead_of" (defScope s_ahead_of) f cdv A outer s H E).env (cxOf (L2.CX Pg w) Pg w c.K mg base ["machine", "bounds", "table", "name", "numbers", "pattern", "number"] "ahead_of" (defScope s_ahead_of) f cdv A outer s H E).xe := passes_of rfl
  exact ⟨_, (ss_cons (s_set 2 nd (x_lst a_nil))
  (ss_cons (s_for hp (i_any (x_ix hr (x_varN 0) x_int)) (g_name 3 nd)
  (ss_cons (s_setLc 4 [("pattern", 5), ("number", 6)] nd (i_var 1) (by kernel_rfl) (fun _ _ _ _ _ => (g_tup (gs_cons (g_name 5 nd) (gs_cons (g_name 6 nd) gs_nil)))) (fun _ _ _ _ _ => (ts_one (t_tru (x_call C_fits_goes hr takesF (a_cons (x_var 5) (a_cons (x_var 3) a_nil)))))) (fun _ _ _ _ _ => (x_imm (x_var 6))))
  (ss_one (s_app 2 (x_if (t_tru (x_var 4)) (x_bi (b_maxL T.n_max) (a_cons (x_var 4) a_nil)) x_non)))))
  (ss_one (s_ret (x_bi (b_tuple T.n_tuple) (a_cons (x_var 2) a_nil))))))⟩

/-! floors_hold -/
abbrev s_floors_hold : Stmt := topS 13
def b1_floors_hold : Env → M Out := (mSeq (mIf (tOrM (mTst (mOp pIsN (mVar 5) (mC .non))) (mTst (mOp pInA (mIxA (mVar 5) (mC (.int 0))) (mVar 1))))
  mCnt
  mNext)
  (mIf (tOrM (mTst (mOp pIsN (mIxA (mVar 2) (mIxA (mVar 5) (mC (.int 0)))) (mC .non))) (mTst (mOp pGt (mIxA (mVar 2) (mVar 3)) (mOp pAdd (mIxA (mVar 5) (mC (.int 1))) (mIxA (mVar 2) (mIxA (mVar 5) (mC (.int 0))))))))
  (mRet (mC (.bl false)))
  mNext))
def b2_floors_hold : Env → M Out := (mSeq (mIf (mTst (mOp pInA (mVar 3) (mVar 1)))
  mCnt
  mNext)
  (mSeq (mSet 4 (mImm (mIxA (mIxA (mVar 0) (mC (.int 3))) (mVar 3))))
  (mSeq (mIf (tOrM (mTst (mOp pIsN (mIxA (mVar 2) (mVar 3)) (mC .non))) (tAndM (mTst (mOp pNotN (mVar 4) (mC .non))) (mTst (mOp pGt (mIxA (mVar 2) (mVar 3)) (mVar 4)))))
  (mRet (mC (.bl false)))
  mNext)
  (mFor (mIt (mIxA (mIxA (mVarN 0) (mC (.int 2))) (mVar 3))) (gmName 5) b1_floors_hold))))
def m_floors_hold : Env → M Out := (mSeq (mFor (mRng rng1 (mCons (mCB (on1 pLen) (mCons (mVar 2) mNil)) mNil)) (gmName 3) b2_floors_hold)
  (mRet (mC (.bl true))))
def f_floors_hold : List P → M P := fnM 6 m_floors_hold
theorem sc_floors_hold : FnScope ["machine", "deads", "floors", "state", "fee", "move"] ["machine", "deads", "floors"] (defScope s_floors_hold) := ⟨rfl, rfl, rfl, by decide +kernel, rfl, by decide +kernel, by decide +kernel⟩
theorem ok_floors_hold {f : Addr} {fd : FuncData} (F : L2.Fun c.K "floors_hold" "floors_hold" s_floors_hold f fd) (g : mg "floors_hold" = some (.ref f)) (b : Binds c.K fd ["machine", "deads", "floors"] []) (T : Bn mg)  : Cl c Pg w c.K mg base "floors_hold" 3 f_floors_hold 1 := by
  refine def_ok (N := ["machine", "deads", "floors", "state", "fee", "move"]) (k := 0) F sc_floors_hold g b fun cdv A outer s H E hr => ?_
  have nd : (["machine", "deads", "floors", "state", "fee", "move"] : List Str).Nodup := sc_floors_hold.nd
  have tk : Takes (cxOf (L2.CX Pg w) Pg w c.K mg base ["machine", "deads", "floors", "state", "fee", "move"] "floors_hold" (defScope s_floors_hold) f cdv A outer s H E) (fun cls d _ H => E cls d H) := takes_of rfl rfl rfl rfl
  have hp : PassesOwn (model Pg w) (cxOf (L2.CX Pg w) Pg w c.K mg base ["machine", "deads", "floors", "state", "fee", "move"] "floors_hold" (defScope s_floors_hold) f cdv A outer s H E).A (cxOf (L2.CX Pg w) Pg w c.K mg base ["machine", "deads", "floors", "state", "fee", "move"] "floors_hold" (defScope s_floors_hold) f cdv A outer s H E).env (cxOf (L2.CX Pg w) Pg w c.K mg base ["machine", "deads", "floors", "state", "fee", "move"] "floors_hold" (defScope s_floors_hold) f cdv A outer s H E).xe := passes_of rfl
  exact ⟨_, (ss_cons (s_for hp (i_rng1 T.n_range (a_cons (x_any (x_bi (b_len T.n_len) (a_cons (x_var 2) a_nil))) a_nil)) (g_name 3 nd)
  (ss_cons (s_if (t_cmp (k_in hr) (x_var 3) (x_var 1))
  (ss_one s_continue)
  ss_nil)
  (ss_cons (s_set 4 nd (x_imm (x_ix hr (x_ix hr (x_var 0) x_int) (x_var 3))))
  (ss_cons (s_if (t_w (w_or (t_cmp k_is (x_ix hr (x_var 2) (x_var 3)) x_non) (w_or1 (t_w (w_and (t_cmp k_isnot (x_var 4) x_non) (w_and1 (t_cmp k_gt (x_ix hr (x_var 2) (x_var 3)) (x_var 4))))))))
  (ss_one (s_ret x_bl))
  ss_nil)
  (ss_one (s_for hp (i_any (x_ix hr (x_ix hr (x_varN 0) x_int) (x_var 3))) (g_name 5 nd)
  (ss_cons (s_if (t_w (w_or (t_cmp k_is (x_var 5) x_non) (w_or1 (t_cmp (k_in hr) (x_ix hr (x_var 5) x_int) (x_var 1)))))
  (ss_one s_continue)
  ss_nil)
  (ss_one (s_if (t_w (w_or (t_cmp k_is (x_ix hr (x_var 2) (x_ix hr (x_var 5) x_int)) x_non) (w_or1 (t_cmp k_gt (x_ix hr (x_var 2) (x_var 3)) (x_add (x_ix hr (x_var 5) x_int) (x_ix hr (x_var 2) (x_ix hr (x_var 5) x_int)))))))
  (ss_one (s_ret x_bl))
  ss_nil)))))))))
  (ss_one (s_ret x_bl)))⟩

/-! bounds_take -/
abbrev s_bounds_take : Stmt := topS 14
def b1_bounds_take : Env → M Out := (mIf (tAndM (mTst (mOp pNotInA (mVar 5) (mVar 2))) (tAndM (mTst (mOp pNotN (mIxA (mVar 4) (mVar 5)) (mC .non))) (mTst (mOp pGt (mIxA (mVar 4) (mVar 5)) (mIxA (mVar 3) (mVar 5))))))
  (mRet (mC (.bl false)))
  mNext)
def m_bounds_take : Env → M Out := (mSeq (mIf (tOrM (tNotM (mTru (mCall f_deads_close (mCons (mVar 0) (mCons (mVar 2) mNil))))) (mTst (mOp pNe (mCB (on1 pLen) (mCons (mVar 3) mNil)) (mCB (on1 pLen) (mCons (mIxA (mVar 0) (mC (.int 1))) mNil)))))
  (mRet (mC (.bl false)))
  mNext)
  (mSeq (mIf (tNotM (mTru (mCall f_floors_hold (mCons (mVar 0) (mCons (mVar 2) (mCons (mVar 3) mNil))))))
  (mRet (mC (.bl false)))
  mNext)
  (mSeq (mSet 4 (mCall f_ahead_of (mCons (mVar 0) (mCons (mVar 1) mNil))))
  (mSeq (mFor (mRng rng1 (mCons (mCB (on1 pLen) (mCons (mVar 4) mNil)) mNil)) (gmName 5) b1_bounds_take)
  (mRet (mC (.bl true)))))))
def f_bounds_take : List P → M P := fnM 6 m_bounds_take
theorem sc_bounds_take : FnScope ["machine", "bounds", "deads", "floors", "table", "state"] ["machine", "bounds", "deads", "floors"] (defScope s_bounds_take) := ⟨rfl, rfl, rfl, by decide +kernel, rfl, by decide +kernel, by decide +kernel⟩
theorem ok_bounds_take {f : Addr} {fd : FuncData} (F : L2.Fun c.K "bounds_take" "bounds_take" s_bounds_take f fd) (g : mg "bounds_take" = some (.ref f)) (b : Binds c.K fd ["machine", "bounds", "deads", "floors"] []) (T : Bn mg) (C_deads_close : Cl c Pg w c.K mg base "deads_close" 2 f_deads_close 2) (C_floors_hold : Cl c Pg w c.K mg base "floors_hold" 3 f_floors_hold 1) (C_ahead_of : Cl c Pg w c.K mg base "ahead_of" 2 f_ahead_of 4) : Cl c Pg w c.K mg base "bounds_take" 4 f_bounds_take 5 := by
  refine def_ok (N := ["machine", "bounds", "deads", "floors", "table", "state"]) (k := 4) F sc_bounds_take g b fun cdv A outer s H E hr => ?_
  have nd : (["machine", "bounds", "deads", "floors", "table", "state"] : List Str).Nodup := sc_bounds_take.nd
  have tk : Takes (cxOf (L2.CX Pg w) Pg w c.K mg base ["machine", "bounds", "deads", "floors", "table", "state"] "bounds_take" (defScope s_bounds_take) f cdv A outer s H E) (fun cls d _ H => E cls d H) := takes_of rfl rfl rfl rfl
  have hp : PassesOwn (model Pg w) (cxOf (L2.CX Pg w) Pg w c.K mg base ["machine", "bounds", "deads", "floors", "table", "state"] "bounds_take" (defScope s_bounds_take) f cdv A outer s H E).A (cxOf (L2.CX Pg w) Pg w c.K mg base ["machine", "bounds", "deads", "floors", "table", "state"] "bounds_take" (defScope s_bounds_take) f cdv A outer s H E).env (cxOf (L2.CX Pg w) Pg w c.K mg base ["machine", "bounds", "deads", "floors", "table", "state"] "bounds_take" (defScope s_bounds_take) f cdv A outer s H E).xe := passes_of rfl
  exact ⟨_, (ss_cons (s_if (t_w (w_or (t_not (t_tru (x_call C_deads_close hr tk (a_cons (x_var 0) (a_cons (x_var 2) a_nil))))) (w_or1 (t_cmp (k_ne hr) (x_bi (b_len T.n_len) (a_cons (x_var 3) a_nil)) (x_bi (b_len T.n_len) (a_cons (x_ix hr (x_var 0) x_int) a_nil))))))
  (ss_one (s_ret x_bl))
  ss_nil)
  (ss_cons (s_if (t_not (t_tru (x_call C_floors_hold hr tk (a_cons (x_var 0) (a_cons (x_var 2) (a_cons (x_var 3) a_nil))))))
  (ss_one (s_ret x_bl))
  ss_nil)
  (ss_cons (s_set 4 nd (x_call C_ahead_of hr tk (a_cons (x_var 0) (a_cons (x_var 1) a_nil))))
  (ss_cons (s_for hp (i_rng1 T.n_range (a_cons (x_any (x_bi (b_len T.n_len) (a_cons (x_var 4) a_nil))) a_nil)) (g_name 5 nd)
  (ss_one (s_if (t_w (w_and (t_cmp (k_notin hr) (x_var 5) (x_var 2)) (w_and (t_cmp k_isnot (x_ix hr (x_var 4) (x_var 5)) x_non) (w_and1 (t_cmp k_gt (x_ix hr (x_var 4) (x_var 5)) (x_ix hr (x_var 3) (x_var 5)))))))
  (ss_one (s_ret x_bl))
  ss_nil)))
  (ss_one (s_ret x_bl))))))⟩

/-! bounds_harm -/
abbrev s_bounds_harm : Stmt := topS 15
def m_bounds_harm : Env → M Out := (mSeq (mIf (tOrM (tNotM (mTst (mChain pLe pLt (mC (.int 0)) (mVar 2) (mCB (on1 pLen) (mCons (mVar 1) mNil))))) (tOrM (tNotM (mTru (mCall f_is_state (mCons (mVar 0) (mCons (mVar 3) mNil))))) (tNotM (mTru (mCall f_good_word (mCons (mVar 0) (mCons (mVar 4) mNil)))))))
  (mRet (mC (.bl false)))
  mNext)
  (mSeq (mUnp (gmTup 2 (gmCons (gmName 5) (gmCons (gmName 6) gmNil))) (mIxA (mVarN 1) (mVar 2)))
  (mSeq (mSet 7 (mCall f_price (mCons (mVar 0) (mCons (mVar 3) (mCons (mVar 4) mNil)))))
  (mRet (mAnd (mCall f_fits_goes (mCons (mVar 5) (mCons (mIxA (mIxA (mVar 0) (mC (.int 1))) (mVar 3)) mNil))) (mAnd (mOp pNotN (mVar 7) (mC .non)) (mOp pLt (mVar 7) (mVar 6))))))))
def f_bounds_harm : List P → M P := fnM 8 m_bounds_harm
theorem sc_bounds_harm : FnScope ["machine", "bounds", "row", "state", "word", "pattern", "number", "told"] ["machine", "bounds", "row", "state", "word"] (defScope s_bounds_harm) := ⟨rfl, rfl, rfl, by decide +kernel, rfl, by decide +kernel, by decide +kernel⟩
theorem ok_bounds_harm {f : Addr} {fd : FuncData} (F : L2.Fun c.K "bounds_harm" "bounds_harm" s_bounds_harm f fd) (g : mg "bounds_harm" = some (.ref f)) (b : Binds c.K fd ["machine", "bounds", "row", "state", "word"] []) (T : Bn mg) (C_good_word : Cl c Pg w c.K mg base "good_word" 2 f_good_word 1) (C_is_state : Cl c Pg w c.K mg base "is_state" 2 f_is_state 1) (C_price : Cl c Pg w c.K mg base "price" 3 f_price 2) (C_fits_goes : Cl c Pg w c.K mg base "fits_goes" 2 f_fits_goes 3) : Cl c Pg w c.K mg base "bounds_harm" 5 f_bounds_harm 4 := by
  refine def_ok (N := ["machine", "bounds", "row", "state", "word", "pattern", "number", "told"]) (k := 3) F sc_bounds_harm g b fun cdv A outer s H E hr => ?_
  have nd : (["machine", "bounds", "row", "state", "word", "pattern", "number", "told"] : List Str).Nodup := sc_bounds_harm.nd
  have tk : Takes (cxOf (L2.CX Pg w) Pg w c.K mg base ["machine", "bounds", "row", "state", "word", "pattern", "number", "told"] "bounds_harm" (defScope s_bounds_harm) f cdv A outer s H E) (fun cls d _ H => E cls d H) := takes_of rfl rfl rfl rfl
  have hp : PassesOwn (model Pg w) (cxOf (L2.CX Pg w) Pg w c.K mg base ["machine", "bounds", "row", "state", "word", "pattern", "number", "told"] "bounds_harm" (defScope s_bounds_harm) f cdv A outer s H E).A (cxOf (L2.CX Pg w) Pg w c.K mg base ["machine", "bounds", "row", "state", "word", "pattern", "number", "told"] "bounds_harm" (defScope s_bounds_harm) f cdv A outer s H E).env (cxOf (L2.CX Pg w) Pg w c.K mg base ["machine", "bounds", "row", "state", "word", "pattern", "number", "told"] "bounds_harm" (defScope s_bounds_harm) f cdv A outer s H E).xe := passes_of rfl
  exact ⟨_, (ss_cons (s_if (t_w (w_or (t_not (t_chain k_le k_lt (x_any x_int) (x_var 2) (x_any (x_bi (b_len T.n_len) (a_cons (x_var 1) a_nil))))) (w_or (t_not (t_tru (x_call C_is_state hr tk (a_cons (x_var 0) (a_cons (x_var 3) a_nil))))) (w_or1 (t_not (t_tru (x_call C_good_word hr tk (a_cons (x_var 0) (a_cons (x_var 4) a_nil)))))))))
  (ss_one (s_ret x_bl))
  ss_nil)
  (ss_cons (s_unp (x_ix hr (x_varN 1) (x_var 2)) (g_tup (gs_cons (g_name 5 nd) (gs_cons (g_name 6 nd) gs_nil))))
  (ss_cons (s_set 7 nd (x_call C_price hr tk (a_cons (x_var 0) (a_cons (x_var 3) (a_cons (x_var 4) a_nil)))))
  (ss_one (s_ret (x_and (x_call C_fits_goes hr tk (a_cons (x_var 5) (a_cons (x_ix hr (x_ix hr (x_var 0) x_int) (x_var 3)) a_nil))) (x_and (x_cmp k_isnot (x_var 7) x_non) (x_and1 (x_cmp k_lt (x_var 7) (x_var 6))))))))))⟩

/-! _law_mixed -/
abbrev s__law_mixed : Stmt := topS 18
def m__law_mixed : Env → M Out := (mSeq (mSrcSet 0 5 (mOp pAdd (mSrc 0 5) (mC (.int 1))))
  (mSeq (mSrcSet 0 4 (mOp pMod (mCB (on1 pInt) (mCons (mOp pAdd (mOp pAdd (mOp pMul (mSrc 0 4) (mC (.int 48271))) (mOp pMul (mSrc 0 5) (mC (.int 69621)))) (mC (.int 11))) mNil)) (mC (.int 2147483647))))
  (mRet (mOp pMod (mCB (on1 pInt) (mCons (mOp pDiv (mSrc 0 4) (mC (.int 16))) mNil)) (mVar 1)))))
def f__law_mixed : List P → M P := fnM 2 m__law_mixed
theorem sc__law_mixed : FnScope ["source", "many"] ["source", "many"] (defScope s__law_mixed) := ⟨rfl, rfl, rfl, by decide +kernel, rfl, by decide +kernel, by decide +kernel⟩
theorem ok__law_mixed {f : Addr} {fd : FuncData} (F : L2.Fun c.K "_law_mixed" "_law_mixed" s__law_mixed f fd) (g : mg "_law_mixed" = some (.ref f)) (b : Binds c.K fd ["source", "many"] []) (T : Bn mg)  : Cl c Pg w c.K mg base "_law_mixed" 2 f__law_mixed 1 := by
  refine def_ok (N := ["source", "many"]) (k := 0) F sc__law_mixed g b fun cdv A outer s H E hr => ?_
  have nd : (["source", "many"] : List Str).Nodup := sc__law_mixed.nd
  have tk : Takes (cxOf (L2.CX Pg w) Pg w c.K mg base ["source", "many"] "_law_mixed" (defScope s__law_mixed) f cdv A outer s H E) (fun cls d _ H => E cls d H) := takes_of rfl rfl rfl rfl
  have hp : PassesOwn (model Pg w) (cxOf (L2.CX Pg w) Pg w c.K mg base ["source", "many"] "_law_mixed" (defScope s__law_mixed) f cdv A outer s H E).A (cxOf (L2.CX Pg w) Pg w c.K mg base ["source", "many"] "_law_mixed" (defScope s__law_mixed) f cdv A outer s H E).env (cxOf (L2.CX Pg w) Pg w c.K mg base ["source", "many"] "_law_mixed" (defScope s__law_mixed) f cdv A outer s H E).xe := passes_of rfl
  exact ⟨_, (ss_cons (s_src 0 hr (x_add (x_src 0 hr) x_int))
  (ss_cons (s_src 0 hr (x_mod (x_bi (b_int T.n_int) (a_cons (x_any (x_add (x_add (x_mul (x_src 0 hr) x_int) (x_mul (x_src 0 hr) x_int)) x_int)) a_nil)) x_int))
  (ss_one (s_ret (x_mod (x_bi (b_int T.n_int) (a_cons (x_any (x_div (x_src 0 hr) x_int)) a_nil)) (x_var 1))))))⟩

/-! _law_draw -/
abbrev s__law_draw : Stmt := topS 19
def b1__law_draw : Env → M Out := (mSeq (mIf (mTst (mOp pGt (mSrc 0 2) (mC (.int 0))))
  (mSeq (mSet 4 (mOp pMod (mCB (on1 pInt) (mCons (mSrc 0 2) mNil)) (mVar 1)))
  (mSeq (mSrcSet 0 2 (mOp pDiv (mSrc 0 2) (mVar 1)))
  (mRetV 4)))
  mNext)
  (mSeq (mIf (tOrM (mTst (mOp pGt (mSrc 0 3) (mC (.int 0)))) (mTst (mOp pGe (mSrc 0 1) (mSrcLen 0))))
  (mSeq (mSrcSet 0 3 (mCB (on2 pMax2) (mCons (mC (.int 0)) (mCons (mOp pSub (mSrc 0 3) (mC (.int 1))) mNil))))
  (mRet (mCall f__law_mixed (mCons (mVar 0) (mCons (mVar 1) mNil)))))
  mNext)
  (mSeq (mSet 3 (mSrcCell 0 (mSrc 0 1)))
  (mSeq (mSrcSet 0 1 (mOp pAdd (mSrc 0 1) (mC (.int 1))))
  (mIf (mTst (mOp pGe (mVar 3) (mC (.int 1000000000000000000))))
  (mSrcSet 0 2 (mVar 3))
  (mSeq (mSrcSet 0 3 (mC (.int 12)))
  (mSrcSet 0 4 (mOp pMod (mCB (on1 pInt) (mCons (mOp pAdd (mOp pAdd (mOp pMul (mSrc 0 4) (mC (.int 16807))) (mOp pMod (mCB (on1 pInt) (mCons (mVar 3) mNil)) (mC (.int 2147483647)))) (mC (.int 7))) mNil)) (mC (.int 2147483647))))))))))
def m__law_draw : Env → M Out := (mSeq (mIf (mTst (mOp pLe (mVar 1) (mC (.int 1))))
  (mRet (mC (.int 0)))
  mNext)
  (mSeq (mFor (mRng rng1 (mCons (mC (.int 2)) mNil)) (gmName 2) b1__law_draw)
  (mRet (mCall f__law_mixed (mCons (mVar 0) (mCons (mVar 1) mNil))))))
def f__law_draw : List P → M P := fnM 5 m__law_draw
theorem sc__law_draw : FnScope ["source", "many", "turn", "cell", "digit"] ["source", "many"] (defScope s__law_draw) := ⟨rfl, rfl, rfl, by decide +kernel, rfl, by decide +kernel, by decide +kernel⟩
theorem ok__law_draw {f : Addr} {fd : FuncData} (F : L2.Fun c.K "_law_draw" "_law_draw" s__law_draw f fd) (g : mg "_law_draw" = some (.ref f)) (b : Binds c.K fd ["source", "many"] []) (T : Bn mg) (C__law_mixed : Cl c Pg w c.K mg base "_law_mixed" 2 f__law_mixed 1) : Cl c Pg w c.K mg base "_law_draw" 2 f__law_draw 2 := by
  refine def_ok (N := ["source", "many", "turn", "cell", "digit"]) (k := 1) F sc__law_draw g b fun cdv A outer s H E hr => ?_
  have nd : (["source", "many", "turn", "cell", "digit"] : List Str).Nodup := sc__law_draw.nd
  have tk : Takes (cxOf (L2.CX Pg w) Pg w c.K mg base ["source", "many", "turn", "cell", "digit"] "_law_draw" (defScope s__law_draw) f cdv A outer s H E) (fun cls d _ H => E cls d H) := takes_of rfl rfl rfl rfl
  have hp : PassesOwn (model Pg w) (cxOf (L2.CX Pg w) Pg w c.K mg base ["source", "many", "turn", "cell", "digit"] "_law_draw" (defScope s__law_draw) f cdv A outer s H E).A (cxOf (L2.CX Pg w) Pg w c.K mg base ["source", "many", "turn", "cell", "digit"] "_law_draw" (defScope s__law_draw) f cdv A outer s H E).env (cxOf (L2.CX Pg w) Pg w c.K mg base ["source", "many", "turn", "cell", "digit"] "_law_draw" (defScope s__law_draw) f cdv A outer s H E).xe := passes_of rfl
  exact ⟨_, (ss_cons (s_if (t_cmp k_le (x_var 1) x_int)
  (ss_one (s_ret x_int))
  ss_nil)
  (ss_cons (s_for hp (i_rng1 T.n_range (a_cons (x_any x_int) a_nil)) (g_name 2 nd)
  (ss_cons (s_if (t_cmp k_gt (x_src 0 hr) x_int)
  (ss_cons (s_set 4 nd (x_mod (x_bi (b_int T.n_int) (a_cons (x_any (x_src 0 hr)) a_nil)) (x_var 1)))
  (ss_cons (s_src 0 hr (x_div (x_src 0 hr) (x_var 1)))
  (ss_one (s_retV 4))))
  ss_nil)
  (ss_cons (s_if (t_w (w_or (t_cmp k_gt (x_src 0 hr) x_int) (w_or1 (t_cmp k_ge (x_src 0 hr) (x_srcLen 0 hr T.n_len)))))
  (ss_cons (s_src 0 hr (x_bi (b_max2 T.n_max) (a_cons (x_any x_int) (a_cons (x_any (x_sub (x_src 0 hr) x_int)) a_nil))))
  (ss_one (s_ret (x_call C__law_mixed hr tk (a_cons (x_var 0) (a_cons (x_var 1) a_nil))))))
  ss_nil)
  (ss_cons (s_set 3 nd (x_srcCell 0 hr (x_src 0 hr)))
  (ss_cons (s_src 0 hr (x_add (x_src 0 hr) x_int))
  (ss_one (s_if (t_cmp k_ge (x_var 3) x_int)
  (ss_one (s_src 0 hr (x_var 3)))
  (ss_cons (s_src 0 hr x_int)
  (ss_one (s_src 0 hr (x_mod (x_bi (b_int T.n_int) (a_cons (x_any (x_add (x_add (x_mul (x_src 0 hr) x_int) (x_mod (x_bi (b_int T.n_int) (a_cons (x_var 3) a_nil)) x_int)) x_int)) a_nil)) x_int)))))))))))
  (ss_one (s_ret (x_call C__law_mixed hr tk (a_cons (x_var 0) (a_cons (x_var 1) a_nil)))))))⟩

/-! _law_some -/
abbrev s__law_some : Stmt := topS 20
def m__law_some : Env → M Out := (mRet (mImm (mIxA (mVar 1) (mCall f__law_draw (mCons (mVar 0) (mCons (mCB (on1 pLen) (mCons (mVar 1) mNil)) mNil))))))
def f__law_some : List P → M P := fnM 2 m__law_some
theorem sc__law_some : FnScope ["source", "things"] ["source", "things"] (defScope s__law_some) := ⟨rfl, rfl, rfl, by decide +kernel, rfl, by decide +kernel, by decide +kernel⟩
theorem ok__law_some {f : Addr} {fd : FuncData} (F : L2.Fun c.K "_law_some" "_law_some" s__law_some f fd) (g : mg "_law_some" = some (.ref f)) (b : Binds c.K fd ["source", "things"] []) (T : Bn mg) (C__law_draw : Cl c Pg w c.K mg base "_law_draw" 2 f__law_draw 2) : Cl c Pg w c.K mg base "_law_some" 2 f__law_some 3 := by
  refine def_ok (N := ["source", "things"]) (k := 2) F sc__law_some g b fun cdv A outer s H E hr => ?_
  have nd : (["source", "things"] : List Str).Nodup := sc__law_some.nd
  have tk : Takes (cxOf (L2.CX Pg w) Pg w c.K mg base ["source", "things"] "_law_some" (defScope s__law_some) f cdv A outer s H E) (fun cls d _ H => E cls d H) := takes_of rfl rfl rfl rfl
  have hp : PassesOwn (model Pg w) (cxOf (L2.CX Pg w) Pg w c.K mg base ["source", "things"] "_law_some" (defScope s__law_some) f cdv A outer s H E).A (cxOf (L2.CX Pg w) Pg w c.K mg base ["source", "things"] "_law_some" (defScope s__law_some) f cdv A outer s H E).env (cxOf (L2.CX Pg w) Pg w c.K mg base ["source", "things"] "_law_some" (defScope s__law_some) f cdv A outer s H E).xe := passes_of rfl
  exact ⟨_, (ss_one (s_ret (x_imm (x_ix hr (x_var 1) (x_call C__law_draw hr tk (a_cons (x_var 0) (a_cons (x_any (x_bi (b_len T.n_len) (a_cons (x_var 1) a_nil))) a_nil)))))))⟩

/-! _law_picks -/
abbrev s__law_picks : Stmt := topS 21
def b1__law_picks : Env → M Out := (mAppPop 4 3 (mCall f__law_draw (mCons (mVar 0) (mCons (mCB (on1 pLen) (mCons (mVar 3) mNil)) mNil))))
def m__law_picks : Env → M Out := (mSeq (mSet 3 (mCB (on1 pLst) (mCons (mVar 1) mNil)))
  (mSeq (mSet 4 (mLst mNil))
  (mSeq (mFor (mRng rng1 (mCons (mCB (on2 pMin2) (mCons (mVar 2) (mCons (mCB (on1 pLen) (mCons (mVar 3) mNil)) mNil))) mNil)) (gmName 5) b1__law_picks)
  (mRetV 4))))
def f__law_picks : List P → M P := fnM 6 m__law_picks
theorem sc__law_picks : FnScope ["source", "pool", "many", "left", "picked", "k"] ["source", "pool", "many"] (defScope s__law_picks) := ⟨rfl, rfl, rfl, by decide +kernel, rfl, by decide +kernel, by decide +kernel⟩
theorem ok__law_picks {f : Addr} {fd : FuncData} (F : L2.Fun c.K "_law_picks" "_law_picks" s__law_picks f fd) (g : mg "_law_picks" = some (.ref f)) (b : Binds c.K fd ["source", "pool", "many"] []) (T : Bn mg) (C__law_draw : Cl c Pg w c.K mg base "_law_draw" 2 f__law_draw 2) : Cl c Pg w c.K mg base "_law_picks" 3 f__law_picks 3 := by
  refine def_ok (N := ["source", "pool", "many", "left", "picked", "k"]) (k := 2) F sc__law_picks g b fun cdv A outer s H E hr => ?_
  have nd : (["source", "pool", "many", "left", "picked", "k"] : List Str).Nodup := sc__law_picks.nd
  have tk : Takes (cxOf (L2.CX Pg w) Pg w c.K mg base ["source", "pool", "many", "left", "picked", "k"] "_law_picks" (defScope s__law_picks) f cdv A outer s H E) (fun cls d _ H => E cls d H) := takes_of rfl rfl rfl rfl
  have hp : PassesOwn (model Pg w) (cxOf (L2.CX Pg w) Pg w c.K mg base ["source", "pool", "many", "left", "picked", "k"] "_law_picks" (defScope s__law_picks) f cdv A outer s H E).A (cxOf (L2.CX Pg w) Pg w c.K mg base ["source", "pool", "many", "left", "picked", "k"] "_law_picks" (defScope s__law_picks) f cdv A outer s H E).env (cxOf (L2.CX Pg w) Pg w c.K mg base ["source", "pool", "many", "left", "picked", "k"] "_law_picks" (defScope s__law_picks) f cdv A outer s H E).xe := passes_of rfl
  exact ⟨_, (ss_cons (s_set 3 nd (x_bi (b_list T.n_list) (a_cons (x_var 1) a_nil)))
  (ss_cons (s_set 4 nd (x_lst a_nil))
  (ss_cons (s_for hp (i_rng1 T.n_range (a_cons (x_any (x_bi (b_min2 T.n_min) (a_cons (x_var 2) (a_cons (x_any (x_bi (b_len T.n_len) (a_cons (x_var 3) a_nil))) a_nil)))) a_nil)) (g_name 5 nd)
  (ss_one (s_appPop 4 3 (by decide) (x_call C__law_draw hr tk (a_cons (x_var 0) (a_cons (x_any (x_bi (b_len T.n_len) (a_cons (x_var 3) a_nil))) a_nil))) (pe_bm PySem.F.plainAttrs_list PySem.F.slot_list_append PySem.F.type_list_append mt_append (pv 4) (pa_cons (pe_bm PySem.F.plainAttrs_list PySem.F.slot_list_pop PySem.F.type_list_pop mt_popAt (pv 3) (pa_cons (x_call C__law_draw hr tk (a_cons (x_var 0) (a_cons (x_any (x_bi (b_len T.n_len) (a_cons (x_var 3) a_nil))) a_nil))).pe pa_nil)) pa_nil)))))
  (ss_one (s_retV 4)))))⟩

/-! _law_names -/
abbrev s__law_names : Stmt := topS 22
def m__law_names : Env → M Out := (mSeq (mSet 2 (mTup (mCons (mC (.str "a")) (mCons (mC (.str "b7")) (mCons (mC (.str "road")) (mCons (mC (.str "rail")) (mCons (mC (.str "ferry")) (mCons (mC (.str "harbour1")) (mCons (mC (.str "harbour2")) (mCons (mC (.str "z")) (mCons (mC (.str "q0q0")) (mCons (mC (.str "plain")) (mCons (mC (.str "wet")) (mCons (mC (.str "e5")) mNil))))))))))))))
  (mRet (mCB (on1 pTup) (mCons (mCall f__law_picks (mCons (mVar 0) (mCons (mVar 2) (mCons (mVar 1) mNil)))) mNil))))
def f__law_names : List P → M P := fnM 3 m__law_names
theorem sc__law_names : FnScope ["source", "many", "pool"] ["source", "many"] (defScope s__law_names) := ⟨rfl, rfl, rfl, by decide +kernel, rfl, by decide +kernel, by decide +kernel⟩
theorem ok__law_names {f : Addr} {fd : FuncData} (F : L2.Fun c.K "_law_names" "_law_names" s__law_names f fd) (g : mg "_law_names" = some (.ref f)) (b : Binds c.K fd ["source", "many"] []) (T : Bn mg) (C__law_picks : Cl c Pg w c.K mg base "_law_picks" 3 f__law_picks 3) : Cl c Pg w c.K mg base "_law_names" 2 f__law_names 4 := by
  refine def_ok (N := ["source", "many", "pool"]) (k := 3) F sc__law_names g b fun cdv A outer s H E hr => ?_
  have nd : (["source", "many", "pool"] : List Str).Nodup := sc__law_names.nd
  have tk : Takes (cxOf (L2.CX Pg w) Pg w c.K mg base ["source", "many", "pool"] "_law_names" (defScope s__law_names) f cdv A outer s H E) (fun cls d _ H => E cls d H) := takes_of rfl rfl rfl rfl
  have hp : PassesOwn (model Pg w) (cxOf (L2.CX Pg w) Pg w c.K mg base ["source", "many", "pool"] "_law_names" (defScope s__law_names) f cdv A outer s H E).A (cxOf (L2.CX Pg w) Pg w c.K mg base ["source", "many", "pool"] "_law_names" (defScope s__law_names) f cdv A outer s H E).env (cxOf (L2.CX Pg w) Pg w c.K mg base ["source", "many", "pool"] "_law_names" (defScope s__law_names) f cdv A outer s H E).xe := passes_of rfl
  exact ⟨_, (ss_cons (s_set 2 nd (x_tup (a_cons x_str (a_cons x_str (a_cons x_str (a_cons x_str (a_cons x_str (a_cons x_str (a_cons x_str (a_cons x_str (a_cons x_str (a_cons x_str (a_cons x_str (a_cons x_str a_nil))))))))))))))
  (ss_one (s_ret (x_bi (b_tuple T.n_tuple) (a_cons (x_any (x_call C__law_picks hr tk (a_cons (x_var 0) (a_cons (x_var 2) (a_cons (x_var 1) a_nil))))) a_nil)))))⟩

/-! _law_fare -/
abbrev s__law_fare : Stmt := topS 23
def m__law_fare : Env → M Out := (mRet (mCall f__law_some (mCons (mVar 0) (mCons (mTup (mCons (mC (.int 0)) (mCons (mC (.int 0)) (mCons (mC (.int 1)) (mCons (mC (.int 1)) (mCons (mC (.int 2)) (mCons (mC (.int 3)) (mCons (mC (.int 4)) (mCons (mC (.int 5)) (mCons (mC (.int 7)) (mCons (mC (.int 9)) (mCons (mC (.int 20)) mNil)))))))))))) mNil))))
def f__law_fare : List P → M P := fnM 1 m__law_fare
theorem sc__law_fare : FnScope ["source"] ["source"] (defScope s__law_fare) := ⟨rfl, rfl, rfl, by decide +kernel, rfl, by decide +kernel, by decide +kernel⟩
theorem ok__law_fare {f : Addr} {fd : FuncData} (F : L2.Fun c.K "_law_fare" "_law_fare" s__law_fare f fd) (g : mg "_law_fare" = some (.ref f)) (b : Binds c.K fd ["source"] []) (T : Bn mg) (C__law_some : Cl c Pg w c.K mg base "_law_some" 2 f__law_some 3) : Cl c Pg w c.K mg base "_law_fare" 1 f__law_fare 4 := by
  refine def_ok (N := ["source"]) (k := 3) F sc__law_fare g b fun cdv A outer s H E hr => ?_
  have nd : (["source"] : List Str).Nodup := sc__law_fare.nd
  have tk : Takes (cxOf (L2.CX Pg w) Pg w c.K mg base ["source"] "_law_fare" (defScope s__law_fare) f cdv A outer s H E) (fun cls d _ H => E cls d H) := takes_of rfl rfl rfl rfl
  have hp : PassesOwn (model Pg w) (cxOf (L2.CX Pg w) Pg w c.K mg base ["source"] "_law_fare" (defScope s__law_fare) f cdv A outer s H E).A (cxOf (L2.CX Pg w) Pg w c.K mg base ["source"] "_law_fare" (defScope s__law_fare) f cdv A outer s H E).env (cxOf (L2.CX Pg w) Pg w c.K mg base ["source"] "_law_fare" (defScope s__law_fare) f cdv A outer s H E).xe := passes_of rfl
  exact ⟨_, (ss_one (s_ret (x_call C__law_some hr tk (a_cons (x_var 0) (a_cons (x_any (x_tup (a_cons x_int (a_cons x_int (a_cons x_int (a_cons x_int (a_cons x_int (a_cons x_int (a_cons x_int (a_cons x_int (a_cons x_int (a_cons x_int (a_cons x_int a_nil))))))))))))) a_nil)))))⟩

/-! _law_machine_names -/
abbrev s__law_machine_names : Stmt := topS 24
def m__law_machine_names : Env → M Out := (mSeq (mSet 2 (mCall f__law_names (mCons (mVar 0) (mCons (mC (.int 6)) mNil))))
  (mSeq (mIf (mTst (mOp pEq (mCall f__law_draw (mCons (mVar 0) (mCons (mC (.int 2)) mNil))) (mC (.int 0))))
  (mSeq (mSet 3 (mTup (mCons (mC (.str "m6")) (mCons (mC (.str "m7")) (mCons (mC (.str "m8")) (mCons (mC (.str "m9")) (mCons (mC (.str "m10")) (mCons (mC (.str "m11")) mNil))))))))
  (mRet (mSl (mOp pAdd (mVar 2) (mVar 3)) mNoPart (mPart (mVar 1)))))
  mNext)
  (mRet (mCB (on1 pTup) (mCons (mLc (mRng rng1 (mCons (mVar 1) mNil)) (gmName 4) mYes (mOp pAdd (mOp pAdd (mIxA (mVar 2) (mOp pDiv (mVar 4) (mC (.int 2)))) (mC (.str "/"))) (mCB pStrI (mCons (mOp pSub (mVar 4) (mOp pMul (mOp pDiv (mVar 4) (mC (.int 2))) (mC (.int 2)))) mNil))) [4]) mNil)))))
def f__law_machine_names : List P → M P := fnM 5 m__law_machine_names
theorem sc__law_machine_names : FnScope ["source", "many", "marks", "extra", "at"] ["source", "many"] (defScope s__law_machine_names) := ⟨rfl, rfl, rfl, by decide +kernel, rfl, by decide +kernel, by decide +kernel⟩
theorem ok__law_machine_names {f : Addr} {fd : FuncData} (F : L2.Fun c.K "_law_machine_names" "_law_machine_names" s__law_machine_names f fd) (g : mg "_law_machine_names" = some (.ref f)) (b : Binds c.K fd ["source", "many"] []) (T : Bn mg) (C__law_names : Cl c Pg w c.K mg base "_law_names" 2 f__law_names 4) (C__law_draw : Cl c Pg w c.K mg base "_law_draw" 2 f__law_draw 2) : Cl c Pg w c.K mg base "_law_machine_names" 2 f__law_machine_names 5 := by
  refine def_ok (N := ["source", "many", "marks", "extra", "at"]) (k := 4) F sc__law_machine_names g b fun cdv A outer s H E hr => ?_
  have nd : (["source", "many", "marks", "extra", "at"] : List Str).Nodup := sc__law_machine_names.nd
  have tk : Takes (cxOf (L2.CX Pg w) Pg w c.K mg base ["source", "many", "marks", "extra", "at"] "_law_machine_names" (defScope s__law_machine_names) f cdv A outer s H E) (fun cls d _ H => E cls d H) := takes_of rfl rfl rfl rfl
  have hp : PassesOwn (model Pg w) (cxOf (L2.CX Pg w) Pg w c.K mg base ["source", "many", "marks", "extra", "at"] "_law_machine_names" (defScope s__law_machine_names) f cdv A outer s H E).A (cxOf (L2.CX Pg w) Pg w c.K mg base ["source", "many", "marks", "extra", "at"] "_law_machine_names" (defScope s__law_machine_names) f cdv A outer s H E).env (cxOf (L2.CX Pg w) Pg w c.K mg base ["source", "many", "marks", "extra", "at"] "_law_machine_names" (defScope s__law_machine_names) f cdv A outer s H E).xe := passes_of rfl
  exact ⟨_, (ss_cons (s_set 2 nd (x_call C__law_names hr tk (a_cons (x_var 0) (a_cons (x_any x_int) a_nil))))
  (ss_cons (s_if (t_cmp (k_eq hr) (x_call C__law_draw hr tk (a_cons (x_var 0) (a_cons (x_any x_int) a_nil))) x_int)
  (ss_cons (s_set 3 nd (x_tup (a_cons x_str (a_cons x_str (a_cons x_str (a_cons x_str (a_cons x_str (a_cons x_str a_nil))))))))
  (ss_one (s_ret (x_sl (x_add (x_var 2) (x_var 3)) o_none (o_some (x_var 1))))))
  ss_nil)
  (ss_one (s_ret (x_bi (b_tuple T.n_tuple) (a_cons (x_any (x_lc [("at", 4)] nd (i_rng1 T.n_range (a_cons (x_var 1) a_nil)) (by kernel_rfl) (fun _ _ _ _ _ => (g_name 4 nd)) (fun _ _ _ _ _ => ts_nil) (fun _ _ _ _ _ => (x_add (x_add (x_ix hr (x_var 2) (x_div (x_var 4) x_int)) x_str) (x_bi (b_str T.n_str) (a_cons (x_any (x_sub (x_var 4) (x_mul (x_div (x_var 4) x_int) x_int))) a_nil)))))) a_nil))))))⟩

/-! _law_machine_sized -/
abbrev s__law_machine_sized : Stmt := topS 25
def b1__law_machine_sized : Env → M Out := (mSet 6 (mOp pAdd (mVar 6) (mLc (mRng rng1 (mCons (mVar 2) mNil)) (gmName 5) (mTst (mOp pIsN (mIxA (mIxA (mVar 3) (mVar 7)) (mVar 5)) (mC .non))) (mTup (mCons (mImm (mVar 7)) (mCons (mImm (mVar 5)) mNil))) [5])))
def b2__law_machine_sized : Env → M Out := (mSeq (mSet 6 (mLst mNil))
  (mSeq (mFor (mRng rng1 (mCons (mVar 4) mNil)) (gmName 7) b1__law_machine_sized)
  (mSeq (mSet 8 (mCall f__law_some (mCons (mVar 0) (mCons (mVar 6) mNil))))
  (mSto2 3 (mTup (mCons (mImm (mVar 4)) (mCons (mCall f__law_fare (mCons (mVar 0) mNil)) mNil))) (mIxA (mVar 8) (mC (.int 0))) (mIxA (mVar 8) (mC (.int 1)))))))
def b3__law_machine_sized : Env → M Out := (mIf (tAndM (mTst (mOp pIsN (mIxA (mIxA (mVar 3) (mVar 4)) (mVar 5)) (mC .non))) (mTst (mOp pGt (mCall f__law_draw (mCons (mVar 0) (mCons (mC (.int 4)) mNil))) (mC (.int 0)))))
  (mSto2 3 (mTup (mCons (mCall f__law_draw (mCons (mVar 0) (mCons (mVar 1) mNil))) (mCons (mCall f__law_fare (mCons (mVar 0) mNil)) mNil))) (mVar 4) (mVar 5))
  mNext)
def b4__law_machine_sized : Env → M Out := (mFor (mRng rng1 (mCons (mVar 2) mNil)) (gmName 5) b3__law_machine_sized)
def m__law_machine_sized : Env → M Out := (mSeq (mSet 3 (mLc (mRng rng1 (mCons (mVar 1) mNil)) (gmName 4) mYes (mLc (mRng rng1 (mCons (mVar 2) mNil)) (gmName 5) mYes (mC .non) [5]) [4]))
  (mSeq (mFor (mRng rng2 (mCons (mC (.int 1)) (mCons (mVar 1) mNil))) (gmName 4) b2__law_machine_sized)
  (mSeq (mFor (mRng rng1 (mCons (mVar 1) mNil)) (gmName 4) b4__law_machine_sized)
  (mSeq (mSet 9 (mLc (mRng rng1 (mCons (mVar 1) mNil)) (gmName 4) mYes (mIfE (mTst (mOp pEq (mCall f__law_draw (mCons (mVar 0) (mCons (mC (.int 2)) mNil))) (mC (.int 0)))) (mCall f__law_fare (mCons (mVar 0) mNil)) (mC .non)) [4]))
  (mSeq (mIf (mTst (mOp pGt (mCall f__law_draw (mCons (mVar 0) (mCons (mC (.int 16)) mNil))) (mC (.int 0))))
  (mStore 9 (mCall f__law_fare (mCons (mVar 0) mNil)) (mCall f__law_draw (mCons (mVar 0) (mCons (mVar 1) mNil))))
  mNext)
  (mSeq (mSet 10 (mCall f__law_machine_names (mCons (mVar 0) (mCons (mVar 1) mNil))))
  (mSeq (mSet 11 (mCB (on1 pTup) (mCons (mLc (mItV 3) (gmName 12) mYes (mCB (on1 pTup) (mCons (mVar 12) mNil)) [12]) mNil)))
  (mRet (mTup (mCons (mCall f__law_names (mCons (mVar 0) (mCons (mVar 2) mNil))) (mCons (mImm (mVar 10)) (mCons (mImm (mVar 11)) (mCons (mCB (on1 pTup) (mCons (mVar 9) mNil)) (mCons (mCall f__law_fare (mCons (mVar 0) mNil)) (mCons (mCB (on1 pTup) (mCons (mLc (mItV 10) (gmName 13) mYes (mC (.int 0)) [13]) mNil)) mNil)))))))))))))))
def f__law_machine_sized : List P → M P := fnM 14 m__law_machine_sized
theorem sc__law_machine_sized : FnScope ["source", "many", "kinds", "moves", "state", "kind", "free", "earlier", "spot", "ends", "names", "table", "row", "name"] ["source", "many", "kinds"] (defScope s__law_machine_sized) := ⟨rfl, rfl, rfl, by decide +kernel, rfl, by decide +kernel, by decide +kernel⟩
theorem ok__law_machine_sized {f : Addr} {fd : FuncData} (F : L2.Fun c.K "_law_machine_sized" "_law_machine_sized" s__law_machine_sized f fd) (g : mg "_law_machine_sized" = some (.ref f)) (b : Binds c.K fd ["source", "many", "kinds"] []) (T : Bn mg) (C__law_some : Cl c Pg w c.K mg base "_law_some" 2 f__law_some 3) (C__law_fare : Cl c Pg w c.K mg base "_law_fare" 1 f__law_fare 4) (C__law_draw : Cl c Pg w c.K mg base "_law_draw" 2 f__law_draw 2) (C__law_machine_names : Cl c Pg w c.K mg base "_law_machine_names" 2 f__law_machine_names 5) (C__law_names : Cl c Pg w c.K mg base "_law_names" 2 f__law_names 4) : Cl c Pg w c.K mg base "_law_machine_sized" 3 f__law_machine_sized 6 := by
  refine def_ok (N := ["source", "many", "kinds", "moves", "state", "kind", "free", "earlier", "spot", "ends", "names", "table", "row", "name"]) (k := 5) F sc__law_machine_sized g b fun cdv A outer s H E hr => ?_
  have nd : (["source", "many", "kinds", "moves", "state", "kind", "free", "earlier", "spot", "ends", "names", "table", "row", "name"] : List Str).Nodup := sc__law_machine_sized.nd
  have tk : Takes (cxOf (L2.CX Pg w) Pg w c.K mg base ["source", "many", "kinds", "moves", "state", "kind", "free", "earlier", "spot", "ends", "names", "table", "row", "name"] "_law_machine_sized" (defScope s__law_machine_sized) f cdv A outer s H E) (fun cls d _ H => E cls d H) := takes_of rfl rfl rfl rfl
  have hp : PassesOwn (model Pg w) (cxOf (L2.CX Pg w) Pg w c.K mg base ["source", "many", "kinds", "moves", "state", "kind", "free", "earlier", "spot", "ends", "names", "table", "row", "name"] "_law_machine_sized" (defScope s__law_machine_sized) f cdv A outer s H E).A (cxOf (L2.CX Pg w) Pg w c.K mg base ["source", "many", "kinds", "moves", "state", "kind", "free", "earlier", "spot", "ends", "names", "table", "row", "name"] "_law_machine_sized" (defScope s__law_machine_sized) f cdv A outer s H E).env (cxOf (L2.CX Pg w) Pg w c.K mg base ["source", "many", "kinds", "moves", "state", "kind", "free", "earlier", "spot", "ends", "names", "table", "row", "name"] "_law_machine_sized" (defScope s__law_machine_sized) f cdv A outer s H E).xe := passes_of rfl
  exact ⟨_, (ss_cons (s_set 3 nd (x_lc [("state", 4)] nd (i_rng1 T.n_range (a_cons (x_var 1) a_nil)) (by kernel_rfl) (fun _ _ _ _ _ => (g_name 4 nd)) (fun _ _ _ _ _ => ts_nil) (fun _ _ _ _ _ => (x_lc [("kind", 5)] nd (i_rng1 T.n_range (a_cons (x_var 2) a_nil)) (by kernel_rfl) (fun _ _ _ _ _ => (g_name 5 nd)) (fun _ _ _ _ _ => ts_nil) (fun _ _ _ _ _ => x_non)))))
  (ss_cons (s_for hp (i_rng2 T.n_range (a_cons (x_any x_int) (a_cons (x_var 1) a_nil))) (g_name 4 nd)
  (ss_cons (s_set 6 nd (x_lst a_nil))
  (ss_cons (s_for hp (i_rng1 T.n_range (a_cons (x_var 4) a_nil)) (g_name 7 nd)
  (ss_one (s_set 6 nd (x_add (x_var 6) (x_lc [("kind", 5)] nd (i_rng1 T.n_range (a_cons (x_var 2) a_nil)) (by kernel_rfl) (fun _ _ _ _ _ => (g_name 5 nd)) (fun _ _ _ _ _ => (ts_one (t_cmp k_is (x_ix hr (x_ix hr (x_var 3) (x_var 7)) (x_var 5)) x_non))) (fun _ _ _ _ _ => (x_tup (a_cons (x_imm (x_var 7)) (a_cons (x_imm (x_var 5)) a_nil)))))))))
  (ss_cons (s_set 8 nd (x_call C__law_some hr tk (a_cons (x_var 0) (a_cons (x_var 6) a_nil))))
  (ss_one (s_store2 3 hr (x_tup (a_cons (x_imm (x_var 4)) (a_cons (x_call C__law_fare hr tk (a_cons (x_var 0) a_nil)) a_nil))) (x_ix hr (x_var 8) x_int) (x_ix hr (x_var 8) x_int)))))))
  (ss_cons (s_for hp (i_rng1 T.n_range (a_cons (x_var 1) a_nil)) (g_name 4 nd)
  (ss_one (s_for hp (i_rng1 T.n_range (a_cons (x_var 2) a_nil)) (g_name 5 nd)
  (ss_one (s_if (t_w (w_and (t_cmp k_is (x_ix hr (x_ix hr (x_var 3) (x_var 4)) (x_var 5)) x_non) (w_and1 (t_cmp k_gt (x_call C__law_draw hr tk (a_cons (x_var 0) (a_cons (x_any x_int) a_nil))) x_int))))
  (ss_one (s_store2 3 hr (x_tup (a_cons (x_call C__law_draw hr tk (a_cons (x_var 0) (a_cons (x_var 1) a_nil))) (a_cons (x_call C__law_fare hr tk (a_cons (x_var 0) a_nil)) a_nil))) (x_var 4) (x_var 5)))
  ss_nil)))))
  (ss_cons (s_setLc 9 [("state", 4)] nd (i_rng1 T.n_range (a_cons (x_var 1) a_nil)) (by kernel_rfl) (fun _ _ _ _ _ => (g_name 4 nd)) (fun _ _ _ _ _ => ts_nil) (fun _ _ _ _ _ => (x_if (t_cmp (k_eq hr) (x_call C__law_draw hr takesF (a_cons (x_var 0) (a_cons (x_any x_int) a_nil))) x_int) (x_call C__law_fare hr takesF (a_cons (x_var 0) a_nil)) x_non)))
  (ss_cons (s_if (t_cmp k_gt (x_call C__law_draw hr tk (a_cons (x_var 0) (a_cons (x_any x_int) a_nil))) x_int)
  (ss_one (s_store 9 hr (x_call C__law_fare hr tk (a_cons (x_var 0) a_nil)) (x_call C__law_draw hr tk (a_cons (x_var 0) (a_cons (x_var 1) a_nil)))))
  ss_nil)
  (ss_cons (s_set 10 nd (x_call C__law_machine_names hr tk (a_cons (x_var 0) (a_cons (x_var 1) a_nil))))
  (ss_cons (s_set 11 nd (x_bi (b_tuple T.n_tuple) (a_cons (x_any (x_lc [("row", 12)] nd (i_var 3) (by kernel_rfl) (fun _ _ _ _ _ => (g_name 12 nd)) (fun _ _ _ _ _ => ts_nil) (fun _ _ _ _ _ => (x_bi (b_tuple T.n_tuple) (a_cons (x_var 12) a_nil))))) a_nil)))
  (ss_one (s_ret (x_tup (a_cons (x_call C__law_names hr tk (a_cons (x_var 0) (a_cons (x_var 2) a_nil))) (a_cons (x_imm (x_var 10)) (a_cons (x_imm (x_var 11)) (a_cons (x_bi (b_tuple T.n_tuple) (a_cons (x_var 9) a_nil)) (a_cons (x_call C__law_fare hr tk (a_cons (x_var 0) a_nil)) (a_cons (x_bi (b_tuple T.n_tuple) (a_cons (x_any (x_lc [("name", 13)] nd (i_var 10) (by kernel_rfl) (fun _ _ _ _ _ => (g_name 13 nd)) (fun _ _ _ _ _ => ts_nil) (fun _ _ _ _ _ => x_int))) a_nil)) a_nil))))))))))))))))⟩

/-! _law_machine -/
abbrev s__law_machine : Stmt := topS 26
def m__law_machine : Env → M Out := (mSeq (mSet 1 (mCall f__law_some (mCons (mVar 0) (mCons (mTup (mCons (mC (.int 1)) (mCons (mC (.int 2)) (mCons (mC (.int 2)) (mCons (mC (.int 3)) (mCons (mC (.int 3)) (mCons (mC (.int 3)) (mCons (mC (.int 4)) (mCons (mC (.int 4)) (mCons (mC (.int 5)) (mCons (mC (.int 6)) mNil))))))))))) mNil))))
  (mRet (mCall f__law_machine_sized (mCons (mVar 0) (mCons (mVar 1) (mCons (mCall f__law_some (mCons (mVar 0) (mCons (mTup (mCons (mC (.int 1)) (mCons (mC (.int 1)) (mCons (mC (.int 2)) (mCons (mC (.int 2)) (mCons (mC (.int 3)) mNil)))))) mNil))) mNil))))))
def f__law_machine : List P → M P := fnM 2 m__law_machine
theorem sc__law_machine : FnScope ["source", "many"] ["source"] (defScope s__law_machine) := ⟨rfl, rfl, rfl, by decide +kernel, rfl, by decide +kernel, by decide +kernel⟩
theorem ok__law_machine {f : Addr} {fd : FuncData} (F : L2.Fun c.K "_law_machine" "_law_machine" s__law_machine f fd) (g : mg "_law_machine" = some (.ref f)) (b : Binds c.K fd ["source"] []) (T : Bn mg) (C__law_some : Cl c Pg w c.K mg base "_law_some" 2 f__law_some 3) (C__law_machine_sized : Cl c Pg w c.K mg base "_law_machine_sized" 3 f__law_machine_sized 6) : Cl c Pg w c.K mg base "_law_machine" 1 f__law_machine 7 := by
  refine def_ok (N := ["source", "many"]) (k := 6) F sc__law_machine g b fun cdv A outer s H E hr => ?_
  have nd : (["source", "many"] : List Str).Nodup := sc__law_machine.nd
  have tk : Takes (cxOf (L2.CX Pg w) Pg w c.K mg base ["source", "many"] "_law_machine" (defScope s__law_machine) f cdv A outer s H E) (fun cls d _ H => E cls d H) := takes_of rfl rfl rfl rfl
  have hp : PassesOwn (model Pg w) (cxOf (L2.CX Pg w) Pg w c.K mg base ["source", "many"] "_law_machine" (defScope s__law_machine) f cdv A outer s H E).A (cxOf (L2.CX Pg w) Pg w c.K mg base ["source", "many"] "_law_machine" (defScope s__law_machine) f cdv A outer s H E).env (cxOf (L2.CX Pg w) Pg w c.K mg base ["source", "many"] "_law_machine" (defScope s__law_machine) f cdv A outer s H E).xe := passes_of rfl
  exact ⟨_, (ss_cons (s_set 1 nd (x_call C__law_some hr tk (a_cons (x_var 0) (a_cons (x_any (x_tup (a_cons x_int (a_cons x_int (a_cons x_int (a_cons x_int (a_cons x_int (a_cons x_int (a_cons x_int (a_cons x_int (a_cons x_int (a_cons x_int a_nil)))))))))))) a_nil))))
  (ss_one (s_ret (x_call C__law_machine_sized hr tk (a_cons (x_var 0) (a_cons (x_var 1) (a_cons (x_any (x_call C__law_some hr tk (a_cons (x_var 0) (a_cons (x_any (x_tup (a_cons x_int (a_cons x_int (a_cons x_int (a_cons x_int (a_cons x_int a_nil))))))) a_nil)))) a_nil)))))))⟩

/-! _law_walk -/
abbrev s__law_walk : Stmt := topS 27
def b1__law_walk : Env → M Out := (mSeq (mSet 5 (mImm (mIxA (mIxA (mIxA (mVar 0) (mC (.int 2))) (mVar 1)) (mVar 4))))
  (mSeq (mIf (mTst (mOp pIsN (mVar 5) (mC .non)))
  (mRet (mC .non))
  mNext)
  (mSeq (mSet 3 (mOp pAdd (mVar 3) (mIxA (mVar 5) (mC (.int 1)))))
  (mSet 1 (mImm (mIxA (mVar 5) (mC (.int 0))))))))
def m__law_walk : Env → M Out := (mSeq (mSet 3 (mC (.int 0)))
  (mSeq (mFor (mItV 2) (gmName 4) b1__law_walk)
  (mRet (mTup (mCons (mImm (mVar 1)) (mCons (mImm (mVar 3)) mNil))))))
def f__law_walk : List P → M P := fnM 6 m__law_walk
theorem sc__law_walk : FnScope ["machine", "state", "word", "fares", "kind", "move"] ["machine", "state", "word"] (defScope s__law_walk) := ⟨rfl, rfl, rfl, by decide +kernel, rfl, by decide +kernel, by decide +kernel⟩
theorem ok__law_walk {f : Addr} {fd : FuncData} (F : L2.Fun c.K "_law_walk" "_law_walk" s__law_walk f fd) (g : mg "_law_walk" = some (.ref f)) (b : Binds c.K fd ["machine", "state", "word"] []) (T : Bn mg)  : Cl c Pg w c.K mg base "_law_walk" 3 f__law_walk 1 := by
  refine def_ok (N := ["machine", "state", "word", "fares", "kind", "move"]) (k := 0) F sc__law_walk g b fun cdv A outer s H E hr => ?_
  have nd : (["machine", "state", "word", "fares", "kind", "move"] : List Str).Nodup := sc__law_walk.nd
  have tk : Takes (cxOf (L2.CX Pg w) Pg w c.K mg base ["machine", "state", "word", "fares", "kind", "move"] "_law_walk" (defScope s__law_walk) f cdv A outer s H E) (fun cls d _ H => E cls d H) := takes_of rfl rfl rfl rfl
  have hp : PassesOwn (model Pg w) (cxOf (L2.CX Pg w) Pg w c.K mg base ["machine", "state", "word", "fares", "kind", "move"] "_law_walk" (defScope s__law_walk) f cdv A outer s H E).A (cxOf (L2.CX Pg w) Pg w c.K mg base ["machine", "state", "word", "fares", "kind", "move"] "_law_walk" (defScope s__law_walk) f cdv A outer s H E).env (cxOf (L2.CX Pg w) Pg w c.K mg base ["machine", "state", "word", "fares", "kind", "move"] "_law_walk" (defScope s__law_walk) f cdv A outer s H E).xe := passes_of rfl
  exact ⟨_, (ss_cons (s_set 3 nd x_int)
  (ss_cons (s_for hp (i_var 2) (g_name 4 nd)
  (ss_cons (s_set 5 nd (x_imm (x_ix hr (x_ix hr (x_ix hr (x_var 0) x_int) (x_var 1)) (x_var 4))))
  (ss_cons (s_if (t_cmp k_is (x_var 5) x_non)
  (ss_one (s_ret x_non))
  ss_nil)
  (ss_cons (s_set 3 nd (x_add (x_var 3) (x_ix hr (x_var 5) x_int)))
  (ss_one (s_set 1 nd (x_imm (x_ix hr (x_var 5) x_int))))))))
  (ss_one (s_ret (x_tup (a_cons (x_imm (x_var 1)) (a_cons (x_imm (x_var 3)) a_nil)))))))⟩

/-! _law_price -/
abbrev s__law_price : Stmt := topS 28
def m__law_price : Env → M Out := (mSeq (mSet 3 (mCall f__law_walk (mCons (mVar 0) (mCons (mVar 1) (mCons (mVar 2) mNil)))))
  (mSeq (mIf (tOrM (mTst (mOp pIsN (mVar 3) (mC .non))) (mTst (mOp pIsN (mIxA (mIxA (mVar 0) (mC (.int 3))) (mIxA (mVar 3) (mC (.int 0)))) (mC .non))))
  (mRet (mC .non))
  mNext)
  (mRet (mOp pAdd (mIxA (mVar 3) (mC (.int 1))) (mIxA (mIxA (mVar 0) (mC (.int 3))) (mIxA (mVar 3) (mC (.int 0))))))))
def f__law_price : List P → M P := fnM 4 m__law_price
theorem sc__law_price : FnScope ["machine", "state", "word", "behind"] ["machine", "state", "word"] (defScope s__law_price) := ⟨rfl, rfl, rfl, by decide +kernel, rfl, by decide +kernel, by decide +kernel⟩
theorem ok__law_price {f : Addr} {fd : FuncData} (F : L2.Fun c.K "_law_price" "_law_price" s__law_price f fd) (g : mg "_law_price" = some (.ref f)) (b : Binds c.K fd ["machine", "state", "word"] []) (T : Bn mg) (C__law_walk : Cl c Pg w c.K mg base "_law_walk" 3 f__law_walk 1) : Cl c Pg w c.K mg base "_law_price" 3 f__law_price 2 := by
  refine def_ok (N := ["machine", "state", "word", "behind"]) (k := 1) F sc__law_price g b fun cdv A outer s H E hr => ?_
  have nd : (["machine", "state", "word", "behind"] : List Str).Nodup := sc__law_price.nd
  have tk : Takes (cxOf (L2.CX Pg w) Pg w c.K mg base ["machine", "state", "word", "behind"] "_law_price" (defScope s__law_price) f cdv A outer s H E) (fun cls d _ H => E cls d H) := takes_of rfl rfl rfl rfl
  have hp : PassesOwn (model Pg w) (cxOf (L2.CX Pg w) Pg w c.K mg base ["machine", "state", "word", "behind"] "_law_price" (defScope s__law_price) f cdv A outer s H E).A (cxOf (L2.CX Pg w) Pg w c.K mg base ["machine", "state", "word", "behind"] "_law_price" (defScope s__law_price) f cdv A outer s H E).env (cxOf (L2.CX Pg w) Pg w c.K mg base ["machine", "state", "word", "behind"] "_law_price" (defScope s__law_price) f cdv A outer s H E).xe := passes_of rfl
  exact ⟨_, (ss_cons (s_set 3 nd (x_call C__law_walk hr tk (a_cons (x_var 0) (a_cons (x_var 1) (a_cons (x_var 2) a_nil)))))
  (ss_cons (s_if (t_w (w_or (t_cmp k_is (x_var 3) x_non) (w_or1 (t_cmp k_is (x_ix hr (x_ix hr (x_var 0) x_int) (x_ix hr (x_var 3) x_int)) x_non))))
  (ss_one (s_ret x_non))
  ss_nil)
  (ss_one (s_ret (x_add (x_ix hr (x_var 3) x_int) (x_ix hr (x_ix hr (x_var 0) x_int) (x_ix hr (x_var 3) x_int)))))))⟩

/-! _law_words -/
abbrev s__law_words : Stmt := topS 29
def b1__law_words : Env → M Out := (mSet 6 (mOp pAdd (mVar 6) (mLc (mRng rng1 (mCons (mVar 0) mNil)) (gmName 8) mYes (mOp pAdd (mVar 7) (mTup (mCons (mImm (mVar 8)) mNil))) [8])))
def b2__law_words : Env → M Out := (mSeq (mSet 6 (mLst mNil))
  (mSeq (mFor (mItV 4) (gmName 7) b1__law_words)
  (mSeq (mAli 4 6)
  (mSeq (mIf (mTst (mOp pGt (mOp pAdd (mCB (on1 pLen) (mCons (mVar 3) mNil)) (mCB (on1 pLen) (mCons (mVar 4) mNil))) (mVar 2)))
  mBrk
  mNext)
  (mSet 3 (mOp pAdd (mVar 3) (mVar 4)))))))
def m__law_words : Env → M Out := (mSeq (mSet 3 (mLst (mCons (mTup mNil) mNil)))
  (mSeq (mSet 4 (mLst (mCons (mTup mNil) mNil)))
  (mSeq (mFor (mRng rng1 (mCons (mVar 1) mNil)) (gmName 5) b2__law_words)
  (mRetV 3))))
def f__law_words : List P → M P := fnM 9 m__law_words
theorem sc__law_words : FnScope ["kinds", "letters", "most", "words", "level", "turn", "later", "word", "kind"] ["kinds", "letters", "most"] (defScope s__law_words) := ⟨rfl, rfl, rfl, by decide +kernel, rfl, by decide +kernel, by decide +kernel⟩
theorem ok__law_words {f : Addr} {fd : FuncData} (F : L2.Fun c.K "_law_words" "_law_words" s__law_words f fd) (g : mg "_law_words" = some (.ref f)) (b : Binds c.K fd ["kinds", "letters", "most"] []) (T : Bn mg)  : Cl c Pg w c.K mg base "_law_words" 3 f__law_words 1 := by
  refine def_ok (N := ["kinds", "letters", "most", "words", "level", "turn", "later", "word", "kind"]) (k := 0) F sc__law_words g b fun cdv A outer s H E hr => ?_
  have nd : (["kinds", "letters", "most", "words", "level", "turn", "later", "word", "kind"] : List Str).Nodup := sc__law_words.nd
  have tk : Takes (cxOf (L2.CX Pg w) Pg w c.K mg base ["kinds", "letters", "most", "words", "level", "turn", "later", "word", "kind"] "_law_words" (defScope s__law_words) f cdv A outer s H E) (fun cls d _ H => E cls d H) := takes_of rfl rfl rfl rfl
  have hp : PassesOwn (model Pg w) (cxOf (L2.CX Pg w) Pg w c.K mg base ["kinds", "letters", "most", "words", "level", "turn", "later", "word", "kind"] "_law_words" (defScope s__law_words) f cdv A outer s H E).A (cxOf (L2.CX Pg w) Pg w c.K mg base ["kinds", "letters", "most", "words", "level", "turn", "later", "word", "kind"] "_law_words" (defScope s__law_words) f cdv A outer s H E).env (cxOf (L2.CX Pg w) Pg w c.K mg base ["kinds", "letters", "most", "words", "level", "turn", "later", "word", "kind"] "_law_words" (defScope s__law_words) f cdv A outer s H E).xe := passes_of rfl
  exact ⟨_, (ss_cons (s_set 3 nd (x_lst (a_cons (x_tup a_nil) a_nil)))
  (ss_cons (s_set 4 nd (x_lst (a_cons (x_tup a_nil) a_nil)))
  (ss_cons (s_for hp (i_rng1 T.n_range (a_cons (x_var 1) a_nil)) (g_name 5 nd)
  (ss_cons (s_set 6 nd (x_lst a_nil))
  (ss_cons (s_for hp (i_var 4) (g_name 7 nd)
  (ss_one (s_set 6 nd (x_add (x_var 6) (x_lc [("kind", 8)] nd (i_rng1 T.n_range (a_cons (x_var 0) a_nil)) (by kernel_rfl) (fun _ _ _ _ _ => (g_name 8 nd)) (fun _ _ _ _ _ => ts_nil) (fun _ _ _ _ _ => (x_add (x_var 7) (x_tup (a_cons (x_imm (x_var 8)) a_nil)))))))))
  (ss_cons (s_ali 4 6 nd)
  (ss_cons (s_if (t_cmp k_gt (x_add (x_bi (b_len T.n_len) (a_cons (x_var 3) a_nil)) (x_bi (b_len T.n_len) (a_cons (x_var 4) a_nil))) (x_var 2))
  (ss_one s_break)
  ss_nil)
  (ss_one (s_set 3 nd (x_add (x_var 3) (x_var 4)))))))))
  (ss_one (s_retV 3)))))⟩

/-! _law_live -/
abbrev s__law_live : Stmt := topS 30
def b1__law_live : Env → M Out := (mIf (tAndM (mTst (mOp pNotN (mVar 5) (mC .non))) (mTru (mIxA (mVar 1) (mIxA (mVar 5) (mC (.int 0))))))
  (mStore 1 (mC (.bl true)) (mVar 4))
  mNext)
def b2__law_live : Env → M Out := (mFor (mIt (mIxA (mIxA (mVarN 0) (mC (.int 2))) (mVar 4))) (gmName 5) b1__law_live)
def b3__law_live : Env → M Out := (mFor (mRng rng1 (mCons (mCB (on1 pLen) (mCons (mVar 1) mNil)) mNil)) (gmName 4) b2__law_live)
def m__law_live : Env → M Out := (mSeq (mSet 1 (mLc (mIt (mIxA (mVarN 0) (mC (.int 3)))) (gmName 2) mYes (mOp pNotN (mVar 2) (mC .non)) [2]))
  (mSeq (mFor (mRng rng1 (mCons (mCB (on1 pLen) (mCons (mVar 1) mNil)) mNil)) (gmName 3) b3__law_live)
  (mRetV 1)))
def f__law_live : List P → M P := fnM 6 m__law_live
theorem sc__law_live : FnScope ["machine", "live", "fee", "turn", "state", "move"] ["machine"] (defScope s__law_live) := ⟨rfl, rfl, rfl, by decide +kernel, rfl, by decide +kernel, by decide +kernel⟩
theorem ok__law_live {f : Addr} {fd : FuncData} (F : L2.Fun c.K "_law_live" "_law_live" s__law_live f fd) (g : mg "_law_live" = some (.ref f)) (b : Binds c.K fd ["machine"] []) (T : Bn mg)  : Cl c Pg w c.K mg base "_law_live" 1 f__law_live 1 := by
  refine def_ok (N := ["machine", "live", "fee", "turn", "state", "move"]) (k := 0) F sc__law_live g b fun cdv A outer s H E hr => ?_
  have nd : (["machine", "live", "fee", "turn", "state", "move"] : List Str).Nodup := sc__law_live.nd
  have tk : Takes (cxOf (L2.CX Pg w) Pg w c.K mg base ["machine", "live", "fee", "turn", "state", "move"] "_law_live" (defScope s__law_live) f cdv A outer s H E) (fun cls d _ H => E cls d H) := takes_of rfl rfl rfl rfl
  have hp : PassesOwn (model Pg w) (cxOf (L2.CX Pg w) Pg w c.K mg base ["machine", "live", "fee", "turn", "state", "move"] "_law_live" (defScope s__law_live) f cdv A outer s H E).A (cxOf (L2.CX Pg w) Pg w c.K mg base ["machine", "live", "fee", "turn", "state", "move"] "_law_live" (defScope s__law_live) f cdv A outer s H E).env (cxOf (L2.CX Pg w) Pg w c.K mg base ["machine", "live", "fee", "turn", "state", "move"] "_law_live" (defScope s__law_live) f cdv A outer s H E).xe := passes_of rfl
  exact ⟨_, (ss_cons (s_setLc 1 [("fee", 2)] nd (i_any (x_ix hr (x_varN 0) x_int)) (by kernel_rfl) (fun _ _ _ _ _ => (g_name 2 nd)) (fun _ _ _ _ _ => ts_nil) (fun _ _ _ _ _ => (x_cmp k_isnot (x_var 2) x_non)))
  (ss_cons (s_for hp (i_rng1 T.n_range (a_cons (x_any (x_bi (b_len T.n_len) (a_cons (x_var 1) a_nil))) a_nil)) (g_name 3 nd)
  (ss_one (s_for hp (i_rng1 T.n_range (a_cons (x_any (x_bi (b_len T.n_len) (a_cons (x_var 1) a_nil))) a_nil)) (g_name 4 nd)
  (ss_one (s_for hp (i_any (x_ix hr (x_ix hr (x_varN 0) x_int) (x_var 4))) (g_name 5 nd)
  (ss_one (s_if (t_w (w_and (t_cmp k_isnot (x_var 5) x_non) (w_and1 (t_tru (x_ix hr (x_var 1) (x_ix hr (x_var 5) x_int))))))
  (ss_one (s_store 1 hr x_bl (x_var 4)))
  ss_nil)))))))
  (ss_one (s_retV 1))))⟩

/-! _law_base -/
abbrev s__law_base : Stmt := topS 31
def m__law_base : Env → M Out := (mRet (mIxA (mM1 pSplit (mVar 0) (mC (.str "@"))) (mC (.int 0))))
def f__law_base : List P → M P := fnM 1 m__law_base
theorem sc__law_base : FnScope ["name"] ["name"] (defScope s__law_base) := ⟨rfl, rfl, rfl, by decide +kernel, rfl, by decide +kernel, by decide +kernel⟩
theorem ok__law_base {f : Addr} {fd : FuncData} (F : L2.Fun c.K "_law_base" "_law_base" s__law_base f fd) (g : mg "_law_base" = some (.ref f)) (b : Binds c.K fd ["name"] []) (T : Bn mg)  : Cl c Pg w c.K mg base "_law_base" 1 f__law_base 1 := by
  refine def_ok (N := ["name"]) (k := 0) F sc__law_base g b fun cdv A outer s H E hr => ?_
  have nd : (["name"] : List Str).Nodup := sc__law_base.nd
  have tk : Takes (cxOf (L2.CX Pg w) Pg w c.K mg base ["name"] "_law_base" (defScope s__law_base) f cdv A outer s H E) (fun cls d _ H => E cls d H) := takes_of rfl rfl rfl rfl
  have hp : PassesOwn (model Pg w) (cxOf (L2.CX Pg w) Pg w c.K mg base ["name"] "_law_base" (defScope s__law_base) f cdv A outer s H E).A (cxOf (L2.CX Pg w) Pg w c.K mg base ["name"] "_law_base" (defScope s__law_base) f cdv A outer s H E).env (cxOf (L2.CX Pg w) Pg w c.K mg base ["name"] "_law_base" (defScope s__law_base) f cdv A outer s H E).xe := passes_of rfl
  exact ⟨_, (ss_one (s_ret (x_ix hr (x_split (x_var 0) x_str) x_int)))⟩

/-! _law_fits -/
abbrev s__law_fits : Stmt := topS 32
def m__law_fits : Env → M Out := (mSeq (mIf (mTst (mOp pEq (mVar 0) (mC (.str "any"))))
  (mRet (mC (.bl true)))
  mNext)
  (mSeq (mIf (mTst (mOp pInA (mC (.str "/")) (mVar 0)))
  (mRet (mOp pEq (mCall f__law_base (mCons (mVar 1) mNil)) (mVar 0)))
  mNext)
  (mRet (mOp pEq (mIxA (mM1 pSplit (mCall f__law_base (mCons (mVar 1) mNil)) (mC (.str "/"))) (mC (.int 0))) (mVar 0)))))
def f__law_fits : List P → M P := fnM 2 m__law_fits
theorem sc__law_fits : FnScope ["pattern", "name"] ["pattern", "name"] (defScope s__law_fits) := ⟨rfl, rfl, rfl, by decide +kernel, rfl, by decide +kernel, by decide +kernel⟩
theorem ok__law_fits {f : Addr} {fd : FuncData} (F : L2.Fun c.K "_law_fits" "_law_fits" s__law_fits f fd) (g : mg "_law_fits" = some (.ref f)) (b : Binds c.K fd ["pattern", "name"] []) (T : Bn mg) (C__law_base : Cl c Pg w c.K mg base "_law_base" 1 f__law_base 1) : Cl c Pg w c.K mg base "_law_fits" 2 f__law_fits 2 := by
  refine def_ok (N := ["pattern", "name"]) (k := 1) F sc__law_fits g b fun cdv A outer s H E hr => ?_
  have nd : (["pattern", "name"] : List Str).Nodup := sc__law_fits.nd
  have tk : Takes (cxOf (L2.CX Pg w) Pg w c.K mg base ["pattern", "name"] "_law_fits" (defScope s__law_fits) f cdv A outer s H E) (fun cls d _ H => E cls d H) := takes_of rfl rfl rfl rfl
  have hp : PassesOwn (model Pg w) (cxOf (L2.CX Pg w) Pg w c.K mg base ["pattern", "name"] "_law_fits" (defScope s__law_fits) f cdv A outer s H E).A (cxOf (L2.CX Pg w) Pg w c.K mg base ["pattern", "name"] "_law_fits" (defScope s__law_fits) f cdv A outer s H E).env (cxOf (L2.CX Pg w) Pg w c.K mg base ["pattern", "name"] "_law_fits" (defScope s__law_fits) f cdv A outer s H E).xe := passes_of rfl
  exact ⟨_, (ss_cons (s_if (t_cmp (k_eq hr) (x_var 0) x_str)
  (ss_one (s_ret x_bl))
  ss_nil)
  (ss_cons (s_if (t_cmp (k_in hr) x_str (x_var 0))
  (ss_one (s_ret (x_cmp (k_eq hr) (x_call C__law_base hr tk (a_cons (x_var 1) a_nil)) (x_var 0))))
  ss_nil)
  (ss_one (s_ret (x_cmp (k_eq hr) (x_ix hr (x_split (x_call C__law_base hr tk (a_cons (x_var 1) a_nil)) x_str) x_int) (x_var 0))))))⟩

/-! _law_lesser -/
abbrev s__law_lesser : Stmt := topS 33
def m__law_lesser : Env → M Out := (mSeq (mIf (mTst (mOp pIsN (mVar 0) (mC .non)))
  (mRetV 1)
  mNext)
  (mSeq (mIf (mTst (mOp pIsN (mVar 1) (mC .non)))
  (mRetV 0)
  mNext)
  (mRet (mCB (on2 pMin2) (mCons (mVar 0) (mCons (mVar 1) mNil))))))
def f__law_lesser : List P → M P := fnM 2 m__law_lesser
theorem sc__law_lesser : FnScope ["one", "other"] ["one", "other"] (defScope s__law_lesser) := ⟨rfl, rfl, rfl, by decide +kernel, rfl, by decide +kernel, by decide +kernel⟩
theorem ok__law_lesser {f : Addr} {fd : FuncData} (F : L2.Fun c.K "_law_lesser" "_law_lesser" s__law_lesser f fd) (g : mg "_law_lesser" = some (.ref f)) (b : Binds c.K fd ["one", "other"] []) (T : Bn mg)  : Cl c Pg w c.K mg base "_law_lesser" 2 f__law_lesser 1 := by
  refine def_ok (N := ["one", "other"]) (k := 0) F sc__law_lesser g b fun cdv A outer s H E hr => ?_
  have nd : (["one", "other"] : List Str).Nodup := sc__law_lesser.nd
  have tk : Takes (cxOf (L2.CX Pg w) Pg w c.K mg base ["one", "other"] "_law_lesser" (defScope s__law_lesser) f cdv A outer s H E) (fun cls d _ H => E cls d H) := takes_of rfl rfl rfl rfl
  have hp : PassesOwn (model Pg w) (cxOf (L2.CX Pg w) Pg w c.K mg base ["one", "other"] "_law_lesser" (defScope s__law_lesser) f cdv A outer s H E).A (cxOf (L2.CX Pg w) Pg w c.K mg base ["one", "other"] "_law_lesser" (defScope s__law_lesser) f cdv A outer s H E).env (cxOf (L2.CX Pg w) Pg w c.K mg base ["one", "other"] "_law_lesser" (defScope s__law_lesser) f cdv A outer s H E).xe := passes_of rfl
  exact ⟨_, (ss_cons (s_if (t_cmp k_is (x_var 0) x_non)
  (ss_one (s_retV 1))
  ss_nil)
  (ss_cons (s_if (t_cmp k_is (x_var 1) x_non)
  (ss_one (s_retV 0))
  ss_nil)
  (ss_one (s_ret (x_bi (b_min2 T.n_min) (a_cons (x_var 0) (a_cons (x_var 1) a_nil)))))))⟩

/-! _law_same -/
abbrev s__law_same : Stmt := topS 34
def m__law_same : Env → M Out := (mRet (mAnd (mCB (on2 pIsi) (mCons (mVar 0) (mCons (mC (.ty "bool")) mNil))) (mOp pEq (mVar 0) (mVar 1))))
def f__law_same : List P → M P := fnM 2 m__law_same
theorem sc__law_same : FnScope ["told", "due"] ["told", "due"] (defScope s__law_same) := ⟨rfl, rfl, rfl, by decide +kernel, rfl, by decide +kernel, by decide +kernel⟩
theorem ok__law_same {f : Addr} {fd : FuncData} (F : L2.Fun c.K "_law_same" "_law_same" s__law_same f fd) (g : mg "_law_same" = some (.ref f)) (b : Binds c.K fd ["told", "due"] []) (T : Bn mg)  : Cl c Pg w c.K mg base "_law_same" 2 f__law_same 1 := by
  refine def_ok (N := ["told", "due"]) (k := 0) F sc__law_same g b fun cdv A outer s H E hr => ?_
  have nd : (["told", "due"] : List Str).Nodup := sc__law_same.nd
  have tk : Takes (cxOf (L2.CX Pg w) Pg w c.K mg base ["told", "due"] "_law_same" (defScope s__law_same) f cdv A outer s H E) (fun cls d _ H => E cls d H) := takes_of rfl rfl rfl rfl
  have hp : PassesOwn (model Pg w) (cxOf (L2.CX Pg w) Pg w c.K mg base ["told", "due"] "_law_same" (defScope s__law_same) f cdv A outer s H E).A (cxOf (L2.CX Pg w) Pg w c.K mg base ["told", "due"] "_law_same" (defScope s__law_same) f cdv A outer s H E).env (cxOf (L2.CX Pg w) Pg w c.K mg base ["told", "due"] "_law_same" (defScope s__law_same) f cdv A outer s H E).xe := passes_of rfl
  exact ⟨_, (ss_one (s_ret (x_and (x_bi (b_isi T.n_isinstance) (a_cons (x_var 0) (a_cons (x_any (x_ty T.n_bool bt_bool)) a_nil))) (x_and1 (x_cmp (k_eq hr) (x_var 0) (x_var 1))))))⟩

/-! _law_least_prices -/
abbrev s__law_least_prices : Stmt := topS 35
def b1__law_least_prices : Env → M Out := (mIf (tAndM (mTst (mOp pNotN (mVar 4) (mC .non))) (mTst (mOp pNotN (mIxA (mVar 1) (mIxA (mVar 4) (mC (.int 0)))) (mC .non))))
  (mStore 1 (mCall f__law_lesser (mCons (mIxA (mVar 1) (mVar 3)) (mCons (mOp pAdd (mIxA (mVar 4) (mC (.int 1))) (mIxA (mVar 1) (mIxA (mVar 4) (mC (.int 0))))) mNil))) (mVar 3))
  mNext)
def b2__law_least_prices : Env → M Out := (mFor (mIt (mIxA (mIxA (mVarN 0) (mC (.int 2))) (mVar 3))) (gmName 4) b1__law_least_prices)
def b3__law_least_prices : Env → M Out := (mFor (mRng rng1 (mCons (mCB (on1 pLen) (mCons (mVar 1) mNil)) mNil)) (gmName 3) b2__law_least_prices)
def m__law_least_prices : Env → M Out := (mSeq (mSet 1 (mCB (on1 pLst) (mCons (mIxA (mVar 0) (mC (.int 3))) mNil)))
  (mSeq (mFor (mRng rng1 (mCons (mCB (on1 pLen) (mCons (mVar 1) mNil)) mNil)) (gmName 2) b3__law_least_prices)
  (mRetV 1)))
def f__law_least_prices : List P → M P := fnM 5 m__law_least_prices
theorem sc__law_least_prices : FnScope ["machine", "table", "turn", "state", "move"] ["machine"] (defScope s__law_least_prices) := ⟨rfl, rfl, rfl, by decide +kernel, rfl, by decide +kernel, by decide +kernel⟩
theorem ok__law_least_prices {f : Addr} {fd : FuncData} (F : L2.Fun c.K "_law_least_prices" "_law_least_prices" s__law_least_prices f fd) (g : mg "_law_least_prices" = some (.ref f)) (b : Binds c.K fd ["machine"] []) (T : Bn mg) (C__law_lesser : Cl c Pg w c.K mg base "_law_lesser" 2 f__law_lesser 1) : Cl c Pg w c.K mg base "_law_least_prices" 1 f__law_least_prices 2 := by
  refine def_ok (N := ["machine", "table", "turn", "state", "move"]) (k := 1) F sc__law_least_prices g b fun cdv A outer s H E hr => ?_
  have nd : (["machine", "table", "turn", "state", "move"] : List Str).Nodup := sc__law_least_prices.nd
  have tk : Takes (cxOf (L2.CX Pg w) Pg w c.K mg base ["machine", "table", "turn", "state", "move"] "_law_least_prices" (defScope s__law_least_prices) f cdv A outer s H E) (fun cls d _ H => E cls d H) := takes_of rfl rfl rfl rfl
  have hp : PassesOwn (model Pg w) (cxOf (L2.CX Pg w) Pg w c.K mg base ["machine", "table", "turn", "state", "move"] "_law_least_prices" (defScope s__law_least_prices) f cdv A outer s H E).A (cxOf (L2.CX Pg w) Pg w c.K mg base ["machine", "table", "turn", "state", "move"] "_law_least_prices" (defScope s__law_least_prices) f cdv A outer s H E).env (cxOf (L2.CX Pg w) Pg w c.K mg base ["machine", "table", "turn", "state", "move"] "_law_least_prices" (defScope s__law_least_prices) f cdv A outer s H E).xe := passes_of rfl
  exact ⟨_, (ss_cons (s_set 1 nd (x_bi (b_list T.n_list) (a_cons (x_ix hr (x_var 0) x_int) a_nil)))
  (ss_cons (s_for hp (i_rng1 T.n_range (a_cons (x_any (x_bi (b_len T.n_len) (a_cons (x_var 1) a_nil))) a_nil)) (g_name 2 nd)
  (ss_one (s_for hp (i_rng1 T.n_range (a_cons (x_any (x_bi (b_len T.n_len) (a_cons (x_var 1) a_nil))) a_nil)) (g_name 3 nd)
  (ss_one (s_for hp (i_any (x_ix hr (x_ix hr (x_varN 0) x_int) (x_var 3))) (g_name 4 nd)
  (ss_one (s_if (t_w (w_and (t_cmp k_isnot (x_var 4) x_non) (w_and1 (t_cmp k_isnot (x_ix hr (x_var 1) (x_ix hr (x_var 4) x_int)) x_non))))
  (ss_one (s_store 1 hr (x_call C__law_lesser hr tk (a_cons (x_ix hr (x_var 1) (x_var 3)) (a_cons (x_any (x_add (x_ix hr (x_var 4) x_int) (x_ix hr (x_var 1) (x_ix hr (x_var 4) x_int)))) a_nil))) (x_var 3)))
  ss_nil)))))))
  (ss_one (s_retV 1))))⟩

/-! _law_rows -/
abbrev s__law_rows : Stmt := topS 36
def b1__law_rows : Env → M Out := (mSeq (mSet 5 (mCall f__law_draw (mCons (mVar 0) (mCons (mCB (on1 pLen) (mCons (mVar 2) mNil)) mNil))))
  (mSeq (mSet 6 (mIfE (mTst (mOp pIsN (mIxA (mVar 2) (mVar 5)) (mC .non))) (mC (.int 0)) (mCB (on2 pMax2) (mCons (mC (.int 0)) (mCons (mOp pAdd (mIxA (mVar 2) (mVar 5)) (mCall f__law_some (mCons (mVar 0) (mCons (mTup (mCons (mC (.int (-3))) (mCons (mC (.int (-2))) (mCons (mC (.int (-1))) (mCons (mC (.int 0)) (mCons (mC (.int 0)) (mCons (mC (.int 1)) mNil))))))) mNil)))) mNil)))))
  (mSeq (mSet 7 (mCall f__law_base (mCons (mIxA (mIxA (mVar 1) (mC (.int 1))) (mVar 5)) mNil)))
  (mApp 3 (mTup (mCons (mCall f__law_some (mCons (mVar 0) (mCons (mTup (mCons (mImm (mVar 7)) (mCons (mImm (mVar 7)) (mCons (mIxA (mM1 pSplit (mVar 7) (mC (.str "/"))) (mC (.int 0))) (mCons (mC (.str "any")) mNil))))) mNil))) (mCons (mImm (mVar 6)) mNil)))))))
def m__law_rows : Env → M Out := (mSeq (mSet 3 (mLst mNil))
  (mSeq (mFor (mRng rng1 (mCons (mCall f__law_some (mCons (mVar 0) (mCons (mTup (mCons (mC (.int 0)) (mCons (mC (.int 1)) (mCons (mC (.int 1)) (mCons (mC (.int 2)) (mCons (mC (.int 3)) mNil)))))) mNil))) mNil)) (gmName 4) b1__law_rows)
  (mRet (mCB (on1 pTup) (mCons (mVar 3) mNil)))))
def f__law_rows : List P → M P := fnM 8 m__law_rows
theorem sc__law_rows : FnScope ["source", "machine", "least", "rows", "k", "state", "near", "name"] ["source", "machine", "least"] (defScope s__law_rows) := ⟨rfl, rfl, rfl, by decide +kernel, rfl, by decide +kernel, by decide +kernel⟩
theorem ok__law_rows {f : Addr} {fd : FuncData} (F : L2.Fun c.K "_law_rows" "_law_rows" s__law_rows f fd) (g : mg "_law_rows" = some (.ref f)) (b : Binds c.K fd ["source", "machine", "least"] []) (T : Bn mg) (C__law_some : Cl c Pg w c.K mg base "_law_some" 2 f__law_some 3) (C__law_draw : Cl c Pg w c.K mg base "_law_draw" 2 f__law_draw 2) (C__law_base : Cl c Pg w c.K mg base "_law_base" 1 f__law_base 1) : Cl c Pg w c.K mg base "_law_rows" 3 f__law_rows 4 := by
  refine def_ok (N := ["source", "machine", "least", "rows", "k", "state", "near", "name"]) (k := 3) F sc__law_rows g b fun cdv A outer s H E hr => ?_
  have nd : (["source", "machine", "least", "rows", "k", "state", "near", "name"] : List Str).Nodup := sc__law_rows.nd
  have tk : Takes (cxOf (L2.CX Pg w) Pg w c.K mg base ["source", "machine", "least", "rows", "k", "state", "near", "name"] "_law_rows" (defScope s__law_rows) f cdv A outer s H E) (fun cls d _ H => E cls d H) := takes_of rfl rfl rfl rfl
  have hp : PassesOwn (model Pg w) (cxOf (L2.CX Pg w) Pg w c.K mg base ["source", "machine", "least", "rows", "k", "state", "near", "name"] "_law_rows" (defScope s__law_rows) f cdv A outer s H E).A (cxOf (L2.CX Pg w) Pg w c.K mg base ["source", "machine", "least", "rows", "k", "state", "near", "name"] "_law_rows" (defScope s__law_rows) f cdv A outer s H E).env (cxOf (L2.CX Pg w) Pg w c.K mg base ["source", "machine", "least", "rows", "k", "state", "near", "name"] "_law_rows" (defScope s__law_rows) f cdv A outer s H E).xe := passes_of rfl
  exact ⟨_, (ss_cons (s_set 3 nd (x_lst a_nil))
  (ss_cons (s_for hp (i_rng1 T.n_range (a_cons (x_any (x_call C__law_some hr tk (a_cons (x_var 0) (a_cons (x_any (x_tup (a_cons x_int (a_cons x_int (a_cons x_int (a_cons x_int (a_cons x_int a_nil))))))) a_nil)))) a_nil)) (g_name 4 nd)
  (ss_cons (s_set 5 nd (x_call C__law_draw hr tk (a_cons (x_var 0) (a_cons (x_any (x_bi (b_len T.n_len) (a_cons (x_var 2) a_nil))) a_nil))))
  (ss_cons (s_set 6 nd (x_if (t_cmp k_is (x_ix hr (x_var 2) (x_var 5)) x_non) x_int (x_bi (b_max2 T.n_max) (a_cons (x_any x_int) (a_cons (x_any (x_add (x_ix hr (x_var 2) (x_var 5)) (x_call C__law_some hr tk (a_cons (x_var 0) (a_cons (x_any (x_tup (a_cons x_neg (a_cons x_neg (a_cons x_neg (a_cons x_int (a_cons x_int (a_cons x_int a_nil)))))))) a_nil))))) a_nil)))))
  (ss_cons (s_set 7 nd (x_call C__law_base hr tk (a_cons (x_ix hr (x_ix hr (x_var 1) x_int) (x_var 5)) a_nil)))
  (ss_one (s_app 3 (x_tup (a_cons (x_call C__law_some hr tk (a_cons (x_var 0) (a_cons (x_any (x_tup (a_cons (x_imm (x_var 7)) (a_cons (x_imm (x_var 7)) (a_cons (x_ix hr (x_split (x_var 7) x_str) x_int) (a_cons x_str a_nil)))))) a_nil))) (a_cons (x_imm (x_var 6)) a_nil)))))))))
  (ss_one (s_ret (x_bi (b_tuple T.n_tuple) (a_cons (x_var 3) a_nil))))))⟩

/-! _law_bound -/
abbrev s__law_bound : Stmt := topS 37
def m__law_bound : Env → M Out := (mSeq (mSet 3 (mLc (mItV 1) (gmTup 2 (gmCons (gmName 4) (gmCons (gmName 5) gmNil))) (mTru (mCall f__law_fits (mCons (mVar 4) (mCons (mIxA (mIxA (mVar 0) (mC (.int 1))) (mVar 2)) mNil)))) (mImm (mVar 5)) [4, 5]))
  (mRet (mIfE (mTru (mVar 3)) (mCB (on1 pMaxL) (mCons (mVar 3) mNil)) (mC .non))))
def f__law_bound : List P → M P := fnM 6 m__law_bound
theorem sc__law_bound : FnScope ["machine", "rows", "state", "numbers", "pattern", "number"] ["machine", "rows", "state"] (defScope s__law_bound) := ⟨rfl, rfl, rfl, by decide +kernel, rfl, by decide +kernel, by decide +kernel⟩
theorem ok__law_bound {f : Addr} {fd : FuncData} (F : L2.Fun c.K "_law_bound" "_law_bound" s__law_bound f fd) (g : mg "_law_bound" = some (.ref f)) (b : Binds c.K fd ["machine", "rows", "state"] []) (T : Bn mg) (C__law_fits : Cl c Pg w c.K mg base "_law_fits" 2 f__law_fits 2) : Cl c Pg w c.K mg base "_law_bound" 3 f__law_bound 3 := by
  refine def_ok (N := ["machine", "rows", "state", "numbers", "pattern", "number"]) (k := 2) F sc__law_bound g b fun cdv A outer s H E hr => ?_
  have nd : (["machine", "rows", "state", "numbers", "pattern", "number"] : List Str).Nodup := sc__law_bound.nd
  have tk : Takes (cxOf (L2.CX Pg w) Pg w c.K mg base ["machine", "rows", "state", "numbers", "pattern", "number"] "_law_bound" (defScope s__law_bound) f cdv A outer s H E) (fun cls d _ H => E cls d H) := takes_of rfl rfl rfl rfl
  have hp : PassesOwn (model Pg w) (cxOf (L2.CX Pg w) Pg w c.K mg base ["machine", "rows", "state", "numbers", "pattern", "number"] "_law_bound" (defScope s__law_bound) f cdv A outer s H E).A (cxOf (L2.CX Pg w) Pg w c.K mg base ["machine", "rows", "state", "numbers", "pattern", "number"] "_law_bound" (defScope s__law_bound) f cdv A outer s H E).env (cxOf (L2.CX Pg w) Pg w c.K mg base ["machine", "rows", "state", "numbers", "pattern", "number"] "_law_bound" (defScope s__law_bound) f cdv A outer s H E).xe := passes_of rfl
  exact ⟨_, (ss_cons (s_setLc 3 [("pattern", 4), ("number", 5)] nd (i_var 1) (by kernel_rfl) (fun _ _ _ _ _ => (g_tup (gs_cons (g_name 4 nd) (gs_cons (g_name 5 nd) gs_nil)))) (fun _ _ _ _ _ => (ts_one (t_tru (x_call C__law_fits hr takesF (a_cons (x_var 4) (a_cons (x_ix hr (x_ix hr (x_var 0) x_int) (x_var 2)) a_nil)))))) (fun _ _ _ _ _ => (x_imm (x_var 5))))
  (ss_one (s_ret (x_if (t_tru (x_var 3)) (x_bi (b_maxL T.n_max) (a_cons (x_var 3) a_nil)) x_non))))⟩

/-! _law_deads_right -/
abbrev s__law_deads_right : Stmt := topS 38
def b1__law_deads_right : Env → M Out := (mIf (tOrM (tNotM (mTst (mChain pLe pLt (mC (.int 0)) (mVar 2) (mCB (on1 pLen) (mCons (mIxA (mVar 0) (mC (.int 1))) mNil))))) (mTst (mOp pGt (mCB (on1 pLen) (mCons (mLc (mItV 1) (gmName 3) (mTst (mOp pEq (mVar 3) (mVar 2))) (mImm (mVar 3)) [3]) mNil)) (mC (.int 1)))))
  (mRet (mC (.bl false)))
  mNext)
def b2__law_deads_right : Env → M Out := (mSeq (mIf (mTst (mOp pNotN (mIxA (mIxA (mVar 0) (mC (.int 3))) (mVar 2)) (mC .non)))
  (mRet (mC (.bl false)))
  mNext)
  (mIf (mTru (mLc (mIt (mIxA (mIxA (mVarN 0) (mC (.int 2))) (mVar 2))) (gmName 4) (tAndM (mTst (mOp pNotN (mVar 4) (mC .non))) (mTst (mOp pNotInA (mIxA (mVar 4) (mC (.int 0))) (mVar 1)))) (mImm (mVar 4)) [4]))
  (mRet (mC (.bl false)))
  mNext))
def m__law_deads_right : Env → M Out := (mSeq (mFor (mItV 1) (gmName 2) b1__law_deads_right)
  (mSeq (mFor (mItV 1) (gmName 2) b2__law_deads_right)
  (mRet (mC (.bl true)))))
def f__law_deads_right : List P → M P := fnM 5 m__law_deads_right
theorem sc__law_deads_right : FnScope ["machine", "deads", "state", "other", "move"] ["machine", "deads"] (defScope s__law_deads_right) := ⟨rfl, rfl, rfl, by decide +kernel, rfl, by decide +kernel, by decide +kernel⟩
theorem ok__law_deads_right {f : Addr} {fd : FuncData} (F : L2.Fun c.K "_law_deads_right" "_law_deads_right" s__law_deads_right f fd) (g : mg "_law_deads_right" = some (.ref f)) (b : Binds c.K fd ["machine", "deads"] []) (T : Bn mg)  : Cl c Pg w c.K mg base "_law_deads_right" 2 f__law_deads_right 1 := by
  refine def_ok (N := ["machine", "deads", "state", "other", "move"]) (k := 0) F sc__law_deads_right g b fun cdv A outer s H E hr => ?_
  have nd : (["machine", "deads", "state", "other", "move"] : List Str).Nodup := sc__law_deads_right.nd
  have tk : Takes (cxOf (L2.CX Pg w) Pg w c.K mg base ["machine", "deads", "state", "other", "move"] "_law_deads_right" (defScope s__law_deads_right) f cdv A outer s H E) (fun cls d _ H => E cls d H) := takes_of rfl rfl rfl rfl
  have hp : PassesOwn (model Pg w) (cxOf (L2.CX Pg w) Pg w c.K mg base ["machine", "deads", "state", "other", "move"] "_law_deads_right" (defScope s__law_deads_right) f cdv A outer s H E).A (cxOf (L2.CX Pg w) Pg w c.K mg base ["machine", "deads", "state", "other", "move"] "_law_deads_right" (defScope s__law_deads_right) f cdv A outer s H E).env (cxOf (L2.CX Pg w) Pg w c.K mg base ["machine", "deads", "state", "other", "move"] "_law_deads_right" (defScope s__law_deads_right) f cdv A outer s H E).xe := passes_of rfl
  exact ⟨_, (ss_cons (s_for hp (i_var 1) (g_name 2 nd)
  (ss_one (s_if (t_w (w_or (t_not (t_chain k_le k_lt (x_any x_int) (x_var 2) (x_any (x_bi (b_len T.n_len) (a_cons (x_ix hr (x_var 0) x_int) a_nil))))) (w_or1 (t_cmp k_gt (x_bi (b_len T.n_len) (a_cons (x_any (x_lc [("other", 3)] nd (i_var 1) (by kernel_rfl) (fun _ _ _ _ _ => (g_name 3 nd)) (fun _ _ _ _ _ => (ts_one (t_cmp (k_eq hr) (x_var 3) (x_var 2)))) (fun _ _ _ _ _ => (x_imm (x_var 3))))) a_nil)) x_int))))
  (ss_one (s_ret x_bl))
  ss_nil)))
  (ss_cons (s_for hp (i_var 1) (g_name 2 nd)
  (ss_cons (s_if (t_cmp k_isnot (x_ix hr (x_ix hr (x_var 0) x_int) (x_var 2)) x_non)
  (ss_one (s_ret x_bl))
  ss_nil)
  (ss_one (s_if (t_tru (x_lc [("move", 4)] nd (i_any (x_ix hr (x_ix hr (x_varN 0) x_int) (x_var 2))) (by kernel_rfl) (fun _ _ _ _ _ => (g_name 4 nd)) (fun _ _ _ _ _ => (ts_one (t_w (w_and (t_cmp k_isnot (x_var 4) x_non) (w_and1 (t_cmp (k_notin hr) (x_ix hr (x_var 4) x_int) (x_var 1))))))) (fun _ _ _ _ _ => (x_imm (x_var 4)))))
  (ss_one (s_ret x_bl))
  ss_nil))))
  (ss_one (s_ret x_bl))))⟩

/-! _law_state_right -/
abbrev s__law_state_right : Stmt := topS 39
def b1__law_state_right : Env → M Out := (mSeq (mIf (tOrM (mTst (mOp pIsN (mVar 6) (mC .non))) (mTst (mOp pInA (mIxA (mVar 6) (mC (.int 0))) (mVar 2))))
  mCnt
  mNext)
  (mIf (tOrM (mTst (mOp pIsN (mIxA (mVar 3) (mIxA (mVar 6) (mC (.int 0)))) (mC .non))) (mTst (mOp pGt (mIxA (mVar 3) (mVar 4)) (mOp pAdd (mIxA (mVar 6) (mC (.int 1))) (mIxA (mVar 3) (mIxA (mVar 6) (mC (.int 0))))))))
  (mRet (mC (.bl false)))
  mNext))
def m__law_state_right : Env → M Out := (mSeq (mSet 5 (mImm (mIxA (mIxA (mVar 0) (mC (.int 3))) (mVar 4))))
  (mSeq (mIf (tOrM (mTst (mOp pIsN (mIxA (mVar 3) (mVar 4)) (mC .non))) (tAndM (mTst (mOp pNotN (mVar 5) (mC .non))) (mTst (mOp pGt (mIxA (mVar 3) (mVar 4)) (mVar 5)))))
  (mRet (mC (.bl false)))
  mNext)
  (mSeq (mFor (mIt (mIxA (mIxA (mVarN 0) (mC (.int 2))) (mVar 4))) (gmName 6) b1__law_state_right)
  (mSeq (mSet 7 (mCall f__law_bound (mCons (mVar 0) (mCons (mVar 1) (mCons (mVar 4) mNil)))))
  (mRet (mOr (mOp pIsN (mVar 7) (mC .non)) (mOp pLe (mVar 7) (mIxA (mVar 3) (mVar 4)))))))))
def f__law_state_right : List P → M P := fnM 8 m__law_state_right
theorem sc__law_state_right : FnScope ["machine", "rows", "deads", "floors", "state", "fee", "move", "bound"] ["machine", "rows", "deads", "floors", "state"] (defScope s__law_state_right) := ⟨rfl, rfl, rfl, by decide +kernel, rfl, by decide +kernel, by decide +kernel⟩
theorem ok__law_state_right {f : Addr} {fd : FuncData} (F : L2.Fun c.K "_law_state_right" "_law_state_right" s__law_state_right f fd) (g : mg "_law_state_right" = some (.ref f)) (b : Binds c.K fd ["machine", "rows", "deads", "floors", "state"] []) (T : Bn mg) (C__law_bound : Cl c Pg w c.K mg base "_law_bound" 3 f__law_bound 3) : Cl c Pg w c.K mg base "_law_state_right" 5 f__law_state_right 4 := by
  refine def_ok (N := ["machine", "rows", "deads", "floors", "state", "fee", "move", "bound"]) (k := 3) F sc__law_state_right g b fun cdv A outer s H E hr => ?_
  have nd : (["machine", "rows", "deads", "floors", "state", "fee", "move", "bound"] : List Str).Nodup := sc__law_state_right.nd
  have tk : Takes (cxOf (L2.CX Pg w) Pg w c.K mg base ["machine", "rows", "deads", "floors", "state", "fee", "move", "bound"] "_law_state_right" (defScope s__law_state_right) f cdv A outer s H E) (fun cls d _ H => E cls d H) := takes_of rfl rfl rfl rfl
  have hp : PassesOwn (model Pg w) (cxOf (L2.CX Pg w) Pg w c.K mg base ["machine", "rows", "deads", "floors", "state", "fee", "move", "bound"] "_law_state_right" (defScope s__law_state_right) f cdv A outer s H E).A (cxOf (L2.CX Pg w) Pg w c.K mg base ["machine", "rows", "deads", "floors", "state", "fee", "move", "bound"] "_law_state_right" (defScope s__law_state_right) f cdv A outer s H E).env (cxOf (L2.CX Pg w) Pg w c.K mg base ["machine", "rows", "deads", "floors", "state", "fee", "move", "bound"] "_law_state_right" (defScope s__law_state_right) f cdv A outer s H E).xe := passes_of rfl
  exact ⟨_, (ss_cons (s_set 5 nd (x_imm (x_ix hr (x_ix hr (x_var 0) x_int) (x_var 4))))
  (ss_cons (s_if (t_w (w_or (t_cmp k_is (x_ix hr (x_var 3) (x_var 4)) x_non) (w_or1 (t_w (w_and (t_cmp k_isnot (x_var 5) x_non) (w_and1 (t_cmp k_gt (x_ix hr (x_var 3) (x_var 4)) (x_var 5))))))))
  (ss_one (s_ret x_bl))
  ss_nil)
  (ss_cons (s_for hp (i_any (x_ix hr (x_ix hr (x_varN 0) x_int) (x_var 4))) (g_name 6 nd)
  (ss_cons (s_if (t_w (w_or (t_cmp k_is (x_var 6) x_non) (w_or1 (t_cmp (k_in hr) (x_ix hr (x_var 6) x_int) (x_var 2)))))
  (ss_one s_continue)
  ss_nil)
  (ss_one (s_if (t_w (w_or (t_cmp k_is (x_ix hr (x_var 3) (x_ix hr (x_var 6) x_int)) x_non) (w_or1 (t_cmp k_gt (x_ix hr (x_var 3) (x_var 4)) (x_add (x_ix hr (x_var 6) x_int) (x_ix hr (x_var 3) (x_ix hr (x_var 6) x_int)))))))
  (ss_one (s_ret x_bl))
  ss_nil))))
  (ss_cons (s_set 7 nd (x_call C__law_bound hr tk (a_cons (x_var 0) (a_cons (x_var 1) (a_cons (x_var 4) a_nil)))))
  (ss_one (s_ret (x_or (x_cmp k_is (x_var 7) x_non) (x_and1 (x_cmp k_le (x_var 7) (x_ix hr (x_var 3) (x_var 4)))))))))))⟩

/-! _law_right -/
abbrev s__law_right : Stmt := topS 40
def b1__law_right : Env → M Out := (mIf (tAndM (mTst (mOp pNotInA (mVar 4) (mVar 2))) (tNotM (mTru (mCall f__law_state_right (mCons (mVar 0) (mCons (mVar 1) (mCons (mVar 2) (mCons (mVar 3) (mCons (mVar 4) mNil)))))))))
  (mRet (mC (.bl false)))
  mNext)
def m__law_right : Env → M Out := (mSeq (mIf (tOrM (tNotM (mTru (mCall f__law_deads_right (mCons (mVar 0) (mCons (mVar 2) mNil))))) (mTst (mOp pNe (mCB (on1 pLen) (mCons (mVar 3) mNil)) (mCB (on1 pLen) (mCons (mIxA (mVar 0) (mC (.int 1))) mNil)))))
  (mRet (mC (.bl false)))
  mNext)
  (mSeq (mFor (mRng rng1 (mCons (mCB (on1 pLen) (mCons (mVar 3) mNil)) mNil)) (gmName 4) b1__law_right)
  (mRet (mC (.bl true)))))
def f__law_right : List P → M P := fnM 5 m__law_right
theorem sc__law_right : FnScope ["machine", "rows", "deads", "floors", "state"] ["machine", "rows", "deads", "floors"] (defScope s__law_right) := ⟨rfl, rfl, rfl, by decide +kernel, rfl, by decide +kernel, by decide +kernel⟩
theorem ok__law_right {f : Addr} {fd : FuncData} (F : L2.Fun c.K "_law_right" "_law_right" s__law_right f fd) (g : mg "_law_right" = some (.ref f)) (b : Binds c.K fd ["machine", "rows", "deads", "floors"] []) (T : Bn mg) (C__law_deads_right : Cl c Pg w c.K mg base "_law_deads_right" 2 f__law_deads_right 1) (C__law_state_right : Cl c Pg w c.K mg base "_law_state_right" 5 f__law_state_right 4) : Cl c Pg w c.K mg base "_law_right" 4 f__law_right 5 := by
  refine def_ok (N := ["machine", "rows", "deads", "floors", "state"]) (k := 4) F sc__law_right g b fun cdv A outer s H E hr => ?_
  have nd : (["machine", "rows", "deads", "floors", "state"] : List Str).Nodup := sc__law_right.nd
  have tk : Takes (cxOf (L2.CX Pg w) Pg w c.K mg base ["machine", "rows", "deads", "floors", "state"] "_law_right" (defScope s__law_right) f cdv A outer s H E) (fun cls d _ H => E cls d H) := takes_of rfl rfl rfl rfl
  have hp : PassesOwn (model Pg w) (cxOf (L2.CX Pg w) Pg w c.K mg base ["machine", "rows", "deads", "floors", "state"] "_law_right" (defScope s__law_right) f cdv A outer s H E).A (cxOf (L2.CX Pg w) Pg w c.K mg base ["machine", "rows", "deads", "floors", "state"] "_law_right" (defScope s__law_right) f cdv A outer s H E).env (cxOf (L2.CX Pg w) Pg w c.K mg base ["machine", "rows", "deads", "floors", "state"] "_law_right" (defScope s__law_right) f cdv A outer s H E).xe := passes_of rfl
  exact ⟨_, (ss_cons (s_if (t_w (w_or (t_not (t_tru (x_call C__law_deads_right hr tk (a_cons (x_var 0) (a_cons (x_var 2) a_nil))))) (w_or1 (t_cmp (k_ne hr) (x_bi (b_len T.n_len) (a_cons (x_var 3) a_nil)) (x_bi (b_len T.n_len) (a_cons (x_ix hr (x_var 0) x_int) a_nil))))))
  (ss_one (s_ret x_bl))
  ss_nil)
  (ss_cons (s_for hp (i_rng1 T.n_range (a_cons (x_any (x_bi (b_len T.n_len) (a_cons (x_var 3) a_nil))) a_nil)) (g_name 4 nd)
  (ss_one (s_if (t_w (w_and (t_cmp (k_notin hr) (x_var 4) (x_var 2)) (w_and1 (t_not (t_tru (x_call C__law_state_right hr tk (a_cons (x_var 0) (a_cons (x_var 1) (a_cons (x_var 2) (a_cons (x_var 3) (a_cons (x_var 4) a_nil)))))))))))
  (ss_one (s_ret x_bl))
  ss_nil)))
  (ss_one (s_ret x_bl))))⟩

/-! _law_bent -/
abbrev s__law_bent : Stmt := topS 41
def m__law_bent : Env → M Out := (mSeq (mSet 4 (mCB (on1 pLen) (mCons (mIxA (mVar 1) (mC (.int 1))) mNil)))
  (mSeq (mSet 5 (mCall f__law_draw (mCons (mVar 0) (mCons (mVar 4) mNil))))
  (mSeq (mSet 6 (mCall f__law_draw (mCons (mVar 0) (mCons (mC (.int 7)) mNil))))
  (mSeq (mIf (mTst (mOp pEq (mVar 6) (mC (.int 0))))
  (mRet (mTup (mCons (mImm (mVar 2)) (mCons (mOp pAdd (mOp pAdd (mSl (mVar 3) mNoPart (mPart (mVar 5))) (mTup (mCons (mC .non) mNil))) (mSl (mVar 3) (mPart (mOp pAdd (mVar 5) (mC (.int 1)))) mNoPart)) mNil))))
  mNext)
  (mSeq (mIf (tAndM (mTst (mOp pEq (mVar 6) (mC (.int 1)))) (mTst (mOp pNotN (mIxA (mVar 3) (mVar 5)) (mC .non))))
  (mRet (mTup (mCons (mImm (mVar 2)) (mCons (mOp pAdd (mOp pAdd (mSl (mVar 3) mNoPart (mPart (mVar 5))) (mTup (mCons (mOp pAdd (mIxA (mVar 3) (mVar 5)) (mCall f__law_some (mCons (mVar 0) (mCons (mTup (mCons (mC (.int 1)) (mCons (mC (.int 1)) (mCons (mC (.int (-1))) (mCons (mC (.int (-2))) mNil))))) mNil)))) mNil))) (mSl (mVar 3) (mPart (mOp pAdd (mVar 5) (mC (.int 1)))) mNoPart)) mNil))))
  mNext)
  (mSeq (mIf (mTst (mOp pEq (mVar 6) (mC (.int 2))))
  (mRet (mTup (mCons (mOp pAdd (mVar 2) (mTup (mCons (mImm (mVar 5)) mNil))) (mCons (mImm (mVar 3)) mNil))))
  mNext)
  (mSeq (mIf (mTst (mOp pEq (mVar 6) (mC (.int 3))))
  (mRet (mTup (mCons (mSl (mVar 2) (mPart (mC (.int 1))) mNoPart) (mCons (mImm (mVar 3)) mNil))))
  mNext)
  (mSeq (mIf (mTst (mOp pEq (mVar 6) (mC (.int 4))))
  (mRet (mTup (mCons (mImm (mVar 2)) (mCons (mSl (mVar 3) mNoPart (mPart (mC (.int (-1))))) mNil))))
  mNext)
  (mSeq (mIf (mTst (mOp pEq (mVar 6) (mC (.int 5))))
  (mRet (mTup (mCons (mOp pAdd (mVar 2) (mTup (mCons (mCall f__law_some (mCons (mVar 0) (mCons (mTup (mCons (mC (.int (-1))) (mCons (mImm (mVar 4)) mNil))) mNil))) mNil))) (mCons (mImm (mVar 3)) mNil))))
  mNext)
  (mRet (mTup (mCons (mImm (mVar 2)) (mCons (mImm (mVar 3)) mNil)))))))))))))
def f__law_bent : List P → M P := fnM 7 m__law_bent
theorem sc__law_bent : FnScope ["source", "machine", "deads", "floors", "size", "state", "way"] ["source", "machine", "deads", "floors"] (defScope s__law_bent) := ⟨rfl, rfl, rfl, by decide +kernel, rfl, by decide +kernel, by decide +kernel⟩
theorem ok__law_bent {f : Addr} {fd : FuncData} (F : L2.Fun c.K "_law_bent" "_law_bent" s__law_bent f fd) (g : mg "_law_bent" = some (.ref f)) (b : Binds c.K fd ["source", "machine", "deads", "floors"] []) (T : Bn mg) (C__law_draw : Cl c Pg w c.K mg base "_law_draw" 2 f__law_draw 2) (C__law_some : Cl c Pg w c.K mg base "_law_some" 2 f__law_some 3) : Cl c Pg w c.K mg base "_law_bent" 4 f__law_bent 4 := by
  refine def_ok (N := ["source", "machine", "deads", "floors", "size", "state", "way"]) (k := 3) F sc__law_bent g b fun cdv A outer s H E hr => ?_
  have nd : (["source", "machine", "deads", "floors", "size", "state", "way"] : List Str).Nodup := sc__law_bent.nd
  have tk : Takes (cxOf (L2.CX Pg w) Pg w c.K mg base ["source", "machine", "deads", "floors", "size", "state", "way"] "_law_bent" (defScope s__law_bent) f cdv A outer s H E) (fun cls d _ H => E cls d H) := takes_of rfl rfl rfl rfl
  have hp : PassesOwn (model Pg w) (cxOf (L2.CX Pg w) Pg w c.K mg base ["source", "machine", "deads", "floors", "size", "state", "way"] "_law_bent" (defScope s__law_bent) f cdv A outer s H E).A (cxOf (L2.CX Pg w) Pg w c.K mg base ["source", "machine", "deads", "floors", "size", "state", "way"] "_law_bent" (defScope s__law_bent) f cdv A outer s H E).env (cxOf (L2.CX Pg w) Pg w c.K mg base ["source", "machine", "deads", "floors", "size", "state", "way"] "_law_bent" (defScope s__law_bent) f cdv A outer s H E).xe := passes_of rfl
  exact ⟨_, (ss_cons (s_set 4 nd (x_bi (b_len T.n_len) (a_cons (x_ix hr (x_var 1) x_int) a_nil)))
  (ss_cons (s_set 5 nd (x_call C__law_draw hr tk (a_cons (x_var 0) (a_cons (x_var 4) a_nil))))
  (ss_cons (s_set 6 nd (x_call C__law_draw hr tk (a_cons (x_var 0) (a_cons (x_any x_int) a_nil))))
  (ss_cons (s_if (t_cmp (k_eq hr) (x_var 6) x_int)
  (ss_one (s_ret (x_tup (a_cons (x_imm (x_var 2)) (a_cons (x_add (x_add (x_sl (x_var 3) o_none (o_some (x_var 5))) (x_tup (a_cons x_non a_nil))) (x_sl (x_var 3) (o_some (x_add (x_var 5) x_int)) o_none)) a_nil)))))
  ss_nil)
  (ss_cons (s_if (t_w (w_and (t_cmp (k_eq hr) (x_var 6) x_int) (w_and1 (t_cmp k_isnot (x_ix hr (x_var 3) (x_var 5)) x_non))))
  (ss_one (s_ret (x_tup (a_cons (x_imm (x_var 2)) (a_cons (x_add (x_add (x_sl (x_var 3) o_none (o_some (x_var 5))) (x_tup (a_cons (x_add (x_ix hr (x_var 3) (x_var 5)) (x_call C__law_some hr tk (a_cons (x_var 0) (a_cons (x_any (x_tup (a_cons x_int (a_cons x_int (a_cons x_neg (a_cons x_neg a_nil)))))) a_nil)))) a_nil))) (x_sl (x_var 3) (o_some (x_add (x_var 5) x_int)) o_none)) a_nil)))))
  ss_nil)
  (ss_cons (s_if (t_cmp (k_eq hr) (x_var 6) x_int)
  (ss_one (s_ret (x_tup (a_cons (x_add (x_var 2) (x_tup (a_cons (x_imm (x_var 5)) a_nil))) (a_cons (x_imm (x_var 3)) a_nil)))))
  ss_nil)
  (ss_cons (s_if (t_cmp (k_eq hr) (x_var 6) x_int)
  (ss_one (s_ret (x_tup (a_cons (x_sl (x_var 2) (o_some x_int) o_none) (a_cons (x_imm (x_var 3)) a_nil)))))
  ss_nil)
  (ss_cons (s_if (t_cmp (k_eq hr) (x_var 6) x_int)
  (ss_one (s_ret (x_tup (a_cons (x_imm (x_var 2)) (a_cons (x_sl (x_var 3) o_none (o_some x_neg)) a_nil)))))
  ss_nil)
  (ss_cons (s_if (t_cmp (k_eq hr) (x_var 6) x_int)
  (ss_one (s_ret (x_tup (a_cons (x_add (x_var 2) (x_tup (a_cons (x_call C__law_some hr tk (a_cons (x_var 0) (a_cons (x_any (x_tup (a_cons x_neg (a_cons (x_imm (x_var 4)) a_nil)))) a_nil))) a_nil))) (a_cons (x_imm (x_var 3)) a_nil)))))
  ss_nil)
  (ss_one (s_ret (x_tup (a_cons (x_imm (x_var 2)) (a_cons (x_imm (x_var 3)) a_nil))))))))))))))⟩

/-! _law_harm_due -/
abbrev s__law_harm_due : Stmt := topS 42
def m__law_harm_due : Env → M Out := (mSeq (mIf (tOrM (tNotM (mTst (mChain pLe pLt (mC (.int 0)) (mVar 2) (mCB (on1 pLen) (mCons (mVar 1) mNil))))) (tNotM (mTst (mChain pLe pLt (mC (.int 0)) (mVar 3) (mCB (on1 pLen) (mCons (mIxA (mVar 0) (mC (.int 1))) mNil))))))
  (mRet (mC (.bl false)))
  mNext)
  (mSeq (mIf (mTru (mLc (mItV 4) (gmName 5) (tNotM (mTst (mChain pLe pLt (mC (.int 0)) (mVar 5) (mCB (on1 pLen) (mCons (mIxA (mVar 0) (mC (.int 0))) mNil))))) (mImm (mVar 5)) [5]))
  (mRet (mC (.bl false)))
  mNext)
  (mSeq (mIf (tNotM (mTru (mCall f__law_fits (mCons (mIxA (mIxA (mVar 1) (mVar 2)) (mC (.int 0))) (mCons (mIxA (mIxA (mVar 0) (mC (.int 1))) (mVar 3)) mNil)))))
  (mRet (mC (.bl false)))
  mNext)
  (mSeq (mSet 6 (mCall f__law_price (mCons (mVar 0) (mCons (mVar 3) (mCons (mVar 4) mNil)))))
  (mRet (mAnd (mOp pNotN (mVar 6) (mC .non)) (mOp pLt (mVar 6) (mIxA (mIxA (mVar 1) (mVar 2)) (mC (.int 1))))))))))
def f__law_harm_due : List P → M P := fnM 7 m__law_harm_due
theorem sc__law_harm_due : FnScope ["machine", "rows", "row", "state", "word", "kind", "told"] ["machine", "rows", "row", "state", "word"] (defScope s__law_harm_due) := ⟨rfl, rfl, rfl, by decide +kernel, rfl, by decide +kernel, by decide +kernel⟩
theorem ok__law_harm_due {f : Addr} {fd : FuncData} (F : L2.Fun c.K "_law_harm_due" "_law_harm_due" s__law_harm_due f fd) (g : mg "_law_harm_due" = some (.ref f)) (b : Binds c.K fd ["machine", "rows", "row", "state", "word"] []) (T : Bn mg) (C__law_fits : Cl c Pg w c.K mg base "_law_fits" 2 f__law_fits 2) (C__law_price : Cl c Pg w c.K mg base "_law_price" 3 f__law_price 2) : Cl c Pg w c.K mg base "_law_harm_due" 5 f__law_harm_due 3 := by
  refine def_ok (N := ["machine", "rows", "row", "state", "word", "kind", "told"]) (k := 2) F sc__law_harm_due g b fun cdv A outer s H E hr => ?_
  have nd : (["machine", "rows", "row", "state", "word", "kind", "told"] : List Str).Nodup := sc__law_harm_due.nd
  have tk : Takes (cxOf (L2.CX Pg w) Pg w c.K mg base ["machine", "rows", "row", "state", "word", "kind", "told"] "_law_harm_due" (defScope s__law_harm_due) f cdv A outer s H E) (fun cls d _ H => E cls d H) := takes_of rfl rfl rfl rfl
  have hp : PassesOwn (model Pg w) (cxOf (L2.CX Pg w) Pg w c.K mg base ["machine", "rows", "row", "state", "word", "kind", "told"] "_law_harm_due" (defScope s__law_harm_due) f cdv A outer s H E).A (cxOf (L2.CX Pg w) Pg w c.K mg base ["machine", "rows", "row", "state", "word", "kind", "told"] "_law_harm_due" (defScope s__law_harm_due) f cdv A outer s H E).env (cxOf (L2.CX Pg w) Pg w c.K mg base ["machine", "rows", "row", "state", "word", "kind", "told"] "_law_harm_due" (defScope s__law_harm_due) f cdv A outer s H E).xe := passes_of rfl
  exact ⟨_, (ss_cons (s_if (t_w (w_or (t_not (t_chain k_le k_lt (x_any x_int) (x_var 2) (x_any (x_bi (b_len T.n_len) (a_cons (x_var 1) a_nil))))) (w_or1 (t_not (t_chain k_le k_lt (x_any x_int) (x_var 3) (x_any (x_bi (b_len T.n_len) (a_cons (x_ix hr (x_var 0) x_int) a_nil))))))))
  (ss_one (s_ret x_bl))
  ss_nil)
  (ss_cons (s_if (t_tru (x_lc [("kind", 5)] nd (i_var 4) (by kernel_rfl) (fun _ _ _ _ _ => (g_name 5 nd)) (fun _ _ _ _ _ => (ts_one (t_not (t_chain k_le k_lt (x_any x_int) (x_var 5) (x_any (x_bi (b_len T.n_len) (a_cons (x_ix hr (x_var 0) x_int) a_nil))))))) (fun _ _ _ _ _ => (x_imm (x_var 5)))))
  (ss_one (s_ret x_bl))
  ss_nil)
  (ss_cons (s_if (t_not (t_tru (x_call C__law_fits hr tk (a_cons (x_ix hr (x_ix hr (x_var 1) (x_var 2)) x_int) (a_cons (x_ix hr (x_ix hr (x_var 0) x_int) (x_var 3)) a_nil)))))
  (ss_one (s_ret x_bl))
  ss_nil)
  (ss_cons (s_set 6 nd (x_call C__law_price hr tk (a_cons (x_var 0) (a_cons (x_var 3) (a_cons (x_var 4) a_nil)))))
  (ss_one (s_ret (x_and (x_cmp k_isnot (x_var 6) x_non) (x_and1 (x_cmp k_lt (x_var 6) (x_ix hr (x_ix hr (x_var 1) (x_var 2)) x_int))))))))))⟩

end
end G

/-! L0: a tactic that runs mirrors; typed values; loops over typed items. -/
namespace G
open PySem PySem.Spec L2 Mir
open PyProof.Rows hiding St
theorem rq_rt {Q : P → Src → Prop} {p : P} {S : Src} (h : Q p S) : retQ Q (.rt p) S := h
theorem at_nx {n : Env → M Out} {Q : Out → Src → Prop} {ρ : Env} {S : Src} (h : Wx n ρ S Q) : andThen n Q (.nx ρ) S := h
theorem at_rt {n : Env → M Out} {Q : Out → Src → Prop} {p : P} {S : Src} (h : Q (.rt p) S) : andThen n Q (.rt p) S := h
theorem at_ct {n : Env → M Out} {Q : Out → Src → Prop} {ρ : Env} {S : Src} (h : Q (.ct ρ) S) : andThen n Q (.ct ρ) S := h
theorem at_bk {n : Env → M Out} {Q : Out → Src → Prop} {ρ : Env} {S : Src} (h : Q (.bk ρ) S) : andThen n Q (.bk ρ) S := h
/-- behind a turn of a loop -/
def lpQ (J : Env → Src → Prop) (QO : Out → Src → Prop) : Out → Src → Prop := fun o S' => match o with
    | .nx ρ2 => J ρ2 S'
    | .ct ρ2 => J ρ2 S'
    | .bk ρ2 => QO (.nx ρ2) S'
    | .rt p => QO (.rt p) S'
    | .ex a b ρ2 => QO (.ex a b ρ2) S'
section
variable {J : Env → Src → Prop} {QO : Out → Src → Prop} {ρ : Env} {S : Src} {p : P}
theorem lp_nx (h : J ρ S) : lpQ J QO (.nx ρ) S := h
theorem lp_ct (h : J ρ S) : lpQ J QO (.ct ρ) S := h
theorem lp_bk (h : QO (.nx ρ) S) : lpQ J QO (.bk ρ) S := h
theorem lp_rt (h : QO (.rt p) S) : lpQ J QO (.rt p) S := h
end
theorem mul_lit {i j : Int} (h : (decide (-(2 ^ 64) < j) && decide (j < 2 ^ 64)) = true) : pMul (.int i) (.int j) = some (.int (i * j)) := by
  have : mulOk i j = true := by unfold mulOk; rw [h, Bool.or_true]
  show (if mulOk i j = true then _ else _) = _
  rw [if_pos this]
theorem mod_pos {i j : Int} (h : 0 < j) : pMod (.int i) (.int j) = some (.int (i % j)) := by
  show (if decide (0 < j) = true then _ else _) = _
  rw [if_pos (by simpa using h)]
theorem div_pos {i j : Int} (h : 0 < j) (h2 : j < 1073741824) : pDiv (.int i) (.int j) = some (.int (i / j)) := by
  show (if (decide (0 < j) && decide (j < 1073741824)) = true then _ else _) = _
  rw [if_pos (by simp [h, h2])]
/-- a loop over typed items -/
theorem wl_enc {α : Type} {enc : α → P} {g : P → Env → Option Env} {body : Env → M Out} {QO : Out → Src → Prop} (I : List α → Env → Src → Prop)
    (step : ∀ x xs ρ S, I (x :: xs) ρ S → ∃ ρ1, g (enc x) ρ = some ρ1 ∧ Wx body ρ1 S (lpQ (I xs) QO)) (fin : ∀ ρ S, I [] ρ S → QO (.nx ρ) S) :
    ∀ (xs : List α) {ps : List P} {ρ S}, ps = xs.map enc → I xs ρ S → Wx (loopM g body ps) ρ S QO := by
  intro xs ps ρ S e h
  subst e
  refine wl_loop (fun ps ρ S => ∃ xs, ps = xs.map enc ∧ I xs ρ S) ?_ ?_ _ ρ S ⟨xs, rfl, h⟩
  · intro p ps ρ S ⟨xs, e, h⟩
    cases xs with
    | nil => cases e
    | cons x xs =>
      injection e with e1 e2; subst e1; subst e2
      obtain ⟨ρ1, eg, o, S', eb, q⟩ := step x xs ρ S h
      refine ⟨ρ1, eg, o, S', eb, ?_⟩
      cases o with
      | nx ρ2 => exact ⟨xs, rfl, q⟩
      | ct ρ2 => exact ⟨xs, rfl, q⟩
      | bk ρ2 => exact q
      | rt p => exact q
      | ex a b ρ2 => exact q
  · intro ρ S ⟨xs, e, h⟩
    cases xs with
    | nil => exact fin ρ S h
    | cons x xs => cases e
/-- a loop over a range -/
theorem wl_rng {lo : Int} {n : Nat} {g : P → Env → Option Env} {body : Env → M Out} {QO : Out → Src → Prop} {ρ : Env} {S : Src} (I : Nat → Env → Src → Prop) (h0 : I 0 ρ S)
    (step : ∀ k, k < n → ∀ ρ S, I k ρ S → ∃ ρ1, g (.int (lo + (k : Int))) ρ = some ρ1 ∧ Wx body ρ1 S (lpQ (I (k + 1)) QO)) (fin : ∀ ρ S, I n ρ S → QO (.nx ρ) S) :
    Wx (loopM g body (intsFrom lo n)) ρ S QO := by
  refine wl_enc (enc := fun (k : Nat) => P.int (lo + (k : Int))) (fun xs ρ S => xs = (List.range n).drop (n - xs.length) ∧ xs.length ≤ n ∧ I (n - xs.length) ρ S) ?_ ?_ (List.range n) (by rfl) ⟨by simp, by simp, by simpa using h0⟩
  · rintro x xs ρ S ⟨e, hl, h⟩
    simp only [List.length_cons] at e hl h
    have hx : x = n - (xs.length + 1) := by
      have h1 := congrArg (fun l => l[0]?) e
      simp only [List.getElem?_cons_zero, List.getElem?_drop, Nat.add_zero] at h1
      rw [List.getElem?_range (by omega)] at h1
      injection h1
    obtain ⟨ρ1, eg, o, S', eb, q⟩ := step _ (by omega) ρ S h
    refine ⟨ρ1, by rw [hx]; exact eg, o, S', eb, ?_⟩
    have hI : ∀ ρ S, I (n - (xs.length + 1) + 1) ρ S → xs = (List.range n).drop (n - xs.length) ∧ xs.length ≤ n ∧ I (n - xs.length) ρ S := by
      intro ρ S h
      have e2 : n - xs.length = n - (xs.length + 1) + 1 := by omega
      refine ⟨?_, by omega, by rw [e2]; exact h⟩
      rw [e2, ← List.tail_drop, ← e]
      rfl
    cases o with
    | nx ρ2 => exact hI _ _ q
    | ct ρ2 => exact hI _ _ q
    | bk ρ2 => exact q
    | rt p => exact q
    | ex a b ρ2 => exact q
  · rintro ρ S ⟨_, _, h⟩
    exact fin ρ S (by simpa using h)
theorem atI_nn {α : Type} {xs : List α} {i : Int} (h : 0 ≤ i) (h2 : i < xs.length) : atI xs i = xs[i.toNat]? := by
  unfold atI ixN
  rw [if_pos h, if_pos h2]; rfl
theorem atI_getD {α : Type} {xs : List α} {i : Int} (d : α) (h : 0 ≤ i) (h2 : i < xs.length) : atI xs i = some (xs.getD i.toNat d) := by
  rw [atI_nn h h2, List.getD_eq_getElem?_getD, List.getElem?_eq_getElem (by omega)]; rfl
theorem getD_map {α β : Type} (f : α → β) (xs : List α) (d : α) (n : Nat) : (xs.map f).getD n (f d) = f (xs.getD n d) := by
  rw [List.getD_eq_getElem?_getD, List.getD_eq_getElem?_getD, List.getElem?_map]
  cases xs[n]? <;> rfl
theorem atI_map {α β : Type} {f : α → β} {xs : List α} {i : Int} (d : α) (h : 0 ≤ i) (h2 : i < xs.length) : atI (xs.map f) i = some (f (xs.getD i.toNat d)) := by
  rw [atI_getD (f d) h (by simpa using h2), getD_map]
theorem ix_tm {α : Type} {f : α → P} {xs : List α} {i : Int} (d : α) (h : 0 ≤ i) (h2 : i < xs.length) : pIxA (.tup (xs.map f)) (.int i) = some (f (xs.getD i.toNat d)) := by
  show atI (xs.map f) i = _
  exact atI_map d h h2
theorem ix_lm {α : Type} {f : α → P} {xs : List α} {i : Int} (d : α) (h : 0 ≤ i) (h2 : i < xs.length) : pIxA (.lst (xs.map f)) (.int i) = some (f (xs.getD i.toNat d)) := by
  show atI (xs.map f) i = _
  exact atI_map d h h2
theorem ix_t {xs : List P} {i : Int} (h : 0 ≤ i) (h2 : i < xs.length) : pIxA (.tup xs) (.int i) = some (xs.getD i.toNat .non) := atI_getD _ h h2
theorem ix_l {xs : List P} {i : Int} (h : 0 ≤ i) (h2 : i < xs.length) : pIxA (.lst xs) (.int i) = some (xs.getD i.toNat .non) := atI_getD _ h h2
theorem cell_nn {S : Src} {i : Int} (h : 0 ≤ i) (h2 : i < S.cells.length) : cellP S (.int i) = some (.int (S.cells.getD i.toNat 0)) := by
  show (atI S.cells i).map P.int = _
  rw [atI_getD 0 h h2]; rfl
theorem getD_mem {α : Type} {xs : List α} {i : Int} (d : α) (h : 0 ≤ i) (h2 : i < xs.length) : xs.getD i.toNat d ∈ xs := by
  rw [List.getD_eq_getElem?_getD, List.getElem?_eq_getElem (by omega)]
  exact List.getElem_mem _
theorem eq_int (a b : Int) : pEq (.int a) (.int b) = some (.bl (a == b)) := rfl
theorem eq_bl (a b : Bool) : pEq (.bl a) (.bl b) = some (.bl (a == b)) := rfl
theorem okD_str {x : Str} (h : PyData.strOk x = true) : (P.str x).okD = true := by
  unfold P.okD SeqAt.shaped
  show (true && (PyData.strOk x && _)) = true
  rw [h]; rfl
theorem eq_str {x y : Str} (h : PyData.strOk x = true) (h2 : PyData.strOk y = true) : pEq (.str x) (.str y) = some (.bl (x == y)) := by
  unfold pEq
  rw [if_pos ⟨okD_str h, okD_str h2⟩]; rfl
theorem any_int (xs : List Int) (i : Int) : ((xs.map P.int).any fun z => eqF z (.int i)) = decide (i ∈ xs) := by
  induction xs with
  | nil => rfl
  | cons x xs ih =>
    rw [List.map_cons, List.any_cons, ih]
    show ((x == i) || _) = _
    by_cases h : x = i
    · subst h; simp
    · have h2 : ¬ i = x := fun e => h e.symm
      simp [h, h2]
theorem all_flat_int (xs : List Int) : (xs.map P.int).all P.flat = true := by
  rw [List.all_map, List.all_eq_true]; intro x _; rfl
theorem in_tI (xs : List Int) (i : Int) : pInA (.int i) (.tup (xs.map .int)) = some (.bl (decide (i ∈ xs))) := by
  show (if (P.int i).flat = true ∧ (xs.map P.int).all P.flat = true then some ((xs.map P.int).any fun z => eqF z (.int i)) else none).map P.bl = _
  rw [if_pos ⟨rfl, all_flat_int xs⟩, any_int]; rfl
theorem nin_tI (xs : List Int) (i : Int) : pNotInA (.int i) (.tup (xs.map .int)) = some (.bl (!decide (i ∈ xs))) := by
  show (if (P.int i).flat = true ∧ (xs.map P.int).all P.flat = true then some ((xs.map P.int).any fun z => eqF z (.int i)) else none).map (fun b => P.bl (!b)) = _
  rw [if_pos ⟨rfl, all_flat_int xs⟩, any_int]; rfl
theorem immL_map {α : Type} (f : α → P) (h : ∀ x, (f x).imm = true) : ∀ xs : List α, immL (xs.map f) = true
  | [] => rfl
  | x :: xs => by
    show ((f x).imm && immL (xs.map f)) = true
    rw [h, immL_map f h xs]; rfl
theorem immL_all : ∀ {xs : List P}, immL xs = true ↔ ∀ x ∈ xs, x.imm = true
  | [] => ⟨(fun _ _ h => by cases h), (fun _ => rfl)⟩
  | x :: xs => by
    show (x.imm && immL xs) = true ↔ _
    rw [Bool.and_eq_true, immL_all, List.forall_mem_cons]
theorem rng1_e {j : Int} (h : -4611686018427387904 ≤ j) (h2 : j < 4611686018427387904) : rng1 [.int j] = some (Mir.intsFrom 0 j.toNat) := by
  show (if okR j = true then _ else _) = _
  rw [if_pos]
  unfold okR
  simp only [Bool.and_eq_true, decide_eq_true_eq]
  exact ⟨h, h2⟩
theorem rng2_e {i j : Int} (h : -4611686018427387904 ≤ j) (h2 : j < 4611686018427387904) (h3 : -4611686018427387904 ≤ i) (h4 : i < 4611686018427387904) : rng2 [.int i, .int j] = some (Mir.intsFrom i (j - i).toNat) := by
  show (if okR i = true ∧ okR j = true then _ else _) = _
  rw [if_pos]
  unfold okR
  simp only [Bool.and_eq_true, decide_eq_true_eq]
  exact ⟨⟨h3, h4⟩, h, h2⟩
theorem rng_leafK {j : Int} {Q : List P → Prop} (k : Q (Mir.intsFrom 0 j.toNat)) (h : -4611686018427387904 ≤ j) (h2 : j < 4611686018427387904) : ∃ z, rng1 [.int j] = some z ∧ Q z := ⟨_, rng1_e h h2, k⟩
theorem rng_leaf {j : Int} {Q : List P → Prop} (h : -4611686018427387904 ≤ j) (h2 : j < 4611686018427387904) (k : Q (Mir.intsFrom 0 j.toNat)) : ∃ z, rng1 [.int j] = some z ∧ Q z := ⟨_, rng1_e h h2, k⟩
theorem rng_leaf2 {i j : Int} {Q : List P → Prop} (h : -4611686018427387904 ≤ j) (h2 : j < 4611686018427387904) (h3 : -4611686018427387904 ≤ i) (h4 : i < 4611686018427387904) (k : Q (Mir.intsFrom i (j - i).toNat)) : ∃ z, rng2 [.int i, .int j] = some z ∧ Q z := ⟨_, rng2_e h h2 h3 h4, k⟩
end G
local macro_rules | `(tactic| walk_at "wx") => `(tactic| first | (with_reducible refine Mir.ws_seq ?_) | (with_reducible refine Mir.ws_set ?_) | (with_reducible refine Mir.ws_if ?_) | (with_reducible refine Mir.wx_ix ?_) | (with_reducible refine Mir.wx_op ?_) | (with_reducible refine Mir.wx_c ?_) | (with_reducible refine Mir.wx_tst ?_) | (with_reducible refine Mir.wx_tru ?_) | (with_reducible refine Mir.wx_call ?_) | (with_reducible refine Mir.wx_cons ?_) | (with_reducible refine Mir.wx_nil ?_) | (with_reducible refine Mir.wx_cb ?_) | (with_reducible refine Mir.wx_imm ?_) | (with_reducible refine Mir.wx_tup ?_) | (with_reducible refine Mir.wx_lst ?_) | (with_reducible refine Mir.wx_tand ?_) | (with_reducible refine Mir.wx_tor ?_) | (with_reducible refine Mir.wx_tnot ?_) | (with_reducible refine Mir.wx_and ?_) | (with_reducible refine Mir.wx_or ?_) | (with_reducible refine Mir.wx_if ?_) | (with_reducible refine Mir.wx_chain ?_) | (with_reducible refine Mir.wx_m1 ?_) | (with_reducible refine Mir.wx_sl ?_) | (with_reducible refine Mir.wx_noPart ?_) | (with_reducible refine Mir.wx_part ?_) | (with_reducible refine Mir.wx_notT ?_) | (with_reducible refine Mir.wx_yes ?_) | (with_reducible refine Mir.wx_dK ?_) | (with_reducible refine Mir.wx_dT ?_) | (with_reducible refine Mir.ws_setN ?_) | (with_reducible refine Mir.ws_ret ?_) | (with_reducible refine Mir.ws_ret0 ?_) | (with_reducible refine Mir.ws_next ?_) | (with_reducible refine Mir.ws_brk ?_) | (with_reducible refine Mir.ws_cnt ?_) | (with_reducible refine Mir.ws_drop ?_) | (with_reducible refine Mir.ws_for ?_) | (with_reducible refine Mir.wi_it ?_) | (with_reducible refine Mir.wi_rng ?_) | (with_reducible refine Mir.wx_lc ?_) | (with_reducible refine Mir.ws_unp ?_) | ((with_reducible show Mir.Wx (Mir.mVar _) _ _ _); refine Mir.wx_var rfl ?_) | ((with_reducible show Mir.Wx (Mir.mVarN _) _ _ _); refine Mir.wx_varN rfl (by intro h; first | (cases h; done) | rfl) ?_) | ((with_reducible show Mir.Wx (Mir.mSrc _ _) _ _ _); refine Mir.wx_src rfl ⟨_, rfl, ?_⟩) | ((with_reducible show Mir.Wx (Mir.mSrcLen _) _ _ _); refine Mir.wx_srcLen rfl ?_) | ((with_reducible show Mir.Wx (Mir.mSrcCell _ _) _ _ _); refine Mir.wx_srcCell rfl ?_) | ((with_reducible show Mir.Wx (Mir.mSrcSet _ _ _) _ _ _); refine Mir.ws_srcSet rfl ?_) | ((with_reducible show Mir.Wx (Mir.mStore _ _ _) _ _ _); refine Mir.ws_store rfl ?_) | ((with_reducible show Mir.Wx (Mir.mSto2 _ _ _ _) _ _ _); refine Mir.ws_store2 rfl ?_) | ((with_reducible show Mir.Wx (Mir.mApp _ _) _ _ _); refine Mir.ws_app rfl ?_) | ((with_reducible show Mir.Wx (Mir.mRetV _) _ _ _); refine Mir.ws_retV rfl (by intro h; first | rfl | cases h) ?_) | ((with_reducible show Mir.Wx (Mir.mItV _) _ _ _); refine Mir.wi_var rfl (by decide) rfl ?_) | fail)
local macro_rules | `(tactic| walk_at "lf") => `(tactic| first | (with_reducible refine G.at_nx ?_) | (with_reducible refine G.at_rt ?_) | (with_reducible refine G.at_ct ?_) | (with_reducible refine G.at_bk ?_) | (with_reducible refine G.rq_rt ?_) | (with_reducible refine G.lp_nx ?_) | (with_reducible refine G.lp_ct ?_) | (with_reducible refine G.lp_rt ?_) | (with_reducible refine G.lp_bk ?_) | ((with_reducible refine G.rng_leaf ?_ ?_ ?_); omega; omega) | (with_reducible refine G.rng_leafK ?_ ?_ ?_) | ((with_reducible refine G.rng_leaf2 ?_ ?_ ?_ ?_ ?_); omega; omega; omega; omega) | ((with_reducible show ∃ _, _); first | (refine ⟨_, G.mul_lit (by decide), ?_⟩) | (refine ⟨_, G.mod_pos (by first | assumption | omega), ?_⟩) | (refine ⟨_, G.div_pos (by first | assumption | omega) (by first | assumption | omega), ?_⟩) | (with_reducible refine ⟨_, _, rfl, rfl, ?_⟩) | (refine ⟨_, rfl, ?_⟩) | (refine ⟨_, _, rfl, rfl, ?_⟩) | fail) | ((with_reducible show _ ∧ _); (refine ⟨rfl, ?_⟩)) | ((with_reducible show _ ≤ _ ∧ _); (refine ⟨Nat.le_of_ble_eq_true rfl, ?_⟩)) | fail)
local macro_rules | `(tactic| walk_at "br") => `(tactic| first | (with_reducible refine And.intro (fun _ => ?_) (fun h => Bool.noConfusion h)) | (with_reducible refine And.intro (fun h => Bool.noConfusion h) (fun _ => ?_)) | (with_reducible refine And.intro (fun h => ?_) (fun h => ?_)) | fail)
local macro_rules | `(tactic| walk_at "all") => `(tactic| repeat' (first | walk_at "wx" | walk_at "lf" | walk_at "br"))
local macro_rules | `(tactic| walk_at "go") => `(tactic| repeat (first | walk_at "wx" | walk_at "lf"))
namespace G
open PySem PySem.Spec L2 Mir
open PyProof.Rows hiding St
structure Gd (S : Src) : Prop where
  at0 : 0 ≤ S.at_
def IntQ (m : Int) : P → Src → Prop := fun p S => Gd S ∧ ∃ d : Int, p = .int d ∧ 0 ≤ d ∧ d < m
theorem t_mixed {S : Src} (g : Gd S) {many : Int} (h : 0 < many) : Wy (f__law_mixed [.src, .int many]) S (IntQ many) := by
  unfold f__law_mixed
  refine wy_fn ?_
  unfold m__law_mixed
  walk_at "go"
  exact ⟨⟨g.at0⟩, _, rfl, Int.emod_nonneg _ (by omega), Int.emod_lt_of_pos _ h⟩
theorem t_draw {S : Src} (g : Gd S) {many : Int} (h : many < 1073741824) : Wy (f__law_draw [.src, .int many]) S (IntQ (max many 1)) := by
  unfold f__law_draw
  refine wy_fn ?_
  unfold m__law_draw
  walk_at "go"
  refine ⟨fun hb => ?_, fun hb => ?_⟩
  · walk_at "go"
    exact ⟨g, _, rfl, by omega, by omega⟩
  have h1 : 0 < many := by simp at hb; omega
  walk_at "go"
  refine wl_rng (fun _ ρ S => Gd S ∧ ∃ c d e, ρ = [some (.src, .par), some (.int many, .par), c, d, e]) ⟨g, _, _, _, rfl⟩ ?_ ?_
  · rintro k hk ρ S ⟨g, c, d, e, rfl⟩
    refine ⟨_, rfl, ?_⟩
    unfold b1__law_draw
    walk_at "go"
    refine ⟨fun hb => ?_, fun hb => ?_⟩
    · walk_at "go"
      refine ⟨⟨g.at0⟩, _, rfl, Int.emod_nonneg _ (by omega), ?_⟩
      have := Int.emod_lt_of_pos S.big h1
      omega
    · walk_at "all"
      · exact Wy.imp (t_mixed (Gd.mk (by exact g.at0)) h1) fun p S' q => ⟨q.1, q.2.imp fun d q => ⟨q.1, q.2.1, by omega⟩⟩
      · exact Wy.imp (t_mixed (Gd.mk (by exact g.at0)) h1) fun p S' q => ⟨q.1, q.2.imp fun d q => ⟨q.1, q.2.1, by omega⟩⟩
      · rename_i h3 h4
        have h4 := of_decide_eq_false h4
        refine ⟨_, cell_nn g.at0 (by omega), ?_⟩
        have g0 := g.at0
        walk_at "all"
        · exact ⟨⟨by show 0 ≤ S.at_ + 1; omega⟩, _, _, _, rfl⟩
        · exact ⟨⟨by show 0 ≤ S.at_ + 1; omega⟩, _, _, _, rfl⟩
  · rintro ρ S ⟨g, c, d, e, rfl⟩
    walk_at "go"
    exact Wy.imp (t_mixed (Gd.mk (by exact g.at0)) h1) fun p S' q => ⟨q.1, q.2.imp fun d q => ⟨q.1, q.2.1, by omega⟩⟩
end G

namespace G
open PySem PySem.Spec L2 Mir
open PyProof.Rows hiding St
theorem tup_l {ps : List P} (h : immL ps = true) : on1 pTup [.lst ps] = some (.tup ps) := by
  show (if immL ps = true then _ else _) = _
  rw [if_pos h]
theorem tup_t {ps : List P} (h : immL ps = true) : on1 pTup [.tup ps] = some (.tup ps) := by
  show (if immL ps = true then _ else _) = _
  rw [if_pos h]
theorem lst_t {ps : List P} (h : immL ps = true) : on1 pLst [.tup ps] = some (.lst ps) := by
  show (if immL ps = true then _ else _) = _
  rw [if_pos h]
theorem lst_l {ps : List P} (h : immL ps = true) : on1 pLst [.lst ps] = some (.lst ps) := by
  show (if immL ps = true then _ else _) = _
  rw [if_pos h]
theorem pop_e {ps : List P} {i : Int} (hi : immL ps = true) (h : 0 ≤ i) (h2 : i < ps.length) (h3 : i < 9223372036854775808) : popIx (.lst ps) (.int i) = some i.toNat := by
  show (if immL ps = true ∧ -(2 ^ 63) ≤ i ∧ i < 2 ^ 63 then _ else _) = _
  rw [if_pos ⟨hi, by omega, by omega⟩]
  have e : seqIndex? i ps.length = some i.toNat := by
    unfold seqIndex?
    have h4 : ¬ i < 0 := by omega
    simp only [h4, if_false]
    rw [if_pos (by simp [h, h2])]
  rw [e]
  show (if i.toNat < ps.length then _ else _) = _
  rw [if_pos (by omega)]
theorem perm_erase {α : Type} {l : List α} {n : Nat} {y : α} (h : l[n]? = some y) : (y :: l.eraseIdx n).Perm l := by
  obtain ⟨hn, rfl⟩ := List.getElem?_eq_some_iff.mp h
  rw [List.eraseIdx_eq_take_drop_succ]
  refine List.perm_middle.symm.trans ?_
  rw [← List.drop_eq_getElem_cons hn, List.take_append_drop]
/-- a comprehension that draws nothing -/
theorem lc_pure {α : Type} {enc : α → P} {g : P → Env → Option Env} {mt : Env → M Bool} {me : Env → M P} {vs : List Nat} {ρ : Env} {S : Src} {Q : P → Src → Prop} {ps : List P} (p : α → Bool) (f : α → P) (xs : List α) (he : ps = xs.map enc) (hl : xs.length < sizeLine)
    (h : ∀ x ∈ xs, ∃ ρ1, g (enc x) (wipeE ρ vs) = some ρ1 ∧ Wx mt ρ1 S fun b S' => S' = S ∧ b = p x ∧ (p x = true → Wx me ρ1 S fun q S' => S' = S ∧ q = f x))
    (k : Q (.lst ((xs.filter p).map f)) S) : ∃ q S', finLc (lcM g mt me vs ps [] ρ S) = .ok q S' ∧ Q q S' := by
  subst he
  refine wl_lc (ρ := ρ) (fun ps acc S' => S' = S ∧ ∃ done rest, xs = done ++ rest ∧ ps = rest.map enc ∧ acc = (done.filter p).map f) ?_ ?_ _ [] S ⟨rfl, [], xs, rfl, rfl, rfl⟩
  · rintro q ps acc S' ⟨rfl, done, rest, e, e2, rfl⟩
    cases rest with
    | nil => cases e2
    | cons x rest =>
      injection e2 with e1 e2; subst e1; subst e2
      obtain ⟨ρ1, eg, b, S1, et, es, eb, h2⟩ := h x (by rw [e]; simp)
      subst es; subst eb
      refine ⟨ρ1, eg, _, _, et, fun hb => ?_, fun hb => ⟨rfl, done ++ [x], rest, by simp [e], rfl, by simp [List.filter_append, hb]⟩⟩
      obtain ⟨q, S2, ee, es, eq⟩ := h2 hb
      subst es; subst eq
      refine ⟨_, _, ee, ?_, rfl, done ++ [x], rest, by simp [e], rfl, by simp [List.filter_append, hb]⟩
      have : (done.filter p).length ≤ done.length := List.length_filter_le _ _
      have h3 : done.length ≤ xs.length := by rw [e]; simp
      rw [List.length_map]; omega
  · rintro acc S' ⟨rfl, done, rest, e, e2, rfl⟩
    cases rest with
    | nil => rw [List.append_nil] at e; subst e; exact k
    | cons x rest => cases e2
/-- a comprehension over a range -/
theorem lc_rng {lo : Int} {n : Nat} {g : P → Env → Option Env} {mt : Env → M Bool} {me : Env → M P} {vs : List Nat} {ρ : Env} {S : Src} {Q : P → Src → Prop} (I : Nat → List P → Src → Prop) (h0 : I 0 [] S)
    (step : ∀ k, k < n → ∀ acc S, I k acc S → ∃ ρ1, g (.int (lo + (k : Int))) (wipeE ρ vs) = some ρ1 ∧ Wx mt ρ1 S fun b S1 => (b = true → Wx me ρ1 S1 fun q S2 => acc.length < sizeLine ∧ I (k + 1) (acc ++ [q]) S2) ∧ (b = false → I (k + 1) acc S1))
    (fin : ∀ acc S, I n acc S → Q (.lst acc) S) : ∃ q S', finLc (lcM g mt me vs (intsFrom lo n) [] ρ S) = .ok q S' ∧ Q q S' := by
  have he : ∀ (ps : List P) k acc S, k ≤ n → ps = (intsFrom lo n).drop k → I k acc S → ∃ q S', finLc (lcM g mt me vs ps acc ρ S) = .ok q S' ∧ Q q S' := by
    intro ps
    induction ps with
    | nil =>
      intro k acc S hk e h
      have : k = n := by
        have := congrArg List.length e
        simp [Mir.intsFrom] at this
        omega
      subst this
      exact ⟨_, _, rfl, fin _ _ h⟩
    | cons p ps ih =>
      intro k acc S hk e h
      have hn : k < n := by
        have := congrArg List.length e
        simp [Mir.intsFrom] at this
        omega
      have hp : p = .int (lo + (k : Int)) ∧ ps = (intsFrom lo n).drop (k + 1) := by
        rw [List.drop_eq_getElem_cons (by simpa [Mir.intsFrom] using hn)] at e
        injection e with e1 e2
        exact ⟨by rw [e1]; simp [Mir.intsFrom], e2⟩
      obtain ⟨ρ1, eg, b, S1, et, h1, h2⟩ := step k hn acc S h
      rw [hp.1]
      cases b with
      | true =>
        obtain ⟨q, S2, ee, hl, hI⟩ := h1 rfl
        obtain ⟨r, S3, e3, q3⟩ := ih (k + 1) _ S2 hn hp.2 hI
        refine ⟨r, S3, ?_, q3⟩
        unfold lcM
        rw [eg]
        dsimp only
        rw [et]
        dsimp only
        rw [ee]
        dsimp only
        rw [if_pos hl]
        exact e3
      | false =>
        obtain ⟨r, S3, e3, q3⟩ := ih (k + 1) acc S1 hn hp.2 (h2 rfl)
        refine ⟨r, S3, ?_, q3⟩
        unfold lcM
        rw [eg]
        dsimp only
        rw [et]
        exact e3
  exact he _ 0 [] S (Nat.zero_le _) rfl h0
theorem t_some {S : Src} (g : Gd S) {p : P} {ps : List P} (hp : p = .tup ps ∨ p = .lst ps) (ne : ps ≠ []) (hl : (ps.length : Int) < 1073741824) (hi : ∀ x ∈ ps, x.imm = true) : Wy (f__law_some [.src, p]) S fun q S' => Gd S' ∧ q ∈ ps := by
  have h1 : 0 < ps.length := List.length_pos_iff.mpr ne
  unfold f__law_some
  refine wy_fn ?_
  unfold m__law_some
  rcases hp with rfl | rfl
  · walk_at "go"
    refine Wy.imp (t_draw g hl) ?_
    rintro _ S1 ⟨g1, d, rfl, h0, h1⟩
    have hm := getD_mem (xs := ps) .non h0 (by omega)
    exact ⟨_, ix_t h0 (by omega), hi _ hm, g1, hm⟩
  · walk_at "go"
    refine Wy.imp (t_draw g hl) ?_
    rintro _ S1 ⟨g1, d, rfl, h0, h1⟩
    have hm := getD_mem (xs := ps) .non h0 (by omega)
    exact ⟨_, ix_l h0 (by omega), hi _ hm, g1, hm⟩
theorem t_fare {S : Src} (g : Gd S) : Wy (f__law_fare [.src]) S fun p S' => Gd S' ∧ ∃ d : Int, p = .int d ∧ 0 ≤ d ∧ d ≤ 20 := by
  unfold f__law_fare
  refine wy_fn ?_
  unfold m__law_fare
  walk_at "go"
  refine Wy.imp (t_some g (.inl rfl) (by simp) (by decide) (immL_all.mp rfl)) ?_
  rintro q S' ⟨g, hm⟩
  refine ⟨g, ?_⟩
  simp only [List.mem_cons, List.not_mem_nil, or_false] at hm
  rcases hm with rfl | rfl | rfl | rfl | rfl | rfl | rfl | rfl | rfl | rfl | rfl <;> exact ⟨_, rfl, by decide, by decide⟩
theorem t_picks {S : Src} (g : Gd S) {ps : List P} {many : Int} (hm : 0 ≤ many) (hl : (ps.length : Int) < 1000000) (hi : ∀ x ∈ ps, x.imm = true) : Wy (f__law_picks [.src, .tup ps, .int many]) S fun q S' => Gd S' ∧ ∃ qs rest, q = .lst qs ∧ (qs ++ rest).Perm ps ∧ (qs.length : Int) = min many ps.length := by
  unfold f__law_picks
  refine wy_fn ?_
  unfold m__law_picks
  walk_at "go"
  refine ⟨_, lst_t (immL_all.mpr hi), ?_⟩
  walk_at "go"
  have hmin : (if (ps.length : Int) < many then (ps.length : Int) else many) = min many ps.length := by split <;> omega
  dsimp only
  rw [hmin]
  refine wl_rng (fun k ρ S => Gd S ∧ ∃ left picked c, ρ = [some (.src, .par), some (.tup ps, .par), some (.int many, .par), some (.lst left, .own), some (.lst picked, .own), c] ∧ (picked ++ left).Perm ps ∧ picked.length = k) ⟨g, ps, [], _, rfl, List.Perm.refl _, rfl⟩ ?_ ?_
  · rintro k hk ρ S ⟨g, left, picked, c, rfl, hp, rfl⟩
    have hlen : picked.length + left.length = ps.length := by rw [← hp.length_eq, List.length_append]
    have hil : immL left = true := immL_all.mpr fun x hx => hi x (hp.subset (List.mem_append_right _ hx))
    refine ⟨_, rfl, ?_⟩
    unfold b1__law_picks
    refine ws_appPop (by decide) rfl rfl ?_
    walk_at "go"
    refine Wy.imp (t_draw g (by omega)) ?_
    rintro _ S1 ⟨g1, d, rfl, h0, h1⟩
    have hd : d.toNat < left.length := by omega
    refine ⟨_, _, pop_e hil h0 (by omega) (by omega), List.getElem?_eq_getElem hd, by show picked.length < 2 ^ 24; omega, ?_⟩
    refine ⟨g1, _, _, _, rfl, ?_, by simp⟩
    refine List.Perm.trans ?_ hp
    rw [List.append_assoc]
    exact List.Perm.append_left _ (perm_erase (List.getElem?_eq_getElem hd))
  · rintro ρ S ⟨g, left, picked, c, rfl, hp, hl⟩
    walk_at "go"
    exact ⟨g, picked, left, rfl, hp, by rw [hl]; omega⟩
/-! names -/
def unS : P → Str
  | .str x => x
  | _ => ""
def pool : List Str := ["a", "b7", "road", "rail", "ferry", "harbour1", "harbour2", "z", "q0q0", "plain", "wet", "e5"]
def extra : List Str := ["m6", "m7", "m8", "m9", "m10", "m11"]
def allN : List Str := pool ++ extra ++ (pool.map fun (x : Str) => x ++ ("/" : Str) ++ ("0" : Str)) ++ (pool.map fun (x : Str) => x ++ ("/" : Str) ++ ("1" : Str))
theorem strs_of {qs rest : List P} {xs : List Str} (h : (qs ++ rest).Perm (xs.map P.str)) : ∃ ys zs : List Str, qs = ys.map .str ∧ (ys ++ zs).Perm xs := by
  refine ⟨qs.map unS, rest.map unS, ?_, ?_⟩
  · rw [List.map_map]
    refine (List.map_id _).symm.trans (List.map_congr_left fun q hq => ?_)
    obtain ⟨x, _, rfl⟩ := List.mem_map.mp (h.subset (List.mem_append_left _ hq))
    rfl
  · have := h.map unS
    rw [List.map_append, List.map_map] at this
    simpa [Function.comp_def, unS] using this
theorem t_names {S : Src} (g : Gd S) {many : Int} (hm : 0 ≤ many) : Wy (f__law_names [.src, .int many]) S fun q S' => Gd S' ∧ ∃ ys zs : List Str, q = .tup (ys.map .str) ∧ (ys ++ zs).Perm pool ∧ (ys.length : Int) = min many 12 := by
  unfold f__law_names
  refine wy_fn ?_
  unfold m__law_names
  walk_at "go"
  refine Wy.imp (t_picks g hm (by decide) (immL_all.mp rfl)) ?_
  rintro _ S1 ⟨g1, qs, rest, rfl, hp, hl⟩
  obtain ⟨ys, zs, rfl, hq⟩ := strs_of (xs := pool) hp
  walk_at "go"
  refine ⟨_, tup_l (immL_map _ (fun _ => rfl) _), g1, ys, zs, rfl, hq, ?_⟩
  rw [List.length_map] at hl
  rw [hl]; rfl
def decS (d : Int) : Str := toString d
theorem strI_e {d : Int} (h : 0 ≤ d) (h2 : d < 1000000) : pStrI [.int d] = some (.str (toString d)) := by
  show (if d.natAbs.log2 < 1920 then _ else _) = _
  rw [if_pos]
  have h3 : d.natAbs < 1000000 := by omega
  by_cases h0 : d.natAbs = 0
  · rw [h0]; decide
  · have := (Nat.log2_lt h0 (k := 20)).mpr (Nat.lt_trans h3 (by decide))
    omega
theorem add_str {x y : Str} (h : x.length + y.length ≤ sizeLine) : pAdd (.str x) (.str y) = some (.str (x ++ y)) := by
  show (if _ then _ else _) = _
  rw [if_pos h]
theorem add_tup {xs ys : List P} (h : immL xs = true) (h2 : immL ys = true) (h3 : xs.length + ys.length ≤ sizeLine) : pAdd (.tup xs) (.tup ys) = some (.tup (xs ++ ys)) := by
  show (if _ then _ else _) = _
  rw [if_pos ⟨h, h2, h3⟩]
theorem add_lst {xs ys : List P} (h : immL xs = true) (h2 : immL ys = true) (h3 : xs.length + ys.length ≤ sizeLine) : pAdd (.lst xs) (.lst ys) = some (.lst (xs ++ ys)) := by
  show (if _ then _ else _) = _
  rw [if_pos ⟨h, h2, h3⟩]
theorem sl_t {ps : List P} {lo hi : Option Int} (h : immL ps = true) : pSl (.tup ps) lo hi = some (.tup (cutL ps lo hi)) := by
  show (if _ then _ else _) = _
  rw [if_pos h]
theorem cut_take {α : Type} {xs : List α} {i : Int} (h : 0 ≤ i) : cutL xs none (some i) = xs.take i.toNat := by
  unfold cutL
  have e : HT.sIx xs.length xs.length (some i) = min i.toNat xs.length := by
    unfold HT.sIx
    dsimp only
    rw [if_neg (by omega)]
  rw [e]
  show List.take (min i.toNat xs.length - 0) (List.drop 0 xs) = _
  rw [Nat.sub_zero, List.drop_zero]
  by_cases hc : i.toNat ≤ xs.length
  · rw [Nat.min_eq_left hc]
  · rw [Nat.min_eq_right (by omega), List.take_of_length_le (Nat.le_refl _), List.take_of_length_le (by omega)]
theorem pool_len : ∀ x ∈ pool, x.length ≤ 8 := by decide +kernel
theorem t_mnames {S : Src} (g : Gd S) {many : Int} (hm : 0 ≤ many) (hm2 : many ≤ 12) : Wy (f__law_machine_names [.src, .int many]) S fun q S' => Gd S' ∧ ∃ ys : List Str, q = .tup (ys.map .str) ∧ (ys.length : Int) = many ∧ ∀ y ∈ ys, y ∈ allN := by
  unfold f__law_machine_names
  refine wy_fn ?_
  unfold m__law_machine_names
  walk_at "go"
  refine Wy.imp (t_names g (by decide)) ?_
  rintro _ S1 ⟨g1, ys, zs, rfl, hp, hl⟩
  have hl : ys.length = 6 := by omega
  have hys : ∀ y ∈ ys, y ∈ pool := fun y hy => hp.subset (List.mem_append_left _ hy)
  walk_at "go"
  refine Wy.imp (t_draw g1 (by decide)) ?_
  rintro _ S2 ⟨g2, d, rfl, h0, h1⟩
  walk_at "go"
  refine ⟨fun hb => ?_, fun hb => ?_⟩
  · walk_at "go"
    refine ⟨_, add_tup (immL_map _ (fun _ => rfl) _) rfl (by rw [List.length_map, hl]; decide), ?_⟩
    walk_at "go"
    refine ⟨_, sl_t (immL_all.mpr ?_), ?_⟩
    · intro x hx
      rcases List.mem_append.mp hx with hx | hx
      · obtain ⟨y, _, rfl⟩ := List.mem_map.mp hx; rfl
      · obtain ⟨y, _, rfl⟩ := List.mem_map.mp (show x ∈ extra.map P.str from hx); rfl
    refine ⟨g2, (ys ++ extra).take many.toNat, ?_, ?_, ?_⟩
    · rw [cut_take hm, List.map_take, List.map_append]; rfl
    · rw [List.length_take, List.length_append, hl]
      show ((min many.toNat 12 : Nat) : Int) = many
      omega
    · intro y hy
      rcases List.mem_append.mp (List.mem_of_mem_take hy) with hy | hy
      · exact List.mem_append_left _ (List.mem_append_left _ (List.mem_append_left _ (hys y hy)))
      · exact List.mem_append_left _ (List.mem_append_left _ (List.mem_append_right _ hy))
  · walk_at "go"
    refine lc_rng (fun k acc S => Gd S ∧ ∃ ns : List Str, acc = ns.map .str ∧ ns.length = k ∧ ∀ y ∈ ns, y ∈ allN) ⟨g2, [], rfl, rfl, fun _ h => by cases h⟩ ?_ ?_
    · rintro k hk acc S ⟨g, ns, rfl, rfl, hn⟩
      have hk2 : ns.length < 12 := by omega
      refine ⟨_, rfl, ?_⟩
      walk_at "go"
      refine ⟨fun _ => ?_, fun h => Bool.noConfusion h⟩
      walk_at "go"

      refine ⟨_, ix_tm ("" : Str) (by omega) (by rw [hl]; omega), ?_⟩
      have hy := hys _ (getD_mem (xs := ys) (i := (0 + (ns.length : Int)) / 2) ("" : Str) (by omega) (by omega))
      generalize ys.getD ((0 + (ns.length : Int)) / 2).toNat ("" : Str) = y at hy
      have hyl := pool_len y hy
      walk_at "go"
      refine ⟨_, add_str (by show y.length + 1 ≤ 2 ^ 24; omega), ?_⟩
      walk_at "go"
      have hd : (0 + (ns.length : Int)) - (0 + (ns.length : Int)) / 2 * 2 = 0 ∨ (0 + (ns.length : Int)) - (0 + (ns.length : Int)) / 2 * 2 = 1 := by omega
      have key : ∀ d : Int, d = 0 ∨ d = 1 → ∃ z, pStrI [.int d] = some (.str z) ∧ y.length + 1 + z.length ≤ 100 ∧ y ++ "/" ++ z ∈ allN := by
        intro d hd
        rcases hd with rfl | rfl
        · refine ⟨"0", by rfl, by show y.length + 1 + 1 ≤ 100; omega, ?_⟩
          exact List.mem_append_left _ (List.mem_append_right _ (List.mem_map.mpr ⟨y, hy, rfl⟩))
        · refine ⟨"1", by rfl, by show y.length + 1 + 1 ≤ 100; omega, ?_⟩
          exact List.mem_append_right _ (List.mem_map.mpr ⟨y, hy, rfl⟩)
      obtain ⟨z, e1, e2, e3⟩ := key _ hd
      refine ⟨_, e1, ?_⟩
      have hyz : (y ++ ("/" : Str)).length ≤ y.length + 1 := by
        show (y.cps ++ ("/" : Str).cps).size ≤ _
        rw [Array.size_append]
        exact Nat.le_refl _
      refine ⟨_, add_str (by show _ ≤ 2 ^ 24; omega), ?_⟩
      refine ⟨by rw [List.length_map]; show _ < 2 ^ 24; omega, g, ns ++ [y ++ "/" ++ z], by rw [List.map_append]; rfl, by simp, ?_⟩
      intro x hx
      rcases List.mem_append.mp hx with hx | hx
      · exact hn x hx
      · rw [List.mem_singleton] at hx; subst hx; exact e3
    · rintro acc S ⟨g, ns, rfl, hk, hn⟩
      walk_at "go"
      exact ⟨_, tup_l (immL_map _ (fun _ => rfl) _), g, ns, rfl, by omega, hn⟩
end G

namespace G
open PySem PySem.Spec L2 Mir
open PyProof.Rows hiding St
theorem wl_rng0 {n : Nat} {g : P → Env → Option Env} {body : Env → M Out} {QO : Out → Src → Prop} {ρ : Env} {S : Src} (I : Nat → Env → Src → Prop) (h0 : I 0 ρ S)
    (step : ∀ k, k < n → ∀ ρ S, I k ρ S → ∃ ρ1, g (.int (k : Int)) ρ = some ρ1 ∧ Wx body ρ1 S (lpQ (I (k + 1)) QO)) (fin : ∀ ρ S, I n ρ S → QO (.nx ρ) S) :
    Wx (loopM g body (Mir.intsFrom 0 n)) ρ S QO := wl_rng I h0 (fun k hk ρ S h => by rw [Int.zero_add]; exact step k hk ρ S h) fin
theorem lc_rng0 {n : Nat} {g : P → Env → Option Env} {mt : Env → M Bool} {me : Env → M P} {vs : List Nat} {ρ : Env} {S : Src} {Q : P → Src → Prop} (I : Nat → List P → Src → Prop) (h0 : I 0 [] S)
    (step : ∀ k, k < n → ∀ acc S, I k acc S → ∃ ρ1, g (.int (k : Int)) (wipeE ρ vs) = some ρ1 ∧ Wx mt ρ1 S fun b S1 => (b = true → Wx me ρ1 S1 fun q S2 => acc.length < sizeLine ∧ I (k + 1) (acc ++ [q]) S2) ∧ (b = false → I (k + 1) acc S1))
    (fin : ∀ acc S, I n acc S → Q (.lst acc) S) : ∃ q S', finLc (lcM g mt me vs (Mir.intsFrom 0 n) [] ρ S) = .ok q S' ∧ Q q S' := lc_rng I h0 (fun k hk acc S h => by rw [Int.zero_add]; exact step k hk acc S h) fin
theorem ints0 (n : Nat) : Mir.intsFrom 0 n = (List.range n).map fun (k : Nat) => P.int (k : Int) := by
  unfold Mir.intsFrom
  exact List.map_congr_left fun k _ => by rw [Int.zero_add]
theorem ix_tmn {α : Type} {f : α → P} {xs : List α} {i : Nat} (d : α) (h2 : i < xs.length) : pIxA (.tup (xs.map f)) (.int (i : Int)) = some (f (xs.getD i d)) := ix_tm d (Int.natCast_nonneg i) (by omega)
theorem ix_lmn {α : Type} {f : α → P} {xs : List α} {i : Nat} (d : α) (h2 : i < xs.length) : pIxA (.lst (xs.map f)) (.int (i : Int)) = some (f (xs.getD i d)) := ix_lm d (Int.natCast_nonneg i) (by omega)
abbrev Mv := Option (Int × Int)
def pMv : Mv → P
  | none => .non
  | some (s, f) => .tup [.int s, .int f]
theorem pMv_imm (m : Mv) : (pMv m).imm = true := by
  cases m <;> rfl
def pOpt : Option Int → P
  | none => .non
  | some i => .int i
theorem pOpt_imm (m : Option Int) : (pOpt m).imm = true := by
  cases m <;> rfl
abbrev Tbl := List (List Mv)
def encT (t : Tbl) : P := .lst (t.map fun r => .lst (r.map pMv))
def cell (t : Tbl) (a b : Nat) : Mv := (t.getD a []).getD b none
def setT (t : Tbl) (a b : Nat) (m : Mv) : Tbl := t.set a ((t.getD a []).set b m)
structure TW (n kinds : Nat) (t : Tbl) : Prop where
  len : t.length = n
  row : ∀ r ∈ t, r.length = kinds
  mv : ∀ r ∈ t, ∀ s f, some (s, f) ∈ r → 0 ≤ s ∧ s < n ∧ 0 ≤ f ∧ f ≤ 20
theorem getD_lt {α : Type} {xs : List α} {n : Nat} (d : α) (h : n < xs.length) : xs.getD n d ∈ xs := by
  rw [List.getD_eq_getElem?_getD, List.getElem?_eq_getElem h]
  exact List.getElem_mem h
theorem TW.rowAt {n kinds : Nat} {t : Tbl} (h : TW n kinds t) {a : Nat} (ha : a < n) : (t.getD a []).length = kinds := h.row _ (getD_lt _ (by rw [h.len]; exact ha))
theorem TW.set {n kinds : Nat} {t : Tbl} (h : TW n kinds t) {a b : Nat} {m : Mv} (ha : a < n) (hm : ∀ s f, m = some (s, f) → 0 ≤ s ∧ s < n ∧ 0 ≤ f ∧ f ≤ 20) : TW n kinds (setT t a b m) := by
  have hr : (t.getD a []) ∈ t := getD_lt _ (by rw [h.len]; exact ha)
  refine ⟨by unfold setT; rw [List.length_set, h.len], fun r hr' => ?_, fun r hr' s f hs => ?_⟩
  · rcases List.mem_or_eq_of_mem_set hr' with hr' | rfl
    · exact h.row r hr'
    · rw [List.length_set]; exact h.row _ hr
  · rcases List.mem_or_eq_of_mem_set hr' with hr' | rfl
    · exact h.mv r hr' s f hs
    · rcases List.mem_or_eq_of_mem_set hs with hs | hs
      · exact h.mv _ hr s f hs
      · exact hm s f hs.symm
theorem encT_row {n kinds : Nat} {t : Tbl} (h : TW n kinds t) {a : Nat} (ha : a < n) : pIxA (encT t) (.int (a : Int)) = some (.lst ((t.getD a []).map pMv)) := ix_lmn (f := fun r : List Mv => P.lst (r.map pMv)) [] (by rw [h.len]; exact ha)
theorem encR_cell {r : List Mv} {b : Nat} (hb : b < r.length) : pIxA (.lst (r.map pMv)) (.int (b : Int)) = some (pMv (r.getD b none)) := ix_lmn none hb
theorem ixN_n {n j : Nat} (hj : j < n) : ixN n (j : Int) = some j := by
  unfold ixN
  rw [if_pos (Int.natCast_nonneg j), if_pos (by omega)]; rfl
theorem rowOf_e {ps : List P} {a : Nat} (ha : a < ps.length) : rowOf (.lst ps) (.int (a : Int)) = some a := ixN_n ha
theorem setRow_e {n kinds : Nat} {t : Tbl} (h : TW n kinds t) {a b : Nat} (ha : a < n) (hb : b < kinds) (m : Mv) : setRow a (.int (b : Int)) (pMv m) (encT t) = some (encT (setT t a b m)) := by
  have hr := h.rowAt ha
  show ((t.map fun r => P.lst (r.map pMv))[a]?).bind (fun row => (stoP row (.int b) (pMv m)).map fun row' => P.lst ((t.map fun r => P.lst (r.map pMv)).set a row')) = _
  have e1 : (t.map fun r => P.lst (r.map pMv))[a]? = some (.lst ((t.getD a []).map pMv)) := by
    rw [List.getElem?_map, List.getD_eq_getElem?_getD, List.getElem?_eq_getElem (by rw [h.len]; exact ha)]; rfl
  rw [e1]
  show (stoP (.lst ((t.getD a []).map pMv)) (.int b) (pMv m)).map _ = _
  have e2 : stoP (.lst ((t.getD a []).map pMv)) (.int b) (pMv m) = some (.lst (((t.getD a []).set b m).map pMv)) := by
    show (if _ then (ixN _ (b : Int)).map _ else _) = _
    rw [if_pos ⟨immL_map _ pMv_imm _, pMv_imm m⟩, List.length_map, ixN_n (by rw [hr]; exact hb), List.map_set]; rfl
  rw [e2]
  show some (P.lst _) = _
  unfold encT setT
  simp only [List.map_set]
/-! counts -/
def cnt : Tbl → Nat
  | [] => 0
  | r :: t => r.countP Option.isSome + cnt t
theorem countP_set {α : Type} (p : α → Bool) (x : α) : ∀ (l : List α) (i : Nat), (l.set i x).countP p ≤ l.countP p + 1
  | [], _ => by simp
  | y :: l, 0 => by
    rw [List.set_cons_zero, List.countP_cons, List.countP_cons]
    split <;> split <;> omega
  | y :: l, i + 1 => by
    rw [List.set_cons_succ, List.countP_cons, List.countP_cons]
    have := countP_set p x l i
    omega
theorem cnt_set (m : Mv) : ∀ (t : Tbl) (a b : Nat), cnt (setT t a b m) ≤ cnt t + 1
  | [], a, b => by simp [setT, cnt]
  | r :: t, 0, b => by
    show (r.set b m).countP Option.isSome + cnt t ≤ r.countP Option.isSome + cnt t + 1
    have := countP_set Option.isSome m r b
    omega
  | r :: t, a + 1, b => by
    show r.countP Option.isSome + cnt (setT t a b m) ≤ r.countP Option.isSome + cnt t + 1
    have := cnt_set m t a b
    omega
theorem cnt_full : ∀ (t : Tbl) (s : Nat), s ≤ t.length → (∀ a, a < s → 0 < (t.getD a []).length ∧ ∀ b, b < (t.getD a []).length → (cell t a b).isSome = true) → s ≤ cnt t
  | [], s, h, _ => by simp at h; omega
  | r :: t, 0, _, _ => Nat.zero_le _
  | r :: t, s + 1, h, k => by
    have h1 := cnt_full t s (by simpa using h) fun a ha => k (a + 1) (by omega)
    obtain ⟨h2, h3⟩ := k 0 (by omega)
    have h4 : 0 < r.countP Option.isSome := by
      rw [List.countP_pos_iff]
      exact ⟨r.getD 0 none, getD_lt _ h2, h3 0 h2⟩
    show s + 1 ≤ r.countP Option.isSome + cnt t
    omega
/-- the free cells of the first k rows -/
def freeL (t : Tbl) (kinds : Nat) : Nat → List (Nat × Nat)
  | 0 => []
  | k + 1 => freeL t kinds k ++ ((List.range kinds).filter fun b => (cell t k b).isNone).map fun b => (k, b)
theorem mem_freeL {t : Tbl} {kinds : Nat} : ∀ {k : Nat} {q : Nat × Nat}, q ∈ freeL t kinds k ↔ q.1 < k ∧ q.2 < kinds ∧ (cell t q.1 q.2).isNone = true
  | 0, q => ⟨(fun h => by cases h), (fun h => by omega)⟩
  | k + 1, q => by
    unfold freeL
    rw [List.mem_append, mem_freeL (k := k), List.mem_map]
    constructor
    · rintro (h | ⟨b, hb, rfl⟩)
      · exact ⟨by omega, h.2⟩
      · rw [List.mem_filter, List.mem_range] at hb
        exact ⟨Nat.lt_succ_self _, hb⟩
    · rintro ⟨h1, h2, h3⟩
      by_cases h : q.1 < k
      · exact .inl ⟨h, h2, h3⟩
      · have : q.1 = k := by omega
        subst this
        exact .inr ⟨q.2, by rw [List.mem_filter, List.mem_range]; exact ⟨h2, h3⟩, rfl⟩
theorem len_freeL (t : Tbl) (kinds : Nat) : ∀ k, (freeL t kinds k).length ≤ k * kinds
  | 0 => Nat.zero_le _
  | k + 1 => by
    unfold freeL
    rw [List.length_append, List.length_map, Nat.add_mul, Nat.one_mul]
    have h1 := len_freeL t kinds k
    have h2 := List.length_filter_le (fun b => (cell t k b).isNone) (List.range kinds)
    rw [List.length_range] at h2
    omega
theorem freeL_ne {n kinds : Nat} {t : Tbl} (h : TW n kinds t) {s : Nat} (hk : 0 < kinds) (hs : s ≤ n) (hc : cnt t < s) : freeL t kinds s ≠ [] := by
  intro e
  have := cnt_full t s (by rw [h.len]; exact hs) fun a ha => ⟨by rw [h.rowAt (by omega)]; exact hk, fun b hb => ?_⟩
  · omega
  · cases q : cell t a b with
    | some _ => rfl
    | none =>
      have hm : (a, b) ∈ freeL t kinds s := mem_freeL.mpr ⟨ha, by rw [h.rowAt (by omega)] at hb; exact hb, by show (cell t a b).isNone = true; rw [q]; rfl⟩
      rw [e] at hm; cases hm
def encS (q : Nat × Nat) : P := .tup [.int (q.1 : Int), .int (q.2 : Int)]
end G

namespace G
open PySem PySem.Spec L2 Mir
open PyProof.Rows hiding St
structure Mac where
  kinds : List Str
  names : List Str
  moves : Tbl
  ends : List (Option Int)
  entry : Int
  places : List Int
def Mac.p (M : Mac) : P := .tup [.tup (M.kinds.map .str), .tup (M.names.map .str), .tup (M.moves.map fun r => .tup (r.map pMv)), .tup (M.ends.map pOpt), .int M.entry, .tup (M.places.map .int)]
structure Mac.ok (M : Mac) : Prop where
  n1 : 1 ≤ M.names.length
  n2 : M.names.length ≤ 12
  k1 : 1 ≤ M.kinds.length
  k2 : M.kinds.length ≤ 12
  tw : TW M.names.length M.kinds.length M.moves
  el : M.ends.length = M.names.length
  ev : ∀ e, some e ∈ M.ends → 0 ≤ e ∧ e ≤ 20
  nm : ∀ x ∈ M.names, x ∈ allN
  kn : ∀ x ∈ M.kinds, x ∈ pool
theorem isNs_mv (m : Mv) : (pMv m).isN = m.isNone := by cases m <;> rfl
theorem isNs_opt (m : Option Int) : (pOpt m).isN = m.isNone := by cases m <;> rfl
theorem isN_mv (m : Mv) : pIsN (pMv m) .non = some (.bl m.isNone) := by cases m <;> rfl
theorem isN_opt (m : Option Int) : pIsN (pOpt m) .non = some (.bl m.isNone) := by cases m <;> rfl
theorem notN_mv (m : Mv) : pNotN (pMv m) .non = some (.bl m.isSome) := by cases m <;> rfl
theorem notN_opt (m : Option Int) : pNotN (pOpt m) .non = some (.bl m.isSome) := by cases m <;> rfl
theorem immL_int (xs : List Int) : immL (xs.map P.int) = true := immL_map _ (fun _ => rfl) _
theorem immL_str (xs : List Str) : immL (xs.map P.str) = true := immL_map _ (fun _ => rfl) _
theorem t_sized1 {S : Src} (g : Gd S) {n kinds : Nat} (hn : n ≤ 12) (hk0 : 0 < kinds) (hk : kinds ≤ 12) {t : Tbl} (tw : TW n kinds t) {k : Nat} (hk1 : k + 1 < n) (hc : cnt t ≤ k) {c5 c6 c7 c8 c9 c10 c11 c12 c13 : Option (P × Md)} {QO : Out → Src → Prop}
    (q : ∀ S t c6 c7 c8, Gd S → TW n kinds t → cnt t ≤ k + 1 → QO (.nx [some (.src, .par), some (.int n, .par), some (.int kinds, .par), some (encT t, .own), some (.int ((k + 1 : Nat) : Int), .par), c5, c6, c7, c8, c9, c10, c11, c12, c13]) S) :
    Wx b2__law_machine_sized [some (.src, .par), some (.int n, .par), some (.int kinds, .par), some (encT t, .own), some (.int ((k + 1 : Nat) : Int), .par), c5, c6, c7, c8, c9, c10, c11, c12, c13] S QO := by
  unfold b2__law_machine_sized
  walk_at "go"
  dsimp only
  rw [Int.toNat_natCast]
  refine wl_rng0 (fun j ρ S' => S' = S ∧ ∃ c7, ρ = [some (.src, .par), some (.int n, .par), some (.int kinds, .par), some (encT t, .own), some (.int ((k + 1 : Nat) : Int), .par), c5, some (.lst ((freeL t kinds j).map encS), .own), c7, c8, c9, c10, c11, c12, c13]) ⟨rfl, _, rfl⟩ ?_ ?_
  · rintro j hj ρ S' ⟨rfl, c7, rfl⟩
    have hr := tw.rowAt (a := j) (by omega)
    refine ⟨_, rfl, ?_⟩
    unfold b1__law_machine_sized
    walk_at "go"
    dsimp only
    rw [Int.toNat_natCast]
    refine lc_pure (fun b => (cell t j b).isNone) (fun b => encS (j, b)) (List.range kinds) (ints0 kinds) (by rw [List.length_range]; show _ < 2 ^ 24; omega) ?_ ?_
    · intro b hb
      rw [List.mem_range] at hb
      refine ⟨_, rfl, ?_⟩
      walk_at "go"
      refine ⟨_, encT_row tw (by omega), ?_⟩
      walk_at "go"
      refine ⟨_, encR_cell (by rw [hr]; exact hb), ?_⟩
      walk_at "go"
      refine ⟨isNs_mv _, fun _ => ?_⟩
      walk_at "go"
      rfl
    · have h1 := len_freeL t kinds j
      have h2 : j * kinds ≤ 12 * 12 := Nat.mul_le_mul (by omega) hk
      have h3 := List.length_filter_le (fun b => (cell t j b).isNone) (List.range kinds)
      rw [List.length_range] at h3
      refine ⟨_, add_lst (immL_map _ (fun _ => rfl) _) (immL_map _ (fun _ => rfl) _) (by rw [List.length_map, List.length_map]; show _ ≤ 2 ^ 24; omega), ?_⟩
      refine ⟨rfl, some (.int (j : Int), .par), ?_⟩
      have e : List.map encS (freeL t kinds j) ++ List.map (fun b => encS (j, b)) (List.filter (fun b => (cell t j b).isNone) (List.range kinds)) = (freeL t kinds (j + 1)).map encS := by
        rw [show freeL t kinds (j + 1) = freeL t kinds j ++ ((List.range kinds).filter fun b => (cell t j b).isNone).map (fun b => (j, b)) from rfl, List.map_append, List.map_map]; rfl
      rw [← e]; rfl
  · rintro ρ S' ⟨rfl, c7, rfl⟩
    have hne := freeL_ne tw hk0 (s := k + 1) (by omega) (by omega)
    have h1 := len_freeL t kinds (k + 1)
    have h2 : (k + 1) * kinds ≤ 12 * 12 := Nat.mul_le_mul (by omega) hk
    walk_at "go"
    refine Wy.imp (t_some g (.inr rfl) (by simpa using hne) (by rw [List.length_map]; omega) (immL_all.mp (immL_map _ (fun _ => rfl) _))) ?_
    rintro _ S1 ⟨g1, hm⟩
    obtain ⟨⟨a, b⟩, hq, rfl⟩ := List.mem_map.mp hm
    obtain ⟨ha, hb, hn0⟩ := mem_freeL.mp hq
    walk_at "go"
    refine Wy.imp (t_fare g1) ?_
    rintro _ S2 ⟨g2, d, rfl, hd⟩
    walk_at "go"
    dsimp only at ha hb
    refine ⟨_, rowOf_e (by rw [List.length_map, tw.len]; omega), ?_⟩
    walk_at "go"
    refine ⟨_, setRow_e tw (m := some (((k + 1 : Nat) : Int), d)) (by omega) hb, ?_⟩
    refine q _ _ _ _ _ g2 (tw.set (by omega) ?_) (Nat.le_trans (cnt_set _ _ _ _) (by omega))
    intro s f e
    injection e with e; injection e with e1 e2; subst e1; subst e2
    omega
end G

namespace G
open PySem PySem.Spec L2 Mir
open PyProof.Rows hiding St
theorem lc_map {α : Type} {enc : α → P} {g : P → Env → Option Env} {me : Env → M P} {vs : List Nat} {ρ : Env} {S : Src} {Q : P → Src → Prop} {ps : List P} (f : α → P) (xs : List α) (he : ps = xs.map enc) (hl : xs.length < sizeLine)
    (h : ∀ x ∈ xs, ∃ ρ1, g (enc x) (wipeE ρ vs) = some ρ1 ∧ Wx me ρ1 S fun q S' => S' = S ∧ q = f x)
    (k : Q (.lst (xs.map f)) S) : ∃ q S', finLc (lcM g mYes me vs ps [] ρ S) = .ok q S' ∧ Q q S' := by
  refine lc_pure (fun _ => true) f xs he hl (fun x hx => ?_) (by rw [List.filter_eq_self.mpr (fun _ _ => rfl)]; exact k)
  obtain ⟨ρ1, e, h2⟩ := h x hx
  exact ⟨ρ1, e, true, S, rfl, rfl, rfl, fun _ => h2⟩
theorem moves_imm (t : Tbl) : (P.tup (t.map fun r => P.tup (r.map pMv))).imm = true := immL_map (fun r : List Mv => P.tup (r.map pMv)) (fun _ => immL_map _ pMv_imm _) t
theorem sto_opt {es : List (Option Int)} {d f : Int} (h : 0 ≤ d) (h2 : d < es.length) : stoP (.lst (es.map pOpt)) (.int d) (.int f) = some (.lst ((es.set d.toNat (some f)).map pOpt)) := by
  obtain ⟨k, rfl⟩ := Int.eq_ofNat_of_zero_le h
  show (if _ then (ixN _ (k : Int)).map _ else _) = _
  rw [if_pos ⟨immL_map _ pOpt_imm _, rfl⟩, List.length_map, ixN_n (by omega), List.map_set]; rfl
theorem t_sized2 {S : Src} (g : Gd S) {n kinds : Nat} (hn1 : 1 ≤ n) (hn : n ≤ 12) (hk : kinds ≤ 12) {t : Tbl} (tw : TW n kinds t) {k : Nat} (hk1 : k < n) {c5 c6 c7 c8 c9 c10 c11 c12 c13 : Option (P × Md)} {QO : Out → Src → Prop}
    (q : ∀ S t c5, Gd S → TW n kinds t → QO (.nx [some (.src, .par), some (.int n, .par), some (.int kinds, .par), some (encT t, .own), some (.int (k : Int), .par), c5, c6, c7, c8, c9, c10, c11, c12, c13]) S) :
    Wx b4__law_machine_sized [some (.src, .par), some (.int n, .par), some (.int kinds, .par), some (encT t, .own), some (.int (k : Int), .par), c5, c6, c7, c8, c9, c10, c11, c12, c13] S QO := by
  unfold b4__law_machine_sized
  walk_at "go"
  dsimp only
  rw [Int.toNat_natCast]
  refine wl_rng0 (fun j ρ S => Gd S ∧ ∃ t c5, ρ = [some (.src, .par), some (.int n, .par), some (.int kinds, .par), some (encT t, .own), some (.int (k : Int), .par), c5, c6, c7, c8, c9, c10, c11, c12, c13] ∧ TW n kinds t) ⟨g, _, _, rfl, tw⟩ ?_ ?_
  · rintro j hj ρ S ⟨g, t, c5, rfl, tw⟩
    have hr := tw.rowAt hk1
    refine ⟨_, rfl, ?_⟩
    unfold b3__law_machine_sized
    walk_at "go"
    refine ⟨_, encT_row tw hk1, ?_⟩
    walk_at "go"
    refine ⟨_, encR_cell (by rw [hr]; exact hj), ?_⟩
    walk_at "go"
    refine ⟨fun _ => ?_, fun hb => ⟨fun h => Bool.noConfusion h, fun _ => ?_⟩⟩
    · walk_at "go"
      refine Wy.imp (t_draw g (by decide)) ?_
      rintro _ S1 ⟨g1, d, rfl, h0, h1⟩
      walk_at "go"
      refine ⟨fun _ => ?_, fun _ => ?_⟩
      · walk_at "go"
        refine Wy.imp (t_draw g1 (by omega)) ?_
        rintro _ S2 ⟨g2, d2, rfl, h0, h1⟩
        walk_at "go"
        refine Wy.imp (t_fare g2) ?_
        rintro _ S3 ⟨g3, f, rfl, hf⟩
        walk_at "go"
        refine ⟨_, rowOf_e (by rw [List.length_map, tw.len]; omega), ?_⟩
        walk_at "go"
        refine ⟨_, setRow_e tw (m := some (d2, f)) hk1 hj, ?_⟩
        refine ⟨g3, _, _, rfl, tw.set hk1 ?_⟩
        intro s f e
        injection e with e; injection e with e1 e2; subst e1; subst e2
        omega
      · walk_at "go"
        exact ⟨g1, _, _, rfl, tw⟩
    · walk_at "go"
      exact ⟨g, _, _, rfl, tw⟩
  · rintro ρ S ⟨g, t, c5, rfl, tw⟩
    exact q _ _ _ g tw
def es0 (n : Nat) : Tbl := List.replicate n []
theorem t_sized {S : Src} (g : Gd S) {n kinds : Nat} (hn1 : 1 ≤ n) (hn : n ≤ 12) (hk1 : 1 ≤ kinds) (hk : kinds ≤ 12) : Wy (f__law_machine_sized [.src, .int n, .int kinds]) S fun p S' => Gd S' ∧ ∃ X : Mac, p = X.p ∧ X.ok ∧ X.names.length = n ∧ X.kinds.length = kinds := by
  unfold f__law_machine_sized
  refine wy_fn ?_
  unfold m__law_machine_sized
  walk_at "go"
  dsimp only
  rw [Int.toNat_natCast]
  refine lc_map (fun _ => .lst ((List.replicate kinds none).map pMv)) (List.range n) (ints0 n) (by rw [List.length_range]; show _ < 2 ^ 24; omega) ?_ ?_
  · intro x hx
    refine ⟨_, rfl, ?_⟩
    walk_at "go"
    dsimp only
    rw [Int.toNat_natCast]
    refine lc_map (fun _ => .non) (List.range kinds) (ints0 kinds) (by rw [List.length_range]; show _ < 2 ^ 24; omega) ?_ ?_
    · intro y hy
      refine ⟨_, rfl, ?_⟩
      walk_at "go"
      rfl
    · refine ⟨rfl, ?_⟩
      rw [List.map_replicate, List.map_const', List.length_range]; rfl
  have e0 : P.lst (List.map (fun _ => P.lst ((List.replicate kinds none).map pMv)) (List.range n)) = encT (List.replicate n (List.replicate kinds none)) := by
    unfold encT
    rw [List.map_replicate, List.map_const', List.length_range, List.map_replicate, List.map_replicate]
  rw [e0]
  have tw0 : TW n kinds (List.replicate n (List.replicate kinds none)) := by
    refine ⟨List.length_replicate, fun r hr => ?_, fun r hr s f h => ?_⟩
    · rw [List.eq_of_mem_replicate hr, List.length_replicate]
    · rw [List.eq_of_mem_replicate hr] at h
      have := List.eq_of_mem_replicate h
      cases this
  have c0 : cnt (List.replicate n (List.replicate kinds none)) = 0 := by
    clear tw0 e0 hn1 hn g
    induction n with
    | zero => rfl
    | succ n ih =>
      rw [List.replicate_succ]
      show (List.replicate kinds none).countP Option.isSome + _ = 0
      rw [ih, List.countP_replicate]; rfl
  generalize List.replicate n (List.replicate kinds none) = t0 at tw0 c0
  clear e0
  walk_at "go"
  dsimp only
  have e1 : ((n : Int) - 1).toNat = n - 1 := by omega
  rw [e1]
  refine wl_rng (fun k ρ S => Gd S ∧ ∃ t c4 c6 c7 c8, ρ = [some (.src, .par), some (.int n, .par), some (.int kinds, .par), some (encT t, .own), c4, none, c6, c7, c8, none, none, none, none, none] ∧ TW n kinds t ∧ cnt t ≤ k) ⟨g, _, _, _, _, _, rfl, tw0, by omega⟩ ?_ ?_
  · rintro k hk2 ρ S ⟨g, t, c4, c6, c7, c8, rfl, tw, hc⟩
    refine ⟨_, rfl, ?_⟩
    rw [show (1 : Int) + (k : Int) = ((k + 1 : Nat) : Int) by omega]
    exact t_sized1 g hn hk1 hk tw (by omega) hc fun S t c6 c7 c8 g tw hc => ⟨g, _, _, _, _, _, rfl, tw, hc⟩
  rintro ρ S ⟨g, t, c4, c6, c7, c8, rfl, tw, hc⟩
  clear hc c0 tw0
  walk_at "go"
  dsimp only
  rw [Int.toNat_natCast]
  refine wl_rng0 (fun k ρ S => Gd S ∧ ∃ t c4 c5, ρ = [some (.src, .par), some (.int n, .par), some (.int kinds, .par), some (encT t, .own), c4, c5, c6, c7, c8, none, none, none, none, none] ∧ TW n kinds t) ⟨g, _, _, _, rfl, tw⟩ ?_ ?_
  · rintro k hk2 ρ S ⟨g, t, c4, c5, rfl, tw⟩
    refine ⟨_, rfl, ?_⟩
    exact t_sized2 g hn1 hn hk tw hk2 fun S t c5 g tw => ⟨g, _, _, _, rfl, tw⟩
  rintro ρ S ⟨g, t, c4, c5, rfl, tw⟩
  walk_at "go"
  dsimp only
  rw [Int.toNat_natCast]
  refine lc_rng0 (fun k acc S => Gd S ∧ ∃ es : List (Option Int), acc = es.map pOpt ∧ es.length = k ∧ ∀ e, some e ∈ es → 0 ≤ e ∧ e ≤ 20) ⟨g, [], rfl, rfl, fun _ h => by cases h⟩ ?_ ?_
  · rintro k hk2 acc S ⟨g, es, rfl, rfl, he⟩
    have hsl : (es.map pOpt).length < sizeLine := by rw [List.length_map]; show _ < 2 ^ 24; omega
    refine ⟨_, rfl, ?_⟩
    walk_at "go"
    refine ⟨fun _ => ?_, fun h => Bool.noConfusion h⟩
    walk_at "go"
    refine Wy.imp (t_draw g (by decide)) ?_
    rintro _ S1 ⟨g1, d, rfl, h0, h1⟩
    walk_at "go"
    refine ⟨fun _ => ?_, fun _ => ?_⟩
    · walk_at "go"
      refine Wy.imp (t_fare g1) ?_
      rintro _ S2 ⟨g2, f, rfl, hf⟩
      refine ⟨hsl, g2, es ++ [some f], by rw [List.map_append]; rfl, by simp, ?_⟩
      intro e h
      rcases List.mem_append.mp h with h | h
      · exact he e h
      · rw [List.mem_singleton] at h; injection h with h; subst h; exact hf
    · walk_at "go"
      refine ⟨hsl, g1, es ++ [none], by rw [List.map_append]; rfl, by simp, ?_⟩
      intro e h
      rcases List.mem_append.mp h with h | h
      · exact he e h
      · rw [List.mem_singleton] at h; cases h
  rintro _ S ⟨g, es, rfl, hel, hev⟩
  walk_at "go"
  refine Wy.imp (t_draw g (by decide)) ?_
  rintro _ S1 ⟨g1, d, rfl, h0, h1⟩
  walk_at "go"
  have fin : ∀ (S : Src) (es : List (Option Int)) (c4 c5 : Option (P × Md)), Gd S → es.length = n → (∀ e, some e ∈ es → 0 ≤ e ∧ e ≤ 20) → Wx (mSeq (mSet 10 (mCall f__law_machine_names (mCons (mVar 0) (mCons (mVar 1) mNil))))
  (mSeq (mSet 11 (mCB (on1 pTup) (mCons (mLc (mItV 3) (gmName 12) mYes (mCB (on1 pTup) (mCons (mVar 12) mNil)) [12]) mNil)))
  (mRet (mTup (mCons (mCall f__law_names (mCons (mVar 0) (mCons (mVar 2) mNil))) (mCons (mImm (mVar 10)) (mCons (mImm (mVar 11)) (mCons (mCB (on1 pTup) (mCons (mVar 9) mNil)) (mCons (mCall f__law_fare (mCons (mVar 0) mNil)) (mCons (mCB (on1 pTup) (mCons (mLc (mItV 10) (gmName 13) mYes (mC (.int 0)) [13]) mNil)) mNil)))))))))) [some (.src, .par), some (.int n, .par), some (.int kinds, .par), some (encT t, .own), c4, c5, c6, c7, c8, some (.lst (es.map pOpt), .own), none, none, none, none] S
    (retQ fun p S' => Gd S' ∧ ∃ X : Mac, p = X.p ∧ X.ok ∧ X.names.length = n ∧ X.kinds.length = kinds) := by
    clear g g1 hel hev h0 h1
    intro S es c4 c5 g hel hev
    walk_at "go"
    refine Wy.imp (t_mnames g (by omega) (by omega)) ?_
    rintro _ S1 ⟨g1, ys, rfl, hyl, hyn⟩
    walk_at "go"
    refine lc_map (fun r : List Mv => .tup (r.map pMv)) t rfl (by rw [tw.len]; show _ < 2 ^ 24; omega) ?_ ?_
    · intro r hr
      refine ⟨_, rfl, ?_⟩
      walk_at "go"
      exact ⟨_, tup_l (immL_map _ pMv_imm _), rfl, rfl⟩
    walk_at "go"
    have him : ∀ r : List Mv, (P.tup (r.map pMv)).imm = true := fun r => immL_map _ pMv_imm _
    refine ⟨_, tup_l (immL_map _ him _), ?_⟩
    walk_at "go"
    refine Wy.imp (t_names g1 (by omega)) ?_
    rintro _ S2 ⟨g2, ks, zs, rfl, hks, hkl⟩
    walk_at "go"
    refine ⟨immL_str _, ?_⟩
    walk_at "go"
    refine ⟨immL_map _ him _, ?_⟩
    walk_at "go"
    refine ⟨_, tup_l (immL_map _ pOpt_imm _), ?_⟩
    walk_at "go"
    refine Wy.imp (t_fare g2) ?_
    rintro _ S3 ⟨g3, f, rfl, hf⟩
    walk_at "go"
    refine lc_map (fun _ : Str => .int 0) ys rfl (by show _ < 2 ^ 24; omega) ?_ ?_
    · intro r hr
      refine ⟨_, rfl, ?_⟩
      walk_at "go"
      rfl
    walk_at "go"
    refine ⟨_, tup_l (immL_map _ (fun _ => rfl) _), ?_⟩
    walk_at "go"
    refine ⟨g3, ⟨ks, ys, t, es, f, ys.map fun _ => 0⟩, ?_, ?_, by show ys.length = n; omega, by show ks.length = kinds; omega⟩
    · unfold Mac.p
      dsimp only
      rw [List.map_map]; rfl
    · have hyn2 : ys.length = n := by omega
      have hkl2 : ks.length = kinds := by omega
      refine ⟨by show 1 ≤ ys.length; omega, by show ys.length ≤ 12; omega, by show 1 ≤ ks.length; omega, by show ks.length ≤ 12; omega, ?_, by show es.length = ys.length; omega, hev, hyn, fun x hx => hks.subset (List.mem_append_left _ hx)⟩
      show TW ys.length ks.length t
      rw [hyn2, hkl2]; exact tw
  refine ⟨fun _ => ?_, fun _ => ?_⟩
  · refine ws_store rfl ?_
    walk_at "go"
    refine Wy.imp (t_fare g1) ?_
    rintro _ S2 ⟨g2, f, rfl, hf⟩
    walk_at "go"
    refine Wy.imp (t_draw g2 (by omega)) ?_
    rintro _ S3 ⟨g3, d2, rfl, h2, h3⟩
    refine ⟨_, sto_opt h2 (by omega), ?_⟩
    refine fin _ _ _ _ g3 (by rw [List.length_set]; exact hel) ?_
    intro e h
    rcases List.mem_or_eq_of_mem_set h with h | h
    · exact hev e h
    · injection h with h; subst h; exact hf
  · walk_at "wx"
    exact fin _ _ _ _ g1 hel hev
theorem t_machine {S : Src} (g : Gd S) : Wy (f__law_machine [.src]) S fun p S' => Gd S' ∧ ∃ X : Mac, p = X.p ∧ X.ok := by
  unfold f__law_machine
  refine wy_fn ?_
  unfold m__law_machine
  walk_at "go"
  refine Wy.imp (t_some g (.inl rfl) (by simp) (by decide) (immL_all.mp rfl)) ?_
  rintro q S1 ⟨g1, hm⟩
  have h1 : ∃ i : Int, q = .int i ∧ 1 ≤ i ∧ i ≤ 12 := by
    simp only [List.mem_cons, List.not_mem_nil, or_false] at hm
    rcases hm with rfl | rfl | rfl | rfl | rfl | rfl | rfl | rfl | rfl | rfl <;> exact ⟨_, rfl, by decide, by decide⟩
  obtain ⟨i, rfl, hn1, hn2⟩ := h1
  obtain ⟨n, rfl⟩ := Int.eq_ofNat_of_zero_le (show 0 ≤ i by omega)
  walk_at "go"
  refine Wy.imp (t_some g1 (.inl rfl) (by simp) (by decide) (immL_all.mp rfl)) ?_
  rintro q S2 ⟨g2, hm⟩
  have h1 : ∃ i : Int, q = .int i ∧ 1 ≤ i ∧ i ≤ 12 := by
    simp only [List.mem_cons, List.not_mem_nil, or_false] at hm
    rcases hm with rfl | rfl | rfl | rfl | rfl <;> exact ⟨_, rfl, by decide, by decide⟩
  obtain ⟨i, rfl, hk1, hk2⟩ := h1
  obtain ⟨kd, rfl⟩ := Int.eq_ofNat_of_zero_le (show 0 ≤ i by omega)
  walk_at "go"
  refine Wy.imp (t_sized g2 (n := n) (kinds := kd) (by omega) (by omega) (by omega) (by omega)) ?_
  rintro _ S3 ⟨g3, X, rfl, hX, _⟩
  exact ⟨g3, X, rfl, hX⟩
end G

local macro_rules | `(tactic| walk_at "imm") => `(tactic| ((with_reducible show _ = true ∧ _); first | (refine ⟨G.pMv_imm _, ?_⟩) | (refine ⟨G.pOpt_imm _, ?_⟩) | (refine ⟨G.immL_map _ G.pMv_imm _, ?_⟩) | (refine ⟨G.immL_map _ G.pOpt_imm _, ?_⟩) | (refine ⟨G.immL_int _, ?_⟩) | (refine ⟨G.immL_str _, ?_⟩) | (refine ⟨G.moves_imm _, ?_⟩) | fail))
local macro_rules | `(tactic| walk_at "gi") => `(tactic| repeat (first | walk_at "wx" | walk_at "lf" | walk_at "imm"))
namespace G
open PySem PySem.Spec L2 Mir
open PyProof.Rows hiding St
/-- what a turn of a loop that may return comes to -/
def chk (b : Bool) (J : Env → Prop) (r : P) (S : Src) : Out → Src → Prop := fun o S' => S' = S ∧ match o with
  | .nx ρ => b = true ∧ J ρ
  | .ct ρ => b = true ∧ J ρ
  | .rt p => b = false ∧ p = r
  | _ => False
theorem chk_nx {b : Bool} {J : Env → Prop} {r : P} {S : Src} {ρ : Env} (h : b = true) (j : J ρ) : chk b J r S (.nx ρ) S := ⟨rfl, h, j⟩
theorem chk_ct {b : Bool} {J : Env → Prop} {r : P} {S : Src} {ρ : Env} (h : b = true) (j : J ρ) : chk b J r S (.ct ρ) S := ⟨rfl, h, j⟩
theorem chk_rt {b : Bool} {J : Env → Prop} {r : P} {S : Src} (h : b = false) : chk b J r S (.rt r) S := ⟨rfl, h, rfl⟩
/-- a loop whose turns test items, and return r at the first bad one -/
theorem wl_allD {α : Type} {enc : α → P} {g : P → Env → Option Env} {body : Env → M Out} {QO : Out → Src → Prop} {ps : List P} {ρ : Env} {S : Src} (r : P) (good : List α → α → Bool) (I : List α → Env → Prop) (xs : List α) (he : ps = xs.map enc) (h0 : I [] ρ)
    (step : ∀ done x rest, xs = done ++ x :: rest → ∀ ρ, I done ρ → ∃ ρ1, g (enc x) ρ = some ρ1 ∧ Wx body ρ1 S (chk (good done x) (I (done ++ [x])) r S))
    (yes : (∀ done x rest, xs = done ++ x :: rest → good done x = true) → ∀ ρ, I xs ρ → QO (.nx ρ) S)
    (no : ∀ done x rest, xs = done ++ x :: rest → good done x = false → QO (.rt r) S) : Wx (loopM g body ps) ρ S QO := by
  refine wl_enc (enc := enc) (fun rest ρ S' => S' = S ∧ ∃ done, xs = done ++ rest ∧ I done ρ ∧ ∀ d x re, done = d ++ x :: re → good d x = true) ?_ ?_ xs he ⟨rfl, [], rfl, h0, fun d x re e => by cases d <;> cases e⟩
  · rintro x rest ρ S' ⟨rfl, done, e, h, hg⟩
    obtain ⟨ρ1, eg, o, S1, eb, es, q⟩ := step done x rest e ρ h
    subst es
    have nx : ∀ ρ2, good done x = true ∧ I (done ++ [x]) ρ2 → S1 = S1 ∧ ∃ done, xs = done ++ rest ∧ I done ρ2 ∧ ∀ d x re, done = d ++ x :: re → good d x = true := by
      rintro ρ2 ⟨h1, h2⟩
      refine ⟨rfl, done ++ [x], by rw [e]; simp, h2, fun d y re e2 => ?_⟩
      rcases List.append_eq_append_iff.mp e2 with ⟨as, h3, h4⟩ | ⟨as, h3, h4⟩
      · cases as with
        | nil =>
          rw [List.nil_append] at h4
          injection h4 with h4 _
          rw [List.append_nil] at h3
          subst h4; subst h3; exact h1
        | cons a as => 
          rw [List.cons_append] at h4
          injection h4 with h4 h5
          have := congrArg List.length h5
          simp at this
      · cases as with
        | nil =>
          rw [List.nil_append] at h4
          injection h4 with h4 _
          rw [List.append_nil] at h3
          subst h4; subst h3; exact h1
        | cons a as =>
          rw [List.cons_append] at h4
          injection h4 with h4 h5
          subst h4
          exact hg d _ as h3
    refine ⟨ρ1, eg, o, S1, eb, ?_⟩
    cases o with
    | nx ρ2 => exact nx ρ2 q
    | ct ρ2 => exact nx ρ2 q
    | bk ρ2 => exact q.elim
    | rt p =>
      obtain ⟨q1, rfl⟩ := q
      exact no done x rest e q1
    | ex a b ρ2 => exact q.elim
  · rintro ρ S' ⟨rfl, done, e, h, hg⟩
    rw [List.append_nil] at e
    subst e
    exact yes hg ρ h
theorem wl_all {α : Type} {enc : α → P} {g : P → Env → Option Env} {body : Env → M Out} {QO : Out → Src → Prop} {ps : List P} {ρ : Env} {S : Src} (r : P) (good : α → Bool) (I : Env → Prop) (xs : List α) (he : ps = xs.map enc) (h0 : I ρ)
    (step : ∀ x, x ∈ xs → ∀ ρ, I ρ → ∃ ρ1, g (enc x) ρ = some ρ1 ∧ Wx body ρ1 S (chk (good x) I r S))
    (yes : xs.all good = true → ∀ ρ, I ρ → QO (.nx ρ) S)
    (no : xs.all good = false → QO (.rt r) S) : Wx (loopM g body ps) ρ S QO := by
  refine wl_allD r (fun _ x => good x) (fun _ => I) xs he h0 (fun done x rest e => step x (by rw [e]; simp)) (fun h => yes ?_) (fun done x rest e h => no ?_)
  · rw [List.all_eq_true]
    intro x hx
    obtain ⟨s, t, e⟩ := List.append_of_mem hx
    exact h s x t e
  · cases q : xs.all good with
    | false => rfl
    | true =>
      rw [List.all_eq_true] at q
      rw [q x (by rw [e]; simp)] at h
      cases h
/-! a machine's parts -/
section
variable {X : Mac}
def rowX (X : Mac) (s : Int) : List Mv := X.moves.getD s.toNat []
def mvX (X : Mac) (s k : Int) : Mv := (rowX X s).getD k.toNat none
def endX (X : Mac) (s : Int) : Option Int := X.ends.getD s.toNat none
def nameX (X : Mac) (s : Int) : Str := X.names.getD s.toNat ""
abbrev Mac.n (X : Mac) : Nat := X.names.length
theorem ix_row (h : X.ok) {s : Int} (h0 : 0 ≤ s) (h1 : s < X.n) : pIxA (.tup (X.moves.map fun r => .tup (r.map pMv))) (.int s) = some (.tup ((rowX X s).map pMv)) :=
  ix_tm (f := fun r : List Mv => P.tup (r.map pMv)) [] h0 (by rw [h.tw.len]; exact h1)
theorem rowX_mem (h : X.ok) {s : Int} (h0 : 0 ≤ s) (h1 : s < X.n) : rowX X s ∈ X.moves := getD_mem [] h0 (by rw [h.tw.len]; exact h1)
theorem rowX_len (h : X.ok) {s : Int} (h0 : 0 ≤ s) (h1 : s < X.n) : (rowX X s).length = X.kinds.length := h.tw.row _ (rowX_mem h h0 h1)
theorem ix_mv (h : X.ok) {s k : Int} (h0 : 0 ≤ s) (h1 : s < X.n) (k0 : 0 ≤ k) (k1 : k < X.kinds.length) : pIxA (.tup ((rowX X s).map pMv)) (.int k) = some (pMv (mvX X s k)) :=
  ix_tm none k0 (by rw [rowX_len h h0 h1]; exact k1)
theorem ix_end (h : X.ok) {s : Int} (h0 : 0 ≤ s) (h1 : s < X.n) : pIxA (.tup (X.ends.map pOpt)) (.int s) = some (pOpt (endX X s)) := ix_tm none h0 (by rw [h.el]; exact h1)
theorem ix_name (h : X.ok) {s : Int} (h0 : 0 ≤ s) (h1 : s < X.n) : pIxA (.tup (X.names.map P.str)) (.int s) = some (.str (nameX X s)) := ix_tm ("" : Str) h0 h1
theorem nameX_mem (h : X.ok) {s : Int} (h0 : 0 ≤ s) (h1 : s < X.n) : nameX X s ∈ allN := h.nm _ (getD_mem ("" : Str) h0 h1)
theorem row_ok (h : X.ok) {s : Int} (h0 : 0 ≤ s) (h1 : s < X.n) {t f : Int} (hm : some (t, f) ∈ rowX X s) : 0 ≤ t ∧ t < X.n ∧ 0 ≤ f ∧ f ≤ 20 := h.tw.mv _ (rowX_mem h h0 h1) t f hm
theorem mvX_mem (h : X.ok) {s k : Int} (h0 : 0 ≤ s) (h1 : s < X.n) (k0 : 0 ≤ k) (k1 : k < X.kinds.length) : mvX X s k ∈ rowX X s := getD_mem none k0 (by rw [rowX_len h h0 h1]; exact k1)
def walkS (X : Mac) : Int → Int → List Int → Option (Int × Int)
  | s, f, [] => some (s, f)
  | s, f, k :: w => match mvX X s k with
    | none => none
    | some (t, g) => walkS X t (f + g) w
theorem walkS_cons (s f k : Int) (w : List Int) : walkS X s f (k :: w) = match mvX X s k with
    | none => none
    | some (t, g) => walkS X t (f + g) w := rfl
theorem walkS_in (h : X.ok) : ∀ (w : List Int) (s f : Int), 0 ≤ s → s < X.n → (∀ k ∈ w, 0 ≤ k ∧ k < X.kinds.length) → ∀ t g, walkS X s f w = some (t, g) → 0 ≤ t ∧ t < X.n
  | [], s, f, h0, h1, _, t, g, e => by
    injection e with e; injection e with e1 e2; subst e1; exact ⟨h0, h1⟩
  | k :: w, s, f, h0, h1, hw, t, g, e => by
    unfold walkS at e
    have hk := hw k List.mem_cons_self
    have hm := mvX_mem h h0 h1 hk.1 hk.2
    cases q : mvX X s k with
    | none => rw [q] at e; cases e
    | some m =>
      rw [q] at e hm
      have hr := row_ok h h0 h1 hm
      exact walkS_in h w m.1 _ hr.1 hr.2.1 (fun k hk => hw k (List.mem_cons_of_mem _ hk)) t g e
def priceS (X : Mac) (s : Int) (w : List Int) : Option Int := match walkS X s 0 w with
  | none => none
  | some (t, f) => (endX X t).map (f + ·)
variable {S : Src} {Q : P → Src → Prop}
theorem t_walk (hX : X.ok) {s : Int} {w : List Int} (h0 : 0 ≤ s) (h1 : s < X.n) (hw : ∀ k ∈ w, 0 ≤ k ∧ k < X.kinds.length) (q : Q (pMv (walkS X s 0 w)) S) : Wy (f_walk [X.p, .int s, .tup (w.map .int)]) S Q := by
  unfold f_walk
  refine wy_fn ?_
  unfold m_walk
  walk_at "gi"
  refine wl_enc (enc := P.int) (fun rest ρ S' => S' = S ∧ ∃ s2 f c m, ρ = [some (X.p, .par), some (.int s2, c), some (.tup (w.map .int), .par), some (.tup (X.moves.map fun r => .tup (r.map pMv)), .own), some (.int f, .own), m.1, m.2] ∧ 0 ≤ s2 ∧ s2 < X.n ∧ (∀ k ∈ rest, 0 ≤ k ∧ k < X.kinds.length) ∧ walkS X s 0 w = walkS X s2 f rest) ?_ ?_ w rfl ⟨rfl, s, 0, _, (none, none), rfl, h0, h1, hw, rfl⟩
  · rintro k rest ρ S' ⟨rfl, s2, f, c, m, rfl, h2, h3, hk, e⟩
    have hk0 := hk k List.mem_cons_self
    refine ⟨_, rfl, ?_⟩
    unfold b1_walk
    walk_at "gi"
    refine ⟨_, ix_row hX h2 h3, ?_⟩
    walk_at "gi"
    refine ⟨_, ix_mv hX h2 h3 hk0.1 hk0.2, ?_⟩
    walk_at "gi"
    have hm := mvX_mem hX h2 h3 hk0.1 hk0.2
    rw [walkS_cons] at e
    cases q2 : mvX X s2 k with
    | none =>
      rw [q2] at e
      refine ⟨fun _ => ?_, fun h => Bool.noConfusion h⟩
      walk_at "gi"
      rw [e] at q; exact q
    | some m2 =>
      rw [q2] at e hm
      obtain ⟨t, g⟩ := m2
      have hr := row_ok hX h2 h3 hm
      refine ⟨fun h => Bool.noConfusion h, fun _ => ?_⟩
      walk_at "gi"
      exact ⟨t, f + g, _, (_, _), rfl, hr.1, hr.2.1, fun k hk' => hk k (List.mem_cons_of_mem _ hk'), e⟩
  · rintro ρ S' ⟨rfl, s2, f, c, m, rfl, h2, h3, hk, e⟩
    walk_at "gi"
    rw [e] at q; exact q
theorem t_price (hX : X.ok) {s : Int} {w : List Int} (h0 : 0 ≤ s) (h1 : s < X.n) (hw : ∀ k ∈ w, 0 ≤ k ∧ k < X.kinds.length) (q : Q (pOpt (priceS X s w)) S) : Wy (f_price [X.p, .int s, .tup (w.map .int)]) S Q := by
  unfold f_price
  refine wy_fn ?_
  unfold m_price
  walk_at "gi"
  refine t_walk hX h0 h1 hw ?_
  have hin := walkS_in hX w s 0 h0 h1 hw
  unfold priceS at q
  walk_at "gi"
  cases e : walkS X s 0 w with
  | none =>
    rw [e] at q
    refine ⟨fun _ => ?_, fun h => Bool.noConfusion h⟩
    walk_at "gi"
    exact q
  | some m =>
    obtain ⟨t, g⟩ := m
    rw [e] at q
    have ht := hin t g e
    refine ⟨fun h => Bool.noConfusion h, fun _ => ?_⟩
    walk_at "gi"
    refine ⟨_, ix_end hX ht.1 ht.2, ?_⟩
    walk_at "gi"
    cases e2 : endX X t with
    | none =>
      dsimp only at q
      rw [e2] at q
      refine ⟨fun _ => ?_, fun h => Bool.noConfusion h⟩
      walk_at "gi"
      exact q
    | some y =>
      dsimp only at q
      rw [e2] at q
      refine ⟨fun h => Bool.noConfusion h, fun _ => ?_⟩
      walk_at "gi"
      exact q
theorem t_law_walk (hX : X.ok) {s : Int} {w : List Int} (h0 : 0 ≤ s) (h1 : s < X.n) (hw : ∀ k ∈ w, 0 ≤ k ∧ k < X.kinds.length) (q : Q (pMv (walkS X s 0 w)) S) : Wy (f__law_walk [X.p, .int s, .tup (w.map .int)]) S Q := by
  unfold f__law_walk
  refine wy_fn ?_
  unfold m__law_walk
  walk_at "gi"
  refine wl_enc (enc := P.int) (fun rest ρ S' => S' = S ∧ ∃ s2 f c m, ρ = [some (X.p, .par), some (.int s2, c), some (.tup (w.map .int), .par), some (.int f, .own), m.1, m.2] ∧ 0 ≤ s2 ∧ s2 < X.n ∧ (∀ k ∈ rest, 0 ≤ k ∧ k < X.kinds.length) ∧ walkS X s 0 w = walkS X s2 f rest) ?_ ?_ w rfl ⟨rfl, s, 0, _, (none, none), rfl, h0, h1, hw, rfl⟩
  · rintro k rest ρ S' ⟨rfl, s2, f, c, m, rfl, h2, h3, hk, e⟩
    have hk0 := hk k List.mem_cons_self
    refine ⟨_, rfl, ?_⟩
    unfold b1__law_walk
    walk_at "gi"
    refine ⟨_, ix_row hX h2 h3, ?_⟩
    walk_at "gi"
    refine ⟨_, ix_mv hX h2 h3 hk0.1 hk0.2, ?_⟩
    walk_at "gi"
    have hm := mvX_mem hX h2 h3 hk0.1 hk0.2
    rw [walkS_cons] at e
    cases q2 : mvX X s2 k with
    | none =>
      rw [q2] at e
      refine ⟨fun _ => ?_, fun h => Bool.noConfusion h⟩
      walk_at "gi"
      rw [e] at q; exact q
    | some m2 =>
      rw [q2] at e hm
      obtain ⟨t, g⟩ := m2
      have hr := row_ok hX h2 h3 hm
      refine ⟨fun h => Bool.noConfusion h, fun _ => ?_⟩
      walk_at "gi"
      exact ⟨t, f + g, _, (_, _), rfl, hr.1, hr.2.1, fun k hk' => hk k (List.mem_cons_of_mem _ hk'), e⟩
  · rintro ρ S' ⟨rfl, s2, f, c, m, rfl, h2, h3, hk, e⟩
    walk_at "gi"
    rw [e] at q; exact q
theorem t_law_price (hX : X.ok) {s : Int} {w : List Int} (h0 : 0 ≤ s) (h1 : s < X.n) (hw : ∀ k ∈ w, 0 ≤ k ∧ k < X.kinds.length) (q : Q (pOpt (priceS X s w)) S) : Wy (f__law_price [X.p, .int s, .tup (w.map .int)]) S Q := by
  unfold f__law_price
  refine wy_fn ?_
  unfold m__law_price
  walk_at "gi"
  refine t_law_walk hX h0 h1 hw ?_
  have hin := walkS_in hX w s 0 h0 h1 hw
  unfold priceS at q
  walk_at "gi"
  cases e : walkS X s 0 w with
  | none =>
    rw [e] at q
    refine ⟨fun _ => ⟨fun _ => ?_, fun h => Bool.noConfusion h⟩, fun h => Bool.noConfusion h⟩
    walk_at "gi"
    exact q
  | some m =>
    obtain ⟨t, g⟩ := m
    rw [e] at q
    have ht := hin t g e
    refine ⟨fun h => Bool.noConfusion h, fun _ => ?_⟩
    walk_at "gi"
    refine ⟨_, ix_end hX ht.1 ht.2, ?_⟩
    walk_at "gi"
    cases e2 : endX X t with
    | none =>
      dsimp only at q
      rw [e2] at q
      refine ⟨fun _ => ?_, fun h => Bool.noConfusion h⟩
      walk_at "gi"
      exact q
    | some y =>
      dsimp only at q
      rw [e2] at q
      refine ⟨fun h => Bool.noConfusion h, fun _ => ?_⟩
      walk_at "gi"
      refine ⟨_, ix_end hX ht.1 ht.2, ?_⟩
      rw [e2]
      walk_at "gi"
      exact q
theorem t_is_state {i : Int} (q : Q (.bl (decide (0 ≤ i ∧ i < X.n))) S) : Wy (f_is_state [X.p, .int i]) S Q := by
  unfold f_is_state
  refine wy_fn ?_
  unfold m_is_state
  walk_at "all"
  · rename_i h1
    have h1 := of_decide_eq_true h1
    rw [List.length_map]
    have e : decide (0 ≤ i ∧ i < X.n) = decide (i < X.n) := by simp [h1]
    rw [e] at q
    exact q
  · rename_i h1
    have h1 := of_decide_eq_false h1
    have e : decide (0 ≤ i ∧ i < X.n) = false := by simp [h1]
    rw [e] at q
    exact q
theorem t_good_word {w : List Int} (q : Q (.bl (w.all fun k => decide (0 ≤ k ∧ k < X.kinds.length))) S) : Wy (f_good_word [X.p, .tup (w.map .int)]) S Q := by
  unfold f_good_word
  refine wy_fn ?_
  unfold m_good_word
  walk_at "gi"
  refine ⟨fun h => Bool.noConfusion h, fun _ => ?_⟩
  walk_at "gi"
  refine wl_all (enc := P.int) (.bl false) (fun k => decide (0 ≤ k ∧ k < X.kinds.length)) (fun ρ => ∃ c, ρ = [some (X.p, .par), some (.tup (w.map .int), .par), c]) w rfl ⟨_, rfl⟩ ?_ ?_ ?_
  · rintro k hk ρ ⟨c, rfl⟩
    refine ⟨_, rfl, ?_⟩
    unfold b1_good_word
    walk_at "all"
    all_goals first | (refine chk_rt ?_; simp_all <;> omega) | (refine chk_nx (by simp_all) ?_; exact ⟨_, rfl⟩)
  · rintro h ρ ⟨c, rfl⟩
    walk_at "gi"
    rw [h] at q; exact q
  · intro h
    walk_at "gi"
    rw [h] at q; exact q
end
end G

namespace G
open PySem PySem.Spec L2 Mir
open PyProof.Rows hiding St
def headS (x : Str) : Str := (Txt.split x "/").headD ""
theorem factN : ∀ x ∈ allN, x.length ≤ 20 ∧ PyData.strOk x = true ∧ Txt.split x "@" = [x] ∧ headS x ∈ allN ∧ (Txt.split x "/").isEmpty = false := by decide +kernel
section
variable {X : Mac} {S : Src} {Q : P → Src → Prop}
theorem ok_any : PyData.strOk "any" = true := by decide +kernel
theorem split_e {x y : Str} (h : x.length ≤ 20) (h2 : y.length ≠ 0) : pSplit (.str x) (.str y) = some (.lst ((Txt.split x y).map P.str)) := by
  show (if _ then _ else _) = _
  rw [if_pos ⟨h2, by show _ ≤ 2 ^ 24; omega⟩]
theorem t_base_of {x : Str} (h : x ∈ allN) (q : Q (.str x) S) : Wy (f_base_of [.str x]) S Q := by
  obtain ⟨h1, h2, h3, h4⟩ := factN x h
  unfold f_base_of
  refine wy_fn ?_
  unfold m_base_of
  walk_at "gi"
  refine ⟨_, split_e h1 (by decide), ?_⟩
  rw [h3]
  walk_at "gi"
  exact q
theorem t_law_base {x : Str} (h : x ∈ allN) (q : Q (.str x) S) : Wy (f__law_base [.str x]) S Q := by
  obtain ⟨h1, h2, h3, h4⟩ := factN x h
  unfold f__law_base
  refine wy_fn ?_
  unfold m__law_base
  walk_at "gi"
  refine ⟨_, split_e h1 (by decide), ?_⟩
  rw [h3]
  walk_at "gi"
  exact q
theorem head_ix {x : Str} (h : x ∈ allN) : pIxA (.lst ((Txt.split x "/").map P.str)) (.int 0) = some (.str (headS x)) := by
  obtain ⟨_, _, _, _, h5⟩ := factN x h
  unfold headS
  cases e : Txt.split x "/" with
  | nil => rw [e] at h5; cases h5
  | cons y t => exact ix_lmn (xs := y :: t) (i := 0) ("" : Str) (by simp)
theorem t_mark_of {x : Str} (h : x ∈ allN) (q : Q (.str (headS x)) S) : Wy (f_mark_of [.str x]) S Q := by
  obtain ⟨h1, h2, h3, h4⟩ := factN x h
  unfold f_mark_of
  refine wy_fn ?_
  unfold m_mark_of
  walk_at "gi"
  refine t_base_of h ?_
  walk_at "gi"
  refine ⟨_, split_e h1 (by decide), ?_⟩
  walk_at "gi"
  exact ⟨_, head_ix h, q⟩
def fitsS (p x : Str) : Bool := if (p == "any") = true then true else if strIn "/" p = true then x == p else headS x == p
theorem in_str (p : Str) (y : Str) : pInA (.str y) (.str p) = some (.bl (strIn y p)) := rfl
theorem t_fits_goes {p x : Str} (hp : PyData.strOk p = true) (h : x ∈ allN) (q : Q (.bl (fitsS p x)) S) : Wy (f_fits_goes [.str p, .str x]) S Q := by
  obtain ⟨h1, h2, h3, h4, _⟩ := factN x h
  obtain ⟨_, h6, _⟩ := factN _ h4
  unfold fitsS at q
  unfold f_fits_goes
  refine wy_fn ?_
  unfold m_fits_goes
  walk_at "gi"
  refine ⟨_, eq_str hp ok_any, ?_⟩
  walk_at "gi"
  refine ⟨fun hb => ?_, fun hb => ?_⟩
  · walk_at "gi"
    rw [if_pos hb] at q; exact q
  rw [if_neg (by rw [hb]; simp)] at q
  walk_at "gi"
  refine ⟨fun hb => ?_, fun hb => ?_⟩
  · rw [if_pos hb] at q
    walk_at "gi"
    refine t_base_of h ?_
    walk_at "gi"
    exact ⟨_, eq_str h2 hp, q⟩
  · rw [if_neg (by rw [hb]; simp)] at q
    walk_at "gi"
    refine t_mark_of h ?_
    walk_at "gi"
    exact ⟨_, eq_str h6 hp, q⟩
theorem t_law_fits {p x : Str} (hp : PyData.strOk p = true) (h : x ∈ allN) (q : Q (.bl (fitsS p x)) S) : Wy (f__law_fits [.str p, .str x]) S Q := by
  obtain ⟨h1, h2, h3, h4, _⟩ := factN x h
  obtain ⟨_, h6, _⟩ := factN _ h4
  unfold fitsS at q
  unfold f__law_fits
  refine wy_fn ?_
  unfold m__law_fits
  walk_at "gi"
  refine ⟨_, eq_str hp ok_any, ?_⟩
  walk_at "gi"
  refine ⟨fun hb => ?_, fun hb => ?_⟩
  · walk_at "gi"
    rw [if_pos hb] at q; exact q
  rw [if_neg (by rw [hb]; simp)] at q
  walk_at "gi"
  refine ⟨fun hb => ?_, fun hb => ?_⟩
  · rw [if_pos hb] at q
    walk_at "gi"
    refine t_law_base h ?_
    walk_at "gi"
    exact ⟨_, eq_str h2 hp, q⟩
  · rw [if_neg (by rw [hb]; simp)] at q
    walk_at "gi"
    refine t_law_base h ?_
    walk_at "gi"
    refine ⟨_, split_e h1 (by decide), ?_⟩
    walk_at "gi"
    refine ⟨_, head_ix h, ?_⟩
    walk_at "gi"
    exact ⟨_, eq_str h6 hp, q⟩
/-! rows -/
abbrev Row := Str × Int
def encRow (r : Row) : P := .tup [.str r.1, .int r.2]
def RowsOk (rows : List Row) : Prop := rows.length ≤ 100 ∧ ∀ r ∈ rows, PyData.strOk r.1 = true
def numsS (rows : List Row) (x : Str) : List Int := (rows.filter fun r => fitsS r.1 x).map (·.2)
def boundS (rows : List Row) (x : Str) : Option Int := maxL (numsS rows x)
theorem ints_map : ∀ xs : List Int, intsP (xs.map P.int) = some xs
  | [] => rfl
  | x :: xs => by
    show (intsP (xs.map P.int)).map (x :: ·) = _
    rw [ints_map xs]; rfl
theorem max_e (xs : List Int) (h : xs ≠ []) : ∃ m, maxL xs = some m ∧ on1 pMaxL [.lst (xs.map P.int)] = some (.int m) := by
  cases xs with
  | nil => exact absurd rfl h
  | cons x xs =>
    refine ⟨_, rfl, ?_⟩
    show ((intsP ((x :: xs).map P.int)).bind maxL).map P.int = _
    rw [ints_map]; rfl
theorem rowImm (r : Row) : (encRow r).imm = true := rfl
theorem t_law_bound (hX : X.ok) {rows : List Row} (hr : RowsOk rows) {s : Int} (h0 : 0 ≤ s) (h1 : s < X.n) (q : Q (pOpt (boundS rows (nameX X s))) S) : Wy (f__law_bound [X.p, .tup (rows.map encRow), .int s]) S Q := by
  have hn := nameX_mem hX h0 h1
  unfold f__law_bound
  refine wy_fn ?_
  unfold m__law_bound
  walk_at "gi"
  refine lc_pure (fun r : Row => fitsS r.1 (nameX X s)) (fun r => .int r.2) rows rfl (by show _ < 2 ^ 24; have := hr.1; omega) ?_ ?_
  · intro r hr'
    refine ⟨_, rfl, ?_⟩
    walk_at "gi"
    refine ⟨_, ix_name hX h0 h1, ?_⟩
    walk_at "gi"
    refine t_law_fits (hr.2 r hr') hn ?_
    walk_at "gi"
    intro _
    walk_at "gi"
    rfl
  have e : List.map (fun r : Row => P.int r.2) (List.filter (fun r : Row => fitsS r.1 (nameX X s)) rows) = (numsS rows (nameX X s)).map P.int := by
    unfold numsS; rw [List.map_map]; rfl
  rw [e]
  walk_at "gi"
  unfold boundS at q
  generalize numsS rows (nameX X s) = ns at q
  cases ns with
  | nil =>
    refine ⟨fun h => Bool.noConfusion h, fun _ => ?_⟩
    walk_at "gi"
    exact q
  | cons n ns =>
    refine ⟨fun _ => ?_, fun h => Bool.noConfusion h⟩
    obtain ⟨m, e1, e2⟩ := max_e (n :: ns) (by simp)
    rw [e1] at q
    walk_at "gi"
    exact ⟨_, e2, q⟩
theorem t_ahead_of (hX : X.ok) {rows : List Row} (hr : RowsOk rows) (q : Q (.tup ((X.names.map fun x => boundS rows x).map pOpt)) S) : Wy (f_ahead_of [X.p, .tup (rows.map encRow)]) S Q := by
  unfold f_ahead_of
  refine wy_fn ?_
  unfold m_ahead_of
  walk_at "gi"
  refine wl_enc (enc := P.str) (fun rest ρ S' => S' = S ∧ ∃ done c, X.names = done ++ rest ∧ ρ = [some (X.p, .par), some (.tup (rows.map encRow), .par), some (.lst ((done.map fun x => boundS rows x).map pOpt), .own), c.1, c.2, none, none]) ?_ ?_ X.names rfl ⟨rfl, [], (none, none), rfl, rfl⟩
  · rintro x rest ρ S' ⟨rfl, done, c, e, rfl⟩
    have hn : x ∈ allN := hX.nm x (by rw [e]; simp)
    refine ⟨_, rfl, ?_⟩
    unfold b1_ahead_of
    walk_at "gi"
    refine lc_pure (fun r : Row => fitsS r.1 x) (fun r => .int r.2) rows rfl (by show _ < 2 ^ 24; have := hr.1; omega) ?_ ?_
    · intro r hr'
      refine ⟨_, rfl, ?_⟩
      walk_at "gi"
      refine t_fits_goes (hr.2 r hr') hn ?_
      walk_at "gi"
      intro _
      walk_at "gi"
      rfl
    have e : List.map (fun r : Row => P.int r.2) (List.filter (fun r : Row => fitsS r.1 x) rows) = (numsS rows x).map P.int := by
      unfold numsS; rw [List.map_map]; rfl
    rw [e]
    walk_at "gi"
    have hlen : done.length ≤ 12 := by
      have := hX.n2
      rw [‹X.names = _›, List.length_append] at this; omega
    have hl2 : ((done.map fun x => boundS rows x).map pOpt).length < sizeLine := by
      rw [List.length_map, List.length_map]; show _ < 2 ^ 24; omega
    have fin : ∀ o, o = boundS rows x → List.map pOpt (List.map (fun x => boundS rows x) done) ++ [pOpt o] = List.map pOpt (List.map (fun x => boundS rows x) (done ++ [x])) := by
      rintro o rfl
      rw [List.map_append, List.map_append]; rfl
    unfold boundS at fin hl2 ⊢
    generalize numsS rows x = ns at fin
    cases ns with
    | nil =>
      refine ⟨fun h => Bool.noConfusion h, fun _ => ?_⟩
      walk_at "gi"
      refine ⟨hl2, rfl, done ++ [x], (some (.str x, .par), some (.lst [], .own)), by simp [*], ?_⟩
      rw [← fin _ rfl]; rfl
    | cons n ns =>
      refine ⟨fun _ => ?_, fun h => Bool.noConfusion h⟩
      obtain ⟨m, e1, e2⟩ := max_e (n :: ns) (by simp)
      walk_at "gi"
      refine ⟨_, e2, hl2, rfl, done ++ [x], (some (.str x, .par), some (.lst ((n :: ns).map P.int), .own)), by simp [*], ?_⟩
      rw [← fin (some m) e1.symm]; rfl
  · rintro ρ S' ⟨rfl, done, c, e, rfl⟩
    rw [List.append_nil] at e
    rw [e] at q
    walk_at "gi"
    exact ⟨_, tup_l (immL_map _ pOpt_imm _), q⟩
end
end G

namespace G
open PySem PySem.Spec L2 Mir
open PyProof.Rows hiding St
section
variable {X : Mac} {S : Src} {Q : P → Src → Prop}
/-! deads -/
def rowD (X : Mac) (deads : List Int) (s : Int) : Bool := (rowX X s).all fun m => match m with
  | none => true
  | some (t, _) => decide (t ∈ deads)
def inS (X : Mac) (s : Int) : Bool := decide (0 ≤ s ∧ s < X.n)
def d1S (X : Mac) (deads : List Int) : Bool := deads.all (inS X) && decide deads.Nodup
def d2S (X : Mac) (deads : List Int) : Bool := deads.all fun s => (endX X s).isNone && rowD X deads s
def deadsS (X : Mac) (deads : List Int) : Bool := d1S X deads && d2S X deads
def helds (ds : List Int) : List (Key × P) := ds.map fun s => (.inl s, .bl true)
theorem held_val (ds : List Int) (s : Int) : (valQ (helds ds) (.inl s)).isSome = decide (s ∈ ds) := by
  induction ds with
  | nil => rfl
  | cons d ds ih =>
    unfold valQ helds at *
    rw [List.map_cons, List.find?_cons]
    by_cases h : d = s
    · subst h; simp
    · have h2 : ¬ (Sum.inl d : Key) = .inl s := fun e => h (Sum.inl.inj e)
      have h3 : ¬ s = d := fun e => h e.symm
      simp only [h2, decide_false]
      rw [ih]; simp [h3]
theorem in_held (ds : List Int) (s : Int) : pInA (.int s) (.dK (helds ds)) = some (.bl (decide (s ∈ ds))) := by
  rw [← held_val]; rfl
theorem nin_held (ds : List Int) (s : Int) : pNotInA (.int s) (.dK (helds ds)) = some (.bl (!decide (s ∈ ds))) := by
  rw [← held_val]; rfl
theorem sto_held {ds : List Int} {s : Int} (h : s ∉ ds) (hl : ds.length < sizeLine) : stoP (.dK (helds ds)) (.int s) (.bl true) = some (.dK (helds (ds ++ [s]))) := by
  have e1 : immL ((helds ds).map (·.2)) = true := by
    unfold helds
    rw [List.map_map]; exact immL_map (fun _ : Int => P.bl true) (fun _ => rfl) ds
  show (if _ then _ else _) = _
  rw [if_pos ⟨e1, rfl, by unfold helds; rw [List.length_map]; exact hl⟩]
  show some (P.dK (putQ (helds ds) (.inl s) (.bl true))) = _
  have e2 : ((helds ds).any fun kv => decide (kv.1 = .inl s)) = false := by
    unfold helds
    rw [List.any_map, List.any_eq_false]
    intro d hd
    have : ¬ d = s := fun e => h (e ▸ hd)
    simp [this]
  unfold putQ
  rw [e2]
  unfold helds
  simp
theorem not_nodup {l d r : List Int} {s : Int} (e : l = d ++ s :: r) (h : s ∈ d) : ¬ l.Nodup := by
  subst e
  intro hn
  rw [List.nodup_append] at hn
  exact hn.2.2 s h s List.mem_cons_self rfl
theorem nodup_of {l : List Int} (h : ∀ d s r, l = d ++ s :: r → s ∉ d) : l.Nodup := by
  induction l with
  | nil => exact List.nodup_nil
  | cons x l ih =>
    rw [List.nodup_cons]
    refine ⟨fun hx => ?_, ih fun d s r e hs => h (x :: d) s r (by rw [e]; rfl) (List.mem_cons_of_mem _ hs)⟩
    obtain ⟨d, r, e⟩ := List.append_of_mem hx
    exact h (x :: d) x r (by rw [e]; rfl) List.mem_cons_self
theorem t_deads_close (hX : X.ok) {deads : List Int} (hl : deads.length ≤ 100) (q : Q (.bl (deadsS X deads)) S) : Wy (f_deads_close [X.p, .tup (deads.map .int)]) S Q := by
  unfold f_deads_close
  refine wy_fn ?_
  unfold m_deads_close
  walk_at "gi"
  refine wl_allD (enc := P.int) (.bl false) (fun done s => inS X s && !decide (s ∈ done)) (fun done ρ => ∃ c, ρ = [some (X.p, .par), some (.tup (deads.map .int), .par), some (.dK (helds done), .own), c, none]) deads rfl ⟨_, rfl⟩ ?_ ?_ ?_
  · rintro done s rest e ρ ⟨c, rfl⟩
    refine ⟨_, rfl, ?_⟩
    unfold b1_deads_close
    walk_at "gi"
    refine t_is_state ?_
    walk_at "gi"
    refine ⟨fun hb => ⟨fun _ => ?_, fun h => Bool.noConfusion h⟩, fun hb => ?_⟩
    · walk_at "gi"
      exact chk_rt (by unfold inS; simp_all <;> omega)
    · walk_at "gi"
      refine ⟨fun hc => ?_, fun hc => ?_⟩ <;> replace hc := (held_val done s).symm.trans hc
      · walk_at "gi"
        exact chk_rt (by unfold inS; simp_all)
      · walk_at "gi"
        have hd : done.length ≤ 100 := by rw [e] at hl; simp at hl; omega
        have hns : s ∉ done := of_decide_eq_false hc
        refine ⟨_, sto_held hns (by show _ < 2 ^ 24; omega), ?_⟩
        exact chk_nx (by unfold inS; simp_all) ⟨_, rfl⟩
  · rintro hg ρ ⟨c, rfl⟩
    have h1 : ∀ s ∈ deads, 0 ≤ s ∧ s < X.n := by
      intro s hs
      obtain ⟨d, r, e⟩ := List.append_of_mem hs
      have := hg d s r e
      unfold inS at this
      simp at this
      exact this.1
    have hd1 : d1S X deads = true := by
      unfold d1S
      rw [Bool.and_eq_true]
      refine ⟨List.all_eq_true.mpr fun s hs => decide_eq_true (h1 s hs), decide_eq_true (nodup_of fun d s r e hs => ?_)⟩
      have := hg d s r e
      simp [hs] at this
    unfold deadsS at q
    rw [hd1, Bool.true_and] at q
    walk_at "gi"
    refine wl_all (enc := P.int) (.bl false) (fun s => (endX X s).isNone && rowD X deads s) (fun ρ => ∃ c, ρ = [some (X.p, .par), some (.tup (deads.map .int), .par), some (.dK (helds deads), .own), c.1, c.2]) deads rfl ⟨(_, _), rfl⟩ ?_ ?_ ?_
    · rintro s hs ρ ⟨c, rfl⟩
      obtain ⟨h0, h2⟩ := h1 s hs
      refine ⟨_, rfl, ?_⟩
      unfold b3_deads_close
      walk_at "gi"
      refine ⟨_, ix_end hX h0 h2, ?_⟩
      walk_at "gi"
      cases he : endX X s with
      | some y =>
        refine ⟨fun _ => ?_, fun h => Bool.noConfusion h⟩
        walk_at "gi"
        exact chk_rt rfl
      | none =>
        refine ⟨fun h => Bool.noConfusion h, fun _ => ?_⟩
        walk_at "gi"
        refine ⟨_, ix_row hX h0 h2, ?_⟩
        walk_at "gi"
        refine wl_all (enc := pMv) (.bl false) (fun m => match m with | none => true | some (t, _) => decide (t ∈ deads)) (fun ρ => ∃ c, ρ = [some (X.p, .par), some (.tup (deads.map .int), .par), some (.dK (helds deads), .own), some (.int s, .par), c]) (rowX X s) rfl ⟨_, rfl⟩ ?_ ?_ ?_
        · rintro m hm ρ ⟨c, rfl⟩
          refine ⟨_, rfl, ?_⟩
          unfold b2_deads_close
          walk_at "gi"
          cases m with
          | none =>
            refine ⟨fun h => Bool.noConfusion h, fun _ => ⟨fun h => Bool.noConfusion h, fun _ => ?_⟩⟩
            walk_at "gi"
            exact chk_nx rfl ⟨_, rfl⟩
          | some m =>
            obtain ⟨t, f⟩ := m
            refine ⟨fun _ => ?_, fun h => Bool.noConfusion h⟩
            walk_at "gi"
            refine ⟨fun hb => ?_, fun hb => ?_⟩ <;> replace hb := (congrArg not (held_val deads t)).symm.trans hb
            · walk_at "gi"
              exact chk_rt (by simp_all)
            · walk_at "gi"
              exact chk_nx (by simp_all) ⟨_, rfl⟩
        · rintro h ρ ⟨c, rfl⟩
          refine chk_nx ?_ ⟨(_, _), rfl⟩
          unfold rowD
          rw [h]; rfl
        · intro h
          refine chk_rt ?_
          unfold rowD
          rw [h]; rfl
    · rintro h ρ ⟨c, rfl⟩
      walk_at "gi"
      unfold d2S at q
      rw [h] at q; exact q
    · intro h
      walk_at "gi"
      unfold d2S at q
      rw [h] at q; exact q
  · intro d s r e h
    walk_at "gi"
    have hd1 : d1S X deads = false := by
      unfold d1S
      cases hs : inS X s with
      | false =>
        have : deads.all (inS X) = false := by
          rw [List.all_eq_false]
          exact ⟨s, by rw [e]; simp, by simp [hs]⟩
        rw [this]; rfl
      | true =>
        rw [hs] at h
        simp at h
        rw [decide_eq_false (not_nodup e h), Bool.and_false]
    unfold deadsS at q
    rw [hd1] at q; exact q
end
end G

local macro_rules | `(tactic| walk_at "br2") => `(tactic| ((with_reducible show _ ∧ _); first | (refine And.intro (fun _ => ?_) (fun h => Bool.noConfusion h)) | (refine And.intro (fun h => Bool.noConfusion h) (fun _ => ?_)) | (with_reducible refine And.intro (fun h => ?_) (fun h => ?_)) | fail))
local macro_rules | `(tactic| walk_at "ga") => `(tactic| repeat' (first | walk_at "wx" | walk_at "lf" | walk_at "imm" | walk_at "br2"))
namespace G
open PySem PySem.Spec L2 Mir
open PyProof.Rows hiding St
section
variable {X : Mac} {S : Src} {Q : P → Src → Prop}
theorem t_deads_right (hX : X.ok) {deads : List Int} (hl : deads.length ≤ 100) (q : Q (.bl (deadsS X deads)) S) : Wy (f__law_deads_right [X.p, .tup (deads.map .int)]) S Q := by
  unfold f__law_deads_right
  refine wy_fn ?_
  unfold m__law_deads_right
  walk_at "gi"
  have hc : ∀ s, (List.map P.int (List.filter (fun o => o == s) deads)).length = deads.count s := fun s => by
    rw [List.length_map, List.count, List.countP_eq_length_filter]
  have hd1 : (deads.all fun s => inS X s && decide (deads.count s ≤ 1)) = d1S X deads := by
    unfold d1S
    rw [Bool.eq_iff_iff, List.all_eq_true, Bool.and_eq_true, List.all_eq_true, decide_eq_true_eq, List.nodup_iff_count]
    constructor
    · intro h
      refine ⟨fun s hs => (Bool.and_eq_true_iff.mp (h s hs)).1, fun a => ?_⟩
      by_cases ha : a ∈ deads
      · exact of_decide_eq_true (Bool.and_eq_true_iff.mp (h a ha)).2
      · rw [List.count_eq_zero_of_not_mem ha]; omega
    · rintro ⟨h1, h2⟩ s hs
      exact Bool.and_eq_true_iff.mpr ⟨h1 s hs, decide_eq_true (h2 s)⟩
  refine wl_all (enc := P.int) (.bl false) (fun s => inS X s && decide (deads.count s ≤ 1)) (fun ρ => ∃ c, ρ = [some (X.p, .par), some (.tup (deads.map .int), .par), c, none, none]) deads rfl ⟨_, rfl⟩ ?_ ?_ ?_
  · rintro s hs ρ ⟨c, rfl⟩
    refine ⟨_, rfl, ?_⟩
    unfold b1__law_deads_right
    walk_at "ga"
    · refine chk_rt ?_
      unfold inS
      simp_all [Mac.n] <;> omega
    · refine lc_pure (fun o => o == s) P.int deads rfl (by show _ < 2 ^ 24; omega) ?_ ?_
      · intro o ho
        refine ⟨_, rfl, ?_⟩
        walk_at "gi"
        intro _
        walk_at "gi"
        rfl
      · walk_at "gi"
        refine ⟨fun hb => ?_, fun hb => ?_⟩ <;> rw [hc] at hb
        · walk_at "gi"
          exact chk_rt (by simp_all; intros; omega)
        · walk_at "gi"
          refine chk_nx ?_ ⟨_, rfl⟩
          unfold inS
          simp_all
          omega
    · refine chk_rt ?_
      unfold inS
      simp_all [Mac.n] <;> omega
  · rw [hd1]
    rintro hd ρ ⟨c, rfl⟩
    have h1 : ∀ s ∈ deads, 0 ≤ s ∧ s < X.n := by
      intro s hs
      unfold d1S at hd
      exact of_decide_eq_true (List.all_eq_true.mp (Bool.and_eq_true_iff.mp hd).1 s hs)
    unfold deadsS at q
    rw [hd, Bool.true_and] at q
    walk_at "gi"
    refine wl_all (enc := P.int) (.bl false) (fun s => (endX X s).isNone && rowD X deads s) (fun ρ => ∃ c, ρ = [some (X.p, .par), some (.tup (deads.map .int), .par), c.1, c.2.1, c.2.2]) deads rfl ⟨(_, _, _), rfl⟩ ?_ ?_ ?_
    · rintro s hs ρ ⟨c, rfl⟩
      obtain ⟨h0, h2⟩ := h1 s hs
      refine ⟨_, rfl, ?_⟩
      unfold b2__law_deads_right
      walk_at "gi"
      refine ⟨_, ix_end hX h0 h2, ?_⟩
      walk_at "gi"
      cases he : endX X s with
      | some y =>
        refine ⟨fun _ => ?_, fun h => Bool.noConfusion h⟩
        walk_at "gi"
        exact chk_rt rfl
      | none =>
        refine ⟨fun h => Bool.noConfusion h, fun _ => ?_⟩
        walk_at "gi"
        refine ⟨_, ix_row hX h0 h2, ?_⟩
        walk_at "gi"
        refine lc_pure (fun m : Mv => match m with | none => false | some (t, _) => !decide (t ∈ deads)) pMv (rowX X s) rfl (by rw [rowX_len hX h0 h2]; have := hX.k2; show _ < 2 ^ 24; omega) ?_ ?_
        · intro m hm
          refine ⟨_, rfl, ?_⟩
          cases m with
          | none =>
            walk_at "ga"
            intro h; cases h
          | some m =>
            obtain ⟨t, f⟩ := m
            walk_at "ga"
            refine ⟨_, nin_tI deads t, ?_⟩
            walk_at "gi"
            intro _
            walk_at "gi"
            rfl
        · walk_at "gi"
          have key : (!(List.map pMv (List.filter (fun m : Mv => match m with | none => false | some (t, _) => !decide (t ∈ deads)) (rowX X s))).isEmpty) = !rowD X deads s := by
            unfold rowD
            rw [Bool.not_inj_iff]
            rw [Bool.eq_iff_iff, List.isEmpty_iff, List.map_eq_nil_iff, List.filter_eq_nil_iff, List.all_eq_true]
            constructor
            · intro h m hm
              have := h m hm
              cases m with
              | none => rfl
              | some m => simpa using this
            · intro h m hm
              have := h m hm
              cases m with
              | none => simp
              | some m => simpa using this
          refine ⟨fun hb => ?_, fun hb => ?_⟩ <;> rw [key] at hb
          · walk_at "gi"
            exact chk_rt (by simp_all)
          · walk_at "gi"
            exact chk_nx (by simp_all) ⟨(_, _, _), rfl⟩
    · rintro h ρ ⟨c, rfl⟩
      walk_at "gi"
      unfold d2S at q
      rw [h] at q; exact q
    · intro h
      walk_at "gi"
      unfold d2S at q
      rw [h] at q; exact q
  · rw [hd1]
    intro hd
    walk_at "gi"
    unfold deadsS at q
    rw [hd] at q; exact q
/-! floors -/
abbrev C1 := Option (P × Md)
abbrev C3 := C1 × C1 × C1
def flX (floors : List (Option Int)) (s : Int) : Option Int := floors.getD s.toNat none
theorem ix_fl {floors : List (Option Int)} {s : Int} (h0 : 0 ≤ s) (h1 : s < floors.length) : pIxA (.tup (floors.map pOpt)) (.int s) = some (pOpt (flX floors s)) := ix_tm none h0 h1
def f1S (X : Mac) (floors : List (Option Int)) (s : Int) : Bool := match flX floors s with
  | none => false
  | some v => match endX X s with
    | none => true
    | some e => !decide (e < v)
def mvF (deads : List Int) (floors : List (Option Int)) (s : Int) (m : Mv) : Bool := match m with
  | none => true
  | some (t, c) => if t ∈ deads then true else match flX floors s, flX floors t with
    | some v, some u => !decide (c + u < v)
    | _, _ => false
def stF (X : Mac) (deads : List Int) (floors : List (Option Int)) (s : Int) : Bool := f1S X floors s && (rowX X s).all (mvF deads floors s)
theorem in_turn {α : Type} {m : Mv} (hX : X.ok) {s t f : Int} (h0 : 0 ≤ s) (h2 : s < X.n) (hm : some (t, f) ∈ rowX X s) {floors : List (Option Int)} (hf : floors.length = X.n) : pIxA (.tup (floors.map pOpt)) (.int t) = some (pOpt (flX floors t)) := by
  have hr := row_ok hX h0 h2 hm
  exact ix_fl hr.1 (by rw [hf]; exact hr.2.1)
theorem fh_inner (hX : X.ok) {deads : List Int} {floors : List (Option Int)} (hf : floors.length = X.n) {s : Int} (h0 : 0 ≤ s) (h2 : s < X.n) {v : Int} (hv : flX floors s = some v) {c4 c5 : Option (P × Md)} :
    Wx (mFor (mIt (mIxA (mIxA (mVarN 0) (mC (.int 2))) (mVar 3))) (gmName 5) b1_floors_hold) [some (X.p, .par), some (.tup (deads.map .int), .par), some (.tup (floors.map pOpt), .par), some (.int s, .par), c4, c5] S (chk ((rowX X s).all (mvF deads floors s)) (fun ρ => ∃ c : C3, ρ = [some (X.p, .par), some (.tup (deads.map .int), .par), some (.tup (floors.map pOpt), .par), c.1, c.2.1, c.2.2]) (.bl false) S) := by
  walk_at "gi"
  refine ⟨_, ix_row hX h0 h2, ?_⟩
  walk_at "gi"
  refine wl_all (enc := pMv) (.bl false) (mvF deads floors s) (fun ρ => ∃ c, ρ = [some (X.p, .par), some (.tup (deads.map .int), .par), some (.tup (floors.map pOpt), .par), some (.int s, .par), c4, c]) (rowX X s) rfl ⟨_, rfl⟩ ?_ ?_ ?_
  · rintro m hm ρ ⟨c, rfl⟩
    refine ⟨_, rfl, ?_⟩
    unfold b1_floors_hold mvF
    rw [hv]
    cases m with
    | none =>
      walk_at "ga"
      exact chk_ct rfl ⟨_, rfl⟩
    | some m =>
      obtain ⟨t, f⟩ := m
      walk_at "ga"
      refine ⟨_, in_tI deads t, ?_⟩
      walk_at "gi"
      refine ⟨fun hb => ?_, fun hb => ?_⟩
      · walk_at "gi"
        exact chk_ct (by simp_all) ⟨_, rfl⟩
      have hb := of_decide_eq_false hb
      dsimp only
      rw [if_neg hb]
      walk_at "gi"
      refine ⟨_, in_turn (α := Nat) (m := none) hX h0 h2 hm hf, ?_⟩
      walk_at "gi"
      cases ht : flX floors t with
      | none =>
        walk_at "ga"
        exact chk_rt rfl
      | some u =>
        walk_at "ga"
        refine ⟨_, ix_fl h0 (by rw [hf]; exact h2), ?_⟩
        rw [hv]
        walk_at "ga"
        refine ⟨_, in_turn (α := Nat) (m := none) hX h0 h2 hm hf, ?_⟩
        rw [ht]
        walk_at "ga"
        · exact chk_rt (by simp_all)
        · exact chk_nx (by simp_all) ⟨_, rfl⟩
  · rintro h ρ ⟨c, rfl⟩
    exact chk_nx h ⟨(_, _, _), rfl⟩
  · intro h
    exact chk_rt h
theorem t_floors_hold (hX : X.ok) {deads : List Int} {floors : List (Option Int)} (hf : floors.length = X.n) (q : Q (.bl ((List.range floors.length).all fun (k : Nat) => decide ((k : Int) ∈ deads) || stF X deads floors k)) S) : Wy (f_floors_hold [X.p, .tup (deads.map .int), .tup (floors.map pOpt)]) S Q := by
  unfold f_floors_hold
  refine wy_fn ?_
  unfold m_floors_hold
  have hn2 : X.n ≤ 12 := hX.n2
  walk_at "gi"
  · rw [List.length_map] 
    refine wl_all (enc := fun (k : Nat) => P.int (k : Int)) (.bl false) (fun (k : Nat) => decide ((k : Int) ∈ deads) || stF X deads floors k) (fun ρ => ∃ c : C3, ρ = [some (X.p, .par), some (.tup (deads.map .int), .par), some (.tup (floors.map pOpt), .par), c.1, c.2.1, c.2.2]) (List.range floors.length) (by rw [ints0]; rfl) ⟨(_, _, _), rfl⟩ ?_ ?_ ?_
    · rintro k hk ρ ⟨c, rfl⟩
      rw [List.mem_range] at hk
      have h0 : 0 ≤ (k : Int) := by omega
      have h1 : (k : Int) < floors.length := by omega
      have h2 : (k : Int) < X.n := by omega
      generalize (k : Int) = s at *
      refine ⟨_, rfl, ?_⟩
      unfold b2_floors_hold
      walk_at "gi"
      refine ⟨_, in_tI deads s, ?_⟩
      walk_at "gi"
      refine ⟨fun hb => ?_, fun hb => ?_⟩
      · walk_at "gi"
        exact chk_ct (by rw [hb]; rfl) ⟨(_, _, _), rfl⟩
      rw [hb, Bool.false_or]
      walk_at "gi"
      refine ⟨_, ix_end hX h0 h2, ?_⟩
      walk_at "gi"
      refine ⟨_, ix_fl h0 h1, ?_⟩
      unfold stF f1S
      cases hfl : flX floors s with
      | none =>
        walk_at "ga"
        exact chk_rt rfl
      | some v =>
        have rest := fun c4 c5 => fh_inner (S := S) (c4 := c4) (c5 := c5) hX (deads := deads) hf h0 h2 hfl
        cases he : endX X s with
        | none =>
          walk_at "gi"
          refine ⟨fun h => Bool.noConfusion h, fun _ => ?_⟩
          walk_at "gi"
          refine ⟨fun h => Bool.noConfusion h, fun _ => ⟨fun h => Bool.noConfusion h, fun _ => ?_⟩⟩
          walk_at "wx"
          rw [Bool.true_and]
          exact rest _ _
        | some e =>
          walk_at "gi"
          refine ⟨fun h => Bool.noConfusion h, fun _ => ?_⟩
          walk_at "gi"
          refine ⟨fun _ => ?_, fun h => Bool.noConfusion h⟩
          walk_at "gi"
          refine ⟨_, ix_fl h0 h1, ?_⟩
          rw [hfl]
          walk_at "gi"
          refine ⟨fun hb => ?_, fun hb => ?_⟩
          · walk_at "gi"
            exact chk_rt (by simp_all)
          · walk_at "wx"
            dsimp only
            rw [hb, Bool.not_false, Bool.true_and]
            exact rest _ _
    · rintro h ρ ⟨c, rfl⟩
      walk_at "gi"
      rw [h] at q; exact q
    · intro h
      walk_at "gi"
      rw [h] at q; exact q
  · rw [List.length_map]; omega
  · rw [List.length_map]; omega
end
end G

namespace G
open PySem PySem.Spec L2 Mir
open PyProof.Rows hiding St
section
variable {X : Mac} {S : Src} {Q : P → Src → Prop}
def bndF (X : Mac) (rows : List Row) (floors : List (Option Int)) (s : Int) : Bool := match boundS rows (nameX X s), flX floors s with
  | none, _ => true
  | some b, some v => decide (b ≤ v)
  | some _, none => false
def rightS (X : Mac) (rows : List Row) (deads : List Int) (floors : List (Option Int)) : Bool :=
  deadsS X deads && (decide (floors.length = X.n) && (List.range floors.length).all fun (k : Nat) => decide ((k : Int) ∈ deads) || (stF X deads floors k && bndF X rows floors k))
theorem sr_inner (hX : X.ok) {rws : P} {deads : List Int} {floors : List (Option Int)} (hf : floors.length = X.n) {s : Int} (h0 : 0 ≤ s) (h2 : s < X.n) {v : Int} (hv : flX floors s = some v) {c5 c6 c7 : C1} {n : Env → M Out} {QO : Out → Src → Prop}
    (yes : (rowX X s).all (mvF deads floors s) = true → ∀ c6, Wx n [some (X.p, .par), some (rws, .par), some (.tup (deads.map .int), .par), some (.tup (floors.map pOpt), .par), some (.int s, .par), c5, c6, c7] S QO)
    (no : (rowX X s).all (mvF deads floors s) = false → QO (.rt (.bl false)) S) :
    Wx (mFor (mIt (mIxA (mIxA (mVarN 0) (mC (.int 2))) (mVar 4))) (gmName 6) b1__law_state_right) [some (X.p, .par), some (rws, .par), some (.tup (deads.map .int), .par), some (.tup (floors.map pOpt), .par), some (.int s, .par), c5, c6, c7] S (andThen n QO) := by
  walk_at "gi"
  refine ⟨_, ix_row hX h0 h2, ?_⟩
  walk_at "gi"
  refine wl_all (enc := pMv) (.bl false) (mvF deads floors s) (fun ρ => ∃ c, ρ = [some (X.p, .par), some (rws, .par), some (.tup (deads.map .int), .par), some (.tup (floors.map pOpt), .par), some (.int s, .par), c5, c, c7]) (rowX X s) rfl ⟨_, rfl⟩ ?_ ?_ ?_
  · rintro m hm ρ ⟨c, rfl⟩
    refine ⟨_, rfl, ?_⟩
    unfold b1__law_state_right mvF
    rw [hv]
    cases m with
    | none =>
      walk_at "ga"
      exact chk_ct rfl ⟨_, rfl⟩
    | some m =>
      obtain ⟨t, f⟩ := m
      walk_at "ga"
      refine ⟨_, in_tI deads t, ?_⟩
      walk_at "gi"
      refine ⟨fun hb => ?_, fun hb => ?_⟩
      · walk_at "gi"
        exact chk_ct (by simp_all) ⟨_, rfl⟩
      have hb := of_decide_eq_false hb
      dsimp only
      rw [if_neg hb]
      walk_at "gi"
      refine ⟨_, in_turn (α := Nat) (m := none) hX h0 h2 hm hf, ?_⟩
      walk_at "gi"
      cases ht : flX floors t with
      | none =>
        walk_at "ga"
        exact chk_rt rfl
      | some u =>
        walk_at "ga"
        refine ⟨_, ix_fl h0 (by rw [hf]; exact h2), ?_⟩
        rw [hv]
        walk_at "ga"
        refine ⟨_, in_turn (α := Nat) (m := none) hX h0 h2 hm hf, ?_⟩
        rw [ht]
        walk_at "ga"
        · exact chk_rt (by simp_all)
        · exact chk_nx (by simp_all) ⟨_, rfl⟩
  · rintro h ρ ⟨c, rfl⟩
    exact yes h c
  · intro h
    exact no h
theorem t_state_right (hX : X.ok) {rows : List Row} (hr : RowsOk rows) {deads : List Int} {floors : List (Option Int)} (hf : floors.length = X.n) {s : Int} (h0 : 0 ≤ s) (h2 : s < X.n) (q : Q (.bl (stF X deads floors s && bndF X rows floors s)) S) : Wy (f__law_state_right [X.p, .tup (rows.map encRow), .tup (deads.map .int), .tup (floors.map pOpt), .int s]) S Q := by
  have h1 : s < floors.length := by rw [hf]; exact h2
  unfold f__law_state_right
  refine wy_fn ?_
  unfold m__law_state_right
  walk_at "gi"
  refine ⟨_, ix_end hX h0 h2, ?_⟩
  walk_at "gi"
  refine ⟨_, ix_fl h0 h1, ?_⟩
  unfold stF f1S bndF at q
  cases hfl : flX floors s with
  | none =>
    rw [hfl] at q
    walk_at "ga"
    exact q
  | some v =>
    rw [hfl] at q
    have rest : ∀ c5 c6 c7, (Q (.bl ((rowX X s).all (mvF deads floors s) && (match boundS rows (nameX X s), some v with | none, _ => true | some b, some v => decide (b ≤ v) | some _, none => false))) S) → Wx (mSeq (mFor (mIt (mIxA (mIxA (mVarN 0) (mC (.int 2))) (mVar 4))) (gmName 6) b1__law_state_right)
  (mSeq (mSet 7 (mCall f__law_bound (mCons (mVar 0) (mCons (mVar 1) (mCons (mVar 4) mNil)))))
  (mRet (mOr (mOp pIsN (mVar 7) (mC .non)) (mOp pLe (mVar 7) (mIxA (mVar 3) (mVar 4))))))) [some (X.p, .par), some (.tup (rows.map encRow), .par), some (.tup (deads.map .int), .par), some (.tup (floors.map pOpt), .par), some (.int s, .par), c5, c6, c7] S (retQ Q) := by
      intro c5 c6 c7 q
      refine ws_seq (sr_inner hX hf h0 h2 hfl ?_ ?_)
      · intro h c6
        rw [h, Bool.true_and] at q
        walk_at "gi"
        refine t_law_bound hX hr h0 h2 ?_
        walk_at "gi"
        cases hb : boundS rows (nameX X s) with
        | none =>
          rw [hb] at q
          walk_at "ga"
          exact q
        | some b =>
          rw [hb] at q
          walk_at "ga"
          refine ⟨_, ix_fl h0 h1, ?_⟩
          rw [hfl]
          walk_at "ga"
          exact q
      · intro h
        rw [h] at q
        walk_at "gi"
        exact q
    cases he : endX X s with
    | none =>
      rw [he] at q
      walk_at "gi"
      refine ⟨fun h => Bool.noConfusion h, fun _ => ?_⟩
      walk_at "gi"
      refine ⟨fun h => Bool.noConfusion h, fun _ => ⟨fun h => Bool.noConfusion h, fun _ => ?_⟩⟩
      refine ws_next ?_
      refine at_nx ?_
      refine rest _ _ _ ?_
      exact q
    | some e =>
      rw [he] at q
      walk_at "gi"
      refine ⟨fun h => Bool.noConfusion h, fun _ => ?_⟩
      walk_at "gi"
      refine ⟨fun _ => ?_, fun h => Bool.noConfusion h⟩
      walk_at "gi"
      refine ⟨_, ix_fl h0 h1, ?_⟩
      rw [hfl]
      walk_at "gi"
      refine ⟨fun hb => ?_, fun hb => ?_⟩
      · walk_at "gi"
        dsimp only at q
        rw [hb] at q
        exact q
      · refine ws_next ?_
        refine at_nx ?_
        dsimp only at q
        rw [hb] at q
        exact rest _ _ _ q
theorem t_right (hX : X.ok) {rows : List Row} (hr : RowsOk rows) {deads : List Int} (hl : deads.length ≤ 100) {floors : List (Option Int)} (q : Q (.bl (rightS X rows deads floors)) S) : Wy (f__law_right [X.p, .tup (rows.map encRow), .tup (deads.map .int), .tup (floors.map pOpt)]) S Q := by
  unfold f__law_right
  refine wy_fn ?_
  unfold m__law_right
  have hn2 : X.n ≤ 12 := hX.n2
  unfold rightS at q
  walk_at "gi"
  refine t_deads_right hX hl ?_
  walk_at "gi"
  cases hd : deadsS X deads with
  | false =>
    rw [hd] at q
    walk_at "ga"
    exact q
  | true =>
    rw [hd, Bool.true_and] at q
    refine ⟨fun h => Bool.noConfusion h, fun _ => ?_⟩
    walk_at "gi"
    by_cases hf : floors.length = X.n
    · rw [decide_eq_true hf, Bool.true_and] at q
      refine ⟨fun h => ?_, fun _ => ?_⟩
      · exfalso
        have h : (!(((floors.map pOpt).length : Int) == ((X.names.map P.str).length : Int))) = true := h
        rw [List.length_map, List.length_map] at h
        simp [hf] at h
      walk_at "gi"
      · rw [List.length_map] 
        refine wl_all (enc := fun (k : Nat) => P.int (k : Int)) (.bl false) (fun (k : Nat) => decide ((k : Int) ∈ deads) || (stF X deads floors k && bndF X rows floors k)) (fun ρ => ∃ c : C1, ρ = [some (X.p, .par), some (.tup (rows.map encRow), .par), some (.tup (deads.map .int), .par), some (.tup (floors.map pOpt), .par), c]) (List.range floors.length) (by rw [ints0]; rfl) ⟨_, rfl⟩ ?_ ?_ ?_
        · rintro k hk ρ ⟨c, rfl⟩
          rw [List.mem_range] at hk
          have h0 : 0 ≤ (k : Int) := by omega
          have h2 : (k : Int) < X.n := by omega
          generalize (k : Int) = s at *
          refine ⟨_, rfl, ?_⟩
          unfold b1__law_right
          walk_at "gi"
          refine ⟨_, nin_tI deads s, ?_⟩
          walk_at "gi"
          refine ⟨fun hb => ?_, fun hb => ⟨fun h => Bool.noConfusion h, fun _ => ?_⟩⟩
          · walk_at "gi"
            refine t_state_right hX hr hf h0 h2 ?_
            walk_at "ga"
            · exact chk_rt (by cases hq : stF X deads floors s <;> simp_all)
            · exact chk_nx (by simp_all) ⟨_, rfl⟩
          · walk_at "gi"
            exact chk_nx (by simp_all) ⟨_, rfl⟩
        · rintro h ρ ⟨c, rfl⟩
          walk_at "gi"
          rw [h] at q; exact q
        · intro h
          walk_at "gi"
          rw [h] at q; exact q
      · rw [List.length_map]; omega
      · rw [List.length_map]; omega
    · rw [decide_eq_false hf, Bool.false_and] at q
      refine ⟨fun _ => ?_, fun h => ?_⟩
      · walk_at "gi"
        exact q
      · exfalso
        have h : (!(((floors.map pOpt).length : Int) == ((X.names.map P.str).length : Int))) = false := h
        rw [List.length_map, List.length_map] at h
        simp at h
        exact hf (show floors.length = X.names.length by omega)
theorem tab_ix (hX : X.ok) {rows : List Row} {s : Int} (h0 : 0 ≤ s) (h2 : s < X.n) : pIxA (.tup ((X.names.map fun x => boundS rows x).map pOpt)) (.int s) = some (pOpt (boundS rows (nameX X s))) := by
  rw [ix_tm (boundS rows "") h0 (by rw [List.length_map]; exact h2), getD_map]; rfl
theorem t_bounds_take (hX : X.ok) {rows : List Row} (hr : RowsOk rows) {deads : List Int} (hl : deads.length ≤ 100) {floors : List (Option Int)} (q : Q (.bl (rightS X rows deads floors)) S) : Wy (f_bounds_take [X.p, .tup (rows.map encRow), .tup (deads.map .int), .tup (floors.map pOpt)]) S Q := by
  unfold f_bounds_take
  refine wy_fn ?_
  unfold m_bounds_take
  have hn2 : X.n ≤ 12 := hX.n2
  unfold rightS at q
  walk_at "gi"
  refine t_deads_close hX hl ?_
  walk_at "gi"
  cases hd : deadsS X deads with
  | false =>
    rw [hd] at q
    walk_at "ga"
    exact q
  | true =>
    rw [hd, Bool.true_and] at q
    refine ⟨fun h => Bool.noConfusion h, fun _ => ?_⟩
    walk_at "gi"
    by_cases hf : floors.length = X.n
    · rw [decide_eq_true hf, Bool.true_and] at q
      refine ⟨fun h => ?_, fun _ => ?_⟩
      · exfalso
        have h : (!(((floors.map pOpt).length : Int) == ((X.names.map P.str).length : Int))) = true := h
        rw [List.length_map, List.length_map] at h
        simp [hf] at h
      walk_at "gi"
      refine t_floors_hold hX hf ?_
      walk_at "gi"
      have split : ((List.range floors.length).all fun (k : Nat) => decide ((k : Int) ∈ deads) || (stF X deads floors k && bndF X rows floors k)) = (((List.range floors.length).all fun (k : Nat) => decide ((k : Int) ∈ deads) || stF X deads floors k) && ((List.range floors.length).all fun (k : Nat) => decide ((k : Int) ∈ deads) || bndF X rows floors k)) := by
        rw [Bool.eq_iff_iff, Bool.and_eq_true, List.all_eq_true, List.all_eq_true, List.all_eq_true]
        constructor
        · intro h
          refine ⟨fun k hk => ?_, fun k hk => ?_⟩ <;> have := h k hk <;> cases hh : decide ((k : Int) ∈ deads) <;> simp_all
        · rintro ⟨h1, h2⟩ k hk
          have a := h1 k hk
          have b := h2 k hk
          cases hh : decide ((k : Int) ∈ deads) <;> simp_all
      rw [split] at q
      cases hfl : ((List.range floors.length).all fun (k : Nat) => decide ((k : Int) ∈ deads) || stF X deads floors k) with
      | false =>
        rw [hfl] at q
        refine ⟨fun _ => ?_, fun h => Bool.noConfusion h⟩
        walk_at "gi"
        exact q
      | true =>
        rw [hfl, Bool.true_and] at q
        refine ⟨fun h => Bool.noConfusion h, fun _ => ?_⟩
        walk_at "gi"
        refine t_ahead_of hX hr ?_
        walk_at "gi"
        · rw [List.length_map, List.length_map]
          refine wl_all (enc := fun (k : Nat) => P.int (k : Int)) (.bl false) (fun (k : Nat) => decide ((k : Int) ∈ deads) || bndF X rows floors k) (fun ρ => ∃ c : C1, ρ = [some (X.p, .par), some (.tup (rows.map encRow), .par), some (.tup (deads.map .int), .par), some (.tup (floors.map pOpt), .par), some (.tup ((X.names.map fun x => boundS rows x).map pOpt), .own), c]) (List.range floors.length) (by rw [hf, ints0]; rfl) ⟨_, rfl⟩ ?_ ?_ ?_
          · rintro k hk ρ ⟨c, rfl⟩
            have hst := List.all_eq_true.mp hfl k hk
            rw [List.mem_range] at hk
            have h0 : 0 ≤ (k : Int) := by omega
            have h1 : (k : Int) < floors.length := by omega
            have h2 : (k : Int) < X.n := by omega
            generalize (k : Int) = s at *
            refine ⟨_, rfl, ?_⟩
            unfold b1_bounds_take
            walk_at "gi"
            refine ⟨_, nin_tI deads s, ?_⟩
            walk_at "gi"
            refine ⟨fun hb => ?_, fun hb => ⟨fun h => Bool.noConfusion h, fun _ => ?_⟩⟩
            · have hs : stF X deads floors s = true := by simp_all
              have hv : ∃ v, flX floors s = some v := by
                unfold stF f1S at hs
                cases h : flX floors s with
                | none => rw [h] at hs; cases hs
                | some v => exact ⟨v, rfl⟩
              obtain ⟨v, hv⟩ := hv
              have hb2 : decide (s ∈ deads) = false := by simp_all
              rw [hb2, Bool.false_or]
              unfold bndF
              rw [hv]
              walk_at "gi"
              refine ⟨_, tab_ix hX h0 h2, ?_⟩
              cases hbo : boundS rows (nameX X s) with
              | none =>
                walk_at "ga"
                exact chk_nx rfl ⟨_, rfl⟩
              | some b =>
                walk_at "gi"
                refine ⟨fun _ => ?_, fun h => Bool.noConfusion h⟩
                walk_at "gi"
                refine ⟨_, tab_ix hX h0 h2, ?_⟩
                rw [hbo]
                walk_at "gi"
                refine ⟨_, ix_fl h0 h1, ?_⟩
                rw [hv]
                walk_at "ga"
                · exact chk_rt (by simp_all)
                · exact chk_nx (by simp_all) ⟨_, rfl⟩
            · walk_at "gi"
              exact chk_nx (by simp_all) ⟨_, rfl⟩
          · rintro h ρ ⟨c, rfl⟩
            walk_at "gi"
            rw [h] at q; exact q
          · intro h
            walk_at "gi"
            rw [h] at q; exact q
        · rw [List.length_map, List.length_map]; show _ ≤ (X.n : Int); omega
        · rw [List.length_map, List.length_map]; show (X.n : Int) < _; omega
    · rw [decide_eq_false hf, Bool.false_and] at q
      refine ⟨fun _ => ?_, fun h => ?_⟩
      · walk_at "gi"
        exact q
      · exfalso
        have h : (!(((floors.map pOpt).length : Int) == ((X.names.map P.str).length : Int))) = false := h
        rw [List.length_map, List.length_map] at h
        simp at h
        exact hf (show floors.length = X.names.length by omega)
end
end G

namespace G
open PySem PySem.Spec L2 Mir
open PyProof.Rows hiding St
section
variable {X : Mac} {S : Src} {Q : P → Src → Prop}
def inR (rows : List Row) (row : Int) : Bool := decide (0 ≤ row) && decide (row < rows.length)
def goodW (X : Mac) (w : List Int) : Bool := w.all fun k => decide (0 ≤ k ∧ k < X.kinds.length)
def rowAt (rows : List Row) (row : Int) : Row := rows.getD row.toNat ("", 0)
def lessS (o : Option Int) (b : Int) : Bool := match o with
  | none => false
  | some v => decide (v < b)
def harmS (X : Mac) (rows : List Row) (row s : Int) (w : List Int) : Bool :=
  inR rows row && (inS X s && (goodW X w && (fitsS (rowAt rows row).1 (nameX X s) && lessS (priceS X s w) (rowAt rows row).2)))
theorem len_e {α : Type} (f : α → P) (xs : List α) : (fun ps : List P => P.int ps.length) (xs.map f) = .int xs.length := by
  show P.int _ = _
  rw [List.length_map]
theorem ix_rows {rows : List Row} {row : Int} (h0 : 0 ≤ row) (h1 : row < rows.length) : pIxA (.tup (rows.map encRow)) (.int row) = some (encRow (rowAt rows row)) := ix_tm (("" : Str), (0 : Int)) h0 h1
theorem rowAt_ok {rows : List Row} (hr : RowsOk rows) {row : Int} (h0 : 0 ≤ row) (h1 : row < rows.length) : PyData.strOk (rowAt rows row).1 = true := hr.2 _ (getD_mem (("" : Str), (0 : Int)) h0 h1)
theorem goodW_mem {w : List Int} (h : goodW X w = true) : ∀ k ∈ w, 0 ≤ k ∧ k < X.kinds.length := fun k hk => of_decide_eq_true (List.all_eq_true.mp h k hk)
theorem inS_mem {s : Int} (h : inS X s = true) : 0 ≤ s ∧ s < X.n := of_decide_eq_true h
/-- 0 <= row < len -/
theorem wx_inR {ρ : Env} {ma mb mc : Env → M P} {x y : Int} {QB : Bool → Src → Prop} (h : Wx ma ρ S fun a S1 => a = .int 0 ∧ Wx mb ρ S1 fun b S2 => b = .int x ∧ Wx mc ρ S2 fun c S3 => c = .int y ∧ S2 = S3 ∧ QB (decide (0 ≤ x) && decide (x < y)) S3) : Wx (mTst (mChain pLe pLt ma mb mc)) ρ S QB := by
  refine wx_tst (wx_chain (h.imp fun a S1 ⟨e1, h⟩ => h.imp fun b S2 ⟨e2, h⟩ => ?_))
  subst e1; subst e2
  obtain ⟨c, S3, e, e3, e4, h⟩ := h
  subst e3; subst e4
  refine ⟨_, rfl, fun h1 => ⟨_, _, e, _, rfl, _, rfl, ?_⟩, fun h1 => ⟨_, rfl, ?_⟩⟩
  · rw [h1, Bool.true_and] at h; exact h
  · rw [h1, Bool.false_and] at h; exact h
theorem t_bounds_harm (hX : X.ok) {rows : List Row} (hr : RowsOk rows) {row s : Int} {w : List Int} (q : Q (.bl (harmS X rows row s w)) S) : Wy (f_bounds_harm [X.p, .tup (rows.map encRow), .int row, .int s, .tup (w.map .int)]) S Q := by
  unfold f_bounds_harm
  refine wy_fn ?_
  unfold m_bounds_harm
  unfold harmS at q
  have hlen : ((rows.map encRow).length : Int) = rows.length := by rw [List.length_map]
  refine ws_seq (ws_if (wx_tor (wx_tnot (wx_inR (x := row) (y := rows.length) ?_))))
  walk_at "gi"
  refine ⟨len_e _ _, ?_⟩
  walk_at "gi"
  cases h1 : inR rows row with
  | false =>
    rw [h1] at q
    unfold inR at h1
    rw [h1]
    walk_at "ga"
    exact q
  | true =>
    rw [h1, Bool.true_and] at q
    unfold inR at h1
    rw [h1]
    simp only [Bool.and_eq_true, decide_eq_true_eq] at h1
    refine ⟨fun h => Bool.noConfusion h, fun _ => ?_⟩
    walk_at "gi"
    refine t_is_state ?_
    walk_at "gi"
    cases h2 : inS X s with
    | false =>
      rw [h2] at q
      unfold inS at h2
      rw [h2]
      walk_at "ga"
      exact q
    | true =>
      rw [h2, Bool.true_and] at q
      have h2' := inS_mem h2
      unfold inS at h2
      rw [h2]
      refine ⟨fun h => Bool.noConfusion h, fun _ => ?_⟩
      walk_at "gi"
      refine t_good_word ?_
      walk_at "gi"
      cases h3 : goodW X w with
      | false =>
        rw [h3] at q
        unfold goodW at h3
        rw [h3]
        walk_at "ga"
        exact q
      | true =>
        rw [h3, Bool.true_and] at q
        have h3' := goodW_mem h3
        unfold goodW at h3
        rw [h3]
        refine ⟨fun h => Bool.noConfusion h, fun _ => ?_⟩
        walk_at "gi"
        refine ⟨_, ix_rows h1.1 h1.2, _, rfl, ?_⟩
        walk_at "gi"
        refine t_price hX h2'.1 h2'.2 h3' ?_
        walk_at "gi"
        refine ⟨_, ix_name hX h2'.1 h2'.2, ?_⟩
        walk_at "gi"
        refine t_fits_goes (rowAt_ok hr h1.1 h1.2) (nameX_mem hX h2'.1 h2'.2) ?_
        cases h4 : fitsS (rowAt rows row).1 (nameX X s) with
        | false =>
          rw [h4] at q
          walk_at "ga"
          exact q
        | true =>
          rw [h4, Bool.true_and] at q
          walk_at "gi"
          refine ⟨fun _ => ?_, fun h => Bool.noConfusion h⟩
          walk_at "gi"
          cases h5 : priceS X s w with
          | none =>
            rw [h5] at q
            walk_at "ga"
            exact q
          | some v =>
            rw [h5] at q
            walk_at "ga"
            exact q
theorem t_harm_due (hX : X.ok) {rows : List Row} (hr : RowsOk rows) {row s : Int} {w : List Int} (hw : w.length ≤ 100) (q : Q (.bl (harmS X rows row s w)) S) : Wy (f__law_harm_due [X.p, .tup (rows.map encRow), .int row, .int s, .tup (w.map .int)]) S Q := by
  unfold f__law_harm_due
  refine wy_fn ?_
  unfold m__law_harm_due
  unfold harmS at q
  refine ws_seq (ws_if (wx_tor (wx_tnot (wx_inR (x := row) (y := rows.length) ?_))))
  walk_at "gi"
  refine ⟨len_e _ _, ?_⟩
  walk_at "gi"
  cases h1 : inR rows row with
  | false =>
    rw [h1] at q
    unfold inR at h1
    rw [h1]
    walk_at "ga"
    exact q
  | true =>
    rw [h1, Bool.true_and] at q
    unfold inR at h1
    rw [h1]
    simp only [Bool.and_eq_true, decide_eq_true_eq] at h1
    refine ⟨fun h => Bool.noConfusion h, fun _ => ?_⟩
    refine wx_tnot (wx_inR (x := s) (y := X.n) ?_)
    walk_at "gi"
    refine ⟨len_e _ _, ?_⟩
    walk_at "gi"
    have e2 : (decide (0 ≤ s) && decide (s < (X.n : Int))) = inS X s := by
      unfold inS; rw [Bool.decide_and]
    rw [e2]
    cases h2 : inS X s with
    | false =>
      rw [h2] at q
      walk_at "ga"
      exact q
    | true =>
      rw [h2, Bool.true_and] at q
      have h2' := inS_mem h2
      refine ⟨fun h => Bool.noConfusion h, fun _ => ?_⟩
      walk_at "gi"
      refine lc_pure (fun k => !(decide (0 ≤ k) && decide (k < (X.kinds.length : Int)))) P.int w rfl (by show _ < 2 ^ 24; omega) ?_ ?_
      · intro k hk
        refine ⟨_, rfl, ?_⟩
        refine wx_tnot (wx_inR (x := k) (y := X.kinds.length) ?_)
        walk_at "gi"
        refine ⟨len_e _ _, ?_⟩
        walk_at "gi"
        intro _
        walk_at "gi"
        rfl
      walk_at "gi"
      have key : (!(List.map P.int (List.filter (fun k => !(decide (0 ≤ k) && decide (k < (X.kinds.length : Int)))) w)).isEmpty) = !goodW X w := by
        unfold goodW
        rw [Bool.not_inj_iff]
        rw [Bool.eq_iff_iff, List.isEmpty_iff, List.map_eq_nil_iff, List.filter_eq_nil_iff, List.all_eq_true]
        constructor
        · intro h m hm
          have := h m hm
          simpa using this
        · intro h m hm
          have := h m hm
          simpa using this
      rw [key]
      cases h3 : goodW X w with
      | false =>
        rw [h3] at q
        walk_at "ga"
        exact q
      | true =>
        rw [h3, Bool.true_and] at q
        have h3' := goodW_mem h3
        refine ⟨fun h => Bool.noConfusion h, fun _ => ?_⟩
        walk_at "gi"
        refine ⟨_, ix_rows h1.1 h1.2, ?_⟩
        walk_at "gi"
        refine ⟨_, ix_name hX h2'.1 h2'.2, ?_⟩
        walk_at "gi"
        refine t_law_fits (rowAt_ok hr h1.1 h1.2) (nameX_mem hX h2'.1 h2'.2) ?_
        walk_at "gi"
        cases h4 : fitsS (rowAt rows row).1 (nameX X s) with
        | false =>
          rw [h4] at q
          walk_at "ga"
          exact q
        | true =>
          rw [h4, Bool.true_and] at q
          refine ⟨fun h => Bool.noConfusion h, fun _ => ?_⟩
          walk_at "gi"
          refine t_law_price hX h2'.1 h2'.2 h3' ?_
          walk_at "gi"
          cases h5 : priceS X s w with
          | none =>
            rw [h5] at q
            walk_at "ga"
            exact q
          | some v =>
            rw [h5] at q
            walk_at "gi"
            refine ⟨fun _ => ?_, fun h => Bool.noConfusion h⟩
            walk_at "gi"
            refine ⟨_, ix_rows h1.1 h1.2, ?_⟩
            walk_at "gi"
            exact q
theorem t_same {b d : Bool} (q : Q (.bl (b == d)) S) : Wy (f__law_same [.bl b, .bl d]) S Q := by
  unfold f__law_same
  refine wy_fn ?_
  unfold m__law_same
  walk_at "ga"
  exact q
end
end G

namespace G
open PySem PySem.Spec L2 Mir
open PyProof.Rows hiding St
section
variable {X : Mac} {S : Src} {Q : P → Src → Prop}
def encW (w : List Int) : P := .tup (w.map .int)
theorem encW_imm (w : List Int) : (encW w).imm = true := immL_int w
theorem words_turn {kinds : Nat} (hk : kinds ≤ 12) {most : Int} {c1 : C1} {lv : List (List Int)} {k : Nat} (hk3 : k < 3) (hlv : ∀ w ∈ lv, w.length ≤ k) (hln : lv.length ≤ 144) {ws : List (List Int)} {c5 c7 c8 : C1} {n : Env → M Out} {QO : Out → Src → Prop}
    (q : ∀ (la : List (List Int)) (c7 c8 : C1), (∀ w ∈ la, w.length ≤ k + 1) → la.length ≤ lv.length * kinds → Wx n [some (.int kinds, .par), c1, some (.int most, .par), some (.lst (ws.map encW), .own), some (.lst (lv.map encW), .loc), c5, some (.lst (la.map encW), .own), c7, c8] S QO) :
    Wx (loopM (gmName 7) b1__law_words (lv.map encW)) [some (.int kinds, .par), c1, some (.int most, .par), some (.lst (ws.map encW), .own), some (.lst (lv.map encW), .loc), c5, some (.lst [], .own), c7, c8] S (andThen n QO) := by
  refine wl_enc (enc := encW) (fun rest ρ S' => S' = S ∧ ∃ (la : List (List Int)) (c7 c8 : C1), ρ = [some (.int kinds, .par), c1, some (.int most, .par), some (.lst (ws.map encW), .own), some (.lst (lv.map encW), .loc), c5, some (.lst (la.map encW), .own), c7, c8] ∧ (∀ w ∈ la, w.length ≤ k + 1) ∧ la.length + rest.length * kinds ≤ lv.length * kinds ∧ ∀ w ∈ rest, w.length ≤ k) ?_ ?_ lv rfl ⟨rfl, [], _, _, rfl, (fun _ h => by cases h), by simp, hlv⟩
  · rintro w rest ρ S' ⟨rfl, la, c7, c8, rfl, h1, h2, h3⟩
    have hw := h3 w List.mem_cons_self
    rw [List.length_cons, Nat.add_mul, Nat.one_mul] at h2
    have hmul : lv.length * kinds ≤ 144 * 12 := Nat.mul_le_mul hln hk
    refine ⟨_, rfl, ?_⟩
    unfold b1__law_words
    walk_at "gi"
    rw [Int.toNat_natCast]
    refine lc_map (fun b : Nat => encW (w ++ [(b : Int)])) (List.range kinds) (ints0 kinds) (by rw [List.length_range]; show _ < 2 ^ 24; omega) ?_ ?_
    · intro b hb
      refine ⟨_, rfl, ?_⟩
      walk_at "gi"
      refine ⟨_, add_tup (immL_int w) rfl (by rw [List.length_map]; show _ + 1 ≤ 2 ^ 24; omega), rfl, ?_⟩
      unfold encW
      rw [List.map_append]; rfl
    · refine ⟨_, add_lst (immL_map _ encW_imm _) (immL_map (fun b : Nat => encW (w ++ [(b : Int)])) (fun _ => encW_imm _) _) (by rw [List.length_map, List.length_map, List.length_range]; show _ ≤ 2 ^ 24; omega), ?_⟩
      refine ⟨rfl, la ++ (List.range kinds).map fun (b : Nat) => w ++ [(b : Int)], some (encW w, .par), c8, ?_, ?_, ?_, fun w hw => h3 w (List.mem_cons_of_mem _ hw)⟩
      · rw [List.map_append, List.map_map]; rfl
      · intro x hx
        rcases List.mem_append.mp hx with hx | hx
        · exact h1 x hx
        · obtain ⟨b, _, rfl⟩ := List.mem_map.mp hx
          rw [List.length_append]; simp; omega
      · rw [List.length_append, List.length_map, List.length_range]; omega
  · rintro ρ S' ⟨rfl, la, c7, c8, rfl, h1, h2, h3⟩
    exact q la c7 c8 h1 (by simpa using h2)
theorem t_words {kinds : Nat} (hk : kinds ≤ 12) {most : Int} (q : ∀ ws : List (List Int), ws ≠ [] → (∀ w ∈ ws, w.length ≤ 3) → ws.length ≤ 10000 → Q (.lst (ws.map encW)) S) : Wy (f__law_words [.int kinds, .int 3, .int most]) S Q := by
  unfold f__law_words
  refine wy_fn ?_
  unfold m__law_words
  walk_at "gi"
  refine wl_rng0 (fun k ρ S' => S' = S ∧ ∃ (ws lv : List (List Int)) (md : Md) (c5 c6 c7 c8 : C1), ρ = [some (.int kinds, .par), some (.int 3, .par), some (.int most, .par), some (.lst (ws.map encW), .own), some (.lst (lv.map encW), md), c5, c6, c7, c8] ∧ (md = .own ∨ md = .loc) ∧ ws ≠ [] ∧ (∀ w ∈ ws, w.length ≤ k) ∧ (∀ w ∈ lv, w.length ≤ k) ∧ lv.length ≤ 12 ^ k ∧ ws.length ≤ 2000 * k + 1) ⟨rfl, [[]], [[]], .own, _, _, _, _, rfl, .inl rfl, by simp, by simp, by simp, by simp, by simp⟩ ?_ ?_
  · rintro k hk3 ρ S' ⟨rfl, ws, lv, md, c5, c6, c7, c8, rfl, hmd, h1, h2, h3, h4, h5⟩
    have hk3 : k < 3 := hk3
    have hln : lv.length ≤ 144 := Nat.le_trans h4 (Nat.le_trans (Nat.pow_le_pow_right (by omega) (show k ≤ 2 by omega)) (by decide))
    have hmul : lv.length * kinds ≤ 12 ^ (k + 1) := by rw [Nat.pow_succ]; exact Nat.mul_le_mul h4 hk
    have hmul2 : lv.length * kinds ≤ 144 * 12 := Nat.mul_le_mul hln hk
    refine ⟨_, rfl, ?_⟩
    unfold b2__law_words
    walk_at "wx"
    walk_at "wx"
    walk_at "gi"
    rcases hmd with rfl | rfl
    all_goals
      refine wi_var rfl (by decide) rfl ?_
      refine words_turn hk hk3 h3 hln (ws := ws) ?_
      intro la c7 c8 g1 g2
      refine ws_seq (ws_ali (p := .lst (la.map encW)) (md := .loc) rfl (by decide) ?_)
      refine at_nx ?_
      walk_at "gi"
      refine ⟨fun _ => ?_, fun _ => ?_⟩
      · walk_at "gi"
        exact q ws h1 (fun w hw => Nat.le_trans (h2 w hw) (by omega)) (by omega)
      · walk_at "gi"
        refine ⟨_, add_lst (immL_map _ encW_imm _) (immL_map _ encW_imm _) (by rw [List.length_map, List.length_map]; show _ ≤ 2 ^ 24; omega), ?_⟩
        refine ⟨rfl, ws ++ la, la, .loc, _, _, _, _, by rw [List.map_append]; rfl, .inr rfl, by simp [h1], ?_, g1, by omega, by rw [List.length_append]; omega⟩
        intro w hw
        rcases List.mem_append.mp hw with hw | hw
        · exact Nat.le_trans (h2 w hw) (by omega)
        · exact g1 w hw
  · rintro ρ S' ⟨rfl, ws, lv, md, c5, c6, c7, c8, rfl, hmd, h1, h2, h3, h4, h5⟩
    walk_at "gi"
    exact q ws h1 h2 (by have : (Int.toNat 3) = 3 := rfl; omega)
theorem t_live (hX : X.ok) (q : ∀ bs : List Bool, bs.length = X.n → Q (.lst (bs.map .bl)) S) : Wy (f__law_live [X.p]) S Q := by
  have hn2 : X.n ≤ 12 := hX.n2
  unfold f__law_live
  refine wy_fn ?_
  unfold m__law_live
  walk_at "gi"
  refine lc_map (fun e : Option Int => .bl (!(pOpt e).isN)) X.ends rfl (by rw [hX.el]; show X.n < 2 ^ 24; omega) ?_ ?_
  · intro e he
    refine ⟨_, rfl, ?_⟩
    walk_at "gi"
    rfl
  have e0 : List.map (fun e : Option Int => P.bl (!(pOpt e).isN)) X.ends = (X.ends.map fun e => !(pOpt e).isN).map .bl := by rw [List.map_map]; rfl
  have l0 : (X.ends.map fun e => !(pOpt e).isN).length = X.n := by rw [List.length_map, hX.el]
  rw [e0]
  generalize X.ends.map (fun e => !(pOpt e).isN) = bs0 at l0
  clear e0
  walk_at "gi"
  · rw [List.length_map, Int.toNat_natCast]
    refine wl_rng0 (fun k ρ S' => S' = S ∧ ∃ (bs : List Bool) (c : C3), ρ = [some (X.p, .par), some (.lst (bs.map .bl), .own), none, c.1, c.2.1, c.2.2] ∧ bs.length = X.n) ⟨rfl, bs0, (_, _, _), rfl, l0⟩ ?_ ?_
    · rintro k hk ρ S' ⟨rfl, bs, c, rfl, hl⟩
      refine ⟨_, rfl, ?_⟩
      unfold b3__law_live
      walk_at "gi"
      · rw [List.length_map, Int.toNat_natCast]
        refine wl_rng0 (fun j ρ S1 => S1 = S' ∧ ∃ (bs : List Bool) (c : C3), ρ = [some (X.p, .par), some (.lst (bs.map .bl), .own), none, c.1, c.2.1, c.2.2] ∧ bs.length = X.n) ⟨rfl, bs, (_, _, _), rfl, hl⟩ ?_ ?_
        · rintro j hj ρ S1 ⟨rfl, bs, c, rfl, hl⟩
          have h0 : (0 : Int) ≤ (j : Int) := by omega
          have h2 : (j : Int) < X.n := by omega
          refine ⟨_, rfl, ?_⟩
          unfold b2__law_live
          walk_at "gi"
          refine ⟨_, ix_row hX h0 h2, ?_⟩
          walk_at "gi"
          refine wl_enc (enc := pMv) (fun rest ρ S2 => S2 = S1 ∧ ∃ (bs : List Bool) (c : C3), ρ = [some (X.p, .par), some (.lst (bs.map .bl), .own), none, c.1, some (.int (j : Int), .par), c.2.2] ∧ bs.length = X.n ∧ ∀ m ∈ rest, m ∈ rowX X j) ?_ ?_ (rowX X j) rfl ⟨rfl, bs, (_, c.1, _), rfl, hl, fun _ h => h⟩
          · rintro m rest ρ S2 ⟨rfl, bs, c, rfl, hl, hm⟩
            refine ⟨_, rfl, ?_⟩
            unfold b1__law_live
            cases m with
            | none =>
              walk_at "ga"
              exact ⟨bs, (c.1, c.1, _), rfl, hl, fun m h => hm m (List.mem_cons_of_mem _ h)⟩
            | some m =>
              obtain ⟨t, f⟩ := m
              have hr := row_ok hX h0 h2 (hm _ List.mem_cons_self)
              walk_at "ga"
              refine ⟨_, ix_lm false hr.1 (by rw [hl]; exact hr.2.1), ?_⟩
              walk_at "ga"
              · have e : stoP (.lst (bs.map P.bl)) (.int (j : Int)) (.bl true) = some (.lst ((bs.set j true).map .bl)) := by
                  show (if _ then (ixN _ (j : Int)).map _ else _) = _
                  rw [if_pos ⟨immL_map _ (fun _ => rfl) _, rfl⟩, List.length_map, ixN_n (by omega), List.map_set]; rfl
                refine ⟨_, e, rfl, bs.set j true, (c.1, c.1, _), rfl, by rw [List.length_set]; exact hl, fun m h => hm m (List.mem_cons_of_mem _ h)⟩
              · exact ⟨bs, (c.1, c.1, _), rfl, hl, fun m h => hm m (List.mem_cons_of_mem _ h)⟩
          · rintro ρ S2 ⟨rfl, bs, c, rfl, hl, hm⟩
            exact ⟨rfl, bs, (c.1, some (.int (j : Int), .par), c.2.2), rfl, hl⟩
        · rintro ρ S1 ⟨rfl, bs, c, rfl, hl⟩
          exact ⟨rfl, bs, (_, _, _), rfl, hl⟩
      · rw [List.length_map]; omega
      · rw [List.length_map]; omega
    · rintro ρ S' ⟨rfl, bs, c, rfl, hl⟩
      walk_at "gi"
      exact q bs hl
  · rw [List.length_map]; omega
  · rw [List.length_map]; omega
end
end G

namespace G
open PySem PySem.Spec L2 Mir
open PyProof.Rows hiding St
section
variable {X : Mac} {S : Src} {Q : P → Src → Prop}
theorem t_lesser (a b : Option Int) (q : ∀ r : Option Int, Q (pOpt r) S) : Wy (f__law_lesser [pOpt a, pOpt b]) S Q := by
  unfold f__law_lesser
  refine wy_fn ?_
  unfold m__law_lesser
  cases a with
  | none =>
    cases b with
    | none =>
      walk_at "ga"
      exact q none
    | some b =>
      walk_at "ga"
      exact q (some b)
  | some a =>
    cases b with
    | none =>
      walk_at "ga"
      exact q (some a)
    | some b =>
      walk_at "ga"
      exact q (some _)
theorem t_least (hX : X.ok) (q : ∀ es : List (Option Int), es.length = X.n → Q (.lst (es.map pOpt)) S) : Wy (f__law_least_prices [X.p]) S Q := by
  have hn2 : X.n ≤ 12 := hX.n2
  unfold f__law_least_prices
  refine wy_fn ?_
  unfold m__law_least_prices
  walk_at "gi"
  refine ⟨_, lst_t (immL_map _ pOpt_imm _), ?_⟩
  walk_at "gi"
  · rw [List.length_map, Int.toNat_natCast, hX.el]
    refine wl_rng0 (fun k ρ S' => S' = S ∧ ∃ (es : List (Option Int)) (c : C3), ρ = [some (X.p, .par), some (.lst (es.map pOpt), .own), c.1, c.2.1, c.2.2] ∧ es.length = X.n) ⟨rfl, X.ends, (_, _, _), rfl, hX.el⟩ ?_ ?_
    · rintro k hk ρ S' ⟨rfl, es, c, rfl, hl⟩
      refine ⟨_, rfl, ?_⟩
      unfold b3__law_least_prices
      walk_at "gi"
      · rw [List.length_map, Int.toNat_natCast, hl]
        refine wl_rng0 (fun j ρ S1 => S1 = S' ∧ ∃ (es : List (Option Int)) (c : C3), ρ = [some (X.p, .par), some (.lst (es.map pOpt), .own), c.1, c.2.1, c.2.2] ∧ es.length = X.n) ⟨rfl, es, (_, _, _), rfl, hl⟩ ?_ ?_
        · rintro j hj ρ S1 ⟨rfl, es, c, rfl, hl⟩
          have h0 : (0 : Int) ≤ (j : Int) := by omega
          have h2 : (j : Int) < X.n := by omega
          refine ⟨_, rfl, ?_⟩
          unfold b2__law_least_prices
          walk_at "gi"
          refine ⟨_, ix_row hX h0 h2, ?_⟩
          walk_at "gi"
          refine wl_enc (enc := pMv) (fun rest ρ S2 => S2 = S1 ∧ ∃ (es : List (Option Int)) (c4 : C1), ρ = [some (X.p, .par), some (.lst (es.map pOpt), .own), c.1, some (.int (j : Int), .par), c4] ∧ es.length = X.n ∧ ∀ m ∈ rest, m ∈ rowX X j) ?_ ?_ (rowX X j) rfl ⟨rfl, es, _, rfl, hl, fun _ h => h⟩
          · rintro m rest ρ S2 ⟨rfl, es, c4, rfl, hl, hm⟩
            refine ⟨_, rfl, ?_⟩
            unfold b1__law_least_prices
            cases m with
            | none =>
              walk_at "ga"
              exact ⟨es, _, rfl, hl, fun m h => hm m (List.mem_cons_of_mem _ h)⟩
            | some m =>
              obtain ⟨t, f⟩ := m
              have hr := row_ok hX h0 h2 (hm _ List.mem_cons_self)
              have ixt := ix_lm (f := pOpt) (xs := es) none hr.1 (by rw [hl]; exact hr.2.1)
              walk_at "ga"
              refine ⟨_, ixt, ?_⟩
              cases hv : es.getD t.toNat none with
              | none =>
                walk_at "ga"
                exact ⟨es, _, rfl, hl, fun m h => hm m (List.mem_cons_of_mem _ h)⟩
              | some v =>
                rw [hv] at ixt
                walk_at "ga"
                refine ⟨_, ix_lmn none (by omega), ?_⟩
                walk_at "ga"
                refine ⟨_, ixt, ?_⟩
                walk_at "ga"
                refine t_lesser _ (some (f + v)) fun r => ?_
                walk_at "ga"
                have e : stoP (.lst (es.map pOpt)) (.int (j : Int)) (pOpt r) = some (.lst ((es.set j r).map pOpt)) := by
                  show (if _ then (ixN _ (j : Int)).map _ else _) = _
                  rw [if_pos ⟨immL_map _ pOpt_imm _, pOpt_imm r⟩, List.length_map, ixN_n (by omega), List.map_set]; rfl
                refine ⟨_, e, rfl, es.set j r, _, rfl, by rw [List.length_set]; exact hl, fun m h => hm m (List.mem_cons_of_mem _ h)⟩
          · rintro ρ S2 ⟨rfl, es, c4, rfl, hl, hm⟩
            exact ⟨rfl, es, (c.1, some (.int (j : Int), .par), c4), rfl, hl⟩
        · rintro ρ S1 ⟨rfl, es, c, rfl, hl⟩
          exact ⟨rfl, es, (_, _, _), rfl, hl⟩
      · rw [List.length_map]; omega
      · rw [List.length_map]; omega
    · rintro ρ S' ⟨rfl, es, c, rfl, hl⟩
      walk_at "gi"
      exact q es hl
  · rw [List.length_map, hX.el]; show _ ≤ (X.n : Int); omega
  · rw [List.length_map, hX.el]; show (X.n : Int) < _; omega
theorem t_rows (g : Gd S) (hX : X.ok) {es : List (Option Int)} (he : es.length = X.n) : Wy (f__law_rows [.src, X.p, .lst (es.map pOpt)]) S fun p S' => Gd S' ∧ ∃ rows : List Row, p = .tup (rows.map encRow) ∧ RowsOk rows := by
  have hn2 : X.n ≤ 12 := hX.n2
  have hn1 : 1 ≤ X.n := hX.n1
  unfold f__law_rows
  refine wy_fn ?_
  unfold m__law_rows
  walk_at "gi"
  refine Wy.imp (t_some g (.inl rfl) (by simp) (by decide) (immL_all.mp rfl)) ?_
  rintro q S1 ⟨g1, hm⟩
  have h1 : ∃ i : Int, q = .int i ∧ 0 ≤ i ∧ i ≤ 3 := by
    simp only [List.mem_cons, List.not_mem_nil, or_false] at hm
    rcases hm with rfl | rfl | rfl | rfl | rfl <;> exact ⟨_, rfl, by decide, by decide⟩
  obtain ⟨i, rfl, hi0, hi3⟩ := h1
  clear hm
  walk_at "gi"
  refine wl_rng0 (fun k ρ S => Gd S ∧ ∃ (rows : List Row) (c4 : C1) (c : C3), ρ = [some (.src, .par), some (X.p, .par), some (.lst (es.map pOpt), .par), some (.lst (rows.map encRow), .own), c4, c.1, c.2.1, c.2.2] ∧ rows.length = k ∧ ∀ r ∈ rows, PyData.strOk r.1 = true) ⟨g1, [], _, (_, _, _), rfl, rfl, fun _ h => by cases h⟩ ?_ ?_
  · rintro k hk ρ S ⟨g, rows, c4, c, rfl, hl, hr⟩
    refine ⟨_, rfl, ?_⟩
    unfold b1__law_rows
    walk_at "gi"
    refine Wy.imp (t_draw g (by rw [List.length_map]; omega)) ?_
    rintro _ S2 ⟨g2, d, rfl, h0, h1⟩
    rw [List.length_map] at h1
    have h2 : d < X.n := by omega
    have hd : d < es.length := by omega
    have hn := nameX_mem hX h0 h2
    obtain ⟨f1, f2, f3, f4, f5⟩ := factN _ hn
    obtain ⟨_, f6, _⟩ := factN _ f4
    have fin : ∀ (S : Src) (near : Int), Gd S → Wx (mSeq (mSet 7 (mCall f__law_base (mCons (mIxA (mIxA (mVar 1) (mC (.int 1))) (mVar 5)) mNil)))
  (mApp 3 (mTup (mCons (mCall f__law_some (mCons (mVar 0) (mCons (mTup (mCons (mImm (mVar 7)) (mCons (mImm (mVar 7)) (mCons (mIxA (mM1 pSplit (mVar 7) (mC (.str "/"))) (mC (.int 0))) (mCons (mC (.str "any")) mNil))))) mNil))) (mCons (mImm (mVar 6)) mNil)))))
      [some (.src, .par), some (X.p, .par), some (.lst (es.map pOpt), .par), some (.lst (rows.map encRow), .own), some (.int (k : Int), .par), some (.int d, .own), some (.int near, .own), c.2.2] S (lpQ ((fun k ρ S => Gd S ∧ ∃ (rows : List Row) (c4 : C1) (c : C3), ρ = [some (.src, .par), some (X.p, .par), some (.lst (es.map pOpt), .par), some (.lst (rows.map encRow), .own), c4, c.1, c.2.1, c.2.2] ∧ rows.length = k ∧ ∀ r ∈ rows, PyData.strOk r.1 = true) (k + 1)) (andThen (mRet (mCB (on1 pTup) (mCons (mVar 3) mNil))) (retQ fun p S' => Gd S' ∧ ∃ rows : List Row, p = .tup (rows.map encRow) ∧ RowsOk rows))) := by
      intro S near g
      walk_at "gi"
      refine ⟨_, ix_name hX h0 h2, ?_⟩
      walk_at "gi"
      refine t_law_base hn ?_
      walk_at "gi"
      refine ⟨_, split_e f1 (by decide), ?_⟩
      walk_at "gi"
      refine ⟨_, head_ix hn, ?_⟩
      walk_at "gi"
      refine Wy.imp (t_some g (.inl rfl) (by simp) (by show (4 : Int) < 1073741824; decide) (immL_all.mp rfl)) ?_
      rintro p S3 ⟨g3, hm⟩
      have hp : ∃ x : Str, p = .str x ∧ PyData.strOk x = true := by
        simp only [List.mem_cons, List.not_mem_nil, or_false] at hm
        rcases hm with rfl | rfl | rfl | rfl
        · exact ⟨_, rfl, f2⟩
        · exact ⟨_, rfl, f2⟩
        · exact ⟨_, rfl, f6⟩
        · exact ⟨_, rfl, ok_any⟩
      obtain ⟨x, rfl, hx⟩ := hp
      walk_at "gi"
      refine ⟨by rw [List.length_map]; show _ < 2 ^ 24; omega, g3, rows ++ [(x, near)], _, (_, _, _), by rw [List.map_append]; rfl, by simp [hl], ?_⟩
      intro r hr'
      rcases List.mem_append.mp hr' with hr' | hr'
      · exact hr r hr'
      · rw [List.mem_singleton] at hr'; subst hr'; exact hx
    walk_at "gi"
    refine ⟨_, ix_lm none h0 hd, ?_⟩
    cases hv : es.getD d.toNat none with
    | none =>
      walk_at "gi"
      refine ⟨fun _ => ?_, fun h => Bool.noConfusion h⟩
      walk_at "wx"
      exact fin _ 0 g2
    | some v =>
      walk_at "gi"
      refine ⟨fun h => Bool.noConfusion h, fun _ => ?_⟩
      walk_at "gi"
      refine ⟨_, ix_lm none h0 hd, ?_⟩
      rw [hv]
      walk_at "gi"
      refine Wy.imp (t_some g2 (.inl rfl) (by simp) (by decide) (immL_all.mp rfl)) ?_
      rintro p S3 ⟨g3, hm⟩
      have hp : ∃ i : Int, p = .int i := by
        simp only [List.mem_cons, List.not_mem_nil, or_false] at hm
        rcases hm with rfl | rfl | rfl | rfl | rfl | rfl <;> exact ⟨_, rfl⟩
      obtain ⟨i2, rfl⟩ := hp
      walk_at "lf"
      walk_at "wx"
      walk_at "lf"
      exact fin _ _ g3
  · rintro ρ S ⟨g, rows, c4, c, rfl, hl, hr⟩
    walk_at "gi"
    exact ⟨_, tup_l (immL_map _ (fun _ => rfl) _), g, rows, rfl, by omega, hr⟩
end
end G

namespace G
open PySem PySem.Spec L2 Mir
open PyProof.Rows hiding St
section
variable {X : Mac} {S : Src} {Q : P → Src → Prop}
theorem cut_map {α β : Type} (f : α → β) (xs : List α) (lo hi : Option Int) : cutL (xs.map f) lo hi = (cutL xs lo hi).map f := by
  unfold cutL
  rw [List.length_map, ← List.map_drop, ← List.map_take]
theorem cut_len {α : Type} (xs : List α) (lo hi : Option Int) : (cutL xs lo hi).length ≤ xs.length := by
  unfold cutL
  rw [List.length_take, List.length_drop]; omega
theorem sl_opt (xs : List (Option Int)) (lo hi : Option Int) : pSl (.tup (xs.map pOpt)) lo hi = some (.tup ((cutL xs lo hi).map pOpt)) := by
  rw [sl_t (immL_map _ pOpt_imm _), cut_map]
theorem sl_int (xs : List Int) (lo hi : Option Int) : pSl (.tup (xs.map .int)) lo hi = some (.tup ((cutL xs lo hi).map .int)) := by
  rw [sl_t (immL_int _), cut_map]
theorem add_opt {xs ys : List (Option Int)} (h : xs.length + ys.length ≤ 1000) : pAdd (.tup (xs.map pOpt)) (.tup (ys.map pOpt)) = some (.tup ((xs ++ ys).map pOpt)) := by
  rw [add_tup (immL_map _ pOpt_imm _) (immL_map _ pOpt_imm _) (by rw [List.length_map, List.length_map]; show _ ≤ 2 ^ 24; omega), List.map_append]
theorem add_int {xs ys : List Int} (h : xs.length + ys.length ≤ 1000) : pAdd (.tup (xs.map .int)) (.tup (ys.map .int)) = some (.tup ((xs ++ ys).map .int)) := by
  rw [add_tup (immL_int _) (immL_int _) (by rw [List.length_map, List.length_map]; show _ ≤ 2 ^ 24; omega), List.map_append]
def BentQ (m : Nat) : P → Src → Prop := fun p S' => Gd S' ∧ ∃ (ds : List Int) (fs : List (Option Int)), p = .tup [.tup (ds.map .int), .tup (fs.map pOpt)] ∧ ds.length ≤ m
theorem t_bent (g : Gd S) (hX : X.ok) {deads : List Int} {m : Nat} (hd : deads.length + 1 ≤ m) (hm : m ≤ 50) {floors : List (Option Int)} (hf : floors.length = X.n) : Wy (f__law_bent [.src, X.p, .tup (deads.map .int), .tup (floors.map pOpt)]) S (BentQ m) := by
  have hn2 : X.n ≤ 12 := hX.n2
  have hn1 : 1 ≤ X.n := hX.n1
  unfold f__law_bent
  refine wy_fn ?_
  unfold m__law_bent
  walk_at "gi"
  have hN : X.n = X.names.length := rfl
  rw [len_e]
  refine Wy.imp (t_draw g (by omega)) ?_
  rintro _ S1 ⟨g1, s, rfl, h0, h1⟩
  have h2 : s < floors.length := by omega
  walk_at "gi"
  refine Wy.imp (t_draw g1 (by decide)) ?_
  rintro _ S2 ⟨g2, way, rfl, _, _⟩
  have cl := fun lo hi => cut_len floors lo hi
  have cd := fun lo hi => cut_len deads lo hi
  walk_at "gi"
  refine ⟨fun _ => ?_, fun _ => ?_⟩
  · walk_at "gi"
    refine ⟨_, sl_opt _ _ _, ?_⟩
    walk_at "gi"
    refine ⟨_, add_opt (ys := [none]) (by have := cl none (some s); simp; omega), ?_⟩
    walk_at "gi"
    refine ⟨_, sl_opt _ _ _, ?_⟩
    refine ⟨_, add_opt (by have := cl none (some s); have := cl (some (s + 1)) none; simp; omega), ?_⟩
    walk_at "gi"
    exact ⟨g2, deads, _, rfl, by omega⟩
  have ixs := ix_fl h0 h2
  have tail : Wx (mSeq (mIf (mTst (mOp pEq (mVar 6) (mC (.int 2))))
  (mRet (mTup (mCons (mOp pAdd (mVar 2) (mTup (mCons (mImm (mVar 5)) mNil))) (mCons (mImm (mVar 3)) mNil))))
  mNext)
  (mSeq (mIf (mTst (mOp pEq (mVar 6) (mC (.int 3))))
  (mRet (mTup (mCons (mSl (mVar 2) (mPart (mC (.int 1))) mNoPart) (mCons (mImm (mVar 3)) mNil))))
  mNext)
  (mSeq (mIf (mTst (mOp pEq (mVar 6) (mC (.int 4))))
  (mRet (mTup (mCons (mImm (mVar 2)) (mCons (mSl (mVar 3) mNoPart (mPart (mC (.int (-1))))) mNil))))
  mNext)
  (mSeq (mIf (mTst (mOp pEq (mVar 6) (mC (.int 5))))
  (mRet (mTup (mCons (mOp pAdd (mVar 2) (mTup (mCons (mCall f__law_some (mCons (mVar 0) (mCons (mTup (mCons (mC (.int (-1))) (mCons (mImm (mVar 4)) mNil))) mNil))) mNil))) (mCons (mImm (mVar 3)) mNil))))
  mNext)
  (mRet (mTup (mCons (mImm (mVar 2)) (mCons (mImm (mVar 3)) mNil)))))))) [some (.src, .par), some (X.p, .par), some (.tup (deads.map .int), .par), some (.tup (floors.map pOpt), .par), some (.int X.names.length, .own), some (.int s, .own), some (.int way, .own)] S2 (retQ (BentQ m)) := by
    walk_at "gi"
    refine ⟨fun _ => ?_, fun _ => ?_⟩
    · walk_at "gi"
      refine ⟨_, add_int (ys := [s]) (by simp; omega), ?_⟩
      walk_at "gi"
      exact ⟨g2, _, _, rfl, by simp; omega⟩
    walk_at "gi"
    refine ⟨fun _ => ?_, fun _ => ?_⟩
    · walk_at "gi"
      refine ⟨_, sl_int _ _ _, ?_⟩
      walk_at "gi"
      exact ⟨g2, _, _, rfl, by have := cd (some 1) none; omega⟩
    walk_at "gi"
    refine ⟨fun _ => ?_, fun _ => ?_⟩
    · walk_at "gi"
      refine ⟨_, sl_opt _ _ _, ?_⟩
      walk_at "gi"
      exact ⟨g2, _, _, rfl, by omega⟩
    walk_at "gi"
    refine ⟨fun _ => ?_, fun _ => ?_⟩
    · walk_at "gi"
      refine Wy.imp (t_some g2 (.inl rfl) (by simp) (by show (2 : Int) < 1073741824; decide) (immL_all.mp rfl)) ?_
      rintro p S3 ⟨g3, hmm⟩
      have hp : ∃ i : Int, p = .int i := by
        simp only [List.mem_cons, List.not_mem_nil, or_false] at hmm
        rcases hmm with rfl | rfl <;> exact ⟨_, rfl⟩
      obtain ⟨i, rfl⟩ := hp
      walk_at "gi"
      refine ⟨_, add_int (ys := [i]) (by simp; omega), ?_⟩
      walk_at "gi"
      exact ⟨g3, _, _, rfl, by simp; omega⟩
    · walk_at "gi"
      exact ⟨g2, _, _, rfl, by omega⟩
  walk_at "wx"
  refine at_nx ?_
  walk_at "gi"
  refine ⟨fun _ => ?_, fun _ => ⟨fun h => Bool.noConfusion h, fun _ => ?_⟩⟩
  · walk_at "gi"
    refine ⟨_, ixs, ?_⟩
    cases hv : flX floors s with
    | none =>
      walk_at "gi"
      refine ⟨fun h => Bool.noConfusion h, fun _ => ?_⟩
      walk_at "wx"
      exact tail
    | some v =>
      walk_at "gi"
      refine ⟨fun _ => ?_, fun h => Bool.noConfusion h⟩
      walk_at "gi"
      refine ⟨_, sl_opt _ _ _, ?_⟩
      walk_at "gi"
      refine ⟨_, ixs, ?_⟩
      rw [hv]
      walk_at "gi"
      refine Wy.imp (t_some g2 (.inl rfl) (by simp) (by decide) (immL_all.mp rfl)) ?_
      rintro p S3 ⟨g3, hmm⟩
      have hp : ∃ i : Int, p = .int i := by
        simp only [List.mem_cons, List.not_mem_nil, or_false] at hmm
        rcases hmm with rfl | rfl | rfl | rfl <;> exact ⟨_, rfl⟩
      obtain ⟨i, rfl⟩ := hp
      walk_at "gi"
      refine ⟨_, add_opt (ys := [some (v + i)]) (by have := cl none (some s); simp; omega), ?_⟩
      walk_at "gi"
      refine ⟨_, sl_opt _ _ _, ?_⟩
      refine ⟨_, add_opt (by have := cl none (some s); have := cl (some (s + 1)) none; simp; omega), ?_⟩
      walk_at "gi"
      exact ⟨g3, deads, _, rfl, by omega⟩
  · walk_at "wx"
    exact tail
end
end G

namespace G
open PySem PySem.Spec L2 Mir
open PyProof.Rows hiding St
section
variable {Pg : Program} {w : World} {mg : Str → Option Value} {base : Heap} {c : Cn}
/-! law -/
abbrev s_law : Stmt := topS 43
theorem sc_law : FnScope ["script", "source", "machine", "least", "rows", "live", "deads", "state", "lower", "exact", "loose", "price_v", "turn", "paper", "words", "row", "word"] ["script"] (defScope s_law) := ⟨rfl, rfl, rfl, by decide +kernel, rfl, by decide +kernel, by decide +kernel⟩
def b1_law : Env → M Out := (mSeq (mSet 13 (mCall f__law_bent (mCons (mVar 1) (mCons (mVar 2) (mCons (mVar 6) (mCons (mCall f__law_some (mCons (mVar 1) (mCons (mTup (mCons (mImm (mVar 9)) (mCons (mImm (mVar 10)) mNil))) mNil))) mNil))))))
  (mIf (tNotM (mTru (mCall f__law_same (mCons (mCall f_bounds_take (mCons (mVar 2) (mCons (mVar 4) (mCons (mIxA (mVar 13) (mC (.int 0))) (mCons (mIxA (mVar 13) (mC (.int 1))) mNil))))) (mCons (mCall f__law_right (mCons (mVar 2) (mCons (mVar 4) (mCons (mIxA (mVar 13) (mC (.int 0))) (mCons (mIxA (mVar 13) (mC (.int 1))) mNil))))) mNil)))))
  (mRet (mC (.bl false)))
  mNext))
def b2_law : Env → M Out := (mSeq (mSet 15 (mOp pSub (mCall f__law_draw (mCons (mVar 1) (mCons (mOp pAdd (mCB (on1 pLen) (mCons (mVar 4) mNil)) (mC (.int 2))) mNil))) (mC (.int 1))))
  (mSeq (mSet 7 (mOp pSub (mCall f__law_draw (mCons (mVar 1) (mCons (mOp pAdd (mCB (on1 pLen) (mCons (mVar 3) mNil)) (mC (.int 2))) mNil))) (mC (.int 1))))
  (mSeq (mSet 16 (mCall f__law_some (mCons (mVar 1) (mCons (mVar 14) mNil))))
  (mIf (tNotM (mTru (mCall f__law_same (mCons (mCall f_bounds_harm (mCons (mVar 2) (mCons (mVar 4) (mCons (mVar 15) (mCons (mVar 7) (mCons (mVar 16) mNil)))))) (mCons (mCall f__law_harm_due (mCons (mVar 2) (mCons (mVar 4) (mCons (mVar 15) (mCons (mVar 7) (mCons (mVar 16) mNil)))))) mNil)))))
  (mRet (mC (.bl false)))
  mNext))))
def mR_law : Env → M Out := (mSeq (mSet 2 (mCall f__law_machine (mCons (mVar 1) mNil)))
  (mSeq (mSet 3 (mCall f__law_least_prices (mCons (mVar 2) mNil)))
  (mSeq (mSet 4 (mCall f__law_rows (mCons (mVar 1) (mCons (mVar 2) (mCons (mVar 3) mNil)))))
  (mSeq (mSet 5 (mCall f__law_live (mCons (mVar 2) mNil)))
  (mSeq (mSet 6 (mCB (on1 pTup) (mCons (mLc (mRng rng1 (mCons (mCB (on1 pLen) (mCons (mVar 5) mNil)) mNil)) (gmName 7) (tNotM (mTru (mIxA (mVar 5) (mVar 7)))) (mImm (mVar 7)) [7]) mNil)))
  (mSeq (mSet 8 (mCall f__law_draw (mCons (mVar 1) (mCons (mC (.int 3)) mNil))))
  (mSeq (mSet 9 (mCB (on1 pTup) (mCons (mVar 3) mNil)))
  (mSeq (mSet 10 (mCB (on1 pTup) (mCons (mLc (mItV 3) (gmName 11) mYes (mIfE (mTst (mOp pIsN (mVar 11) (mC .non))) (mC .non) (mOp pSub (mVar 11) (mVar 8))) [11]) mNil)))
  (mSeq (mIf (tNotM (mTru (mCall f__law_same (mCons (mCall f_bounds_take (mCons (mVar 2) (mCons (mVar 4) (mCons (mVar 6) (mCons (mVar 9) mNil))))) (mCons (mCall f__law_right (mCons (mVar 2) (mCons (mVar 4) (mCons (mVar 6) (mCons (mVar 9) mNil))))) mNil)))))
  (mRet (mC (.bl false)))
  mNext)
  (mSeq (mIf (tNotM (mTru (mCall f__law_same (mCons (mCall f_bounds_take (mCons (mVar 2) (mCons (mVar 4) (mCons (mVar 6) (mCons (mVar 10) mNil))))) (mCons (mCall f__law_right (mCons (mVar 2) (mCons (mVar 4) (mCons (mVar 6) (mCons (mVar 10) mNil))))) mNil)))))
  (mRet (mC (.bl false)))
  mNext)
  (mSeq (mFor (mRng rng1 (mCons (mC (.int 5)) mNil)) (gmName 12) b1_law)
  (mSeq (mSet 14 (mOp pAdd (mCall f__law_words (mCons (mCB (on1 pLen) (mCons (mIxA (mVar 2) (mC (.int 0))) mNil)) (mCons (mC (.int 3)) (mCons (mC (.int 30)) mNil)))) (mLst (mCons (mTup (mCons (mCB (on1 pLen) (mCons (mIxA (mVar 2) (mC (.int 0))) mNil)) mNil)) (mCons (mTup (mCons (mC (.int (-1))) mNil)) mNil)))))
  (mSeq (mFor (mRng rng1 (mCons (mC (.int 6)) mNil)) (gmName 12) b2_law)
  (mRet (mC (.bl true))))))))))))))))
theorem rest_law {f : Addr} {cdv : Value} {A : Around} {outer : List PySem.Env} {s : Shared} {H : Hp} {E : XK} (hr : Room 7 (cxOf (L2.CX Pg w) Pg w c.K mg base ["script", "source", "machine", "least", "rows", "live", "deads", "state", "lower", "exact", "loose", "price_v", "turn", "paper", "words", "row", "word"] "law" (defScope s_law) f cdv A outer s H E).A) (T : Bn mg) (C__law_machine : Cl c Pg w c.K mg base "_law_machine" 1 f__law_machine 7) (C__law_least_prices : Cl c Pg w c.K mg base "_law_least_prices" 1 f__law_least_prices 2) (C__law_rows : Cl c Pg w c.K mg base "_law_rows" 3 f__law_rows 4) (C__law_live : Cl c Pg w c.K mg base "_law_live" 1 f__law_live 1) (C__law_draw : Cl c Pg w c.K mg base "_law_draw" 2 f__law_draw 2) (C__law_same : Cl c Pg w c.K mg base "_law_same" 2 f__law_same 1) (C__law_right : Cl c Pg w c.K mg base "_law_right" 4 f__law_right 5) (C_bounds_take : Cl c Pg w c.K mg base "bounds_take" 4 f_bounds_take 5) (C__law_bent : Cl c Pg w c.K mg base "_law_bent" 4 f__law_bent 4) (C__law_some : Cl c Pg w c.K mg base "_law_some" 2 f__law_some 3) (C__law_words : Cl c Pg w c.K mg base "_law_words" 3 f__law_words 1) (C__law_harm_due : Cl c Pg w c.K mg base "_law_harm_due" 5 f__law_harm_due 3) (C_bounds_harm : Cl c Pg w c.K mg base "bounds_harm" 5 f_bounds_harm 4) : ∃ t, Srs c (fun cls d _ H => E cls d H) (cxOf (L2.CX Pg w) Pg w c.K mg base ["script", "source", "machine", "least", "rows", "live", "deads", "state", "lower", "exact", "loose", "price_v", "turn", "paper", "words", "row", "word"] "law" (defScope s_law) f cdv A outer s H E) (defBody s_law).tail t mR_law := by
  have nd : (["script", "source", "machine", "least", "rows", "live", "deads", "state", "lower", "exact", "loose", "price_v", "turn", "paper", "words", "row", "word"] : List Str).Nodup := sc_law.nd
  have tk : Takes (cxOf (L2.CX Pg w) Pg w c.K mg base ["script", "source", "machine", "least", "rows", "live", "deads", "state", "lower", "exact", "loose", "price_v", "turn", "paper", "words", "row", "word"] "law" (defScope s_law) f cdv A outer s H E) (fun cls d _ H => E cls d H) := takes_of rfl rfl rfl rfl
  have hp : PassesOwn (model Pg w) (cxOf (L2.CX Pg w) Pg w c.K mg base ["script", "source", "machine", "least", "rows", "live", "deads", "state", "lower", "exact", "loose", "price_v", "turn", "paper", "words", "row", "word"] "law" (defScope s_law) f cdv A outer s H E).A (cxOf (L2.CX Pg w) Pg w c.K mg base ["script", "source", "machine", "least", "rows", "live", "deads", "state", "lower", "exact", "loose", "price_v", "turn", "paper", "words", "row", "word"] "law" (defScope s_law) f cdv A outer s H E).env (cxOf (L2.CX Pg w) Pg w c.K mg base ["script", "source", "machine", "least", "rows", "live", "deads", "state", "lower", "exact", "loose", "price_v", "turn", "paper", "words", "row", "word"] "law" (defScope s_law) f cdv A outer s H E).xe := passes_of rfl
  exact ⟨_, (ss_cons (s_set 2 nd (x_call C__law_machine hr tk (a_cons (x_var 1) a_nil)))
  (ss_cons (s_set 3 nd (x_call C__law_least_prices hr tk (a_cons (x_var 2) a_nil)))
  (ss_cons (s_set 4 nd (x_call C__law_rows hr tk (a_cons (x_var 1) (a_cons (x_var 2) (a_cons (x_var 3) a_nil)))))
  (ss_cons (s_set 5 nd (x_call C__law_live hr tk (a_cons (x_var 2) a_nil)))
  (ss_cons (s_set 6 nd (x_bi (b_tuple T.n_tuple) (a_cons (x_any (x_lc [("state", 7)] nd (i_rng1 T.n_range (a_cons (x_any (x_bi (b_len T.n_len) (a_cons (x_var 5) a_nil))) a_nil)) (by kernel_rfl) (fun _ _ _ _ _ => (g_name 7 nd)) (fun _ _ _ _ _ => (ts_one (t_not (t_tru (x_ix hr (x_var 5) (x_var 7)))))) (fun _ _ _ _ _ => (x_imm (x_var 7))))) a_nil)))
  (ss_cons (s_set 8 nd (x_call C__law_draw hr tk (a_cons (x_var 1) (a_cons (x_any x_int) a_nil))))
  (ss_cons (s_set 9 nd (x_bi (b_tuple T.n_tuple) (a_cons (x_var 3) a_nil)))
  (ss_cons (s_set 10 nd (x_bi (b_tuple T.n_tuple) (a_cons (x_any (x_lc [("price_v", 11)] nd (i_var 3) (by kernel_rfl) (fun _ _ _ _ _ => (g_name 11 nd)) (fun _ _ _ _ _ => ts_nil) (fun _ _ _ _ _ => (x_if (t_cmp k_is (x_var 11) x_non) x_non (x_sub (x_var 11) (x_var 8)))))) a_nil)))
  (ss_cons (s_if (t_not (t_tru (x_call C__law_same hr tk (a_cons (x_any (x_call C_bounds_take hr tk (a_cons (x_var 2) (a_cons (x_var 4) (a_cons (x_var 6) (a_cons (x_var 9) a_nil)))))) (a_cons (x_any (x_call C__law_right hr tk (a_cons (x_var 2) (a_cons (x_var 4) (a_cons (x_var 6) (a_cons (x_var 9) a_nil)))))) a_nil)))))
  (ss_one (s_ret x_bl))
  ss_nil)
  (ss_cons (s_if (t_not (t_tru (x_call C__law_same hr tk (a_cons (x_any (x_call C_bounds_take hr tk (a_cons (x_var 2) (a_cons (x_var 4) (a_cons (x_var 6) (a_cons (x_var 10) a_nil)))))) (a_cons (x_any (x_call C__law_right hr tk (a_cons (x_var 2) (a_cons (x_var 4) (a_cons (x_var 6) (a_cons (x_var 10) a_nil)))))) a_nil)))))
  (ss_one (s_ret x_bl))
  ss_nil)
  (ss_cons (s_for hp (i_rng1 T.n_range (a_cons (x_any x_int) a_nil)) (g_name 12 nd)
  (ss_cons (s_set 13 nd (x_call C__law_bent hr tk (a_cons (x_var 1) (a_cons (x_var 2) (a_cons (x_var 6) (a_cons (x_any (x_call C__law_some hr tk (a_cons (x_var 1) (a_cons (x_any (x_tup (a_cons (x_imm (x_var 9)) (a_cons (x_imm (x_var 10)) a_nil)))) a_nil)))) a_nil))))))
  (ss_one (s_if (t_not (t_tru (x_call C__law_same hr tk (a_cons (x_any (x_call C_bounds_take hr tk (a_cons (x_var 2) (a_cons (x_var 4) (a_cons (x_ix hr (x_var 13) x_int) (a_cons (x_ix hr (x_var 13) x_int) a_nil)))))) (a_cons (x_any (x_call C__law_right hr tk (a_cons (x_var 2) (a_cons (x_var 4) (a_cons (x_ix hr (x_var 13) x_int) (a_cons (x_ix hr (x_var 13) x_int) a_nil)))))) a_nil)))))
  (ss_one (s_ret x_bl))
  ss_nil))))
  (ss_cons (s_set 14 nd (x_add (x_call C__law_words hr tk (a_cons (x_any (x_bi (b_len T.n_len) (a_cons (x_ix hr (x_var 2) x_int) a_nil))) (a_cons (x_any x_int) (a_cons (x_any x_int) a_nil)))) (x_lst (a_cons (x_tup (a_cons (x_bi (b_len T.n_len) (a_cons (x_ix hr (x_var 2) x_int) a_nil)) a_nil)) (a_cons (x_tup (a_cons x_neg a_nil)) a_nil)))))
  (ss_cons (s_for hp (i_rng1 T.n_range (a_cons (x_any x_int) a_nil)) (g_name 12 nd)
  (ss_cons (s_set 15 nd (x_sub (x_call C__law_draw hr tk (a_cons (x_var 1) (a_cons (x_any (x_add (x_bi (b_len T.n_len) (a_cons (x_var 4) a_nil)) x_int)) a_nil))) x_int))
  (ss_cons (s_set 7 nd (x_sub (x_call C__law_draw hr tk (a_cons (x_var 1) (a_cons (x_any (x_add (x_bi (b_len T.n_len) (a_cons (x_var 3) a_nil)) x_int)) a_nil))) x_int))
  (ss_cons (s_set 16 nd (x_call C__law_some hr tk (a_cons (x_var 1) (a_cons (x_var 14) a_nil))))
  (ss_one (s_if (t_not (t_tru (x_call C__law_same hr tk (a_cons (x_any (x_call C_bounds_harm hr tk (a_cons (x_var 2) (a_cons (x_var 4) (a_cons (x_var 15) (a_cons (x_var 7) (a_cons (x_var 16) a_nil))))))) (a_cons (x_any (x_call C__law_harm_due hr tk (a_cons (x_var 2) (a_cons (x_var 4) (a_cons (x_var 15) (a_cons (x_var 7) (a_cons (x_var 16) a_nil))))))) a_nil)))))
  (ss_one (s_ret x_bl))
  ss_nil))))))
  (ss_one (s_ret x_bl)))))))))))))))⟩
-- LAW 8 17 _law_machine _law_least_prices _law_rows _law_live _law_draw _law_same _law_right bounds_take _law_bent _law_some _law_words _law_harm_due bounds_harm

end
end G

namespace G
open PySem PySem.Spec L2 Mir
open PyProof.Rows hiding St
section
variable {X : Mac} {S : Src} {Q : P → Src → Prop}
/-- one comparison of the law -/
theorem same_ok (hX : X.ok) {rows : List Row} (hr : RowsOk rows) {deads : List Int} (hl : deads.length ≤ 100) {floors : List (Option Int)} {QB : Bool → Src → Prop} (q : QB false S) : Wy (f_bounds_take [X.p, .tup (rows.map encRow), .tup (deads.map .int), .tup (floors.map pOpt)]) S fun p S1 => Wy (f__law_right [X.p, .tup (rows.map encRow), .tup (deads.map .int), .tup (floors.map pOpt)]) S1 fun p2 S2 => Wy (f__law_same [p, p2]) S2 fun p3 S3 => ∃ b, truP p3 = some b ∧ QB (!b) S3 := by
  refine t_bounds_take hX hr hl ?_
  refine t_right hX hr hl ?_
  refine t_same ?_
  refine ⟨true, by simp [truP], q⟩
theorem law_main {S0 : Src} (g : Gd S0) : Wx mR_law [none, some (.src, .par), none, none, none, none, none, none, none, none, none, none, none, none, none, none, none] S0 (retQ fun p _ => p = .bl true) := by
  unfold mR_law
  walk_at "gi"
  refine Wy.imp (t_machine g) ?_
  rintro _ S1 ⟨g1, X, rfl, hX⟩
  have hn2 : X.n ≤ 12 := hX.n2
  walk_at "gi"
  refine t_least hX fun es he => ?_
  walk_at "gi"
  refine Wy.imp (t_rows g1 hX he) ?_
  rintro _ S2 ⟨g2, rows, rfl, hr⟩
  walk_at "gi"
  refine t_live hX fun bs hb => ?_
  walk_at "gi"
  · rw [List.length_map, Int.toNat_natCast]
    refine lc_pure (fun k : Nat => !(bs.getD k false)) (fun k : Nat => .int (k : Int)) (List.range bs.length) (ints0 _) (by rw [List.length_range]; show _ < 2 ^ 24; omega) ?_ ?_
    · intro k hk
      rw [List.mem_range] at hk
      refine ⟨_, rfl, ?_⟩
      walk_at "gi"
      refine ⟨_, ix_lmn false hk, ?_⟩
      walk_at "gi"
      intro _
      walk_at "gi"
      rfl
    have ed : ∃ deads : List Int, deads.length ≤ 12 ∧ List.map (fun k : Nat => P.int (k : Int)) (List.filter (fun k => !bs.getD k false) (List.range bs.length)) = deads.map .int := by
      refine ⟨(List.filter (fun k => !bs.getD k false) (List.range bs.length)).map fun k : Nat => (k : Int), ?_, by rw [List.map_map]; rfl⟩
      rw [List.length_map]
      have := List.length_filter_le (fun k => !bs.getD k false) (List.range bs.length)
      rw [List.length_range] at this
      omega
    obtain ⟨deads, hdl, ed⟩ := ed
    rw [ed]
    clear ed
    walk_at "gi"
    refine ⟨_, tup_l (immL_int _), ?_⟩
    walk_at "gi"
    refine Wy.imp (t_draw g2 (by decide)) ?_
    rintro _ S3 ⟨g3, lower, rfl, _, _⟩
    walk_at "gi"
    refine ⟨_, tup_l (immL_map _ pOpt_imm _), ?_⟩
    walk_at "gi"
    refine lc_map (fun e : Option Int => pOpt (e.map (· - lower))) es rfl (by rw [he]; show _ < 2 ^ 24; omega) ?_ ?_
    · intro e _
      refine ⟨_, rfl, ?_⟩
      cases e with
      | none =>
        walk_at "ga"
        rfl
      | some v =>
        walk_at "ga"
        rfl
    have el : List.map (fun e : Option Int => pOpt (e.map (· - lower))) es = (es.map fun e => e.map (· - lower)).map pOpt := by rw [List.map_map]; rfl
    have hll : (es.map fun e => e.map (· - lower)).length = X.n := by rw [List.length_map]; exact he
    rw [el]
    generalize es.map (fun e => e.map (· - lower)) = loose at hll
    clear el
    walk_at "gi"
    refine ⟨_, tup_l (immL_map _ pOpt_imm _), ?_⟩
    walk_at "gi"
    refine t_bounds_take hX hr (by omega) ?_
    walk_at "gi"
    refine t_right hX hr (by omega) ?_
    walk_at "gi"
    refine t_same ?_
    rw [beq_self_eq_true]
    walk_at "gi"
    refine ⟨fun h => Bool.noConfusion h, fun _ => ?_⟩
    walk_at "gi"
    refine t_bounds_take hX hr (by omega) ?_
    walk_at "gi"
    refine t_right hX hr (by omega) ?_
    walk_at "gi"
    refine t_same ?_
    rw [beq_self_eq_true]
    walk_at "gi"
    refine ⟨fun h => Bool.noConfusion h, fun _ => ?_⟩
    walk_at "gi"
    refine wl_rng0 (fun k ρ S => Gd S ∧ ∃ (c c7 c11 : C1) (md : Md), ρ = [none, some (.src, .par), some (X.p, .own), some (.lst (es.map pOpt), md), some (.tup (rows.map encRow), .own), some (.lst (bs.map .bl), .own), some (.tup (deads.map .int), .own), none, some (.int lower, .own), some (.tup (es.map pOpt), .own), some (.tup (loose.map pOpt), .own), none, c, c7, none, none, none]) ⟨g3, _, _, none, .own, rfl⟩ ?_ ?_
    · rintro k hk ρ S ⟨g, c, c7, c11, md, rfl⟩
      refine ⟨_, rfl, ?_⟩
      unfold b1_law
      walk_at "gi"
      refine Wy.imp (t_some g (.inl rfl) (by simp) (by show (2 : Int) < 1073741824; decide) (immL_all.mp (by show immL [.tup (es.map pOpt), .tup (loose.map pOpt)] = true; rw [immL_all]; intro x hx; simp only [List.mem_cons, List.not_mem_nil, or_false] at hx; rcases hx with rfl | rfl <;> exact immL_map _ pOpt_imm _))) ?_
      rintro p S4 ⟨g4, hm⟩
      have hp : ∃ fl : List (Option Int), p = .tup (fl.map pOpt) ∧ fl.length = X.n := by
        simp only [List.mem_cons, List.not_mem_nil, or_false] at hm
        rcases hm with rfl | rfl
        · exact ⟨es, rfl, he⟩
        · exact ⟨loose, rfl, hll⟩
      obtain ⟨fl, rfl, hfl⟩ := hp
      walk_at "gi"
      refine Wy.imp (t_bent g4 hX (m := 20) (by omega) (by omega) hfl) ?_
      rintro _ S5 ⟨g5, ds, fs, rfl, hds⟩
      walk_at "gi"
      refine t_bounds_take hX hr (by omega) ?_
      walk_at "gi"
      refine t_right hX hr (by omega) ?_
      walk_at "gi"
      refine t_same ?_
      rw [beq_self_eq_true]
      walk_at "gi"
      refine ⟨fun h => Bool.noConfusion h, fun _ => ?_⟩
      walk_at "gi"
      exact ⟨g5, _, _, none, _, rfl⟩
    · rintro ρ S ⟨g, c, c7, c11, md, rfl⟩
      walk_at "gi"
      rw [len_e]
      refine t_words hX.k2 fun ws hw1 hw2 hw3 => ?_
      walk_at "gi"
      have e2 : ([P.tup [P.int (List.map P.str X.kinds).length], P.tup [P.int (-1)]] : List P) = [[(X.kinds.length : Int)], [-1]].map encW := by
        rw [List.length_map]; rfl
      refine ⟨_, add_lst (immL_map _ encW_imm _) rfl (by rw [List.length_map]; show _ + 2 ≤ 2 ^ 24; omega), ?_⟩
      have e3 : ws.map encW ++ ([P.tup [P.int (List.map P.str X.kinds).length], P.tup [P.int (-1)]] : List P) = (ws ++ [[(X.kinds.length : Int)], [-1]]).map encW := by
        rw [List.map_append, e2]
      have hall : ∀ w ∈ ws ++ [[(X.kinds.length : Int)], [-1]], w.length ≤ 3 := by
        intro w hw
        rcases List.mem_append.mp hw with hw | hw
        · exact hw2 w hw
        · simp only [List.mem_cons, List.not_mem_nil, or_false] at hw
          rcases hw with rfl | rfl <;> exact (by show 1 ≤ 3; decide)
      have hne : ws ++ [[(X.kinds.length : Int)], [-1]] ≠ [] := by simp
      have hwl : (ws ++ [[(X.kinds.length : Int)], [-1]]).length ≤ 10002 := by simp; omega
      show andThen _ _ (Out.nx [none, some (.src, .par), some (X.p, .own), some (.lst (es.map pOpt), md), some (.tup (rows.map encRow), .own), some (.lst (bs.map .bl), .own), some (.tup (deads.map .int), .own), none, some (.int lower, .own), some (.tup (es.map pOpt), .own), some (.tup (loose.map pOpt), .own), none, c, c7, some (.lst (ws.map encW ++ ([P.tup [P.int (List.map P.str X.kinds).length], P.tup [P.int (-1)]] : List P)), .own), none, none]) S
      rw [e3]
      generalize ws ++ [[(X.kinds.length : Int)], [-1]] = wl at hall hne hwl
      clear e3 e2
      walk_at "gi"
      refine wl_rng0 (fun k ρ S => Gd S ∧ ∃ (c7 c12 c13 c15 c16 : C1), ρ = [none, some (.src, .par), some (X.p, .own), some (.lst (es.map pOpt), md), some (.tup (rows.map encRow), .own), some (.lst (bs.map .bl), .own), some (.tup (deads.map .int), .own), c7, some (.int lower, .own), some (.tup (es.map pOpt), .own), some (.tup (loose.map pOpt), .own), none, c12, c13, some (.lst (wl.map encW), .own), c15, c16]) ⟨g, _, _, _, _, _, rfl⟩ ?_ ?_
      · rintro k hk ρ S ⟨g, c7, c12, c13, c15, c16, rfl⟩
        refine ⟨_, rfl, ?_⟩
        unfold b2_law
        walk_at "gi"
        have hr1 := hr.1
        refine Wy.imp (t_draw g (by rw [List.length_map]; omega)) ?_
        rintro _ S5 ⟨g5, row, rfl, _, _⟩
        walk_at "gi"
        refine Wy.imp (t_draw g5 (by rw [List.length_map]; omega)) ?_
        rintro _ S6 ⟨g6, st, rfl, _, _⟩
        walk_at "gi"
        refine Wy.imp (t_some g6 (.inr rfl) (by simpa using hne) (by rw [List.length_map]; omega) (immL_all.mp (immL_map _ encW_imm _))) ?_
        rintro _ S7 ⟨g7, hm⟩
        obtain ⟨w, hw, rfl⟩ := List.mem_map.mp hm
        have hwl3 := hall w hw
        walk_at "gi"
        refine t_bounds_harm hX hr ?_
        walk_at "gi"
        refine t_harm_due hX hr (by omega) ?_
        walk_at "gi"
        refine t_same ?_
        rw [beq_self_eq_true]
        walk_at "gi"
        refine ⟨fun h => Bool.noConfusion h, fun _ => ?_⟩
        walk_at "gi"
        exact ⟨g7, _, _, _, _, _, rfl⟩
      · rintro ρ S ⟨g, c7, c12, c13, c15, c16, rfl⟩
        walk_at "gi"
        rfl
  · rw [List.length_map]; omega
  · rw [List.length_map]; omega
end
end G

namespace G
open PySem PySem.Spec L2 Mir
open PyProof.Rows hiding St
section
variable {Pg : Program} {w : World} {mg : Str → Option Value} {base : Heap} {c : Cn}
/-! _law_source -/
abbrev s__law_source : Stmt := topS 17
theorem sc__law_source : FnScope ["script", "cells", "cell"] ["script"] (defScope s__law_source) := ⟨rfl, rfl, rfl, by decide +kernel, rfl, by decide +kernel, by decide +kernel⟩
/-- what it gives: the drawing source over the script's ints -/
def src0 (ns : List Int) : Src := ⟨ns, 0, 0, 0, 1 + ns.sum % 1000003, 0⟩
def spSource (K : PySem.W.Frag) : Sp := fun vs H Q _ => ∃ (a : Addr) (ns : List Int), vs = [.ref a] ∧ SqL K H a (ns.map V.int) ∧ ns.length ≤ 63 ∧ ∀ H' s0 c0, SrcAt s0 c0 (src0 ns) H' → Q (.ref s0) H'
theorem ok_source {f : Addr} {fd : FuncData} (F : L2.Fun c.K "_law_source" "_law_source" s__law_source f fd) (T : Bn mg) : FnOk Pg w c.K mg base (L2.CX Pg w) 1 f fd ["script"] (spSource c.K) := by
  refine F.okX sc__law_source (fun vs H Q E h => by obtain ⟨a, ns, rfl, _⟩ := h; rfl) fun cdv A outer s H vs Q E hr h => ?_
  have nd : (["script", "cells", "cell"] : List Str).Nodup := sc__law_source.nd
  have tk : Takes (cxOf (L2.CX Pg w) Pg w c.K mg base ["script", "cells", "cell"] "_law_source" (defScope s__law_source) f cdv A outer s H E) (fun cls d _ H => E cls d H) := takes_of rfl rfl rfl rfl
  have hp : PassesOwn (model Pg w) (cxOf (L2.CX Pg w) Pg w c.K mg base ["script", "cells", "cell"] "_law_source" (defScope s__law_source) f cdv A outer s H E).A (cxOf (L2.CX Pg w) Pg w c.K mg base ["script", "cells", "cell"] "_law_source" (defScope s__law_source) f cdv A outer s H E).env (cxOf (L2.CX Pg w) Pg w c.K mg base ["script", "cells", "cell"] "_law_source" (defScope s__law_source) f cdv A outer s H E).xe := passes_of rfl
  refine ⟨_, Srs.ps (W := fun cls d _ H => E cls d H) (ss_cons (s_setLc 1 [("cell", 2)] nd (i_any (x_nof (x_sl (x_var 0) o_none (o_some x_int)))) (by kernel_rfl) (fun _ _ _ _ _ => (g_name 2 nd)) (fun _ _ _ _ _ => ts_nil) (fun _ _ _ _ _ => (x_bi (b_int T.n_int) (a_cons (x_var 2) a_nil))))
  (ss_one (s_ret (x_lst (a_cons (x_imm (x_var 1)) (a_cons x_int (a_cons x_int (a_cons x_int (a_cons (x_add x_int (x_mod (x_bi (b_int T.n_int) (a_cons (x_any (x_bi (b_sum T.n_sum) (a_cons (x_var 1) a_nil))) a_nil)) x_int)) (a_cons x_int a_nil)))))))))), ?_⟩
  obtain ⟨a, ns, rfl, hS, hlen, q⟩ := h
  have hcut : cutV (ns.map V.int) none (some 63) = ns.map V.int := by
    unfold cutV
    have e : HT.sIx (ns.map V.int).length (ns.map V.int).length (some 63) = min 63 (ns.map V.int).length := HT.sIx_nat _ _ 63
    rw [e, HT.sIx_none, List.length_map, Nat.min_eq_right hlen]
    show List.take (ns.length - 0) (List.drop 0 (ns.map V.int)) = _
    rw [List.drop_zero, Nat.sub_zero]
    exact List.take_of_length_le (by rw [List.length_map]; exact Nat.le_refl _)
  refine ⟨.ref a, rfl, 63, rfl, .inr (.inl ⟨a, _, rfl, hS, fun p np => ?_⟩)⟩
  rw [hcut]
  have hP : SqL c.K (upd H p (.lst (ns.map V.int))) p (ns.map V.int) := .inl (.inl upd_same)
  refine .inl ⟨p, rfl, .inl ⟨⟨_, hP⟩, fun D nD => ?_⟩⟩
  have hDp : p ≠ D := ne_of_none (upd_same (H := H) (o := .lst (ns.map V.int))) nD
  refine ⟨fun i m H3 => H3 = upd (upd H p (.lst (ns.map V.int))) D (.lst ((ns.take i).map V.int)) ∧ i + m = ns.length, ⟨ns.length, rfl, Nat.zero_add _⟩, fun i m H3 hW => ?_⟩
  obtain ⟨rfl, em⟩ := hW
  have hA : ∀ o, SqL c.K (upd (upd H p (.lst (ns.map V.int))) D o) p (ns.map V.int) := fun o => .inl (.inl (by rw [upd_ne hDp]; exact upd_same))
  by_cases hi : i < ns.length
  · have gg : (ns.map V.int)[i]? = some (.int ns[i]) := by
      rw [List.getElem?_map, List.getElem?_eq_getElem hi]; rfl
    refine .inr ⟨⟨_, _, hA _, gg⟩, fun H' => H' = upd (upd H p (.lst (ns.map V.int))) D (.lst ((ns.take (i + 1)).map V.int)), fun H' e => ⟨m - 1, by omega, e, by omega⟩, fun x H' hy => ?_⟩
    obtain ⟨rfl, fv⟩ := hy
    have ev : x = .int ns[i] := Option.some.inj ((fv _ (hA _)).symm.trans gg)
    subst ev
    refine ⟨rfl, ?_⟩
    unfold tYes
    dsimp only
    rw [if_pos rfl]
    refine ⟨_, rfl, .inl (.inl ⟨ns[i], rfl, ?_⟩)⟩
    refine ⟨_, upd_same, by rw [List.length_map, List.length_take]; show _ < 2 ^ 24; omega, ?_⟩
    have e1 : (ns.take i).map V.int ++ [V.int ns[i]] = (ns.take (i + 1)).map V.int := by
      rw [List.take_succ, List.getElem?_eq_getElem hi, List.map_append]; rfl
    rw [e1]
    funext b
    by_cases hb : b = D
    · subst hb; rw [upd_same, upd_same]
    · rw [upd_ne hb, upd_ne hb, upd_ne hb]
  · refine .inl ⟨⟨_, hA _, by rw [List.length_map]; omega⟩, ?_⟩
    have ei : ns.take i = ns := List.take_of_length_le (by omega)
    rw [ei]
    have hD : SqL c.K (upd (upd H p (.lst (ns.map V.int))) D (.lst (ns.map V.int))) D (ns.map V.int) := .inl (.inl upd_same)
    refine ⟨.ref D, rfl, .ref D, rfl, D, ns, rfl, hD, .inl (.inl ⟨ns.sum, rfl, ?_⟩)⟩
    refine ⟨ns.sum, 1000003, rfl, rfl, (by show (0 : Int) < 1000003; decide), .inl ⟨1, _, rfl, rfl, ?_⟩⟩
    refine ⟨Nat.le_of_ble_eq_true rfl, fun s0 h0 => ?_⟩
    have hne : D ≠ s0 := ne_of_none upd_same h0
    exact q _ s0 D ⟨upd_same, by rw [upd_ne hne]; exact upd_same, hne⟩

end
end G

namespace G
open PySem PySem.Spec L2 Mir
open PyProof.Rows hiding St
section
variable {Pg : Program} {w : World} {mg : Str → Option Value} {base : Heap} {c : Cn}
def spLaw (K : PySem.W.Frag) : Sp := fun vs H Q _ => ∃ (a : Addr) (ns : List Int), vs = [.ref a] ∧ SqL K H a (ns.map V.int) ∧ ns.length ≤ 63 ∧ ∀ H', Q (.bl true) H'
theorem env_law {i : Nat} {p : P} {m : Md} (e : (none :: some (P.src, Md.par) :: List.replicate 15 none : Mir.Env)[i]? = some (some (p, m))) : i = 1 ∧ p = .src ∧ m = .par := by
  rcases i with _ | _ | i
  · cases e
  · injection e with e; injection e with e; injection e with e1 e2
    exact ⟨rfl, e1.symm, e2.symm⟩
  · have e : (List.replicate 15 (none : Option (P × Md)))[i]? = some (some (p, m)) := e
    rw [List.getElem?_replicate] at e
    split at e <;> cases e
theorem ok_lawE {f : Addr} {fd : FuncData} (F : L2.Fun c.K "law" "law" s_law f fd) (T : Bn mg) {fS : Addr} {fdS : FuncData} (FS : FnOk Pg w c.K mg base (L2.CX Pg w) 1 fS fdS ["script"] (spSource c.K)) (gS : mg "_law_source" = some (.ref fS)) (kS : PySem.W.keepIn c.K (.ref fS) = true) (bS : Binds c.K fdS ["script"] []) (C__law_machine : Cl c Pg w c.K mg base "_law_machine" 1 f__law_machine 7) (C__law_least_prices : Cl c Pg w c.K mg base "_law_least_prices" 1 f__law_least_prices 2) (C__law_rows : Cl c Pg w c.K mg base "_law_rows" 3 f__law_rows 4) (C__law_live : Cl c Pg w c.K mg base "_law_live" 1 f__law_live 1) (C__law_draw : Cl c Pg w c.K mg base "_law_draw" 2 f__law_draw 2) (C__law_same : Cl c Pg w c.K mg base "_law_same" 2 f__law_same 1) (C__law_right : Cl c Pg w c.K mg base "_law_right" 4 f__law_right 5) (C_bounds_take : Cl c Pg w c.K mg base "bounds_take" 4 f_bounds_take 5) (C__law_bent : Cl c Pg w c.K mg base "_law_bent" 4 f__law_bent 4) (C__law_some : Cl c Pg w c.K mg base "_law_some" 2 f__law_some 3) (C__law_words : Cl c Pg w c.K mg base "_law_words" 3 f__law_words 1) (C__law_harm_due : Cl c Pg w c.K mg base "_law_harm_due" 5 f__law_harm_due 3) (C_bounds_harm : Cl c Pg w c.K mg base "bounds_harm" 5 f_bounds_harm 4) : FnOk Pg w c.K mg base (L2.CX Pg w) 8 f fd ["script"] (spLaw c.K) := by
  refine F.okX sc_law (fun vs H Q E h => by obtain ⟨a, ns, rfl, _⟩ := h; rfl) fun cdv A outer s H vs Q E hr h => ?_
  obtain ⟨a, ns, rfl, hS, hlen, q⟩ := h
  have nd : (["script", "source", "machine", "least", "rows", "live", "deads", "state", "lower", "exact", "loose", "price_v", "turn", "paper", "words", "row", "word"] : List Str).Nodup := sc_law.nd
  have tk : Takes (cxOf (L2.CX Pg w) Pg w c.K mg base ["script", "source", "machine", "least", "rows", "live", "deads", "state", "lower", "exact", "loose", "price_v", "turn", "paper", "words", "row", "word"] "law" (defScope s_law) f cdv A outer s H E) (fun cls d _ H => E cls d H) := takes_of rfl rfl rfl rfl
  obtain ⟨t, hs⟩ := rest_law (c := c) (Pg := Pg) (w := w) (mg := mg) (base := base) (f := f) (cdv := cdv) (A := A) (outer := outer) (s := s) (H := H) (E := E) hr T C__law_machine C__law_least_prices C__law_rows C__law_live C__law_draw C__law_same C__law_right C_bounds_take C__law_bent C__law_some C__law_words C__law_harm_due C_bounds_harm
  refine ⟨_, pss_cons (ps_set (i := 1) nd rfl (.inl rfl) (pe_callS FS (hr.mono (by decide)) rfl gS kS bS (fun σ => passAt tk σ) (pa_cons (pv 0) pa_nil))) hs.ps, ?_⟩
  refine ⟨.ref a, rfl, a, ns, rfl, hS, hlen, fun H' s0 c0 hsrc => ?_⟩
  have R : RelF c s0 c0 (fun _ => []) H' (src0 ns) [] ((L2.start ["script", "source", "machine", "least", "rows", "live", "deads", "state", "lower", "exact", "loose", "price_v", "turn", "paper", "words", "row", "word"] [.ref a]).set 1 (some (.ref s0))) H' (none :: some (P.src, Md.par) :: List.replicate 15 none) := by
    refine ⟨Fr.refl hsrc.lst, hsrc, ⟨_, hsrc.2.1⟩, rfl, fun i p m e => ?_, fun i p m e hm => absurd (env_law e).2.2 hm, fun i j p q m _ e _ => (nomatch (env_law e).2.2), fun x hx => by cases hx⟩
    obtain ⟨rfl, rfl, rfl⟩ := env_law e
    exact ⟨.ref s0, rfl, .src⟩
  refine hs.sm s0 c0 (fun _ => []) H' (src0 ns) [] _ H' _ _ R ?_
  obtain ⟨o, S', e, q2⟩ := law_main (S0 := src0 ns) ⟨Int.le_refl 0⟩
  have e : mR_law (none :: some (P.src, Md.par) :: List.replicate 15 none) (src0 ns) = .ok o S' := e
  rw [e]
  cases o with
  | rt p =>
    have q2 : p = .bl true := q2
    subst q2
    intro v H2 G f1 sa x _ _
    cases x
    exact q H2
  | nx ρ' =>
    have q2 : P.non = .bl true := q2
    cases q2
  | bk _ => exact q2.elim
  | ct _ => exact q2.elim
  | ex _ _ _ => exact q2.elim
end
theorem all_mk {l : PySem.W.OpenLaw} {w : World} {K : PySem.W.Frag} {h : Heap} {mg : Str → Option Value} {fa f1 f2 f3 f4 f5 f6 f7 f8 f9 f10 f11 f12 f13 f14 f15 f16 f17 f18 f19 f20 f21 f22 f23 f24 f25 f26 f27 f28 f29 f30 f31 f32 f33 f34 f35 f36 f37 f38 f39 : Addr} (X : K.In h) (G : h.Ns mainGlobals mg) (hfa : mg "law" = some (.ref fa))
    {od1 an1 od2 an2 od3 an3 od4 an4 od5 an5 od6 an6 od7 an7 od8 an8 od9 an9 od10 an10 od11 an11 od12 an12 od13 an13 od14 an14 od15 an15 od16 an16 od17 an17 od18 an18 od19 an19 od20 an20 od21 an21 od22 an22 od23 an23 od24 an24 od25 an25 od26 an26 od27 an27 od28 an28 od29 an29 od30 an30 od31 an31 od32 an32 od33 an33 od34 an34 od35 an35 od36 an36 od37 an37 od38 an38 od39 an39 : Option Addr} {sl1 sl2 sl3 sl4 sl5 sl6 sl7 sl8 sl9 sl10 sl11 sl12 sl13 sl14 sl15 sl16 sl17 sl18 sl19 sl20 sl21 sl22 sl23 sl24 sl25 sl26 sl27 sl28 sl29 sl30 sl31 sl32 sl33 sl34 sl35 sl36 sl37 sl38 sl39 : Array (Option Value)} {oc1 kV1 dc1 pm1 cd1 ct1 oc2 kV2 dc2 pm2 cd2 ct2 oc3 kV3 dc3 pm3 cd3 ct3 oc4 kV4 dc4 pm4 cd4 ct4 oc5 kV5 dc5 pm5 cd5 ct5 oc6 kV6 dc6 pm6 cd6 ct6 oc7 kV7 dc7 pm7 cd7 ct7 oc8 kV8 dc8 pm8 cd8 ct8 oc9 kV9 dc9 pm9 cd9 ct9 oc10 kV10 dc10 pm10 cd10 ct10 oc11 kV11 dc11 pm11 cd11 ct11 oc12 kV12 dc12 pm12 cd12 ct12 oc13 kV13 dc13 pm13 cd13 ct13 oc14 kV14 dc14 pm14 cd14 ct14 oc15 kV15 dc15 pm15 cd15 ct15 oc16 kV16 dc16 pm16 cd16 ct16 oc17 kV17 dc17 pm17 cd17 ct17 oc18 kV18 dc18 pm18 cd18 ct18 oc19 kV19 dc19 pm19 cd19 ct19 oc20 kV20 dc20 pm20 cd20 ct20 oc21 kV21 dc21 pm21 cd21 ct21 oc22 kV22 dc22 pm22 cd22 ct22 oc23 kV23 dc23 pm23 cd23 ct23 oc24 kV24 dc24 pm24 cd24 ct24 oc25 kV25 dc25 pm25 cd25 ct25 oc26 kV26 dc26 pm26 cd26 ct26 oc27 kV27 dc27 pm27 cd27 ct27 oc28 kV28 dc28 pm28 cd28 ct28 oc29 kV29 dc29 pm29 cd29 ct29 oc30 kV30 dc30 pm30 cd30 ct30 oc31 kV31 dc31 pm31 cd31 ct31 oc32 kV32 dc32 pm32 cd32 ct32 oc33 kV33 dc33 pm33 cd33 ct33 oc34 kV34 dc34 pm34 cd34 ct34 oc35 kV35 dc35 pm35 cd35 ct35 oc36 kV36 dc36 pm36 cd36 ct36 oc37 kV37 dc37 pm37 cd37 ct37 oc38 kV38 dc38 pm38 cd38 ct38 oc39 kV39 dc39 pm39 cd39 ct39 : Value}
    (a1 : PySem.W.nsIn K mainGlobals "_law_source" = some (some (.ref f1))) (l1 : K.lookup f1 = some ⟨oc1, od1, .func (PySem.W.fnOf "_law_source" "_law_source" (defArgs s__law_source) (defBody s__law_source) (defScope s__law_source) .none kV1 dc1 pm1 an1 cd1 ct1), sl1⟩) (c1 : PySem.W.codeIn K cd1 "_law_source" = true) (k1 : PySem.W.keepIn K (.ref f1) = true)
    (a2 : PySem.W.nsIn K mainGlobals "walk" = some (some (.ref f2))) (l2 : K.lookup f2 = some ⟨oc2, od2, .func (PySem.W.fnOf "walk" "walk" (defArgs s_walk) (defBody s_walk) (defScope s_walk) .none kV2 dc2 pm2 an2 cd2 ct2), sl2⟩) (c2 : PySem.W.codeIn K cd2 "walk" = true) (k2 : PySem.W.keepIn K (.ref f2) = true)
    (a3 : PySem.W.nsIn K mainGlobals "price" = some (some (.ref f3))) (l3 : K.lookup f3 = some ⟨oc3, od3, .func (PySem.W.fnOf "price" "price" (defArgs s_price) (defBody s_price) (defScope s_price) .none kV3 dc3 pm3 an3 cd3 ct3), sl3⟩) (c3 : PySem.W.codeIn K cd3 "price" = true) (k3 : PySem.W.keepIn K (.ref f3) = true)
    (a4 : PySem.W.nsIn K mainGlobals "good_word" = some (some (.ref f4))) (l4 : K.lookup f4 = some ⟨oc4, od4, .func (PySem.W.fnOf "good_word" "good_word" (defArgs s_good_word) (defBody s_good_word) (defScope s_good_word) .none kV4 dc4 pm4 an4 cd4 ct4), sl4⟩) (c4 : PySem.W.codeIn K cd4 "good_word" = true) (k4 : PySem.W.keepIn K (.ref f4) = true)
    (a5 : PySem.W.nsIn K mainGlobals "is_state" = some (some (.ref f5))) (l5 : K.lookup f5 = some ⟨oc5, od5, .func (PySem.W.fnOf "is_state" "is_state" (defArgs s_is_state) (defBody s_is_state) (defScope s_is_state) .none kV5 dc5 pm5 an5 cd5 ct5), sl5⟩) (c5 : PySem.W.codeIn K cd5 "is_state" = true) (k5 : PySem.W.keepIn K (.ref f5) = true)
    (a6 : PySem.W.nsIn K mainGlobals "deads_close" = some (some (.ref f6))) (l6 : K.lookup f6 = some ⟨oc6, od6, .func (PySem.W.fnOf "deads_close" "deads_close" (defArgs s_deads_close) (defBody s_deads_close) (defScope s_deads_close) .none kV6 dc6 pm6 an6 cd6 ct6), sl6⟩) (c6 : PySem.W.codeIn K cd6 "deads_close" = true) (k6 : PySem.W.keepIn K (.ref f6) = true)
    (a7 : PySem.W.nsIn K mainGlobals "base_of" = some (some (.ref f7))) (l7 : K.lookup f7 = some ⟨oc7, od7, .func (PySem.W.fnOf "base_of" "base_of" (defArgs s_base_of) (defBody s_base_of) (defScope s_base_of) .none kV7 dc7 pm7 an7 cd7 ct7), sl7⟩) (c7 : PySem.W.codeIn K cd7 "base_of" = true) (k7 : PySem.W.keepIn K (.ref f7) = true)
    (a8 : PySem.W.nsIn K mainGlobals "mark_of" = some (some (.ref f8))) (l8 : K.lookup f8 = some ⟨oc8, od8, .func (PySem.W.fnOf "mark_of" "mark_of" (defArgs s_mark_of) (defBody s_mark_of) (defScope s_mark_of) .none kV8 dc8 pm8 an8 cd8 ct8), sl8⟩) (c8 : PySem.W.codeIn K cd8 "mark_of" = true) (k8 : PySem.W.keepIn K (.ref f8) = true)
    (a9 : PySem.W.nsIn K mainGlobals "fits_goes" = some (some (.ref f9))) (l9 : K.lookup f9 = some ⟨oc9, od9, .func (PySem.W.fnOf "fits_goes" "fits_goes" (defArgs s_fits_goes) (defBody s_fits_goes) (defScope s_fits_goes) .none kV9 dc9 pm9 an9 cd9 ct9), sl9⟩) (c9 : PySem.W.codeIn K cd9 "fits_goes" = true) (k9 : PySem.W.keepIn K (.ref f9) = true)
    (a10 : PySem.W.nsIn K mainGlobals "ahead_of" = some (some (.ref f10))) (l10 : K.lookup f10 = some ⟨oc10, od10, .func (PySem.W.fnOf "ahead_of" "ahead_of" (defArgs s_ahead_of) (defBody s_ahead_of) (defScope s_ahead_of) .none kV10 dc10 pm10 an10 cd10 ct10), sl10⟩) (c10 : PySem.W.codeIn K cd10 "ahead_of" = true) (k10 : PySem.W.keepIn K (.ref f10) = true)
    (a11 : PySem.W.nsIn K mainGlobals "floors_hold" = some (some (.ref f11))) (l11 : K.lookup f11 = some ⟨oc11, od11, .func (PySem.W.fnOf "floors_hold" "floors_hold" (defArgs s_floors_hold) (defBody s_floors_hold) (defScope s_floors_hold) .none kV11 dc11 pm11 an11 cd11 ct11), sl11⟩) (c11 : PySem.W.codeIn K cd11 "floors_hold" = true) (k11 : PySem.W.keepIn K (.ref f11) = true)
    (a12 : PySem.W.nsIn K mainGlobals "bounds_take" = some (some (.ref f12))) (l12 : K.lookup f12 = some ⟨oc12, od12, .func (PySem.W.fnOf "bounds_take" "bounds_take" (defArgs s_bounds_take) (defBody s_bounds_take) (defScope s_bounds_take) .none kV12 dc12 pm12 an12 cd12 ct12), sl12⟩) (c12 : PySem.W.codeIn K cd12 "bounds_take" = true) (k12 : PySem.W.keepIn K (.ref f12) = true)
    (a13 : PySem.W.nsIn K mainGlobals "bounds_harm" = some (some (.ref f13))) (l13 : K.lookup f13 = some ⟨oc13, od13, .func (PySem.W.fnOf "bounds_harm" "bounds_harm" (defArgs s_bounds_harm) (defBody s_bounds_harm) (defScope s_bounds_harm) .none kV13 dc13 pm13 an13 cd13 ct13), sl13⟩) (c13 : PySem.W.codeIn K cd13 "bounds_harm" = true) (k13 : PySem.W.keepIn K (.ref f13) = true)
    (a14 : PySem.W.nsIn K mainGlobals "_law_mixed" = some (some (.ref f14))) (l14 : K.lookup f14 = some ⟨oc14, od14, .func (PySem.W.fnOf "_law_mixed" "_law_mixed" (defArgs s__law_mixed) (defBody s__law_mixed) (defScope s__law_mixed) .none kV14 dc14 pm14 an14 cd14 ct14), sl14⟩) (c14 : PySem.W.codeIn K cd14 "_law_mixed" = true) (k14 : PySem.W.keepIn K (.ref f14) = true)
    (a15 : PySem.W.nsIn K mainGlobals "_law_draw" = some (some (.ref f15))) (l15 : K.lookup f15 = some ⟨oc15, od15, .func (PySem.W.fnOf "_law_draw" "_law_draw" (defArgs s__law_draw) (defBody s__law_draw) (defScope s__law_draw) .none kV15 dc15 pm15 an15 cd15 ct15), sl15⟩) (c15 : PySem.W.codeIn K cd15 "_law_draw" = true) (k15 : PySem.W.keepIn K (.ref f15) = true)
    (a16 : PySem.W.nsIn K mainGlobals "_law_some" = some (some (.ref f16))) (l16 : K.lookup f16 = some ⟨oc16, od16, .func (PySem.W.fnOf "_law_some" "_law_some" (defArgs s__law_some) (defBody s__law_some) (defScope s__law_some) .none kV16 dc16 pm16 an16 cd16 ct16), sl16⟩) (c16 : PySem.W.codeIn K cd16 "_law_some" = true) (k16 : PySem.W.keepIn K (.ref f16) = true)
    (a17 : PySem.W.nsIn K mainGlobals "_law_picks" = some (some (.ref f17))) (l17 : K.lookup f17 = some ⟨oc17, od17, .func (PySem.W.fnOf "_law_picks" "_law_picks" (defArgs s__law_picks) (defBody s__law_picks) (defScope s__law_picks) .none kV17 dc17 pm17 an17 cd17 ct17), sl17⟩) (c17 : PySem.W.codeIn K cd17 "_law_picks" = true) (k17 : PySem.W.keepIn K (.ref f17) = true)
    (a18 : PySem.W.nsIn K mainGlobals "_law_names" = some (some (.ref f18))) (l18 : K.lookup f18 = some ⟨oc18, od18, .func (PySem.W.fnOf "_law_names" "_law_names" (defArgs s__law_names) (defBody s__law_names) (defScope s__law_names) .none kV18 dc18 pm18 an18 cd18 ct18), sl18⟩) (c18 : PySem.W.codeIn K cd18 "_law_names" = true) (k18 : PySem.W.keepIn K (.ref f18) = true)
    (a19 : PySem.W.nsIn K mainGlobals "_law_fare" = some (some (.ref f19))) (l19 : K.lookup f19 = some ⟨oc19, od19, .func (PySem.W.fnOf "_law_fare" "_law_fare" (defArgs s__law_fare) (defBody s__law_fare) (defScope s__law_fare) .none kV19 dc19 pm19 an19 cd19 ct19), sl19⟩) (c19 : PySem.W.codeIn K cd19 "_law_fare" = true) (k19 : PySem.W.keepIn K (.ref f19) = true)
    (a20 : PySem.W.nsIn K mainGlobals "_law_machine_names" = some (some (.ref f20))) (l20 : K.lookup f20 = some ⟨oc20, od20, .func (PySem.W.fnOf "_law_machine_names" "_law_machine_names" (defArgs s__law_machine_names) (defBody s__law_machine_names) (defScope s__law_machine_names) .none kV20 dc20 pm20 an20 cd20 ct20), sl20⟩) (c20 : PySem.W.codeIn K cd20 "_law_machine_names" = true) (k20 : PySem.W.keepIn K (.ref f20) = true)
    (a21 : PySem.W.nsIn K mainGlobals "_law_machine_sized" = some (some (.ref f21))) (l21 : K.lookup f21 = some ⟨oc21, od21, .func (PySem.W.fnOf "_law_machine_sized" "_law_machine_sized" (defArgs s__law_machine_sized) (defBody s__law_machine_sized) (defScope s__law_machine_sized) .none kV21 dc21 pm21 an21 cd21 ct21), sl21⟩) (c21 : PySem.W.codeIn K cd21 "_law_machine_sized" = true) (k21 : PySem.W.keepIn K (.ref f21) = true)
    (a22 : PySem.W.nsIn K mainGlobals "_law_machine" = some (some (.ref f22))) (l22 : K.lookup f22 = some ⟨oc22, od22, .func (PySem.W.fnOf "_law_machine" "_law_machine" (defArgs s__law_machine) (defBody s__law_machine) (defScope s__law_machine) .none kV22 dc22 pm22 an22 cd22 ct22), sl22⟩) (c22 : PySem.W.codeIn K cd22 "_law_machine" = true) (k22 : PySem.W.keepIn K (.ref f22) = true)
    (a23 : PySem.W.nsIn K mainGlobals "_law_walk" = some (some (.ref f23))) (l23 : K.lookup f23 = some ⟨oc23, od23, .func (PySem.W.fnOf "_law_walk" "_law_walk" (defArgs s__law_walk) (defBody s__law_walk) (defScope s__law_walk) .none kV23 dc23 pm23 an23 cd23 ct23), sl23⟩) (c23 : PySem.W.codeIn K cd23 "_law_walk" = true) (k23 : PySem.W.keepIn K (.ref f23) = true)
    (a24 : PySem.W.nsIn K mainGlobals "_law_price" = some (some (.ref f24))) (l24 : K.lookup f24 = some ⟨oc24, od24, .func (PySem.W.fnOf "_law_price" "_law_price" (defArgs s__law_price) (defBody s__law_price) (defScope s__law_price) .none kV24 dc24 pm24 an24 cd24 ct24), sl24⟩) (c24 : PySem.W.codeIn K cd24 "_law_price" = true) (k24 : PySem.W.keepIn K (.ref f24) = true)
    (a25 : PySem.W.nsIn K mainGlobals "_law_words" = some (some (.ref f25))) (l25 : K.lookup f25 = some ⟨oc25, od25, .func (PySem.W.fnOf "_law_words" "_law_words" (defArgs s__law_words) (defBody s__law_words) (defScope s__law_words) .none kV25 dc25 pm25 an25 cd25 ct25), sl25⟩) (c25 : PySem.W.codeIn K cd25 "_law_words" = true) (k25 : PySem.W.keepIn K (.ref f25) = true)
    (a26 : PySem.W.nsIn K mainGlobals "_law_live" = some (some (.ref f26))) (l26 : K.lookup f26 = some ⟨oc26, od26, .func (PySem.W.fnOf "_law_live" "_law_live" (defArgs s__law_live) (defBody s__law_live) (defScope s__law_live) .none kV26 dc26 pm26 an26 cd26 ct26), sl26⟩) (c26 : PySem.W.codeIn K cd26 "_law_live" = true) (k26 : PySem.W.keepIn K (.ref f26) = true)
    (a27 : PySem.W.nsIn K mainGlobals "_law_base" = some (some (.ref f27))) (l27 : K.lookup f27 = some ⟨oc27, od27, .func (PySem.W.fnOf "_law_base" "_law_base" (defArgs s__law_base) (defBody s__law_base) (defScope s__law_base) .none kV27 dc27 pm27 an27 cd27 ct27), sl27⟩) (c27 : PySem.W.codeIn K cd27 "_law_base" = true) (k27 : PySem.W.keepIn K (.ref f27) = true)
    (a28 : PySem.W.nsIn K mainGlobals "_law_fits" = some (some (.ref f28))) (l28 : K.lookup f28 = some ⟨oc28, od28, .func (PySem.W.fnOf "_law_fits" "_law_fits" (defArgs s__law_fits) (defBody s__law_fits) (defScope s__law_fits) .none kV28 dc28 pm28 an28 cd28 ct28), sl28⟩) (c28 : PySem.W.codeIn K cd28 "_law_fits" = true) (k28 : PySem.W.keepIn K (.ref f28) = true)
    (a29 : PySem.W.nsIn K mainGlobals "_law_lesser" = some (some (.ref f29))) (l29 : K.lookup f29 = some ⟨oc29, od29, .func (PySem.W.fnOf "_law_lesser" "_law_lesser" (defArgs s__law_lesser) (defBody s__law_lesser) (defScope s__law_lesser) .none kV29 dc29 pm29 an29 cd29 ct29), sl29⟩) (c29 : PySem.W.codeIn K cd29 "_law_lesser" = true) (k29 : PySem.W.keepIn K (.ref f29) = true)
    (a30 : PySem.W.nsIn K mainGlobals "_law_same" = some (some (.ref f30))) (l30 : K.lookup f30 = some ⟨oc30, od30, .func (PySem.W.fnOf "_law_same" "_law_same" (defArgs s__law_same) (defBody s__law_same) (defScope s__law_same) .none kV30 dc30 pm30 an30 cd30 ct30), sl30⟩) (c30 : PySem.W.codeIn K cd30 "_law_same" = true) (k30 : PySem.W.keepIn K (.ref f30) = true)
    (a31 : PySem.W.nsIn K mainGlobals "_law_least_prices" = some (some (.ref f31))) (l31 : K.lookup f31 = some ⟨oc31, od31, .func (PySem.W.fnOf "_law_least_prices" "_law_least_prices" (defArgs s__law_least_prices) (defBody s__law_least_prices) (defScope s__law_least_prices) .none kV31 dc31 pm31 an31 cd31 ct31), sl31⟩) (c31 : PySem.W.codeIn K cd31 "_law_least_prices" = true) (k31 : PySem.W.keepIn K (.ref f31) = true)
    (a32 : PySem.W.nsIn K mainGlobals "_law_rows" = some (some (.ref f32))) (l32 : K.lookup f32 = some ⟨oc32, od32, .func (PySem.W.fnOf "_law_rows" "_law_rows" (defArgs s__law_rows) (defBody s__law_rows) (defScope s__law_rows) .none kV32 dc32 pm32 an32 cd32 ct32), sl32⟩) (c32 : PySem.W.codeIn K cd32 "_law_rows" = true) (k32 : PySem.W.keepIn K (.ref f32) = true)
    (a33 : PySem.W.nsIn K mainGlobals "_law_bound" = some (some (.ref f33))) (l33 : K.lookup f33 = some ⟨oc33, od33, .func (PySem.W.fnOf "_law_bound" "_law_bound" (defArgs s__law_bound) (defBody s__law_bound) (defScope s__law_bound) .none kV33 dc33 pm33 an33 cd33 ct33), sl33⟩) (c33 : PySem.W.codeIn K cd33 "_law_bound" = true) (k33 : PySem.W.keepIn K (.ref f33) = true)
    (a34 : PySem.W.nsIn K mainGlobals "_law_deads_right" = some (some (.ref f34))) (l34 : K.lookup f34 = some ⟨oc34, od34, .func (PySem.W.fnOf "_law_deads_right" "_law_deads_right" (defArgs s__law_deads_right) (defBody s__law_deads_right) (defScope s__law_deads_right) .none kV34 dc34 pm34 an34 cd34 ct34), sl34⟩) (c34 : PySem.W.codeIn K cd34 "_law_deads_right" = true) (k34 : PySem.W.keepIn K (.ref f34) = true)
    (a35 : PySem.W.nsIn K mainGlobals "_law_state_right" = some (some (.ref f35))) (l35 : K.lookup f35 = some ⟨oc35, od35, .func (PySem.W.fnOf "_law_state_right" "_law_state_right" (defArgs s__law_state_right) (defBody s__law_state_right) (defScope s__law_state_right) .none kV35 dc35 pm35 an35 cd35 ct35), sl35⟩) (c35 : PySem.W.codeIn K cd35 "_law_state_right" = true) (k35 : PySem.W.keepIn K (.ref f35) = true)
    (a36 : PySem.W.nsIn K mainGlobals "_law_right" = some (some (.ref f36))) (l36 : K.lookup f36 = some ⟨oc36, od36, .func (PySem.W.fnOf "_law_right" "_law_right" (defArgs s__law_right) (defBody s__law_right) (defScope s__law_right) .none kV36 dc36 pm36 an36 cd36 ct36), sl36⟩) (c36 : PySem.W.codeIn K cd36 "_law_right" = true) (k36 : PySem.W.keepIn K (.ref f36) = true)
    (a37 : PySem.W.nsIn K mainGlobals "_law_bent" = some (some (.ref f37))) (l37 : K.lookup f37 = some ⟨oc37, od37, .func (PySem.W.fnOf "_law_bent" "_law_bent" (defArgs s__law_bent) (defBody s__law_bent) (defScope s__law_bent) .none kV37 dc37 pm37 an37 cd37 ct37), sl37⟩) (c37 : PySem.W.codeIn K cd37 "_law_bent" = true) (k37 : PySem.W.keepIn K (.ref f37) = true)
    (a38 : PySem.W.nsIn K mainGlobals "_law_harm_due" = some (some (.ref f38))) (l38 : K.lookup f38 = some ⟨oc38, od38, .func (PySem.W.fnOf "_law_harm_due" "_law_harm_due" (defArgs s__law_harm_due) (defBody s__law_harm_due) (defScope s__law_harm_due) .none kV38 dc38 pm38 an38 cd38 ct38), sl38⟩) (c38 : PySem.W.codeIn K cd38 "_law_harm_due" = true) (k38 : PySem.W.keepIn K (.ref f38) = true)
    (a39 : PySem.W.nsIn K mainGlobals "law" = some (some (.ref f39))) (l39 : K.lookup f39 = some ⟨oc39, od39, .func (PySem.W.fnOf "law" "law" (defArgs s_law) (defBody s_law) (defScope s_law) .none kV39 dc39 pm39 an39 cd39 ct39), sl39⟩) (c39 : PySem.W.codeIn K cd39 "law" = true) (k39 : PySem.W.keepIn K (.ref f39) = true)
    (z0 : PySem.W.nsIn K mainGlobals "len" = some none) (z1 : PySem.W.nsIn K mainGlobals "range" = some none) (z2 : PySem.W.nsIn K mainGlobals "int" = some none) (z3 : PySem.W.nsIn K mainGlobals "bool" = some none) (z4 : PySem.W.nsIn K mainGlobals "str" = some none) (z5 : PySem.W.nsIn K mainGlobals "min" = some none) (z6 : PySem.W.nsIn K mainGlobals "max" = some none) (z7 : PySem.W.nsIn K mainGlobals "sum" = some none) (z8 : PySem.W.nsIn K mainGlobals "tuple" = some none) (z9 : PySem.W.nsIn K mainGlobals "list" = some none) (z10 : PySem.W.nsIn K mainGlobals "isinstance" = some none)
    : ∃ fd : FuncData, (∀ (s : Shared) (v : Value), BindsTo s fd ⟨[v], []⟩ [("script", v)]) ∧ ∀ base : Heap, K.In base → base.Ns mainGlobals mg → FnOk l.prog w K mg base (L2.CX l.prog w) 8 fa fd ["script"] (spLaw K) := by
  have e := hfa.symm.trans (PySem.W.mg_of X G a39)
  cases e
  have F1 := fun_mk (st := s__law_source) l1 c1 k1
  have b1 := F1.binds (ps := ["script"]) fun _ _ _ _ _ _ us hl => match us, hl with | [_], _ => rfl
  have F2 := fun_mk (st := s_walk) l2 c2 k2
  have b2 := F2.binds (ps := ["machine", "state", "word"]) fun _ _ _ _ _ _ us hl => match us, hl with | [_, _, _], _ => rfl
  have F3 := fun_mk (st := s_price) l3 c3 k3
  have b3 := F3.binds (ps := ["machine", "state", "word"]) fun _ _ _ _ _ _ us hl => match us, hl with | [_, _, _], _ => rfl
  have F4 := fun_mk (st := s_good_word) l4 c4 k4
  have b4 := F4.binds (ps := ["machine", "word"]) fun _ _ _ _ _ _ us hl => match us, hl with | [_, _], _ => rfl
  have F5 := fun_mk (st := s_is_state) l5 c5 k5
  have b5 := F5.binds (ps := ["machine", "state"]) fun _ _ _ _ _ _ us hl => match us, hl with | [_, _], _ => rfl
  have F6 := fun_mk (st := s_deads_close) l6 c6 k6
  have b6 := F6.binds (ps := ["machine", "deads"]) fun _ _ _ _ _ _ us hl => match us, hl with | [_, _], _ => rfl
  have F7 := fun_mk (st := s_base_of) l7 c7 k7
  have b7 := F7.binds (ps := ["name"]) fun _ _ _ _ _ _ us hl => match us, hl with | [_], _ => rfl
  have F8 := fun_mk (st := s_mark_of) l8 c8 k8
  have b8 := F8.binds (ps := ["name"]) fun _ _ _ _ _ _ us hl => match us, hl with | [_], _ => rfl
  have F9 := fun_mk (st := s_fits_goes) l9 c9 k9
  have b9 := F9.binds (ps := ["pattern", "name"]) fun _ _ _ _ _ _ us hl => match us, hl with | [_, _], _ => rfl
  have F10 := fun_mk (st := s_ahead_of) l10 c10 k10
  have b10 := F10.binds (ps := ["machine", "bounds"]) fun _ _ _ _ _ _ us hl => match us, hl with | [_, _], _ => rfl
  have F11 := fun_mk (st := s_floors_hold) l11 c11 k11
  have b11 := F11.binds (ps := ["machine", "deads", "floors"]) fun _ _ _ _ _ _ us hl => match us, hl with | [_, _, _], _ => rfl
  have F12 := fun_mk (st := s_bounds_take) l12 c12 k12
  have b12 := F12.binds (ps := ["machine", "bounds", "deads", "floors"]) fun _ _ _ _ _ _ us hl => match us, hl with | [_, _, _, _], _ => rfl
  have F13 := fun_mk (st := s_bounds_harm) l13 c13 k13
  have b13 := F13.binds (ps := ["machine", "bounds", "row", "state", "word"]) fun _ _ _ _ _ _ us hl => match us, hl with | [_, _, _, _, _], _ => rfl
  have F14 := fun_mk (st := s__law_mixed) l14 c14 k14
  have b14 := F14.binds (ps := ["source", "many"]) fun _ _ _ _ _ _ us hl => match us, hl with | [_, _], _ => rfl
  have F15 := fun_mk (st := s__law_draw) l15 c15 k15
  have b15 := F15.binds (ps := ["source", "many"]) fun _ _ _ _ _ _ us hl => match us, hl with | [_, _], _ => rfl
  have F16 := fun_mk (st := s__law_some) l16 c16 k16
  have b16 := F16.binds (ps := ["source", "things"]) fun _ _ _ _ _ _ us hl => match us, hl with | [_, _], _ => rfl
  have F17 := fun_mk (st := s__law_picks) l17 c17 k17
  have b17 := F17.binds (ps := ["source", "pool", "many"]) fun _ _ _ _ _ _ us hl => match us, hl with | [_, _, _], _ => rfl
  have F18 := fun_mk (st := s__law_names) l18 c18 k18
  have b18 := F18.binds (ps := ["source", "many"]) fun _ _ _ _ _ _ us hl => match us, hl with | [_, _], _ => rfl
  have F19 := fun_mk (st := s__law_fare) l19 c19 k19
  have b19 := F19.binds (ps := ["source"]) fun _ _ _ _ _ _ us hl => match us, hl with | [_], _ => rfl
  have F20 := fun_mk (st := s__law_machine_names) l20 c20 k20
  have b20 := F20.binds (ps := ["source", "many"]) fun _ _ _ _ _ _ us hl => match us, hl with | [_, _], _ => rfl
  have F21 := fun_mk (st := s__law_machine_sized) l21 c21 k21
  have b21 := F21.binds (ps := ["source", "many", "kinds"]) fun _ _ _ _ _ _ us hl => match us, hl with | [_, _, _], _ => rfl
  have F22 := fun_mk (st := s__law_machine) l22 c22 k22
  have b22 := F22.binds (ps := ["source"]) fun _ _ _ _ _ _ us hl => match us, hl with | [_], _ => rfl
  have F23 := fun_mk (st := s__law_walk) l23 c23 k23
  have b23 := F23.binds (ps := ["machine", "state", "word"]) fun _ _ _ _ _ _ us hl => match us, hl with | [_, _, _], _ => rfl
  have F24 := fun_mk (st := s__law_price) l24 c24 k24
  have b24 := F24.binds (ps := ["machine", "state", "word"]) fun _ _ _ _ _ _ us hl => match us, hl with | [_, _, _], _ => rfl
  have F25 := fun_mk (st := s__law_words) l25 c25 k25
  have b25 := F25.binds (ps := ["kinds", "letters", "most"]) fun _ _ _ _ _ _ us hl => match us, hl with | [_, _, _], _ => rfl
  have F26 := fun_mk (st := s__law_live) l26 c26 k26
  have b26 := F26.binds (ps := ["machine"]) fun _ _ _ _ _ _ us hl => match us, hl with | [_], _ => rfl
  have F27 := fun_mk (st := s__law_base) l27 c27 k27
  have b27 := F27.binds (ps := ["name"]) fun _ _ _ _ _ _ us hl => match us, hl with | [_], _ => rfl
  have F28 := fun_mk (st := s__law_fits) l28 c28 k28
  have b28 := F28.binds (ps := ["pattern", "name"]) fun _ _ _ _ _ _ us hl => match us, hl with | [_, _], _ => rfl
  have F29 := fun_mk (st := s__law_lesser) l29 c29 k29
  have b29 := F29.binds (ps := ["one", "other"]) fun _ _ _ _ _ _ us hl => match us, hl with | [_, _], _ => rfl
  have F30 := fun_mk (st := s__law_same) l30 c30 k30
  have b30 := F30.binds (ps := ["told", "due"]) fun _ _ _ _ _ _ us hl => match us, hl with | [_, _], _ => rfl
  have F31 := fun_mk (st := s__law_least_prices) l31 c31 k31
  have b31 := F31.binds (ps := ["machine"]) fun _ _ _ _ _ _ us hl => match us, hl with | [_], _ => rfl
  have F32 := fun_mk (st := s__law_rows) l32 c32 k32
  have b32 := F32.binds (ps := ["source", "machine", "least"]) fun _ _ _ _ _ _ us hl => match us, hl with | [_, _, _], _ => rfl
  have F33 := fun_mk (st := s__law_bound) l33 c33 k33
  have b33 := F33.binds (ps := ["machine", "rows", "state"]) fun _ _ _ _ _ _ us hl => match us, hl with | [_, _, _], _ => rfl
  have F34 := fun_mk (st := s__law_deads_right) l34 c34 k34
  have b34 := F34.binds (ps := ["machine", "deads"]) fun _ _ _ _ _ _ us hl => match us, hl with | [_, _], _ => rfl
  have F35 := fun_mk (st := s__law_state_right) l35 c35 k35
  have b35 := F35.binds (ps := ["machine", "rows", "deads", "floors", "state"]) fun _ _ _ _ _ _ us hl => match us, hl with | [_, _, _, _, _], _ => rfl
  have F36 := fun_mk (st := s__law_right) l36 c36 k36
  have b36 := F36.binds (ps := ["machine", "rows", "deads", "floors"]) fun _ _ _ _ _ _ us hl => match us, hl with | [_, _, _, _], _ => rfl
  have F37 := fun_mk (st := s__law_bent) l37 c37 k37
  have b37 := F37.binds (ps := ["source", "machine", "deads", "floors"]) fun _ _ _ _ _ _ us hl => match us, hl with | [_, _, _, _], _ => rfl
  have F38 := fun_mk (st := s__law_harm_due) l38 c38 k38
  have b38 := F38.binds (ps := ["machine", "rows", "row", "state", "word"]) fun _ _ _ _ _ _ us hl => match us, hl with | [_, _, _, _, _], _ => rfl
  have F39 := fun_mk (st := s_law) l39 c39 k39
  have T : Bn mg := ⟨PySem.W.mg_none_of X G z0, PySem.W.mg_none_of X G z1, PySem.W.mg_none_of X G z2, PySem.W.mg_none_of X G z3, PySem.W.mg_none_of X G z4, PySem.W.mg_none_of X G z5, PySem.W.mg_none_of X G z6, PySem.W.mg_none_of X G z7, PySem.W.mg_none_of X G z8, PySem.W.mg_none_of X G z9, PySem.W.mg_none_of X G z10⟩
  refine ⟨PySem.W.fnOf "law" "law" (defArgs s_law) (defBody s_law) (defScope s_law) .none kV39 dc39 pm39 an39 cd39 ct39, fun s v => .of_eq rfl, fun base _ _ => ?_⟩
  let c : Cn := ⟨K, fun _ _ _ _ _ => False⟩
  have FS := ok_source (Pg := l.prog) (w := w) (mg := mg) (base := base) (c := c) F1 T
  have C_walk := ok_walk (Pg := l.prog) (w := w) (mg := mg) (base := base) (c := c) F2 (PySem.W.mg_of X G a2) b2 T 
  have C_good_word := ok_good_word (Pg := l.prog) (w := w) (mg := mg) (base := base) (c := c) F4 (PySem.W.mg_of X G a4) b4 T 
  have C_is_state := ok_is_state (Pg := l.prog) (w := w) (mg := mg) (base := base) (c := c) F5 (PySem.W.mg_of X G a5) b5 T 
  have C_base_of := ok_base_of (Pg := l.prog) (w := w) (mg := mg) (base := base) (c := c) F7 (PySem.W.mg_of X G a7) b7 T 
  have C_floors_hold := ok_floors_hold (Pg := l.prog) (w := w) (mg := mg) (base := base) (c := c) F11 (PySem.W.mg_of X G a11) b11 T 
  have C__law_mixed := ok__law_mixed (Pg := l.prog) (w := w) (mg := mg) (base := base) (c := c) F14 (PySem.W.mg_of X G a14) b14 T 
  have C__law_walk := ok__law_walk (Pg := l.prog) (w := w) (mg := mg) (base := base) (c := c) F23 (PySem.W.mg_of X G a23) b23 T 
  have C__law_words := ok__law_words (Pg := l.prog) (w := w) (mg := mg) (base := base) (c := c) F25 (PySem.W.mg_of X G a25) b25 T 
  have C__law_live := ok__law_live (Pg := l.prog) (w := w) (mg := mg) (base := base) (c := c) F26 (PySem.W.mg_of X G a26) b26 T 
  have C__law_base := ok__law_base (Pg := l.prog) (w := w) (mg := mg) (base := base) (c := c) F27 (PySem.W.mg_of X G a27) b27 T 
  have C__law_lesser := ok__law_lesser (Pg := l.prog) (w := w) (mg := mg) (base := base) (c := c) F29 (PySem.W.mg_of X G a29) b29 T 
  have C__law_same := ok__law_same (Pg := l.prog) (w := w) (mg := mg) (base := base) (c := c) F30 (PySem.W.mg_of X G a30) b30 T 
  have C__law_deads_right := ok__law_deads_right (Pg := l.prog) (w := w) (mg := mg) (base := base) (c := c) F34 (PySem.W.mg_of X G a34) b34 T 
  have C_price := ok_price (Pg := l.prog) (w := w) (mg := mg) (base := base) (c := c) F3 (PySem.W.mg_of X G a3) b3 T C_walk
  have C_deads_close := ok_deads_close (Pg := l.prog) (w := w) (mg := mg) (base := base) (c := c) F6 (PySem.W.mg_of X G a6) b6 T C_is_state
  have C_mark_of := ok_mark_of (Pg := l.prog) (w := w) (mg := mg) (base := base) (c := c) F8 (PySem.W.mg_of X G a8) b8 T C_base_of
  have C__law_draw := ok__law_draw (Pg := l.prog) (w := w) (mg := mg) (base := base) (c := c) F15 (PySem.W.mg_of X G a15) b15 T C__law_mixed
  have C__law_price := ok__law_price (Pg := l.prog) (w := w) (mg := mg) (base := base) (c := c) F24 (PySem.W.mg_of X G a24) b24 T C__law_walk
  have C__law_fits := ok__law_fits (Pg := l.prog) (w := w) (mg := mg) (base := base) (c := c) F28 (PySem.W.mg_of X G a28) b28 T C__law_base
  have C__law_least_prices := ok__law_least_prices (Pg := l.prog) (w := w) (mg := mg) (base := base) (c := c) F31 (PySem.W.mg_of X G a31) b31 T C__law_lesser
  have C_fits_goes := ok_fits_goes (Pg := l.prog) (w := w) (mg := mg) (base := base) (c := c) F9 (PySem.W.mg_of X G a9) b9 T C_base_of C_mark_of
  have C__law_some := ok__law_some (Pg := l.prog) (w := w) (mg := mg) (base := base) (c := c) F16 (PySem.W.mg_of X G a16) b16 T C__law_draw
  have C__law_picks := ok__law_picks (Pg := l.prog) (w := w) (mg := mg) (base := base) (c := c) F17 (PySem.W.mg_of X G a17) b17 T C__law_draw
  have C__law_bound := ok__law_bound (Pg := l.prog) (w := w) (mg := mg) (base := base) (c := c) F33 (PySem.W.mg_of X G a33) b33 T C__law_fits
  have C__law_harm_due := ok__law_harm_due (Pg := l.prog) (w := w) (mg := mg) (base := base) (c := c) F38 (PySem.W.mg_of X G a38) b38 T C__law_fits C__law_price
  have C_ahead_of := ok_ahead_of (Pg := l.prog) (w := w) (mg := mg) (base := base) (c := c) F10 (PySem.W.mg_of X G a10) b10 T C_fits_goes
  have C_bounds_harm := ok_bounds_harm (Pg := l.prog) (w := w) (mg := mg) (base := base) (c := c) F13 (PySem.W.mg_of X G a13) b13 T C_good_word C_is_state C_price C_fits_goes
  have C__law_names := ok__law_names (Pg := l.prog) (w := w) (mg := mg) (base := base) (c := c) F18 (PySem.W.mg_of X G a18) b18 T C__law_picks
  have C__law_fare := ok__law_fare (Pg := l.prog) (w := w) (mg := mg) (base := base) (c := c) F19 (PySem.W.mg_of X G a19) b19 T C__law_some
  have C__law_rows := ok__law_rows (Pg := l.prog) (w := w) (mg := mg) (base := base) (c := c) F32 (PySem.W.mg_of X G a32) b32 T C__law_some C__law_draw C__law_base
  have C__law_state_right := ok__law_state_right (Pg := l.prog) (w := w) (mg := mg) (base := base) (c := c) F35 (PySem.W.mg_of X G a35) b35 T C__law_bound
  have C__law_bent := ok__law_bent (Pg := l.prog) (w := w) (mg := mg) (base := base) (c := c) F37 (PySem.W.mg_of X G a37) b37 T C__law_draw C__law_some
  have C_bounds_take := ok_bounds_take (Pg := l.prog) (w := w) (mg := mg) (base := base) (c := c) F12 (PySem.W.mg_of X G a12) b12 T C_deads_close C_floors_hold C_ahead_of
  have C__law_machine_names := ok__law_machine_names (Pg := l.prog) (w := w) (mg := mg) (base := base) (c := c) F20 (PySem.W.mg_of X G a20) b20 T C__law_names C__law_draw
  have C__law_right := ok__law_right (Pg := l.prog) (w := w) (mg := mg) (base := base) (c := c) F36 (PySem.W.mg_of X G a36) b36 T C__law_deads_right C__law_state_right
  have C__law_machine_sized := ok__law_machine_sized (Pg := l.prog) (w := w) (mg := mg) (base := base) (c := c) F21 (PySem.W.mg_of X G a21) b21 T C__law_some C__law_fare C__law_draw C__law_machine_names C__law_names
  have C__law_machine := ok__law_machine (Pg := l.prog) (w := w) (mg := mg) (base := base) (c := c) F22 (PySem.W.mg_of X G a22) b22 T C__law_some C__law_machine_sized
  exact ok_lawE (Pg := l.prog) (w := w) (mg := mg) (base := base) (c := c) F39 T FS (PySem.W.mg_of X G a1) k1 b1 C__law_machine C__law_least_prices C__law_rows C__law_live C__law_draw C__law_same C__law_right C_bounds_take C__law_bent C__law_some C__law_words C__law_harm_due C_bounds_harm
theorem no_cx {P : Program} {w : World} {o : List PySem.Env} {H : Hp} {s : Shared} {u : Value} {s2 : Shared} (h : L2.CX P w o H s (fun _ _ _ => False) u s2) : False := by
  obtain ⟨_, _, _, _, _, _, _, _, _, _, _, _, h⟩ := h
  exact h
end G
open PySem PySem.W PyProof.Rows
set_option maxHeartbeats 0 in
theorem PySem.Challenge.cw_thrownslips_k95_bounds_small_judges_holds : PySem.Challenge.rw_thrownslips_k95_bounds_small_judges.Holds := by
  w_on; o_law; k_head; (case hw => w_witness2)
  k_fill
  refine L2.walk_of (l := PySem.Challenge.rw_thrownslips_k95_bounds_small_judges) (n := 63) (k := 8) (x := "script") (CX := fun w => L2.CX PySem.Challenge.rw_thrownslips_k95_bounds_small_judges.prog w) (sp := fun w => G.spLaw _) rfl (by decide) rfl ⟨rfl, by decide, by decide⟩ (fun w h Y => PySem.W.kIn_of Y) ?F (fun _ _ a ns hl _ hS => ⟨a, ns, rfl, hS, hl, fun _ => rfl⟩) (fun _ _ _ _ _ h => G.no_cx h)
  case F =>
    intro w mg fa h KX hN hmg
    refine' G.all_mk KX hN hmg ?a1 ?l1 ?c1 ?k1 ?a2 ?l2 ?c2 ?k2 ?a3 ?l3 ?c3 ?k3 ?a4 ?l4 ?c4 ?k4 ?a5 ?l5 ?c5 ?k5 ?a6 ?l6 ?c6 ?k6 ?a7 ?l7 ?c7 ?k7 ?a8 ?l8 ?c8 ?k8 ?a9 ?l9 ?c9 ?k9 ?a10 ?l10 ?c10 ?k10 ?a11 ?l11 ?c11 ?k11 ?a12 ?l12 ?c12 ?k12 ?a13 ?l13 ?c13 ?k13 ?a14 ?l14 ?c14 ?k14 ?a15 ?l15 ?c15 ?k15 ?a16 ?l16 ?c16 ?k16 ?a17 ?l17 ?c17 ?k17 ?a18 ?l18 ?c18 ?k18 ?a19 ?l19 ?c19 ?k19 ?a20 ?l20 ?c20 ?k20 ?a21 ?l21 ?c21 ?k21 ?a22 ?l22 ?c22 ?k22 ?a23 ?l23 ?c23 ?k23 ?a24 ?l24 ?c24 ?k24 ?a25 ?l25 ?c25 ?k25 ?a26 ?l26 ?c26 ?k26 ?a27 ?l27 ?c27 ?k27 ?a28 ?l28 ?c28 ?k28 ?a29 ?l29 ?c29 ?k29 ?a30 ?l30 ?c30 ?k30 ?a31 ?l31 ?c31 ?k31 ?a32 ?l32 ?c32 ?k32 ?a33 ?l33 ?c33 ?k33 ?a34 ?l34 ?c34 ?k34 ?a35 ?l35 ?c35 ?k35 ?a36 ?l36 ?c36 ?k36 ?a37 ?l37 ?c37 ?k37 ?a38 ?l38 ?c38 ?k38 ?a39 ?l39 ?c39 ?k39 ?z0 ?z1 ?z2 ?z3 ?z4 ?z5 ?z6 ?z7 ?z8 ?z9 ?z10
    (case a1 => k_is); (case l1 => k_is); (case c1 => k_is); (case k1 => k_is); (case a2 => k_is); (case l2 => k_is); (case c2 => k_is); (case k2 => k_is); (case a3 => k_is); (case l3 => k_is); (case c3 => k_is); (case k3 => k_is); (case a4 => k_is); (case l4 => k_is); (case c4 => k_is); (case k4 => k_is); (case a5 => k_is); (case l5 => k_is); (case c5 => k_is); (case k5 => k_is); (case a6 => k_is); (case l6 => k_is); (case c6 => k_is); (case k6 => k_is); (case a7 => k_is); (case l7 => k_is); (case c7 => k_is); (case k7 => k_is); (case a8 => k_is); (case l8 => k_is); (case c8 => k_is); (case k8 => k_is); (case a9 => k_is); (case l9 => k_is); (case c9 => k_is); (case k9 => k_is); (case a10 => k_is); (case l10 => k_is); (case c10 => k_is); (case k10 => k_is); (case a11 => k_is); (case l11 => k_is); (case c11 => k_is); (case k11 => k_is); (case a12 => k_is); (case l12 => k_is); (case c12 => k_is); (case k12 => k_is); (case a13 => k_is); (case l13 => k_is); (case c13 => k_is); (case k13 => k_is); (case a14 => k_is); (case l14 => k_is); (case c14 => k_is); (case k14 => k_is); (case a15 => k_is); (case l15 => k_is); (case c15 => k_is); (case k15 => k_is); (case a16 => k_is); (case l16 => k_is); (case c16 => k_is); (case k16 => k_is); (case a17 => k_is); (case l17 => k_is); (case c17 => k_is); (case k17 => k_is); (case a18 => k_is); (case l18 => k_is); (case c18 => k_is); (case k18 => k_is); (case a19 => k_is); (case l19 => k_is); (case c19 => k_is); (case k19 => k_is); (case a20 => k_is); (case l20 => k_is); (case c20 => k_is); (case k20 => k_is); (case a21 => k_is); (case l21 => k_is); (case c21 => k_is); (case k21 => k_is); (case a22 => k_is); (case l22 => k_is); (case c22 => k_is); (case k22 => k_is); (case a23 => k_is); (case l23 => k_is); (case c23 => k_is); (case k23 => k_is); (case a24 => k_is); (case l24 => k_is); (case c24 => k_is); (case k24 => k_is); (case a25 => k_is); (case l25 => k_is); (case c25 => k_is); (case k25 => k_is); (case a26 => k_is); (case l26 => k_is); (case c26 => k_is); (case k26 => k_is); (case a27 => k_is); (case l27 => k_is); (case c27 => k_is); (case k27 => k_is); (case a28 => k_is); (case l28 => k_is); (case c28 => k_is); (case k28 => k_is); (case a29 => k_is); (case l29 => k_is); (case c29 => k_is); (case k29 => k_is); (case a30 => k_is); (case l30 => k_is); (case c30 => k_is); (case k30 => k_is); (case a31 => k_is); (case l31 => k_is); (case c31 => k_is); (case k31 => k_is); (case a32 => k_is); (case l32 => k_is); (case c32 => k_is); (case k32 => k_is); (case a33 => k_is); (case l33 => k_is); (case c33 => k_is); (case k33 => k_is); (case a34 => k_is); (case l34 => k_is); (case c34 => k_is); (case k34 => k_is); (case a35 => k_is); (case l35 => k_is); (case c35 => k_is); (case k35 => k_is); (case a36 => k_is); (case l36 => k_is); (case c36 => k_is); (case k36 => k_is); (case a37 => k_is); (case l37 => k_is); (case c37 => k_is); (case k37 => k_is); (case a38 => k_is); (case l38 => k_is); (case c38 => k_is); (case k38 => k_is); (case a39 => k_is); (case l39 => k_is); (case c39 => k_is); (case k39 => k_is); (case z0 => k_is); (case z1 => k_is); (case z2 => k_is); (case z3 => k_is); (case z4 => k_is); (case z5 => k_is); (case z6 => k_is); (case z7 => k_is); (case z8 => k_is); (case z9 => k_is); (case z10 => k_is)
