import PyProof.Rows.All
import Wide.All
import OpenK.AllK
import Wide.FinOn
import PySem.Challenge.RW_nz0205_01
set_option Elab.async false
set_option genInjectivity false
set_option genSizeOf false
set_option genSizeOfSpec false
set_option bootstrap.genMatcherCode false
set_option tactic.hygienic false
set_option linter.unusedVariables false
open PySem PySem.W PyProof.Rows PySem.Calls
set_option maxRecDepth 100000
section
namespace Mine
inductive AV where
  | none | bool (b : Bool) | int (i : Int) | str (s : List Nat) | ref (a : Addr) | glob (v : Value)
  | lst (vs : List AV) | tup (vs : List AV) | rng (lo hi st : Int)
inductive AO where
  | list (vs : List AV) | inst (C d : Addr) | dict (fs : List (Str × AV)) | cell (v : Option AV)
abbrev PM := Addr → Option Obj
abbrev HM := Addr → Option AO
abbrev lo (ws : Array Value) (n : Nat) : Obj := { cls := .type "list", data := .seq ws n }
abbrev tpo (ws : Array Value) (n : Nat) : Obj := { cls := .type "tuple", data := .seq ws n }
noncomputable def rngOk (l h s : Int) : Prop := s ≠ 0 ∧ -(2 ^ 40) < l ∧ l < 2 ^ 40 ∧ -(2 ^ 40) < h ∧ h < 2 ^ 40 ∧ -(2 ^ 20) < s ∧ s < 2 ^ 20
theorem nos {α : Type _} {x : α} {p : Prop} (e : (Option.none : Option α) = some x) : p := nomatch e
mutual
inductive VR (P : PM) : AV → Value → Prop
  | none : VR P .none .none
  | bool (b) : VR P (.bool b) (.bool b)
  | int (i t) : VR P (.int i) (.int i t)
  | str (l t) : l.length ≤ sizeLine → VR P (.str l) (.str ⟨l.toArray⟩ t)
  | ref (a) : VR P (.ref a) (.ref a)
  | glob (v) : VR P (.glob v) v
  | lst (vs ws n a) : P a = some (lo ws n) → VRs P vs ws.toList → vs.length ≤ sizeLine → VR P (.lst vs) (.ref a)
  | tup (vs ws n a) : P a = some (tpo ws n) → VRs P vs ws.toList → vs.length ≤ sizeLine → VR P (.tup vs) (.ref a)
  | rng (l h s a t u v) : rngOk l h s → P a = some { cls := .type "range", data := .fields #[.int l t, .int h u, .int s v] } → VR P (.rng l h s) (.ref a)
inductive VRs (P : PM) : List AV → List Value → Prop
  | nil : VRs P [] []
  | cons (v w vs ws) : VR P v w → VRs P vs ws → VRs P (v :: vs) (w :: ws)
end
noncomputable def PLe (P P' : PM) : Prop := ∀ b o, P b = some o → P' b = some o
theorem PLe.refl (P : PM) : PLe P P := fun _ _ e => e
theorem PLe.trans {P P' P'' : PM} (a : PLe P P') (b : PLe P' P'') : PLe P P'' := fun x o e => b x o (a x o e)
theorem VR.ind {P P' : PM} (k : PLe P P') :
    (∀ {v w}, VR P v w → VR P' v w) ∧ ∀ {v w}, VRs P v w → VRs P' v w :=
  have a := @VR.rec P (fun v w _ => VR P' v w) (fun v w _ => VRs P' v w) .none .bool .int .str .ref .glob
    (fun vs ws n a h _ z r => .lst vs ws n a (k _ _ h) r z) (fun vs ws n a h _ z r => .tup vs ws n a (k _ _ h) r z)
    (fun l h s a t u v z e => .rng l h s a t u v z (k _ _ e)) .nil (fun v w vs ws _ _ a r => .cons v w vs ws a r)
  have b := @VRs.rec P (fun v w _ => VR P' v w) (fun v w _ => VRs P' v w) .none .bool .int .str .ref .glob
    (fun vs ws n a h _ z r => .lst vs ws n a (k _ _ h) r z) (fun vs ws n a h _ z r => .tup vs ws n a (k _ _ h) r z)
    (fun l h s a t u v z e => .rng l h s a t u v z (k _ _ e)) .nil (fun v w vs ws _ _ a r => .cons v w vs ws a r)
  ⟨fun r => a r, fun r => b r⟩
theorem VR.mono {P P' : PM} (k : PLe P P') {v w} (r : VR P v w) : VR P' v w := (VR.ind k).1 r
theorem VRs.mono {P P' : PM} (k : PLe P P') {v w} (r : VRs P v w) : VRs P' v w := (VR.ind k).2 r
theorem VRs.ind {P : PM} {M : List AV → List Value → Prop} (n : M [] []) (c : ∀ v w vs ws, VR P v w → VRs P vs ws → M vs ws → M (v :: vs) (w :: ws)) {vs ws} (r : VRs P vs ws) : M vs ws :=
  @VRs.rec P (fun _ _ _ => True) (fun v w _ => M v w) trivial (fun _ => trivial) (fun _ _ => trivial) (fun _ _ _ => trivial) (fun _ => trivial) (fun _ => trivial)
    (fun _ _ _ _ _ _ _ _ => trivial) (fun _ _ _ _ _ _ _ _ => trivial) (fun _ _ _ _ _ _ _ _ _ => trivial) n (fun v w vs ws a b _ r => c v w vs ws a b r) vs ws r
theorem VRs.length {P : PM} {vs ws} (r : VRs P vs ws) : vs.length = ws.length :=
  VRs.ind (M := fun vs ws => vs.length = ws.length) rfl (fun _ _ _ _ _ _ e => congrArg (· + 1) e) r
theorem VRs.append {P : PM} {vs ws vs' ws'} (r : VRs P vs ws) (r' : VRs P vs' ws') : VRs P (vs ++ vs') (ws ++ ws') :=
  VRs.ind (M := fun vs ws => VRs P (vs ++ vs') (ws ++ ws')) r' (fun _ _ _ _ a _ e => .cons _ _ _ _ a e) r
theorem VRs.get {P : PM} {vs ws} (r : VRs P vs ws) : ∀ {i : Nat} {v}, vs[i]? = some v → ∃ w, ws[i]? = some w ∧ VR P v w :=
  VRs.ind (M := fun vs ws => ∀ {i : Nat} {v}, vs[i]? = some v → ∃ w, ws[i]? = some w ∧ VR P v w) nofun
    (fun v w vs ws a _ ih i => Nat.casesOn (motive := fun i => ∀ {v'}, (v :: vs)[i]? = some v' → ∃ w', (w :: ws)[i]? = some w' ∧ VR P v' w') i
      (fun e => ⟨w, rfl, (Option.some.inj e) ▸ a⟩) (fun i {x} e => ih (i := i) (v := x) e)) r
noncomputable def gcs : List Addr := [445, 551, 695, 716]
noncomputable def goodNames : List Str := ["text", "at", "data", "found", "starts", "limits", "steps", "out", "values", "length", "width", "depth", "items"]
noncomputable def FRel (P : PM) : List (Str × AV) → List DictEntry → Prop
  | [], [] => True
  | (x, v) :: fs, e :: es => (∃ t, e.key = .str x t) ∧ VR P v e.val ∧ FRel P fs es
  | _, _ => False
theorem FRel.mono {P P' : PM} (k : PLe P P') : ∀ {fs es}, FRel P fs es → FRel P' fs es
  | [], [], _ => trivial
  | (x, v) :: fs, e :: es, ⟨a, b, c⟩ => ⟨a, b.mono k, FRel.mono k c⟩
  | [], _ :: _, h => h.elim
  | _ :: _, [], h => h.elim
inductive IsLo (P : PM) (vs : List AV) (o : Obj) : Prop
  | mk (ws : Array Value) (n : Nat) (e : o = lo ws n) (r : VRs P vs ws.toList) (z : vs.length ≤ sizeLine)
inductive IsDi (P : PM) (fs : List (Str × AV)) (o : Obj) : Prop
  | mk (es : List DictEntry) (n : Nat) (e : o = dictOf es n) (r : FRel P fs es) (z : fs.length ≤ 100) (g : ∀ f ∈ fs, f.1 ∈ goodNames)
noncomputable def OR (P : PM) : AO → Obj → Prop
  | .list vs, o => IsLo P vs o
  | .inst C d, o => o = instObj C d ∧ C ∈ gcs
  | .dict fs, o => IsDi P fs o
  | .cell v, o => ∃ u, o.data = .cell u ∧ (match v with | none => True | some x => ∃ y, u = some y ∧ VR P x y)
theorem OR.mono {P P' : PM} (k : PLe P P') {x o} (h : OR P x o) : OR P' x o := by
  cases x with
  | list vs => obtain ⟨ws, n, e, r, z⟩ := h; exact ⟨ws, n, e, r.mono k, z⟩
  | inst C d => exact h
  | dict fs => obtain ⟨es, n, e, r, z, g⟩ := h; exact ⟨es, n, e, r.mono k, z, g⟩
  | cell v =>
    obtain ⟨u, e, r⟩ := h
    refine ⟨u, e, ?_⟩
    cases v with
    | none => trivial
    | some x => obtain ⟨y, a, b⟩ := r; exact ⟨y, a, b.mono k⟩
structure Cx where
  A : Around
  ns : List (Addr × (Str → Option Value))
  pins : List (Addr × Obj)
structure St where
  loc : List (Option AV)
  H : HM
structure SInv (G : Heap) (c : Cx) (P : PM) (H : HM) (h : Heap) : Prop where
  g : ∀ b o, G.get? b = some o → P b = some o
  k : ∀ b o, P b = some o → h.get? b = some o
  ns : ∀ q ∈ c.ns, h.Ns q.1 q.2 ∧ P q.1 = none ∧ H q.1 = none
  pins : ∀ q ∈ c.pins, h.get? q.1 = some q.2 ∧ P q.1 = none ∧ H q.1 = none
  np : ∀ q ∈ c.ns, ∀ r ∈ c.pins, q.1 ≠ r.1
  led : ∀ a x, H a = some x → ∃ o, h.get? a = some o ∧ OR P x o ∧ P a = none
structure FreeS (c : Cx) (P : PM) (H : HM) (a : Addr) : Prop where
  p : P a = none
  h : H a = none
  n : ∀ q ∈ c.ns, q.1 ≠ a
  i : ∀ q ∈ c.pins, q.1 ≠ a
structure FreeF (c : Cx) (L : Addr) (P : PM) (H : HM) (a : Addr) : Prop where
  p : P a = none
  h : H a = none
  n : ∀ q ∈ c.ns, q.1 ≠ a
  i : ∀ q ∈ c.pins, q.1 ≠ a
  l : a ≠ L
inductive AtS (c : Cx) (P : PM) (h : Heap) (a : Addr) (x : AO) : Prop
  | mk (o : Obj) (e : h.get? a = some o) (r : OR P x o) (p : P a = none) (n : ∀ q ∈ c.ns, q.1 ≠ a) (i : ∀ q ∈ c.pins, q.1 ≠ a)
inductive AtF (c : Cx) (L : Addr) (P : PM) (h : Heap) (a : Addr) (x : AO) : Prop
  | mk (o : Obj) (e : h.get? a = some o) (r : OR P x o) (p : P a = none) (n : ∀ q ∈ c.ns, q.1 ≠ a) (i : ∀ q ∈ c.pins, q.1 ≠ a) (l : a ≠ L)
structure Nm where
  names : List Str
  env : Env
noncomputable def LocR (P : PM) (N : Nm) (loc : List (Option AV)) (m : Str → Option Value) : Prop :=
  ∀ (i : Nat) (x : Str) (v : AV), N.names[i]? = some x → loc[i]? = some (some v) →
    (N.env.kindOf x = some .local → ∃ u, m x = some u ∧ VR P v u) ∧ (N.env.kindOf x = some .cell → ∃ ca, v = .ref ca ∧ N.env.cells.lookup x = some ca)
structure FInv (G : Heap) (c : Cx) (L : Addr) (names : Nm) (P : PM) (σ : St) (h : Heap) : Prop where
  s : SInv G c P σ.H h
  f : ∃ m, h.Ns L m ∧ LocR P names σ.loc m
  p : P L = none
  hl : σ.H L = none
  pin : ∀ q ∈ c.pins, q.1 ≠ L
  nsl : ∀ q ∈ c.ns, q.1 ≠ L
noncomputable def Rest (s s' : Shared) : Prop := s'.gens = s.gens ∧ s'.os = s.os ∧ s'.drawn = s.drawn
theorem Rest.refl (s : Shared) : Rest s s := ⟨rfl, rfl, rfl⟩
theorem Rest.trans {s s' s'' : Shared} (a : Rest s s') (b : Rest s' s'') : Rest s s'' := ⟨b.1.trans a.1, b.2.1.trans a.2.1, b.2.2.trans a.2.2⟩
section
variable {G : Heap} {c : Cx} {L : Addr} {names : Nm} {P P' : PM} {σ : St} {H : HM} {h h' : Heap}
abbrev Kp (h h' : Heap) : Prop := ∀ b o, h.get? b = some o → h'.get? b = some o
theorem SInv.keeps (I : SInv G c P H h) (k : Kp h h') : SInv G c P H h' :=
  ⟨I.g, fun b o e => k _ _ (I.k b o e), fun q hq => ⟨(I.ns q hq).1.keeps k, (I.ns q hq).2⟩, fun q hq => ⟨k _ _ (I.pins q hq).1, (I.pins q hq).2⟩, I.np,
    fun a x e => let ⟨o, a1, a2⟩ := I.led a x e; ⟨o, k _ _ a1, a2⟩⟩
theorem FInv.keeps (I : FInv G c L names P σ h) (k : Kp h h') : FInv G c L names P σ h' :=
  ⟨I.s.keeps k, let ⟨m, a, b⟩ := I.f; ⟨m, a.keeps k, b⟩, I.p, I.hl, I.pin, I.nsl⟩
noncomputable def PM.set (P : PM) (a : Addr) (o : Obj) : PM := fun b => if b = a then some o else P b
noncomputable def HM.set (H : HM) (a : Addr) (x : AO) : HM := fun b => if b = a then some x else H b
noncomputable def HM.del (H : HM) (a : Addr) : HM := fun b => if b = a then none else H b
@[simp] theorem HM.set_same (H : HM) (a : Addr) (x : AO) : (H.set a x) a = some x := by simp [HM.set]
theorem HM.set_ne (H : HM) {a b : Addr} (x : AO) (e : b ≠ a) : (H.set a x) b = H b := by simp [HM.set, e]
@[simp] theorem HM.del_same (H : HM) (a : Addr) : (H.del a) a = none := by simp [HM.del]
theorem HM.del_ne (H : HM) {a b : Addr} (e : b ≠ a) : (H.del a) b = H b := by simp [HM.del, e]
theorem PLe.set {a : Addr} {o : Obj} (e : P a = none) : PLe P (P.set a o) := fun b x q => by
  unfold PM.set; split
  · rename_i z; subst z; rw [e] at q; cases q
  · exact q
theorem LocR.mono {loc : List (Option AV)} {m} (k : PLe P P') (x : LocR P names loc m) : LocR P' names loc m :=
  fun i y v a b => ⟨fun z => let ⟨u, p, q⟩ := (x i y v a b).1 z; ⟨u, p, q.mono k⟩, (x i y v a b).2⟩
theorem SInv.free (I : SInv G c P H h) {a : Addr} (e : h.get? a = none) : FreeS c P H a := by
  refine ⟨?_, ?_, ?_, ?_⟩
  · cases q : P a with
    | none => rfl
    | some o => rw [I.k _ _ q] at e; cases e
  · cases q : H a with
    | none => rfl
    | some o => obtain ⟨_, z, _⟩ := I.led _ _ q; rw [z] at e; cases e
  · intro q hq z; obtain ⟨_, _, _, y, _⟩ := (I.ns q hq).1; rw [z, e] at y; cases y
  · intro q hq z; have := (I.pins q hq).1; rw [z, e] at this; cases this
theorem FInv.free (I : FInv G c L names P σ h) {a : Addr} (e : h.get? a = none) : FreeF c L P σ.H a := by
  obtain ⟨a1, a2, a3, a4⟩ := I.s.free e
  refine ⟨a1, a2, a3, a4, ?_⟩
  intro z; obtain ⟨_, ⟨_, _, _, y, _⟩, _⟩ := I.f; rw [← z, e] at y; cases y
theorem SInv.addP (I : SInv G c P H h) {a : Addr} {o : Obj} (e : h.get? a = some o) (e1 : P a = none) (e2 : H a = none) (e3 : ∀ q ∈ c.ns, q.1 ≠ a) (e4 : ∀ q ∈ c.pins, q.1 ≠ a) :
    SInv G c (P.set a o) H h := by
  have k := PLe.set (P := P) (o := o) e1
  refine ⟨fun b x z => k _ _ (I.g b x z), fun b x z => ?_, fun q hq => ⟨(I.ns q hq).1, ?_, (I.ns q hq).2.2⟩, fun q hq => ⟨(I.pins q hq).1, ?_, (I.pins q hq).2.2⟩, I.np, fun b x z => ?_⟩
  · unfold PM.set at z; split at z
    · rename_i w; subst w; cases z; exact e
    · exact I.k _ _ z
  · unfold PM.set; rw [if_neg (e3 q hq)]; exact (I.ns q hq).2.1
  · unfold PM.set; rw [if_neg (e4 q hq)]; exact (I.pins q hq).2.1
  · obtain ⟨o', a1, a2, a3⟩ := I.led b x z
    refine ⟨o', a1, a2.mono k, ?_⟩
    unfold PM.set; rw [if_neg ?_]; exact a3
    rintro rfl; rw [e2] at z; cases z
theorem FInv.addP (I : FInv G c L names P σ h) {a : Addr} {o : Obj} (e : h.get? a = some o) (e1 : P a = none) (e2 : σ.H a = none) (e3 : ∀ q ∈ c.ns, q.1 ≠ a) (e4 : ∀ q ∈ c.pins, q.1 ≠ a) (e5 : a ≠ L) :
    FInv G c L names (P.set a o) σ h := by
  have k := PLe.set (P := P) (o := o) e1
  refine ⟨I.s.addP e e1 e2 e3 e4, let ⟨m, a1, a2⟩ := I.f; ⟨m, a1, a2.mono k⟩, ?_, I.hl, I.pin, I.nsl⟩
  unfold PM.set; rw [if_neg e5.symm]; exact I.p
theorem FInv.grow (I : FInv G c L names P σ h) (k : Kp h h') {a : Addr} {o : Obj} (e0 : h.get? a = none) (e : h'.get? a = some o) :
    FInv G c L names (P.set a o) σ h' ∧ PLe P (P.set a o) := by
  obtain ⟨a1, a2, a3, a4, a5⟩ := I.free e0
  exact ⟨(I.keeps k).addP e a1 a2 a3 a4 a5, PLe.set a1⟩
theorem SInv.setH (I : SInv G c P H h) {a : Addr} {x : AO} {o : Obj} (k : ∀ b y, b ≠ a → h.get? b = some y → h'.get? b = some y) (e : h'.get? a = some o) (r : OR P x o)
    (e1 : P a = none) (e3 : ∀ q ∈ c.ns, q.1 ≠ a) (e4 : ∀ q ∈ c.pins, q.1 ≠ a) : SInv G c P (H.set a x) h' := by
  refine ⟨I.g, fun b x z => k _ _ (fun w => by rw [w, e1] at z; cases z) (I.k b x z), fun q hq => ⟨?_, (I.ns q hq).2.1, ?_⟩, fun q hq => ⟨k _ _ (e4 q hq) (I.pins q hq).1, (I.pins q hq).2.1, ?_⟩, I.np, fun b y z => ?_⟩
  · obtain ⟨o', es, ep, b1, b2⟩ := (I.ns q hq).1
    exact ⟨o', es, ep, k _ _ (e3 q hq) b1, b2⟩
  · rw [HM.set_ne _ _ (e3 q hq)]; exact (I.ns q hq).2.2
  · rw [HM.set_ne _ _ (e4 q hq)]; exact (I.pins q hq).2.2
  · by_cases w : b = a
    · subst w; rw [HM.set_same] at z; cases z; exact ⟨o, e, r, e1⟩
    · rw [HM.set_ne _ _ w] at z
      obtain ⟨o', a1, a2⟩ := I.led b y z
      exact ⟨o', k _ _ w a1, a2⟩
theorem FInv.setH (I : FInv G c L names P σ h) {a : Addr} {x : AO} {o : Obj} (k : ∀ b y, b ≠ a → h.get? b = some y → h'.get? b = some y) (e : h'.get? a = some o) (r : OR P x o)
    (e1 : P a = none) (e3 : ∀ q ∈ c.ns, q.1 ≠ a) (e4 : ∀ q ∈ c.pins, q.1 ≠ a) (e5 : a ≠ L) : FInv G c L names P ⟨σ.loc, σ.H.set a x⟩ h' := by
  refine ⟨I.s.setH k e r e1 e3 e4, ?_, I.p, ?_, I.pin, I.nsl⟩
  · obtain ⟨m, ⟨o', es, ep, b1, b2⟩, lr⟩ := I.f
    exact ⟨m, ⟨o', es, ep, k _ _ e5.symm b1, b2⟩, lr⟩
  · show (σ.H.set a x) L = none
    rw [HM.set_ne _ _ e5.symm]; exact I.hl
theorem FInv.growH (I : FInv G c L names P σ h) (k : Kp h h') {a : Addr} {x : AO} {o : Obj} (e0 : h.get? a = none) (e : h'.get? a = some o) (r : OR P x o) :
    FInv G c L names P ⟨σ.loc, σ.H.set a x⟩ h' := by
  obtain ⟨a1, a2, a3, a4, a5⟩ := I.free e0
  exact I.setH (fun b y _ z => k _ _ z) e r a1 a3 a4 a5
theorem SInv.at (I : SInv G c P H h) {a : Addr} {x : AO} (e : H a = some x) : AtS c P h a x := by
  obtain ⟨o, a1, a2, a3⟩ := I.led a x e
  refine ⟨o, a1, a2, a3, fun q hq z => ?_, fun q hq z => ?_⟩
  · have := (I.ns q hq).2.2; rw [z, e] at this; cases this
  · have := (I.pins q hq).2.2; rw [z, e] at this; cases this
theorem FInv.at (I : FInv G c L names P σ h) {a : Addr} {x : AO} (e : σ.H a = some x) : AtF c L P h a x := by
  obtain ⟨o, a1, a2, a3, a4, a5⟩ := I.s.at e
  refine ⟨o, a1, a2, a3, a4, a5, ?_⟩
  rintro rfl; rw [I.hl] at e; cases e
theorem SInv.sub {H' : HM} (I : SInv G c P H h) (k : ∀ a x, H' a = some x → H a = some x) : SInv G c P H' h := by
  have n : ∀ a, H a = none → H' a = none := fun a e => by
    cases q : H' a with
    | none => rfl
    | some x => rw [k _ _ q] at e; cases e
  exact ⟨I.g, I.k, fun q hq => ⟨(I.ns q hq).1, (I.ns q hq).2.1, n _ (I.ns q hq).2.2⟩, fun q hq => ⟨(I.pins q hq).1, (I.pins q hq).2.1, n _ (I.pins q hq).2.2⟩, I.np, fun a x e => I.led a x (k a x e)⟩
theorem SInv.freeze {a : Addr} {vs : List AV} (I : SInv G c P H h) (e : H a = some (.list vs)) : ∃ ws n, SInv G c (P.set a (lo ws n)) (H.del a) h ∧ PLe P (P.set a (lo ws n)) ∧ VR (P.set a (lo ws n)) (.lst vs) (.ref a) := by
  obtain ⟨o, a1, ⟨ws, n, rfl, r, z⟩, a3, a4, a5⟩ := I.at e
  have k := PLe.set (P := P) (o := lo ws n) a3
  have I' : SInv G c P (H.del a) h := I.sub fun b x q => by
    unfold HM.del at q; split at q
    · cases q
    · exact q
  refine ⟨ws, n, I'.addP a1 a3 (HM.del_same _ _) a4 a5, k, .lst vs ws n a ?_ (r.mono k) z⟩
  simp [PM.set]
theorem FInv.freeze {a : Addr} {vs : List AV} (I : FInv G c L names P σ h) (e : σ.H a = some (.list vs)) : ∃ ws n, FInv G c L names (P.set a (lo ws n)) ⟨σ.loc, σ.H.del a⟩ h ∧ PLe P (P.set a (lo ws n)) ∧ VR (P.set a (lo ws n)) (.lst vs) (.ref a) := by
  obtain ⟨_, _, _, _, _, _, hL⟩ := I.at e
  obtain ⟨ws, n, I', k, v⟩ := I.s.freeze e
  refine ⟨ws, n, ⟨I', let ⟨m, a1, a2⟩ := I.f; ⟨m, a1, a2.mono k⟩, ?_, ?_, I.pin, I.nsl⟩, k, v⟩
  · unfold PM.set; rw [if_neg hL.symm]; exact I.p
  · show (σ.H.del a) L = none
    rw [HM.del_ne _ hL.symm]; exact I.hl
end
end Mine
end
section
namespace Mine
inductive Bi where
  | len | abs | min | max | ord | chr | int | str | list | isinst | range
inductive Me where
  | append | extend | reverse | pop | join
mutual
inductive CE where
  | int (i : Int) | str (l : List Nat) | bool (b : Bool) | none
  | loc (i : Nat) | cell (i : Nat)
  | glob (x : Str) (v : Value) | gint (x : Str) (i : Int) | gstr (x : Str) (l : List Nat)
  | bin (op : Operator) (a b : CE)
  | neg (a : CE) | not (a : CE)
  | cmp (op : CmpOp) (a b : CE)
  | chain (op op' : CmpOp) (a b c : CE)
  | and (es : CEs) | or (es : CEs)
  | ite (c a b : CE)
  | attr (o : CE) (name : Str)
  | sub (o i : CE)
  | slice (o : CE) (lo hi : CE)
  | sliceM (o : CE) (lo hi : CE)
  | nopart
  | rev (o : CE)
  | lst (es : CEs) | lstM (es : CEs) | tup (es : CEs)
  | rep (e n : CE)
  | call (f : CE) (args : CEs)
  | bi (b : Bi) (args : CEs)
  | me (m : Me) (o : CE) (args : CEs)
  | ume (o : CE) (name : Str) (args : CEs)
  | comp (elt iter : CE) (caps : List Nat)
  | comp2 (elt iter iter2 : CE)
  | frz (e : CE)
  | dead
inductive CEs where
  | nil | cons (e : CE) (es : CEs)
end
inductive Tg where
  | loc (i : Nat) | attr (o : CE) (name : Str)
mutual
inductive CS where
  | expr (e : CE) | ret (e : CE) | retNone
  | asg (x : Nat) (e : CE) | asgT (ts : List Tg) (e : CE)
  | seta (o : CE) (name : Str) (e : CE)
  | asgC (x : Nat) (e : CE) | augC (x : Nat) (op : Operator) (e : CE)
  | aug (x : Nat) (op : Operator) (e : CE) | auga (o : CE) (name : Str) (op : Operator) (e : CE)
  | ite (c : CE) (a b : CSs) | wh (c : CE) (b : CSs) | forr (ts : List Nat) (it : CE) (b : CSs)
  | raise (e : CE) | tryx (b : CSs) (cls : Str) | cont | dead
inductive CSs where
  | nil | cons (s : CS) (ss : CSs)
end
noncomputable def truthA : AV → Option Bool
  | .bool b => some b
  | .int i => some (!decide (i = 0))
  | .str l => some (!l.isEmpty)
  | .none => some false
  | .lst vs => some (!vs.isEmpty)
  | _ => none
noncomputable def ints? : List AV → Option (List Int)
  | [] => some []
  | .int a :: r => (ints? r).map (a :: ·)
  | _ :: _ => none
noncomputable def strs? : List AV → Option (List (List Nat))
  | [] => some []
  | .str a :: r => if a.all (· < 1114112) then (strs? r).map (a :: ·) else none
  | _ :: _ => none
noncomputable def eqL (a b : List AV) : Option Bool := match ints? a, ints? b with
  | some x, some y => some (decide (x = y))
  | _, _ => match strs? a, strs? b with
    | some x, some y => some (decide (x = y))
    | _, _ => none
noncomputable def eqA (a b : AV) : Option Bool := match a with
  | .int a => (match b with | .int b => some (decide (a = b)) | _ => none)
  | .str a => (match b with | .str b => some (decide (a = b)) | _ => none)
  | .bool a => (match b with | .bool b => some (decide (a = b)) | _ => none)
  | .none => (match b with | .none => some true | _ => none)
  | .lst a => (match b with | .lst b => eqL a b | _ => none)
  | _ => none
noncomputable def ordA (f : Int → Int → Bool) (a b : AV) : Option Bool := match a with
  | .int a => (match b with | .int b => some (f a b) | _ => none)
  | _ => none
noncomputable def isNA (a b : AV) : Option Bool := match b with
  | .none => (match a with | .none => some true | .int _ => some false | .str _ => some false | .lst _ => some false | _ => none)
  | _ => none
noncomputable def inA (a b : AV) : Option Bool := match a with
  | .str a => (match b with
    | .str b => (match a with | [a] => some (decide (a ∈ b)) | _ => none)
    | .tup bs => (match bs with | [.str b, .str c] => some (decide (a = b ∨ a = c)) | _ => none)
    | _ => none)
  | _ => none
noncomputable def cmpA (op : CmpOp) (a b : AV) : Option Bool := match op with
  | .Eq => eqA a b
  | .NotEq => (eqA a b).map (!·)
  | .Lt => ordA (fun a b => decide (a < b)) a b
  | .LtE => ordA (fun a b => decide (a ≤ b)) a b
  | .Gt => ordA (fun a b => decide (b < a)) a b
  | .GtE => ordA (fun a b => decide (b ≤ a)) a b
  | .Is => isNA a b
  | .IsNot => (isNA a b).map (!·)
  | .In => inA a b
  | .NotIn => (inA a b).map (!·)
noncomputable def iiW (a b : AV) (k : Int → Int → Prop) : Prop := match a with
  | .int a => (match b with | .int b => k a b | _ => False)
  | _ => False
noncomputable def addW (a b : AV) (Q : AV → Prop) : Prop := match a with
  | .int a => (match b with | .int b => Q (.int (a + b)) | .bool b => Q (.int (a + if b = true then (1 : Int) else 0)) | _ => False)
  | .str a => (match b with | .str b => a.length + b.length ≤ sizeLine ∧ Q (.str (a ++ b)) | _ => False)
  | .lst a => (match b with | .lst b => a.length + b.length ≤ sizeLine ∧ Q (.lst (a ++ b)) | _ => False)
  | _ => False
noncomputable def mulW (a b : AV) (Q : AV → Prop) : Prop := match b with
  | .int n => (match a with | .int a => IntMulOk a n ∧ Q (.int (a * n)) | .str a => 0 ≤ n ∧ n ≤ 1000 ∧ a.length = 1 ∧ Q (.str (List.replicate n.toNat a).flatten) | _ => False)
  | _ => False
noncomputable def binW (op : Operator) (a b : AV) (Q : AV → Prop) : Prop := match op with
  | .Add => addW a b Q
  | .Sub => iiW a b fun a b => Q (.int (a - b))
  | .Mult => mulW a b Q
  | .Mod => iiW a b fun a b => b ≠ 0 ∧ Q (.int (Int.fmod a b))
  | .FloorDiv => iiW a b fun a b => b ≠ 0 ∧ b.natAbs < 2 ^ 64 ∧ Q (.int (Int.fdiv a b))
  | .Pow => iiW a b fun a n => 0 ≤ n ∧ n ≤ 1000 ∧ a.natAbs ≤ 1000 ∧ Q (.int (a ^ n.toNat))
  | .LShift => iiW a b fun a n => 0 ≤ n ∧ n ≤ 1000000 ∧ a.natAbs < 2 ^ 1000 ∧ Q (.int (a * 2 ^ n.toNat))
  | .RShift => iiW a b fun a n => 0 ≤ n ∧ Q (.int (Int.fdiv a (2 ^ n.toNat)))
  | .BitAnd => iiW a b fun a b => Q (.int (Builtin.bitAnd a b))
  | .BitOr => iiW a b fun a b => Q (.int (Builtin.bitOr a b))
  | _ => False
noncomputable def iaddW (a b : AV) (H : HM) (Q : AV → HM → Prop) : Prop := match a with
  | .int a => (match b with | .int b => Q (.int (a + b)) H | _ => False)
  | .str a => (match b with | .str b => a.length + b.length ≤ sizeLine ∧ Q (.str (a ++ b)) H | _ => False)
  | .ref a => ∃ ws vs, b = .lst ws ∧ H a = some (.list vs) ∧ vs.length + ws.length ≤ sizeLine ∧ Q (.ref a) (H.set a (.list (vs ++ ws)))
  | _ => False
noncomputable def augW (op : Operator) (a b : AV) (H : HM) (Q : AV → HM → Prop) : Prop := match op with
  | .Add => iaddW a b H Q
  | .Sub => iiW a b fun a b => Q (.int (a - b)) H
  | .Mod => iiW a b fun a b => b ≠ 0 ∧ Q (.int (Int.fmod a b)) H
  | .RShift => iiW a b fun a n => 0 ≤ n ∧ Q (.int (Int.fdiv a (2 ^ n.toNat))) H
  | _ => False
noncomputable def clampI (n : Nat) (i : Int) : Nat := if i < 0 then (i + n).toNat else min i.toNat n
noncomputable def loI (n : Nat) : Option Int → Nat
  | none => 0
  | some i => clampI n i
noncomputable def hiI (n : Nat) : Option Int → Nat
  | none => n
  | some i => clampI n i
noncomputable def pySlice {α : Type} (l : List α) (lo hi : Option Int) : List α := (l.drop (loI l.length lo)).take (hiI l.length hi - loI l.length lo)
noncomputable def pyIdx (n : Nat) (i : Int) : Option Nat := if 0 ≤ i then (if i < n then some i.toNat else none) else if 0 ≤ i + n then some (i + n).toNat else none
noncomputable def subW (o i : AV) (H : HM) (Q : AV → Prop) : Prop := match i with
  | .int i => (match o with
    | .lst vs => ∃ k v, pyIdx vs.length i = some k ∧ vs[k]? = some v ∧ Q v
    | .tup vs => ∃ v, 0 ≤ i ∧ i < 2 ^ 62 ∧ vs[i.toNat]? = some v ∧ Q v
    | .ref a => ∃ vs k v, H a = some (.list vs) ∧ pyIdx vs.length i = some k ∧ vs[k]? = some v ∧ Q v
    | .str l => ∃ c, 0 ≤ i ∧ i < 2 ^ 62 ∧ l[i.toNat]? = some c ∧ Q (.str [c])
    | _ => False)
  | _ => False
noncomputable def rngL (lo hi st : Int) : List Int := (List.range (Builtin.Range.rangeSize lo hi st).toNat).map fun (k : Nat) => lo + (k : Int) * st
noncomputable def iterA : AV → Option (List AV)
  | .lst vs => some vs
  | .str l => some (l.map fun c => .str [c])
  | .rng a b s => some ((rngL a b s).map .int)
  | _ => none
noncomputable def binVal (l : List Nat) : Nat := l.foldl (fun n c => 2 * n + (c - 48)) 0
noncomputable def decText (i : Int) : List Nat := (Str.ofString (toString i)).cps.toList
noncomputable def nilW (args : List AV) (p : Prop) : Prop := match args with | [] => p | _ :: _ => False
noncomputable def one (args : List AV) (k : AV → Prop) : Prop := match args with | [] => False | a :: r => nilW r (k a)
noncomputable def two (args : List AV) (k : AV → AV → Prop) : Prop := match args with | [] => False | a :: r => one r fun b => k a b
noncomputable def onI (a : AV) (k : Int → Prop) : Prop := match a with | .int i => k i | _ => False
noncomputable def onS (a : AV) (k : List Nat → Prop) : Prop := match a with | .str l => k l | _ => False
noncomputable def lenW (a : AV) (H : HM) (Q : AV → Prop) : Prop := match a with
  | .lst vs => Q (.int vs.length)
  | .str l => Q (.int l.length)
  | .ref a => ∃ vs, H a = some (.list vs) ∧ Q (.int vs.length)
  | _ => False
noncomputable def intW (args : List AV) (Q : AV → Prop) : Prop := match args with
  | [] => False
  | a :: r => onS a fun l => match r with
    | [] => ∃ n : Int, PySem.intText? ⟨l.toArray⟩ = some n ∧ l.length ≤ 640 ∧ Q (.int n)
    | b :: r => b = .int 2 ∧ r = [] ∧ l.length = 6 ∧ (∀ c ∈ l, c = 48 ∨ c = 49) ∧ Q (.int (binVal l))
noncomputable def isiW (N : Addr → Bool) (a b : AV) (Q : AV → Prop) : Prop :=
  (b = .glob (.type "int") ∧ ((∃ i, a = .int i ∧ Q (.bool true)) ∨ (∃ l, a = .str l ∧ Q (.bool false)))) ∨ (∃ C l, b = .glob (.ref C) ∧ a = .str l ∧ N C = true ∧ Q (.bool false))
noncomputable def rngW (args : List AV) (Q : AV → Prop) : Prop := match args with
  | [] => False
  | a :: r => onI a fun a => -(2 ^ 40) < a ∧ a < 2 ^ 40 ∧ match r with
    | [] => Q (.rng 0 a 1)
    | b :: r => onI b fun b => -(2 ^ 40) < b ∧ b < 2 ^ 40 ∧ match r with
      | [] => Q (.rng a b 1)
      | s :: r => onI s fun s => r = [] ∧ -(2 ^ 20) < s ∧ s < 2 ^ 20 ∧ s ≠ 0 ∧ Q (.rng a b s)
noncomputable def biW (N : Addr → Bool) (b : Bi) (args : List AV) (H : HM) (Q : AV → Prop) : Prop := match b with
  | .len => one args fun a => lenW a H Q
  | .abs => one args fun a => onI a fun i => Q (.int (if i < 0 then -i else i))
  | .min => two args fun a b => iiW a b fun a b => Q (.int (if b < a then b else a))
  | .max => two args fun a b => iiW a b fun a b => Q (.int (if b > a then b else a))
  | .ord => one args fun a => onS a fun l => ∃ c : Nat, l = [c] ∧ Q (.int c)
  | .chr => one args fun a => onI a fun i => 0 ≤ i ∧ i ≤ 1114111 ∧ Q (.str [i.toNat])
  | .int => intW args Q
  | .str => one args fun a => onI a fun i => i.natAbs.log2 < 1920 ∧ (decText i).length ≤ sizeLine ∧ Q (.str (decText i))
  | .list => one args fun a => ∃ vs, a = .lst vs ∧ Q (.lst vs)
  | .isinst => two args fun a b => isiW N a b Q
  | .range => rngW args Q
inductive refL (o : AV) (H : HM) (k : Addr → List AV → Prop) : Prop
  | mk (a : Addr) (vs : List AV) (e : o = .ref a) (l : H a = some (.list vs)) (q : k a vs)
noncomputable def meW (m : Me) (o : AV) (args : List AV) (H : HM) (Q : AV → HM → Prop) : Prop := match m with
  | .append => one args fun v => refL o H fun a vs => vs.length < sizeLine ∧ Q .none (H.set a (.list (vs ++ [v])))
  | .extend => one args fun w => refL o H fun a vs => ∃ ws, w = .lst ws ∧ vs.length + ws.length ≤ sizeLine ∧ Q .none (H.set a (.list (vs ++ ws)))
  | .reverse => nilW args (refL o H fun a vs => Q .none (H.set a (.list vs.reverse)))
  | .pop => nilW args (refL o H fun a ws => ∃ vs v, ws = vs ++ [v] ∧ Q v (H.set a (.list vs)))
  | .join => one args fun v => o = .str [] ∧ ∃ ls : List (List Nat), v = .lst (ls.map .str) ∧ (ls.map List.length).sum ≤ 10000000 ∧ Q (.str ls.flatten) H
noncomputable def meOk (m : Me) (o : AV) (H : HM) : Prop := match m with
  | .join => o = .str []
  | _ => ∃ a vs, o = .ref a ∧ H a = some (.list vs)
abbrev CallP := AV → List AV → HM → (AV → HM → Prop) → (HM → Prop) → Prop
structure CP where
  call : CallP
  meth : Addr → Str → Option AV
  ninst : Addr → Bool
noncomputable def setF (x : Str) (v : AV) : List (Str × AV) → List (Str × AV)
  | [] => [(x, v)]
  | (y, u) :: r => if y = x then (y, v) :: r else (y, u) :: setF x v r
noncomputable def plainA : AV → Bool
  | .glob _ => false
  | _ => true
inductive getaW (o : AV) (name : Str) (H : HM) (Q : AV → Prop) : Prop
  | mk (a C d : Addr) (fs : List (Str × AV)) (v : AV) (e : o = .ref a) (i : H a = some (.inst C d)) (h : H d = some (.dict fs)) (l : fs.lookup name = some v) (pl : plainA v = true) (q : Q v)
inductive setaW (o : AV) (name : Str) (v : AV) (H : HM) (Q : HM → Prop) : Prop
  | mk (a C d : Addr) (fs : List (Str × AV)) (e : o = .ref a) (i : H a = some (.inst C d)) (h : H d = some (.dict fs)) (z : fs.length ≤ 20) (pl : plainA v = true) (g : name ∈ goodNames) (q : Q (H.set d (.dict (setF name v fs))))
noncomputable def compW (eltW : AV → HM → (AV → HM → Prop) → Prop) : List AV → HM → (List AV → HM → Prop) → Prop
  | [], H, Q => Q [] H
  | v :: vs, H, Q => eltW v H fun y H1 => compW eltW vs H1 fun ys H2 => Q (y :: ys) H2
noncomputable def optI : AV → Option (Option Int)
  | .int i => some (some i)
  | .none => some none
  | _ => none
noncomputable def withO {α : Type} (o : Option α) (k : α → Prop) : Prop := match o with | some a => k a | none => False
noncomputable def locL : List (Option AV) → Nat → (AV → Prop) → Prop
  | [], _, _ => False
  | o :: r, i, k => match i with | 0 => withO o k | i + 1 => locL r i k
inductive CellR (r : AV) (H : HM) (k : Addr → AV → Prop) : Prop
  | mk (ca : Addr) (v : AV) (e : r = .ref ca) (h : H ca = some (.cell (some v))) (q : k ca v)
noncomputable def cellW (l : List (Option AV)) (i : Nat) (H : HM) (k : Addr → AV → Prop) : Prop := locL l i fun r => CellR r H k
noncomputable def br (t : Option Bool) (A B : Prop) : Prop := match t with | some true => A | some false => B | none => False
noncomputable def slW (o : AV) (i j : Option Int) (k : AV → Prop) : Prop := match o with
  | .lst vs => k (.lst (pySlice vs i j))
  | .str vs => k (.str (pySlice vs i j))
  | _ => False
inductive umeW (C : CP) (vo : AV) (name : Str) (H : HM) (k : AV → Addr → Prop) : Prop
  | mk (a K d : Addr) (fs : List (Str × AV)) (f : AV) (e : vo = .ref a) (i : H a = some (.inst K d)) (h : H d = some (.dict fs)) (l : fs.lookup name = none) (m : C.meth K name = some f) (q : k f a)
mutual
noncomputable def ewp (C : CP) : CE → (AV → St → Prop) → (St → Prop) → St → Prop
  | .int i, Q, X, σ => Q (.int i) σ
  | .str l, Q, X, σ => Q (.str l) σ
  | .bool b, Q, X, σ => Q (.bool b) σ
  | .none, Q, X, σ => Q .none σ
  | .nopart, Q, X, σ => Q .none σ
  | .loc i, Q, X, σ => locL σ.loc i fun v => Q v σ
  | .cell i, Q, X, σ => cellW σ.loc i σ.H fun _ v => Q v σ
  | .glob x v, Q, X, σ => Q (.glob v) σ
  | .gint x i, Q, X, σ => Q (.int i) σ
  | .gstr x l, Q, X, σ => Q (.str l) σ
  | .bin op a b, Q, X, σ => ewp C a (fun va σ1 => ewp C b (fun vb σ2 => binW op va vb fun r => Q r σ2) X σ1) X σ
  | .neg a, Q, X, σ => ewp C a (fun va σ1 => onI va fun i => Q (.int (-i)) σ1) X σ
  | .not a, Q, X, σ => ewp C a (fun va σ1 => withO (truthA va) fun t => Q (.bool (!t)) σ1) X σ
  | .cmp op a b, Q, X, σ => ewp C a (fun va σ1 => ewp C b (fun vb σ2 => withO (cmpA op va vb) fun t => Q (.bool t) σ2) X σ1) X σ
  | .chain op op' a b c, Q, X, σ => ewp C a (fun va σ1 => ewp C b (fun vb σ2 => br (cmpA op va vb) (ewp C c (fun vc σ3 => withO (cmpA op' vb vc) fun u => Q (.bool u) σ3) X σ2) (Q (.bool false) σ2)) X σ1) X σ
  | .and es, Q, X, σ => awp C es Q X σ
  | .or es, Q, X, σ => owp C es Q X σ
  | .ite c a b, Q, X, σ => ewp C c (fun vc σ1 => br (truthA vc) (ewp C a Q X σ1) (ewp C b Q X σ1)) X σ
  | .attr o name, Q, X, σ => ewp C o (fun vo σ1 => getaW vo name σ1.H fun v => Q v σ1) X σ
  | .sub o i, Q, X, σ => ewp C o (fun vo σ1 => ewp C i (fun vi σ2 => subW vo vi σ2.H fun v => Q v σ2) X σ1) X σ
  | .slice o l h, Q, X, σ => ewp C o (fun vo σ1 => ewp C l (fun vl σ2 => ewp C h (fun vh σ3 => withO (optI vl) fun i => withO (optI vh) fun j => slW vo i j fun v => Q v σ3) X σ2) X σ1) X σ
  | .sliceM o l h, Q, X, σ => ewp C o (fun vo σ1 => ewp C l (fun vl σ2 => ewp C h (fun vh σ3 => withO (optI vl) fun i => withO (optI vh) fun j => refL vo σ3.H fun _ vs => ∀ b, σ3.H b = none → Q (.ref b) ⟨σ3.loc, σ3.H.set b (.list (pySlice vs i j))⟩) X σ2) X σ1) X σ
  | .rev o, Q, X, σ => ewp C o (fun vo σ1 => ∃ vs, vo = .lst vs ∧ Q (.lst vs.reverse) σ1) X σ
  | .lst es, Q, X, σ => eswp C es (fun vs σ1 => Q (.lst vs) σ1) X σ
  | .lstM es, Q, X, σ => eswp C es (fun vs σ1 => ∀ b, σ1.H b = none → Q (.ref b) ⟨σ1.loc, σ1.H.set b (.list vs)⟩) X σ
  | .tup es, Q, X, σ => eswp C es (fun vs σ1 => Q (.tup vs) σ1) X σ
  | .rep e n, Q, X, σ => ewp C e (fun v σ1 => ewp C n (fun vn σ2 => onI vn fun n => -(2 ^ 62) < n ∧ n ≤ 10000000 ∧ Q (.lst (List.replicate n.toNat v)) σ2) X σ1) X σ
  | .call f args, Q, X, σ => ewp C f (fun vf σ1 => eswp C args (fun vs σ2 => C.call vf vs σ2.H (fun v H' => Q v ⟨σ2.loc, H'⟩) (fun H' => X ⟨σ2.loc, H'⟩)) X σ1) X σ
  | .bi b args, Q, X, σ => eswp C args (fun vs σ1 => biW C.ninst b vs σ1.H fun v => Q v σ1) X σ
  | .me m o args, Q, X, σ => ewp C o (fun vo σ1 => meOk m vo σ1.H ∧ eswp C args (fun vs σ2 => meW m vo vs σ2.H fun v H' => Q v ⟨σ2.loc, H'⟩) X σ1) X σ
  | .ume o name args, Q, X, σ => ewp C o (fun vo σ1 => umeW C vo name σ1.H fun f a => eswp C args (fun vs σ2 => C.call f (.ref a :: vs) σ2.H (fun v H' => Q v ⟨σ2.loc, H'⟩) (fun H' => X ⟨σ2.loc, H'⟩)) X σ1) X σ
  | .comp elt iter caps, Q, X, σ => (∀ i ∈ caps, ∃ ca, σ.loc[i]? = some (some (.ref ca))) ∧ ewp C iter (fun vi σ1 => withO (iterA vi) fun items => items.length ≤ 1000000 ∧
      compW (fun v H k => ewp C elt (fun y τ => k y τ.H) (fun _ => False) ⟨some v :: caps.map fun i => (σ.loc[i]?).join, H⟩) items σ1.H fun ys H' => Q (.lst ys) ⟨σ.loc, H'⟩) X σ
  | .comp2 elt iter iter2, Q, X, σ => ewp C iter (fun vi σ1 => withO (iterA vi) fun items => items.length ≤ 1000 ∧
      compW (fun v H k => ewp C iter2 (fun vj τ => withO (iterA vj) fun items2 => items2.length ≤ 1000 ∧
        compW (fun u H k' => ewp C elt (fun y τ => k' y τ.H) (fun _ => False) ⟨[some v, some u], H⟩) items2 τ.H fun ys H' => k (.lst ys) H') (fun _ => False) ⟨[some v, none], H⟩) items σ1.H
        fun yss H' => ∃ lss : List (List AV), yss = lss.map .lst ∧ Q (.lst lss.flatten) ⟨σ.loc, H'⟩) X σ
  | .frz e, Q, X, σ => ewp C e (fun v σ1 => refL v σ1.H fun a vs => Q (.lst vs) ⟨σ1.loc, σ1.H.del a⟩) X σ
  | .dead, _, _, _ => False
noncomputable def eswp (C : CP) : CEs → (List AV → St → Prop) → (St → Prop) → St → Prop
  | .nil, Q, X, σ => Q [] σ
  | .cons e es, Q, X, σ => ewp C e (fun v σ1 => eswp C es (fun vs σ2 => Q (v :: vs) σ2) X σ1) X σ
noncomputable def awp (C : CP) : CEs → (AV → St → Prop) → (St → Prop) → St → Prop
  | .nil, Q, X, σ => False
  | .cons e es, Q, X, σ => match es with
    | .nil => ewp C e Q X σ
    | .cons e' es' => ewp C e (fun v σ1 => br (truthA v) (awp C es Q X σ1) (Q v σ1)) X σ
noncomputable def owp (C : CP) : CEs → (AV → St → Prop) → (St → Prop) → St → Prop
  | .nil, Q, X, σ => False
  | .cons e es, Q, X, σ => match es with
    | .nil => ewp C e Q X σ
    | .cons e' es' => ewp C e (fun v σ1 => br (truthA v) (Q v σ1) (owp C es Q X σ1)) X σ
end
inductive Fl where
  | next | brk | cont | ret (v : AV)
noncomputable def nextR (k : St → Prop) (R : Fl → St → Prop) : Fl → St → Prop
  | .next, τ => k τ
  | .brk, τ => R .brk τ
  | .cont, τ => R .cont τ
  | .ret u, τ => R (.ret u) τ
noncomputable def loopR (k : St → Prop) (R : Fl → St → Prop) : Fl → St → Prop
  | .next, τ => k τ
  | .cont, τ => k τ
  | .brk, τ => R .next τ
  | .ret u, τ => R (.ret u) τ
noncomputable def forW (bodyW : AV → (Fl → St → Prop) → St → Prop) (R : Fl → St → Prop) : List AV → St → Prop
  | [], σ => R .next σ
  | v :: vs, σ => bodyW v (loopR (forW bodyW R vs) R) σ
noncomputable def setL (σ : St) (i : Nat) (v : AV) : St := ⟨σ.loc.set i (some v), σ.H⟩
noncomputable def setTs : List Nat → List AV → St → (St → Prop) → Prop
  | [], vs, σ, k => nilW vs (k σ)
  | i :: is, vs, σ, k => (match vs with | v :: vs => setTs is vs (setL σ i v) k | [] => False)
noncomputable def onT (v : AV) (k : List AV → Prop) : Prop := match v with | .tup vs => k vs | _ => False
noncomputable def bindT (ts : List Nat) (v : AV) (σ : St) (k : St → Prop) : Prop := match ts with
  | [] => False
  | i :: is => (match is with | [] => k (setL σ i v) | _ :: _ => onT v fun vs => setTs ts vs σ k)
noncomputable def tgsW (C : CP) (X : St → Prop) : List Tg → List AV → (St → Prop) → St → Prop
  | [], vs, k, σ => nilW vs (k σ)
  | t :: ts, vs, k, σ => (match vs with
    | v :: vs => (match t with
      | .loc i => tgsW C X ts vs k (setL σ i v)
      | .attr o name => ewp C o (fun vo σ1 => setaW vo name v σ1.H fun H' => tgsW C X ts vs k ⟨σ1.loc, H'⟩) X σ)
    | [] => False)
noncomputable def WhW (step : (St → Prop) → St → Prop) (σ : St) : Prop := ∀ I : St → Prop, (∀ τ, step I τ → I τ) → I σ
mutual
noncomputable def swp (C : CP) : CS → (Fl → St → Prop) → (St → Prop) → St → Prop
  | .expr e, R, X, σ => ewp C e (fun _ τ => R .next τ) X σ
  | .ret e, R, X, σ => ewp C e (fun v τ => R (.ret v) τ) X σ
  | .retNone, R, X, σ => R (.ret .none) σ
  | .asg x e, R, X, σ => ewp C e (fun v τ => R .next (setL τ x v)) X σ
  | .asgT ts e, R, X, σ => ewp C e (fun v τ => onT v fun vs => ts.length = vs.length ∧ tgsW C X ts vs (R .next) τ) X σ
  | .seta o name e, R, X, σ => ewp C e (fun v τ => ewp C o (fun vo τ1 => setaW vo name v τ1.H fun H' => R .next ⟨τ1.loc, H'⟩) X τ) X σ
  | .asgC x e, R, X, σ => ewp C e (fun v τ => locL τ.loc x fun r => ∃ ca y, r = .ref ca ∧ τ.H ca = some (.cell y) ∧ R .next ⟨τ.loc, τ.H.set ca (.cell (some v))⟩) X σ
  | .augC x op e, R, X, σ => cellW σ.loc x σ.H fun ca old => ewp C e (fun v τ => augW op old v τ.H fun r H' => locL τ.loc x fun z => z = .ref ca ∧ ∃ y, H' ca = some (.cell y) ∧ R .next ⟨τ.loc, H'.set ca (.cell (some r))⟩) X σ
  | .aug x op e, R, X, σ => locL σ.loc x fun old => ewp C e (fun v τ => augW op old v τ.H fun r H' => R .next (setL ⟨τ.loc, H'⟩ x r)) X σ
  | .auga o name op e, R, X, σ => ewp C o (fun vo τ => getaW vo name τ.H fun old => ewp C e (fun v τ1 => augW op old v τ1.H fun r H1 => setaW vo name r H1 fun H' => R .next ⟨τ1.loc, H'⟩) X τ) X σ
  | .ite c a b, R, X, σ => ewp C c (fun v τ => br (truthA v) (swps C a R X τ) (swps C b R X τ)) X σ
  | .wh c b, R, X, σ => WhW (fun I τ => ewp C c (fun v τ1 => br (truthA v) (swps C b (loopR I R) X τ1) (R .next τ1)) X τ) σ
  | .forr ts it b, R, X, σ => ewp C it (fun vi τ => withO (iterA vi) fun items => items.length ≤ 1000000 ∧ forW (fun v k τ1 => bindT ts v τ1 fun τ2 => swps C b k X τ2) R items τ) X σ
  | .raise e, R, X, σ => ewp C e (fun v τ => X τ) X σ
  | .tryx b cls, R, X, σ => swps C b R (fun τ => R (.ret .none) τ) σ
  | .cont, R, X, σ => R .cont σ
  | .dead, _, _, _ => False
noncomputable def swps (C : CP) : CSs → (Fl → St → Prop) → (St → Prop) → St → Prop
  | .nil, R, X, σ => R .next σ
  | .cons s ss, R, X, σ => swp C s (nextR (swps C ss R X) R) X σ
end
inductive LocI (l : List (Option AV)) (i : Nat) (k : AV → Prop) : Prop
  | mk (v : AV) (e : l[i]? = some (some v)) (h : k v)
inductive WithI {α : Type} (o : Option α) (k : α → Prop) : Prop
  | mk (a : α) (e : o = some a) (h : k a)
inductive BrI (t : Option Bool) (A B : Prop) : Prop
  | mk (b : Bool) (e : t = some b) (h : if b then A else B)
inductive CellI (l : List (Option AV)) (i : Nat) (H : HM) (k : Addr → AV → Prop) : Prop
  | mk (a : Addr) (v : AV) (e : l[i]? = some (some (.ref a))) (e2 : H a = some (.cell (some v))) (h : k a v)
inductive IntI (k : Int → Prop) : AV → Prop
  | mk (i) (h : k i) : IntI k (.int i)
inductive StrI (k : List Nat → Prop) : AV → Prop
  | mk (l) (h : k l) : StrI k (.str l)
inductive IiA (k : Int → Int → Prop) : AV → AV → Prop
  | mk (i j) (h : k i j) : IiA k (.int i) (.int j)
inductive NilI (p : Prop) : List AV → Prop
  | mk (h : p) : NilI p []
inductive OneI (k : AV → Prop) : List AV → Prop
  | mk (a) (h : k a) : OneI k [a]
inductive TwoI (k : AV → AV → Prop) : List AV → Prop
  | mk (a b) (h : k a b) : TwoI k [a, b]
theorem locL_some : ∀ {l : List (Option AV)} {i : Nat} {k : AV → Prop}, locL l i k → LocI l i k
  | [], _, _, h => h.elim
  | some v :: r, 0, k, h => ⟨v, rfl, h⟩
  | none :: r, 0, k, h => h.elim
  | o :: r, i + 1, k, h => let ⟨v, e, h⟩ := locL_some (l := r) (i := i) h; ⟨v, e, h⟩
theorem withO_some {α : Type} {o : Option α} {k : α → Prop} (h : withO o k) : WithI o k := by
  cases o with
  | none => exact h.elim
  | some a => exact ⟨a, rfl, h⟩
theorem br_some {t : Option Bool} {A B : Prop} (h : br t A B) : BrI t A B := by
  cases t with
  | none => exact h.elim
  | some b => exact ⟨b, rfl, by cases b <;> exact h⟩
theorem cellW_some {l : List (Option AV)} {i : Nat} {H : HM} {k : Addr → AV → Prop} (h : cellW l i H k) : CellI l i H k := by
  obtain ⟨_, e, ca, v, rfl, e2, h⟩ := locL_some h
  exact ⟨_, v, e, e2, h⟩
theorem onI_some {a : AV} {k : Int → Prop} (h : onI a k) : IntI k a := by
  cases a <;> first | exact False.elim h | exact ⟨_, h⟩
theorem onS_some {a : AV} {k : List Nat → Prop} (h : onS a k) : StrI k a := by
  cases a <;> first | exact False.elim h | exact ⟨_, h⟩
theorem iiW_some {a b : AV} {k : Int → Int → Prop} (h : iiW a b k) : IiA k a b := by
  cases a <;> first | exact False.elim h | (cases b <;> first | exact False.elim h | exact ⟨_, _, h⟩)
theorem nilW_some {args : List AV} {p : Prop} (h : nilW args p) : NilI p args := by
  cases args with
  | nil => exact ⟨h⟩
  | cons => exact False.elim h
theorem one_some {args : List AV} {k : AV → Prop} (h : one args k) : OneI k args := by
  cases args with
  | nil => exact False.elim h
  | cons a r => obtain ⟨h⟩ := nilW_some h; exact ⟨a, h⟩
theorem two_some {args : List AV} {k : AV → AV → Prop} (h : two args k) : TwoI k args := by
  cases args with
  | nil => exact False.elim h
  | cons a r => obtain ⟨b, h⟩ := one_some h; exact ⟨a, b, h⟩
end Mine
end
section
namespace Mine
structure Glo (K : Frag) (p : Program) (loose : List Str) (mg mb : Str → Option Value) (G : Heap) : Prop where
  kin : K.In G
  top : TopRead p loose mg mb G
  cls : ∀ C ∈ gcs, (plainGet K C "x" && hasDictIn K C && plainOver K C && (findIn K (.ref C) "__setattr__" == some (some (.builtin "object.__setattr__")))) = true ∧ ∀ x ∈ goodNames, findIn K (.ref C) x = some none
section
variable {prog : Program} {w : World} {K : Frag} {p : Program} {loose : List Str} {mg mb : Str → Option Value} {G : Heap}
variable {c : Cx} {L : Addr} {names : Nm} {P P' : PM} {σ : St} {H : HM} {h h' : Heap} {s s' : Shared} {E : Value → Shared → Prop}
theorem SInv.kin (g : Glo K p loose mg mb G) (I : SInv G c P H h) : K.In h := g.kin.keeps fun b o e => I.k _ _ (I.g _ _ e)
theorem SInv.top (g : Glo K p loose mg mb G) (I : SInv G c P H h) : TopRead p loose mg mb h := g.top.keeps fun b o e => I.k _ _ (I.g _ _ e)
noncomputable def allNews (h : Heap) (L : Addr) : List (Addr × Obj) := (List.range h.objs.size).filterMap fun a => if a = L then none else (h.get? a).map fun o => (a, o)
theorem mem_allNews {a : Addr} {o : Obj} (e : h.get? a = some o) (n : a ≠ L) : (a, o) ∈ allNews h L := by
  unfold allNews
  rw [List.mem_filterMap]
  refine ⟨a, List.mem_range.mpr (Heap.lt_size e), ?_⟩
  rw [if_neg n, e]; rfl
theorem of_allNews {q : Addr × Obj} (m : q ∈ allNews h L) : h.get? q.1 = some q.2 ∧ q.1 ≠ L := by
  unfold allNews at m
  obtain ⟨a, _, e⟩ := List.mem_filterMap.mp m
  by_cases z : a = L
  · rw [if_pos z] at e; cases e
  · rw [if_neg z] at e
    obtain ⟨o, e1, e2⟩ := Option.map_eq_some_iff.mp e
    subst e2; exact ⟨e1, z⟩
theorem empty_get (b : Addr) : (({} : Heap)).get? b = none := by
  unfold Heap.get?
  simp
theorem news0 : News {} L h (allNews h L) := fun q m => ⟨(of_allNews m).1, (of_allNews m).2, empty_get _⟩
theorem fr0 {m : Str → Option Value} (n : h.Ns L m) : Fr {} L h m := ⟨n, fun b o e => (by rw [empty_get] at e; cases e), Nat.zero_le _⟩
theorem but_of_news {l : List (Addr × Obj)} (N : News {} L h' l) (sub : ∀ q ∈ allNews h L, q ∈ l) : ∀ b o, b ≠ L → h.get? b = some o → h'.get? b = some o :=
  fun b o n e => (N _ (sub _ (mem_allNews e n))).1
theorem FInv.but (I : FInv G c L names P σ h) {m : Str → Option Value} (n : h'.Ns L m) (lr : LocR P names σ.loc m) (k : ∀ b o, b ≠ L → h.get? b = some o → h'.get? b = some o) : FInv G c L names P σ h' := by
  refine ⟨⟨I.s.g, fun b o e => k _ _ (fun z => ?_) (I.s.k b o e), fun q hq => ⟨?_, (I.s.ns q hq).2⟩, fun q hq => ⟨k _ _ (I.pin q hq) (I.s.pins q hq).1, (I.s.pins q hq).2⟩, I.s.np, fun a x e => ?_⟩, ⟨m, n, lr⟩, I.p, I.hl, I.pin, I.nsl⟩
  · rw [z, I.p] at e; cases e
  · obtain ⟨o, es, ep, a1, a2⟩ := (I.s.ns q hq).1
    exact ⟨o, es, ep, k _ _ (I.nsl q hq) a1, a2⟩
  · obtain ⟨o, a1, a2⟩ := I.s.led a x e
    exact ⟨o, k _ _ (fun z => by rw [z, I.hl] at e; cases e) a1, a2⟩
inductive PP (G : Heap) (c : Cx) (L : Addr) (names : Nm) (P : PM) (σ : St) (s : Shared) (Q : AV → Prop) (v : Value) (s' : Shared) : Prop
  | mk (P' : PM) (av : AV) (k : PLe P P') (J : FInv G c L names P' σ s'.heap) (r : Rest s s') (v : VR P' av v) (q : Q av)
theorem PP.same {Q : AV → Prop} {v : Value} {av : AV} {tk : Nat} (I : FInv G c L names P σ s.heap) (r : VR P av v) (q : Q av) : PP G c L names P σ s Q v { s with toks := tk } :=
  ⟨P, av, PLe.refl _, I, ⟨rfl, rfl, rfl⟩, r, q⟩
noncomputable def VRI (P : PM) (a : AV) (v : Value) : Prop := match a with
  | .int i => ∃ t, v = .int i t
  | .str l => ∃ t, v = .str ⟨l.toArray⟩ t ∧ l.length ≤ sizeLine
  | .bool b => v = .bool b
  | .none => v = .none
  | .ref a => v = .ref a
  | .glob a => v = a
  | _ => True
theorem VR.inv {a : AV} {v : Value} (r : VR P a v) : VRI P a v :=
  @VR.rec P (fun a v _ => VRI P a v) (fun _ _ _ => True) rfl (fun _ => rfl) (fun _ t => ⟨t, rfl⟩) (fun _ t h => ⟨t, rfl, h⟩) (fun _ => rfl) (fun _ => rfl)
    (fun _ _ _ _ _ _ _ _ => trivial) (fun _ _ _ _ _ _ _ _ => trivial) (fun _ _ _ _ _ _ _ _ _ => trivial) trivial (fun _ _ _ _ _ _ _ _ => trivial) a v r
theorem VR.int_inv {i : Int} {v : Value} (r : VR P (.int i) v) : ∃ t, v = .int i t := r.inv
theorem VR.str_inv {l : List Nat} {v : Value} (r : VR P (.str l) v) : ∃ t, v = .str ⟨l.toArray⟩ t ∧ l.length ≤ sizeLine := r.inv
theorem VR.bool_inv {b : Bool} {v : Value} (r : VR P (.bool b) v) : v = .bool b := r.inv
theorem VR.none_inv {v : Value} (r : VR P .none v) : v = .none := r.inv
theorem VR.ref_inv {a : Addr} {v : Value} (r : VR P (.ref a) v) : v = .ref a := r.inv
theorem VR.glob_inv {a : Value} {v : Value} (r : VR P (.glob a) v) : v = a := r.inv
inductive IsListA (P : PM) (h : Heap) (vs : List AV) (v : Value) : Prop
  | mk (l : Addr) (ws : Array Value) (e : v = .ref l) (hl : h.IsList l ws) (r : VRs P vs ws.toList) (z : vs.length ≤ sizeLine) (n : vs.length = ws.size)
inductive IsTupA (P : PM) (h : Heap) (vs : List AV) (v : Value) : Prop
  | mk (l : Addr) (ws : Array Value) (e : v = .ref l) (hl : IsTup h l ws) (r : VRs P vs ws.toList) (z : vs.length ≤ sizeLine) (n : vs.length = ws.size)
theorem VR.isList {vs : List AV} {v : Value} (k : ∀ b o, P b = some o → h.get? b = some o) (r : VR P (.lst vs) v) : IsListA P h vs v := by
  cases r with
  | lst _ ws n a e r z => exact ⟨a, ws, rfl, ⟨_, k _ _ e, rfl, n, rfl⟩, r, z, by rw [r.length]; simp⟩
theorem VR.isTup {vs : List AV} {v : Value} (k : ∀ b o, P b = some o → h.get? b = some o) (r : VR P (.tup vs) v) : IsTupA P h vs v := by
  cases r with
  | tup _ ws n a e r z => exact ⟨a, ws, rfl, ⟨_, k _ _ e, rfl, n, rfl⟩, r, z, by rw [r.length]; simp⟩
theorem PP.newList {Q : AV → Prop} {vs : List AV} {ws : Array Value} {n : Nat} {tk : Nat} {h' : Heap} {a : Addr} (I : FInv G c L names P σ s.heap) (k : Kp s.heap h') (e0 : s.heap.get? a = none) (e : h'.get? a = some (lo ws n))
    (r : VRs P vs ws.toList) (z : vs.length ≤ sizeLine) (q : Q (.lst vs)) : PP G c L names P σ s Q (.ref a) { s with heap := h', toks := tk } := by
  obtain ⟨I', k'⟩ := I.grow k e0 e
  exact ⟨_, .lst vs, k', I', ⟨rfl, rfl, rfl⟩, .lst vs ws n a (by simp [PM.set]) (r.mono k') z, q⟩
theorem size_none (h : Heap) : h.get? h.objs.size = none := by
  unfold Heap.get?
  simp
theorem Kp.push (h : Heap) (o : Obj) : Kp h (h.push o) := fun b x e => Heap.get?_push_of_some _ e
theorem big_div {b : Int} (a : Int) (hb : b.natAbs < 2 ^ 64) : Builtin.divisionGoesByPylong a b = false := by
  unfold Builtin.divisionGoesByPylong
  have : ¬ ((if (b == 0) = true then 0 else b.natAbs.log2 / 30 + 1) > 300) := by
    split
    · omega
    · rename_i hz
      have hnz : b.natAbs ≠ 0 := by simpa using hz
      have := (Nat.log2_lt hnz).mpr hb
      omega
  simp only [gt_iff_lt, Bool.and_eq_false_iff, decide_eq_false_iff_not]
  exact Or.inl this
theorem intBits_le {a : Int} {k : Nat} (h : a.natAbs < 2 ^ k) : Builtin.Int.intBits a ≤ k := by
  unfold Builtin.Int.intBits
  split
  · omega
  · rename_i hz
    have hnz : a.natAbs ≠ 0 := by
      intro z; apply hz; simp [Int.natAbs_eq_zero.mp z]
    have := (Nat.log2_lt hnz).mpr h
    omega
theorem cps_len (l : List Nat) : (⟨l.toArray⟩ : Str).length = l.length := by simp [Str.length]
theorem foldl_app (x : List Nat) : ∀ (k : Nat) (acc : Array Nat), (List.replicate k x.toArray).foldl (· ++ ·) acc = acc ++ ((List.replicate k x).flatten).toArray
  | 0, acc => by simp
  | k + 1, acc => by
    rw [List.replicate_succ, List.foldl_cons, foldl_app x k, List.replicate_succ, List.flatten_cons]
    simp
theorem txt_mul (x : List Nat) (n : Int) (h : x.length = 1) : Txt.mul ⟨x.toArray⟩ n = ⟨((List.replicate n.toNat x).flatten).toArray⟩ := by
  unfold Txt.mul
  split
  · rename_i z
    have : n.toNat = 0 := by omega
    rw [this]; rfl
  · rename_i z
    split
    · rename_i y
      have : n = 1 := by
        rw [cps_len, h] at y; simpa using y
      subst this; simp
    · rw [foldl_app]; simp
inductive AddI (Q : AV → Prop) : AV → AV → Prop
  | int (a b) : Q (.int (a + b)) → AddI Q (.int a) (.int b)
  | ib (a b) : Q (.int (a + if b = true then (1 : Int) else 0)) → AddI Q (.int a) (.bool b)
  | str (a b) : a.length + b.length ≤ sizeLine → Q (.str (a ++ b)) → AddI Q (.str a) (.str b)
  | lst (a b) : a.length + b.length ≤ sizeLine → Q (.lst (a ++ b)) → AddI Q (.lst a) (.lst b)
theorem addW_inv {a b : AV} {Q : AV → Prop} (H : addW a b Q) : AddI Q a b := by
  cases a <;> first | exact False.elim H | (cases b <;> first | exact False.elim H | exact .int _ _ H | exact .ib _ _ H | exact .str _ _ H.1 H.2 | exact .lst _ _ H.1 H.2)
inductive MulI (Q : AV → Prop) : AV → AV → Prop
  | int (a n) : IntMulOk a n → Q (.int (a * n)) → MulI Q (.int a) (.int n)
  | str (a n) : 0 ≤ n → n ≤ 1000 → a.length = 1 → Q (.str (List.replicate n.toNat a).flatten) → MulI Q (.str a) (.int n)
theorem mulW_inv {a b : AV} {Q : AV → Prop} (H : mulW a b Q) : MulI Q a b := by
  cases b <;> first | exact False.elim H | (cases a <;> first | exact False.elim H | exact .int _ _ H.1 H.2 | exact .str _ _ H.1 H.2.1 H.2.2.1 H.2.2.2)
inductive IiI (k : Int → Int → Prop) : Value → Value → Prop
  | mk (i j t t') : k i j → IiI k (.int i t) (.int j t')
theorem iiW_inv {a b : AV} {u v : Value} {k : Int → Int → Prop} (ra : VR P a u) (rb : VR P b v) (h : iiW a b k) : IiI k u v := by
  obtain ⟨i, j, h⟩ := iiW_some h
  obtain ⟨t, rfl⟩ := ra.int_inv; obtain ⟨t', rfl⟩ := rb.int_inv
  exact .mk _ _ _ _ h
set_option tactic.hygienic true in
theorem addW_sound {a b : AV} {u v : Value} {Q : AV → Prop} (I : FInv G c L names P σ s.heap) (ra : VR P a u) (rb : VR P b v) (H : addW a b Q) :
    wpAny (model prog w) c.A (binaryOp .Add u v) (PP G c L names P σ s Q) E s := by
  have z := addW_inv H
  clear H
  cases z with
  | int _ _ q => obtain ⟨t, rfl⟩ := ra.int_inv; obtain ⟨t', rfl⟩ := rb.int_inv; exact add_int (PP.same I (.int _ _) q)
  | ib _ _ q => obtain ⟨t, rfl⟩ := ra.int_inv; obtain rfl := rb.bool_inv; exact PySem.add_int_bool (PP.same I (.int _ _) q)
  | str x y n q =>
    obtain ⟨t, rfl, zx⟩ := ra.str_inv; obtain ⟨t', rfl, zy⟩ := rb.str_inv
    refine add_str (fun t' tk => ?_) (by rw [cps_len, cps_len]; exact n)
    refine PP.same I ?_ q
    have : ((⟨x.toArray⟩ : Str) ++ (⟨y.toArray⟩ : Str)) = ⟨(x ++ y).toArray⟩ := by
      apply congrArg Str.mk; simp
    rw [this]; exact .str _ _ (by simpa using n)
  | lst x y n q =>
    have H : x.length + y.length ≤ sizeLine ∧ Q (.lst (x ++ y)) := ⟨n, q⟩
    obtain ⟨l, ws, rfl, hl, r1, z1, n1⟩ := ra.isList I.s.k
    obtain ⟨l', ws', rfl, hl', r2, z2, n2⟩ := rb.isList I.s.k
    obtain ⟨m, hm, lr⟩ := I.f
    refine add_arrays (fr0 hm) news0 hl hl' (fun h' F N => ?_) (by omega)
    have k := but_of_news N (fun q hq => .tail _ hq)
    have I' := I.but F.ns lr k
    have hn := (N _ (.head _)).1
    obtain ⟨f1, f2, f3, f4, f5⟩ := I.free (size_none s.heap)
    have k' := PLe.set (P := P) (o := lo (ws.toList ++ ws'.toList).toArray 0) f1
    exact ⟨_, .lst _, k', I'.addP hn f1 f2 f3 f4 f5, ⟨rfl, rfl, rfl⟩, .lst _ (ws.toList ++ ws'.toList).toArray 0 _ (by simp [PM.set]) (by simpa using (r1.append r2).mono k') (by simpa using H.1), H.2⟩
set_option tactic.hygienic true in
theorem mulW_sound {a b : AV} {u v : Value} {Q : AV → Prop} (I : FInv G c L names P σ s.heap) (ra : VR P a u) (rb : VR P b v) (H : mulW a b Q) :
    wpAny (model prog w) c.A (binaryOp .Mult u v) (PP G c L names P σ s Q) E s := by
  have z := mulW_inv H
  clear H
  cases z with
  | int _ _ m q => obtain ⟨t', rfl⟩ := rb.int_inv; obtain ⟨t, rfl⟩ := ra.int_inv; exact mul_int (PP.same I (.int _ _) q) m
  | str x n h1 h2 h3 hq =>
    obtain ⟨t', rfl⟩ := rb.int_inv
    obtain ⟨t, rfl, zx⟩ := ra.str_inv
    refine SB.mul ⟨?_, ?_, ?_⟩ fun t' k => ?_
    · simp only [Bool.or_eq_false_iff, decide_eq_false_iff_not]; constructor <;> omega
    · intro z _; rw [cps_len, h3]
      have : (1 : Int) ≤ (2 ^ 63 - 1) / n := by
        rw [Int.le_ediv_iff_mul_le (by omega)]; omega
      omega
    · intro _ _
      rw [cps_len, h3]
      unfold Builtin.Str.tooLong
      have : n.toNat ≤ 1000 := by omega
      simp [sizeLine]; omega
    · refine PP.same I ?_ hq
      have : Txt.mul ⟨x.toArray⟩ n = ⟨((List.replicate n.toNat x).flatten).toArray⟩ := txt_mul x n h3
      rw [this]
      exact .str _ _ (by simp [h3, sizeLine]; omega)
theorem binW_sound {op : Operator} {a b : AV} {u v : Value} {Q : AV → Prop} (hh : c.A.handled = none) (I : FInv G c L names P σ s.heap) (ra : VR P a u) (rb : VR P b v) (H : binW op a b Q) :
    wpAny (model prog w) c.A (binaryOp op u v) (PP G c L names P σ s Q) E s := by
  have pp : ∀ {i : Int} {t : Tok} {tk : Nat}, Q (.int i) → PP G c L names P σ s Q (.int i t) { s with toks := tk } := fun q => PP.same I (.int _ _) q
  cases op <;> first | exact False.elim H | skip
  · exact addW_sound I ra rb H
  · cases iiW_inv ra rb H with | mk _ _ _ _ h => exact sub_int (pp h)
  · exact mulW_sound I ra rb H
  · cases iiW_inv ra rb H with | mk _ _ _ _ h => exact mod_int' h.1 (pp h.2)
  · cases iiW_inv ra rb H with | mk a n _ _ H =>
    refine pow_int H.1 ?_ (pp H.2.2.2)
    have := intBits_le (a := a) (k := 10) (by omega)
    have h1 := H.1; have h2 := H.2.1
    have : (Builtin.Int.intBits a : Int) * n ≤ 10 * 1000 := Int.mul_le_mul (by omega) h2 h1 (by omega)
    omega
  · cases iiW_inv ra rb H with | mk a n _ _ H =>
    refine lshift_int_or hh (fun z => absurd z (Int.not_lt.mpr H.1)) (fun _ => ?_) (fun _ => pp H.2.2.2)
    have := intBits_le H.2.2.1
    have := H.2.1
    omega
  · cases iiW_inv ra rb H with | mk _ _ _ _ h => exact rshift_int h.1 (pp h.2)
  · cases iiW_inv ra rb H with | mk _ _ _ _ h => exact or_int (pp h)
  · cases iiW_inv ra rb H with | mk _ _ _ _ h => exact and_int (pp h)
  · cases iiW_inv ra rb H with | mk _ _ _ _ h => exact floordiv_int h.1 (pp h.2.2) (.inl (big_div _ h.2.1))
end
end Mine
end
section
open PySem PySem.W PyProof.Rows PySem.Calls PyProof.V PySem.Spec PySem.SeqAt
namespace Mine
section
variable {prog : Program} {w : World} {K : Frag} {p : Program} {loose : List Str} {mg mb : Str → Option Value} {G : Heap}
variable {c : Cx} {L : Addr} {names : Nm} {P P' : PM} {σ : St} {H : HM} {h h' : Heap} {s s' : Shared} {E : Value → Shared → Prop}
theorem ints_cons {a : AV} {r : List AV} {ns : List Int} (e : ints? (a :: r) = some ns) : ∃ i l, a = .int i ∧ ints? r = some l ∧ ns = i :: l := by
  cases a <;> first | exact nos e | (obtain ⟨l, e1, rfl⟩ := Option.map_eq_some_iff.mp e; exact ⟨_, l, rfl, e1, rfl⟩)
set_option tactic.hygienic true in
theorem strs_cons {a : AV} {r : List AV} {ns : List (List Nat)} (e : strs? (a :: r) = some ns) : ∃ i l, a = .str i ∧ i.all (· < 1114112) = true ∧ strs? r = some l ∧ ns = i :: l := by
  cases a with
  | str i =>
    by_cases h : i.all (· < 1114112) = true
    · obtain ⟨l, e1, rfl⟩ := Option.map_eq_some_iff.mp ((if_pos h).symm.trans e); exact ⟨_, l, rfl, h, e1, rfl⟩
    · exact nos ((if_neg h).symm.trans e)
  | _ => exact nos e
theorem VRs.ints {vs ws} (r : VRs P vs ws) : ∀ {ns}, ints? vs = some ns → IntsAre ws ns :=
  VRs.ind (M := fun vs ws => ∀ {ns}, ints? vs = some ns → IntsAre ws ns) (fun e => (Option.some.inj e) ▸ .nil) (fun _ w _ ws x _ ih ns e => by
    obtain ⟨i, l, rfl, e1, rfl⟩ := ints_cons e
    obtain ⟨t, rfl⟩ := x.int_inv
    exact .cons _ _ (ih e1)) r
noncomputable def mkS (l : List Nat) : Str := ⟨l.toArray⟩
theorem mkS_inj {a b : List Nat} : mkS a = mkS b ↔ a = b := by
  constructor
  · intro e; have := congrArg (fun x : Str => x.cps.toList) e; simpa [mkS] using this
  · rintro rfl; rfl
theorem VRs.strs {vs ws} (r : VRs P vs ws) : ∀ {ns}, strs? vs = some ns → StrsAre ws (ns.map mkS) :=
  VRs.ind (M := fun vs ws => ∀ {ns}, strs? vs = some ns → StrsAre ws (ns.map mkS)) (fun e => (Option.some.inj e) ▸ .nil) (fun _ w _ ws x _ ih ns e => by
    obtain ⟨i, l, rfl, _, e1, rfl⟩ := strs_cons e
    obtain ⟨t, rfl, _⟩ := x.str_inv
    exact .cons _ _ (ih e1)) r
theorem readsAll_of_strs {h : Heap} {vs : List Value} {ns : List Str} (r : StrsAre vs ns) : ReadsAll h vs (ns.map PyData.str) [] := by
  induction r with
  | nil => exact .nil
  | cons k t r ih => exact ReadsAll.cons (Reads.str (h := h) k t) ih
theorem VRs.strs2 {y z : List Nat} {ws} (r : VRs P [.str y, .str z] ws) : StrsAre ws ([y, z].map mkS) := by
  cases r with
  | cons _ _ _ _ a b => cases b with
    | cons _ _ _ _ a' b' => cases b' with
      | nil =>
        obtain ⟨_, rfl, _⟩ := a.str_inv; obtain ⟨_, rfl, _⟩ := a'.str_inv
        exact .cons _ _ (.cons _ _ .nil)
theorem strs_ok : ∀ {vs : List AV} {ns}, strs? vs = some ns → ∀ x ∈ ns.map mkS, PyData.strOk x = true
  | [], ns, e => by cases e; intro x m; cases m
  | a :: r, ns, e => by
    obtain ⟨i, l, rfl, ha, e1, rfl⟩ := strs_cons e
    intro x hx
    rcases List.mem_cons.mp hx with rfl | hx
    · simpa [PyData.strOk, mkS] using ha
    · exact strs_ok e1 x hx
theorem shaped_strs (ns : List Str) (ok : ∀ x ∈ ns, PyData.strOk x = true) : shaped (.list (ns.map PyData.str)) = true := by
  have h1 : ∀ ns : List Str, PyData.depthAll (ns.map PyData.str) ≤ 1 := fun ns => by
    induction ns with
    | nil => simp [PyData.depthAll]
    | cons n r ih => simp only [List.map_cons, PyData.depthAll, PyData.depth]; omega
  have h3 : ∀ ns : List Str, (∀ x ∈ ns, PyData.strOk x = true) → PyData.canLayAll0 (ns.map PyData.str) = true := fun ns => by
    induction ns with
    | nil => intro _; simp [PyData.canLayAll0]
    | cons n r ih => intro ok; simp [PyData.canLayAll0, PyData.canLay0, ih (fun x hx => ok x (.tail _ hx)), ok n (.head _)]
  have h2 : PyData.depth (.list (ns.map PyData.str)) ≤ 64 := by simp only [PyData.depth]; have := h1 ns; omega
  show (PyData.canLay0 (.list (ns.map PyData.str)) && decide (PyData.depth (.list (ns.map PyData.str)) ≤ 64)) = true
  rw [Bool.and_eq_true]
  exact ⟨by simp only [PyData.canLay0]; exact h3 ns ok, decide_eq_true h2⟩
theorem noMix_strs : ∀ ns ms : List Str, noMixAll (ns.map PyData.str) (ms.map PyData.str) = true
  | [], [] => by simp [noMixAll]
  | [], _ :: _ => by simp [noMixAll]
  | _ :: _, [] => by simp [noMixAll]
  | _ :: r, _ :: q => by simp [noMixAll, noMix, noMix_strs r q]
theorem same_strs : ∀ ns ms : List Str, PySem.Spec.sameAll (ns.map PyData.str) (ms.map PyData.str) = decide (ns = ms)
  | [], [] => by simp [PySem.Spec.sameAll]
  | [], _ :: _ => by simp [PySem.Spec.sameAll]
  | _ :: _, [] => by simp [PySem.Spec.sameAll]
  | n :: r, k :: q => by
    simp only [List.map_cons, PySem.Spec.sameAll, PySem.Spec.same, same_strs r q]
    by_cases h : n = k <;> simp [h]
theorem str_beq (a b : List Nat) : ((mkS a) == (mkS b)) = decide (a = b) := by
  by_cases e : a = b
  · subst e; simp
  · have : mkS a ≠ mkS b := fun z => e (mkS_inj.mp z)
    rw [beq_eq_false_iff_ne.mpr this]; exact (decide_eq_false e).symm
theorem int_beq (a b : Int) : (a == b) = decide (a = b) := by by_cases h : a = b <;> simp [h]
theorem bool_beq (a b : Bool) : (a == b) = decide (a = b) := by by_cases h : a = b <;> simp [h]
set_option tactic.hygienic true in
theorem eqL_sound {x y : List AV} {u v : Value} {t : Bool} {Q : Value → Shared → Prop} {op : CmpOp} {f : Bool → Bool} (ho : (op = .Eq ∧ f = id) ∨ (op = .NotEq ∧ f = not)) (hu : c.A.units + 64 < cLine) (k : ∀ b o, P b = some o → s.heap.get? b = some o) (ra : VR P (.lst x) u) (rb : VR P (.lst y) v)
    (e : eqL x y = some t) (h : Q (.bool (f t)) s) : wpAny (model prog w) c.A (compareOp op u v) Q E s := by
  obtain ⟨l, ws, rfl, hl, r1, z1, n1⟩ := ra.isList k
  obtain ⟨l', ws', rfl, hl', r2, z2, n2⟩ := rb.isList k
  unfold eqL at e
  split at e
  · rename_i n m e1 e2
    cases e
    rcases ho with ⟨rfl, rfl⟩ | ⟨rfl, rfl⟩
    · exact eq_intsK (vs := ws.toList) (us := ws'.toList) (by simpa using hl) (r1.ints e1) (by simpa using hl') (r2.ints e2) hu h
    · exact ne_intsK (vs := ws.toList) (us := ws'.toList) (by simpa using hl) (r1.ints e1) (by simpa using hl') (r2.ints e2) hu h
  · split at e
    · rename_i n m e1 e2
      cases e
      obtain ⟨o, ho1, hc, n0, hd⟩ := hl
      obtain ⟨o', ho', hc', n0', hd'⟩ := hl'
      have this : (decide (n.map mkS = m.map mkS)) = decide (n = m) :=
        decide_eq_decide.mpr ⟨fun z => (List.map_inj_right (fun _ _ q => mkS_inj.mp q)).mp z, fun z => by rw [z]⟩
      have R1 := Reads.list ho1 hc hd (readsAll_of_strs (r1.strs e1))
      have R2 := Reads.list ho' hc' hd' (readsAll_of_strs (r2.strs e2))
      have hn : noMix (.list ((n.map mkS).map PyData.str)) (.list ((m.map mkS).map PyData.str)) = true := by simp only [noMix]; exact noMix_strs _ _
      have hq : PySem.Spec.same (.list ((n.map mkS).map PyData.str)) (.list ((m.map mkS).map PyData.str)) = decide (n = m) := by simp only [PySem.Spec.same]; rw [same_strs]; exact this
      rcases ho with ⟨rfl, rfl⟩ | ⟨rfl, rfl⟩
      · exact eq_dataH_same R1 R2 (shaped_strs _ (strs_ok e1)) (shaped_strs _ (strs_ok e2)) hu hn (by rw [hq]; exact h)
      · exact ne_dataH_same R1 R2 (shaped_strs _ (strs_ok e1)) (shaped_strs _ (strs_ok e2)) hu hn (by rw [hq]; exact h)
    · cases e
inductive EqI : AV → AV → Bool → Prop
  | int (i j) : EqI (.int i) (.int j) (decide (i = j))
  | str (i j) : EqI (.str i) (.str j) (decide (i = j))
  | bool (i j) : EqI (.bool i) (.bool j) (decide (i = j))
  | none : EqI .none .none true
  | lst (x y t) : eqL x y = some t → EqI (.lst x) (.lst y) t
theorem eqA_inv {a b : AV} {t : Bool} (e : eqA a b = some t) : EqI a b t := by
  cases a <;> first | exact nos e | (cases b <;> first | exact nos e | exact (Option.some.inj e) ▸ .int _ _ | exact (Option.some.inj e) ▸ .str _ _ | exact (Option.some.inj e) ▸ .bool _ _ | exact (Option.some.inj e) ▸ .none | exact .lst _ _ _ e)
theorem eqA_sound {a b : AV} {u v : Value} {t : Bool} {Q : Value → Shared → Prop} (hu : c.A.units + 64 < cLine) (k : ∀ b o, P b = some o → s.heap.get? b = some o) (ra : VR P a u) (rb : VR P b v) (e : eqA a b = some t)
    (h : Q (.bool t) s) : wpAny (model prog w) c.A (compareOp .Eq u v) Q E s := by
  have z := eqA_inv e
  clear e
  cases z with
  | int => obtain ⟨_, rfl⟩ := ra.int_inv; obtain ⟨_, rfl⟩ := rb.int_inv; exact eq_int (by rw [int_beq]; exact h)
  | str => obtain ⟨_, rfl, _⟩ := ra.str_inv; obtain ⟨_, rfl, _⟩ := rb.str_inv; exact eq_str (by rw [← str_beq] at h; exact h)
  | bool => obtain rfl := ra.bool_inv; obtain rfl := rb.bool_inv; exact eq_bool (by rw [bool_beq]; exact h)
  | none => obtain rfl := ra.none_inv; obtain rfl := rb.none_inv; exact PySem.EqNone.eq_none_none h
  | lst _ _ _ e => exact eqL_sound (f := id) (.inl ⟨rfl, rfl⟩) hu k ra rb e h
theorem neA_sound {a b : AV} {u v : Value} {t : Bool} {Q : Value → Shared → Prop} (hu : c.A.units + 64 < cLine) (k : ∀ b o, P b = some o → s.heap.get? b = some o) (ra : VR P a u) (rb : VR P b v) (e : eqA a b = some t)
    (h : Q (.bool (!t)) s) : wpAny (model prog w) c.A (compareOp .NotEq u v) Q E s := by
  have z := eqA_inv e
  clear e
  cases z with
  | int => obtain ⟨_, rfl⟩ := ra.int_inv; obtain ⟨_, rfl⟩ := rb.int_inv; exact ne_int (by rw [show ∀ a b : Int, (a != b) = !decide (a = b) from fun a b => congrArg not (int_beq a b)]; exact h)
  | str => obtain ⟨_, rfl, _⟩ := ra.str_inv; obtain ⟨_, rfl, _⟩ := rb.str_inv; exact ne_str (by rw [← str_beq] at h; exact h)
  | bool => obtain rfl := ra.bool_inv; obtain rfl := rb.bool_inv; exact ne_bool (by rw [show ∀ a b : Bool, (a != b) = !decide (a = b) from fun a b => congrArg not (bool_beq a b)]; exact h)
  | none => obtain rfl := ra.none_inv; obtain rfl := rb.none_inv; exact PySem.EqNone.ne_none_none h
  | lst _ _ _ e => exact eqL_sound (f := not) (.inr ⟨rfl, rfl⟩) hu k ra rb e h
theorem in_one (a : Nat) (b : List Nat) : (!(Builtin.Str.occurrences (mkS b) (mkS [a]) 0 (mkS b).length 1).isEmpty) = decide (a ∈ b) := by
  have := PySem.StrLaws.found_one (mkS b) a
  have e : (mkS b).cps.toList = b := by simp [mkS]
  rw [e] at this
  exact this
inductive OrdI (f : Int → Int → Bool) : Value → Value → Bool → Prop
  | mk (i j ti tj) : OrdI f (.int i ti) (.int j tj) (f i j)
theorem ordA_inv {f : Int → Int → Bool} {a b : AV} {t : Bool} (e : ordA f a b = some t) : ∃ i j, a = .int i ∧ b = .int j ∧ t = f i j := by
  cases a <;> first | exact nos e | (cases b <;> first | exact nos e | exact ⟨_, _, rfl, rfl, (Option.some.inj e).symm⟩)
theorem ordA_some {f : Int → Int → Bool} {a b : AV} {u v : Value} {t : Bool} (ra : VR P a u) (rb : VR P b v) (e : ordA f a b = some t) : OrdI f u v t := by
  obtain ⟨_, _, rfl, rfl, rfl⟩ := ordA_inv e
  obtain ⟨_, rfl⟩ := ra.int_inv; obtain ⟨_, rfl⟩ := rb.int_inv
  exact .mk _ _ _ _
inductive NaI : Value → Value → Bool → Prop
  | none : NaI .none .none true
  | int (i k) : NaI (.int i k) .none false
  | str (i k) : NaI (.str i k) .none false
  | ref (l) : NaI (.ref l) .none false
theorem isNA_some1 {a : AV} {u v : Value} {t : Bool} (ra : VR P a u) (rb : VR P .none v) (e : isNA a .none = some t) : NaI u v t := by
  obtain rfl := rb.none_inv
  cases ra <;> first | exact nos e | exact (Option.some.inj e) ▸ .none | exact (Option.some.inj e) ▸ .int _ _ | exact (Option.some.inj e) ▸ .str _ _ | exact (Option.some.inj e) ▸ .ref _
theorem isNA_b {a b : AV} {t : Bool} (e : isNA a b = some t) : b = .none := by
  cases b <;> first | rfl | exact nos e
theorem isNA_some {a b : AV} {u v : Value} {t : Bool} (ra : VR P a u) (rb : VR P b v) (e : isNA a b = some t) : NaI u v t := by
  obtain rfl := isNA_b e
  exact isNA_some1 ra rb e
theorem any2 (x y z : List Nat) : ([y, z].map mkS).any (fun q => q == mkS x) = decide (x = y ∨ x = z) := by
  simp only [List.map_cons, List.map_nil, List.any_cons, List.any_nil, Bool.or_false, str_beq]
  rw [show decide (y = x) = decide (x = y) from decide_eq_decide.mpr eq_comm, show decide (z = x) = decide (x = z) from decide_eq_decide.mpr eq_comm]
  exact (Bool.decide_or _ _).symm
inductive InI : AV → AV → Bool → Prop
  | str (x y) : InI (.str [x]) (.str y) (decide (x ∈ y))
  | tup (x y z) : InI (.str x) (.tup [.str y, .str z]) (decide (x = y ∨ x = z))
theorem inA_str {x : List Nat} {y : List Nat} {t : Bool} (e : inA (.str x) (.str y) = some t) : InI (.str x) (.str y) t := by
  cases x with
  | nil => exact nos e
  | cons x r => cases r with
    | nil => exact (Option.some.inj e) ▸ .str _ _
    | cons _ _ => exact nos e
theorem inA_tup {x : List Nat} {y : List AV} {t : Bool} (e : inA (.str x) (.tup y) = some t) : InI (.str x) (.tup y) t := by
  cases y with
  | nil => exact nos e
  | cons y r =>
    cases y <;> first | exact nos e | skip
    cases r with
    | nil => exact nos e
    | cons z r =>
      cases z <;> first | exact nos e | skip
      cases r with
      | nil => exact (Option.some.inj e) ▸ .tup _ _ _
      | cons _ _ => exact nos e
theorem inA_inv {a b : AV} {t : Bool} (e : inA a b = some t) : InI a b t := by
  cases a <;> first | exact nos e | (cases b <;> first | exact nos e | exact inA_str e | exact inA_tup e)
set_option tactic.hygienic true in
theorem inA_sound {a b : AV} {u v : Value} {t : Bool} {Q : Value → Shared → Prop} {op : CmpOp} {f : Bool → Bool} (ho : (op = .In ∧ f = id) ∨ (op = .NotIn ∧ f = not)) (k : ∀ b o, P b = some o → s.heap.get? b = some o) (ra : VR P a u) (rb : VR P b v) (e : inA a b = some t)
    (h : Q (.bool (f t)) s) : wpAny (model prog w) c.A (compareOp op u v) Q E s := by
  have z := inA_inv e
  clear e
  cases z with
  | str x y =>
    obtain ⟨_, rfl, _⟩ := ra.str_inv
    obtain ⟨_, rfl, _⟩ := rb.str_inv
    have ei := in_one x y
    simp only [mkS] at ei
    rcases ho with ⟨rfl, rfl⟩ | ⟨rfl, rfl⟩
    · exact in_str (by rw [ei]; exact h)
    · exact notIn_str (by rw [ei]; exact h)
  | tup x y z =>
    obtain ⟨_, rfl, _⟩ := ra.str_inv
    obtain ⟨l, ws, rfl, hl, r1, z1, n1⟩ := rb.isTup k
    have this := any2 x y z
    have e3 : (⟨x.toArray⟩ : Str) = mkS x := rfl
    rcases ho with ⟨rfl, rfl⟩ | ⟨rfl, rfl⟩
    · exact in_tuple_strs hl r1.strs2 (by rw [e3, this]; exact h)
    · exact notin_tuple_strs hl r1.strs2 (by rw [e3, this]; exact h)
theorem cmpA_sound {op : CmpOp} {a b : AV} {u v : Value} {t : Bool} {Q : Value → Shared → Prop} (hu : c.A.units + 64 < cLine) (k : ∀ b o, P b = some o → s.heap.get? b = some o) (ra : VR P a u) (rb : VR P b v) (e : cmpA op a b = some t)
    (h : Q (.bool t) s) : wpAny (model prog w) c.A (compareOp op u v) Q E s := by
  cases op with
  | Eq => exact eqA_sound hu k ra rb e h
  | NotEq => obtain ⟨x, e1, rfl⟩ := Option.map_eq_some_iff.mp e; exact neA_sound hu k ra rb e1 h
  | Lt => cases ordA_some ra rb e; exact lt_int h
  | LtE => cases ordA_some ra rb e; exact le_int h
  | Gt => cases ordA_some ra rb e; exact gt_int h
  | GtE => cases ordA_some ra rb e; exact ge_int h
  | Is => cases isNA_some ra rb e <;> exact wpAny_is_plain rfl h
  | IsNot =>
    obtain ⟨x, e1, rfl⟩ := Option.map_eq_some_iff.mp e
    cases isNA_some ra rb e1 <;> exact wpAny_isNot_plain rfl h
  | In => exact inA_sound (f := id) (.inl ⟨rfl, rfl⟩) k ra rb e h
  | NotIn =>
    obtain ⟨x, e1, rfl⟩ := Option.map_eq_some_iff.mp e
    exact inA_sound (f := not) (.inr ⟨rfl, rfl⟩) k ra rb e1 h
theorem sl_small {n : Nat} (z : n ≤ sizeLine) : (n : Int) < 2 ^ 63 := by
  unfold sizeLine at z; omega
inductive TrI : AV → Bool → Prop
  | bool (b) : TrI (.bool b) b
  | int (i) : TrI (.int i) (!decide (i = 0))
  | str (l) : TrI (.str l) (!l.isEmpty)
  | none : TrI .none false
  | lst (vs) : TrI (.lst vs) (!vs.isEmpty)
theorem truthA_inv {a : AV} {t : Bool} (e : truthA a = some t) : TrI a t := by
  cases a <;> first | exact nos e | exact (Option.some.inj e) ▸ .bool _ | exact (Option.some.inj e) ▸ .int _ | exact (Option.some.inj e) ▸ .str _ | exact (Option.some.inj e) ▸ .none | exact (Option.some.inj e) ▸ .lst _
set_option tactic.hygienic true in
theorem truthA_sound {a : AV} {u : Value} {t : Bool} {Q : Bool → Shared → Prop} (k : ∀ b o, P b = some o → s.heap.get? b = some o) (ra : VR P a u) (e : truthA a = some t)
    (h : ∀ tk, Q t { s with toks := tk }) : wpAny (model prog w) c.A (truthy u) Q E s := by
  have z := truthA_inv e
  clear e
  cases z with
  | bool => obtain rfl := ra.bool_inv; exact wpAny_truthy_bool (h s.toks)
  | int =>
    obtain ⟨_, rfl⟩ := ra.int_inv
    exact truthy_int (by rw [show ∀ a b : Int, (a != b) = !decide (a = b) from fun a b => congrArg not (int_beq a b)]; exact h s.toks)
  | str l =>
    obtain ⟨_, rfl, z⟩ := ra.str_inv
    refine PySem.P.truthy_str (by rw [cps_len]; have := sl_small z; omega) ?_
    have : (((⟨l.toArray⟩ : Str).length : Int) != 0) = !l.isEmpty := by
      rw [cps_len]; cases l <;> simp <;> omega
    rw [this]; exact h _
  | none => obtain rfl := ra.none_inv; exact truthy_none (h s.toks)
  | lst vs =>
    obtain ⟨l, ws, rfl, hl, r1, z1, n1⟩ := ra.isList k
    refine wpAny_truthy_list hl (by rw [← n1]; exact sl_small z1) ?_
    have : (!ws.isEmpty) = !vs.isEmpty := by
      cases vs with
      | nil => simp at n1; simp [Array.isEmpty, ← n1]
      | cons x r => simp at n1; simp [Array.isEmpty, ← n1]
    rw [this]; exact h _
end
end Mine
end
section
open PySem PySem.W PyProof.Rows PySem.Calls PyProof.V PySem.Spec PySem.SeqAt
namespace Mine
section
variable {prog : Program} {w : World} {K : Frag} {p : Program} {loose : List Str} {mg mb : Str → Option Value} {G : Heap}
variable {c : Cx} {L : Addr} {names : Nm} {P P' : PM} {σ : St} {H : HM} {h h' : Heap} {s s' : Shared} {E : Value → Shared → Prop}
noncomputable def PH (G : Heap) (c : Cx) (L : Addr) (names : Nm) (P : PM) (σ : St) (s : Shared) (Q : AV → HM → Prop) (v : Value) (s' : Shared) : Prop :=
  ∃ P' H' av, PLe P P' ∧ FInv G c L names P' ⟨σ.loc, H'⟩ s'.heap ∧ Rest s s' ∧ VR P' av v ∧ Q av H'
inductive ListA (P : PM) (h : Heap) (a : Addr) (vs : List AV) : Prop
  | mk (ws : Array Value) (n : Nat) (e : h.get? a = some (lo ws n)) (r : VRs P vs ws.toList) (z : vs.length ≤ sizeLine) (l : vs.length = ws.size)
theorem FInv.listAt {a : Addr} {vs : List AV} (I : FInv G c L names P σ h) (e : σ.H a = some (.list vs)) : ListA P h a vs := by
  obtain ⟨o, a1, ⟨ws, n, rfl, r, z⟩, _⟩ := I.at e
  exact ⟨ws, n, a1, r, z, by rw [r.length]; simp⟩
theorem update_other' (h : Heap) (f : Obj → Obj) {a b : Addr} (n : b ≠ a) : (h.update a f).get? b = h.get? b := Heap.get?_update_other h f (Ne.symm n)
theorem FInv.updList {a : Addr} {vs vs' : List AV} {f : Array Value → Array Value} {ws : Array Value} {n : Nat} (I : FInv G c L names P σ h) (e : σ.H a = some (.list vs)) (e1 : h.get? a = some (lo ws n))
    (r : VRs P vs' (f ws).toList) (z : vs'.length ≤ sizeLine) : FInv G c L names P ⟨σ.loc, σ.H.set a (.list vs')⟩ (h.update a (Obj.mapSeq f)) := by
  obtain ⟨o, a1, _, a3, a4, a5, a6⟩ := I.at e
  rw [e1] at a1
  have e2 := Heap.get?_update_self (Obj.mapSeq f) e1 (by rfl)
  exact I.setH (fun b y nb z => by rw [update_other' _ _ nb]; exact z) e2 ⟨f ws, _, rfl, r, z⟩ a3 a4 a5 a6
theorem pyIdx_seq (n : Nat) (i : Int) : pyIdx n i = seqIndex? i n := by
  unfold pyIdx seqIndex?
  by_cases h : i < 0
  · simp only [h, if_true, if_neg (by omega : ¬ 0 ≤ i)]
    by_cases z : 0 ≤ i + n
    · rw [if_pos z, if_pos (by simp; omega)]
    · rw [if_neg z, if_neg (by simp; omega)]
  · simp only [h, if_false, if_pos (by omega : 0 ≤ i)]
    by_cases z : i < n
    · rw [if_pos z, if_pos (by simp; omega)]
    · rw [if_neg z, if_neg (by simp; omega)]
theorem pyIdx_some {n : Nat} {i : Int} {k : Nat} (e : pyIdx n i = some k) : (0 ≤ i ∧ i < n ∧ k = i.toNat) ∨ (i < 0 ∧ 0 ≤ i + n ∧ k = (i + n).toNat) := by
  unfold pyIdx at e
  split at e
  · split at e
    · cases e; exact .inl ⟨by assumption, by assumption, rfl⟩
    · cases e
  · split at e
    · cases e; exact .inr ⟨by omega, by assumption, rfl⟩
    · cases e
theorem listItem {l : Addr} {ws : Array Value} {i : Int} {t : Tok} {k : Nat} {x : Value} {Q : Value → Shared → Prop} (hl : s.heap.IsList l ws) (z : ws.size ≤ sizeLine) (e : pyIdx ws.size i = some k) (hx : ws[k]? = some x) (h : Q x s) :
    wpAny (model prog w) c.A (getItem (.ref l) (.int i t)) Q E s := by
  have := sl_small z
  rcases pyIdx_some e with ⟨a1, a2, rfl⟩ | ⟨a1, a2, rfl⟩
  · exact wpAny_getItem_list hl a1 (by omega) hx h
  · exact wpAny_getItem_list_neg hl a1 (by omega) (by omega) hx h
inductive SubI (H : HM) (Q : AV → Prop) : AV → AV → Prop
  | lst (vs i k v) : pyIdx vs.length i = some k → vs[k]? = some v → Q v → SubI H Q (.lst vs) (.int i)
  | tup (vs i v) : 0 ≤ i → i < 2 ^ 62 → vs[i.toNat]? = some v → Q v → SubI H Q (.tup vs) (.int i)
  | ref (a i vs k v) : H a = some (.list vs) → pyIdx vs.length i = some k → vs[k]? = some v → Q v → SubI H Q (.ref a) (.int i)
  | str (l i c) : 0 ≤ i → i < 2 ^ 62 → l[i.toNat]? = some c → Q (.str [c]) → SubI H Q (.str l) (.int i)
theorem subW_inv {o i : AV} {h : HM} {Q : AV → Prop} (H : subW o i h Q) : SubI h Q o i := by
  cases i <;> first | exact False.elim H | skip
  cases o <;> first | exact False.elim H | (obtain ⟨_, _, a, b, c⟩ := H; exact .lst _ _ _ _ a b c) | (obtain ⟨_, _, _, e, a, b, c⟩ := H; exact .ref _ _ _ _ _ e a b c) | (obtain ⟨_, e, a, b, c⟩ := H; exact .tup _ _ _ e a b c) | (obtain ⟨_, e, a, b, c⟩ := H; exact .str _ _ _ e a b c)
set_option tactic.hygienic true in
theorem subW_sound {o i : AV} {u v : Value} {Q : AV → Prop} (I : FInv G c L names P σ s.heap) (ra : VR P o u) (rb : VR P i v) (H : subW o i σ.H Q) :
    wpAny (model prog w) c.A (getItem u v) (PP G c L names P σ s Q) E s := by
  have z := subW_inv H
  clear H
  cases z with
  | lst vs i k x e1 e2 q =>
    obtain ⟨t', rfl⟩ := rb.int_inv
    obtain ⟨l, ws, rfl, hl, r1, z1, n1⟩ := ra.isList I.s.k
    obtain ⟨y, e3, r⟩ := r1.get e2
    exact listItem hl (n1 ▸ z1) (n1 ▸ e1) (by simpa using e3) (PP.same (tk := s.toks) I r q)
  | tup vs i x h0 h1 e2 q =>
    obtain ⟨t', rfl⟩ := rb.int_inv
    obtain ⟨l, ws, rfl, hl, r1, z1, n1⟩ := ra.isTup I.s.k
    obtain ⟨y, e3, r⟩ := r1.get e2
    have : i.toNat < ws.size := by
      have := (List.getElem?_eq_some_iff.mp e2).1; omega
    refine getItem_tuple hl (by omega) (by omega) ?_ (by simpa using e3) (PP.same (tk := s.toks) I r q)
    rw [← pyIdx_seq]; unfold pyIdx; rw [if_pos h0, if_pos (by omega)]
  | ref a i vs k x e0 e1 e2 q =>
    obtain ⟨t', rfl⟩ := rb.int_inv
    obtain rfl := ra.ref_inv
    obtain ⟨ws, n, a1, r1, z1, n1⟩ := I.listAt e0
    obtain ⟨y, e3, r⟩ := r1.get e2
    exact listItem ⟨_, a1, rfl, n, rfl⟩ (n1 ▸ z1) (n1 ▸ e1) (by simpa using e3) (PP.same (tk := s.toks) I r q)
  | str l i k h0 h1 e2 q =>
    obtain ⟨t', rfl⟩ := rb.int_inv
    obtain ⟨t, rfl, zx⟩ := ra.str_inv
    have hk : i.toNat < l.length := (List.getElem?_eq_some_iff.mp e2).1
    refine getItem_str (c := k) (by simp only [Bool.or_eq_false_iff, decide_eq_false_iff_not]; constructor <;> omega) ?_ (PP.same I (.str [k] _ (by simp [sizeLine])) q)
    rw [← pyIdx_seq]; unfold pyIdx; rw [if_pos h0, if_pos (by rw [cps_len]; omega)]
    simpa using e2
theorem fm_range {α : Type} (l : List α) (a n : Nat) : (List.range n).filterMap (fun k => l[a + k]?) = (l.drop a).take n := by
  induction n with
  | zero => simp
  | succ n ih =>
    rw [List.range_succ, List.filterMap_append, ih, List.take_add_one]
    congr 1
    simp only [List.filterMap_cons, List.filterMap_nil, List.getElem?_drop]
    cases l[a + n]? <;> simp
theorem clampI_max (n : Nat) (i : Int) : max 0 (min (if i < 0 then i + n else i) (n : Int)) = (clampI n i : Int) := by
  unfold clampI
  by_cases h : i < 0
  · rw [if_pos h, if_pos h, Int.min_eq_left (Int.add_le_of_le_sub_right ((Int.sub_self (n : Int)).symm ▸ Int.le_of_lt h)), Int.max_comm]
    exact (Int.ofNat_toNat _).symm
  · rw [if_neg h, if_neg h]
    obtain ⟨k, rfl⟩ := Int.eq_ofNat_of_zero_le (Int.not_lt.mp h)
    rw [Int.toNat_natCast, show min (k : Int) n = ((min k n : Nat) : Int) by omega]
    exact Int.max_eq_right (Int.natCast_nonneg _)
theorem clampI_le (n : Nat) (i : Int) : clampI n i ≤ n :=
  Int.ofNat_le.mp (clampI_max n i ▸ Int.max_le.mpr ⟨Int.natCast_nonneg n, Int.min_le_right _ _⟩)
theorem sliceRange_eq (n : Nat) (lo hi : Option Int) :
    sliceRange (sliceBounds lo hi none n).1 (sliceBounds lo hi none n).2.1 (sliceBounds lo hi none n).2.2 = (List.range (hiI n hi - loI n lo)).map (fun k => loI n lo + k) := by
  have cl : ∀ i : Int, max 0 (min (if i < 0 then i + n else i) (n : Int)) = (clampI n i : Int) := clampI_max n
  have e1 : (sliceBounds lo hi none n).1 = (loI n lo : Int) := by
    cases lo <;> simp [sliceBounds, cl, loI]
  have e2 : (sliceBounds lo hi none n).2.1 = (hiI n hi : Int) := by
    cases hi <;> simp [sliceBounds, cl, hiI]
  have e3 : (sliceBounds lo hi none n).2.2 = 1 := by simp [sliceBounds]
  rw [e1, e2, e3]
  generalize loI n lo = a
  generalize hiI n hi = b
  unfold sliceRange
  simp only [gt_iff_lt, Int.zero_lt_one, if_true]
  have : (if (a : Int) < b then ((b : Int) - a + 1 - 1) / 1 else 0).toNat = b - a := by
    rw [Int.add_sub_cancel, Int.ediv_one]
    split
    · exact Int.toNat_sub b a
    · exact (Nat.sub_eq_zero_of_le (Int.ofNat_le.mp (Int.not_lt.mp ‹_›))).symm
  rw [this]
  apply List.map_congr_left
  intro k _
  rw [Int.one_mul]; exact Int.toNat_natCast (a + k)
theorem strSlice_eq {α : Type} (l : List α) (lo hi : Option Int) :
    (sliceRange (sliceBounds lo hi none l.length).1 (sliceBounds lo hi none l.length).2.1 (sliceBounds lo hi none l.length).2.2).filterMap (fun k => l[k]?) = pySlice l lo hi := by
  rw [sliceRange_eq, List.filterMap_map]
  unfold pySlice
  rw [← fm_range]
  rfl
theorem pySlice_full {α : Type} (l : List α) (lo hi : Option Int) (h : (sliceRange (sliceBounds lo hi none l.length).1 (sliceBounds lo hi none l.length).2.1 (sliceBounds lo hi none l.length).2.2).length = l.length) : pySlice l lo hi = l := by
  rw [sliceRange_eq] at h
  simp only [List.length_map, List.length_range] at h
  unfold pySlice
  have hb : hiI l.length hi ≤ l.length := by
    cases hi with
    | none => exact Nat.le_refl _
    | some i => exact clampI_le _ _
  by_cases z : l.length = 0
  · have : l = [] := List.length_eq_zero_iff.mp z
    subst this; simp
  · have e1 : loI l.length lo = 0 := by omega
    have e2 : hiI l.length hi = l.length := by omega
    rw [e1, e2]; simp
theorem slicePick_eq (ws : Array Value) (lo hi : Option Int) : slicePick ws lo hi none = (pySlice ws.toList lo hi).toArray := by
  unfold slicePick
  rw [← strSlice_eq]
  simp
theorem VRs.slice {vs : List AV} {ws : List Value} (r : VRs P vs ws) (lo hi : Option Int) : VRs P (pySlice vs lo hi) (pySlice ws lo hi) := by
  have dr : ∀ n {vs ws}, VRs P vs ws → VRs P (vs.drop n) (ws.drop n) := fun n => by
    induction n with
    | zero => intro _ _ r; simpa using r
    | succ n ih => intro _ _ r; cases r with
      | nil => simpa using VRs.nil
      | cons _ _ _ _ a b => simpa using ih b
  have tk : ∀ n {vs ws}, VRs P vs ws → VRs P (vs.take n) (ws.take n) := fun n => by
    induction n with
    | zero => intro _ _ r; simpa using VRs.nil
    | succ n ih => intro _ _ r; cases r with
      | nil => simpa using VRs.nil
      | cons _ _ _ _ a b => simpa using VRs.cons _ _ _ _ a (ih b)
  unfold pySlice
  rw [r.length]
  exact tk _ (dr _ r)
theorem pySlice_len {α : Type} (l : List α) (lo hi : Option Int) : (pySlice l lo hi).length ≤ l.length := by
  unfold pySlice; simp; omega
end
end Mine
end
section
open PySem PySem.W PyProof.Rows PySem.Calls PyProof.V PySem.Spec PySem.SeqAt
namespace Mine
section
variable {prog : Program} {w : World} {K : Frag} {p : Program} {loose : List Str} {mg mb : Str → Option Value} {G : Heap}
variable {c : Cx} {L : Addr} {names : Nm} {P P' : PM} {σ : St} {H : HM} {h h' : Heap} {s s' : Shared} {E : Value → Shared → Prop}
inductive OneR (P : PM) (a : AV) : List Value → Prop
  | mk (v) (r : VR P a v) : OneR P a [v]
inductive TwoR (P : PM) (a b : AV) : List Value → Prop
  | mk (v u) (r : VR P a v) (r' : VR P b u) : TwoR P a b [v, u]
inductive ThreeR (P : PM) (a b d : AV) : List Value → Prop
  | mk (v u t) (r : VR P a v) (r' : VR P b u) (r'' : VR P d t) : ThreeR P a b d [v, u, t]
theorem VRs.one {a : AV} {vs : List Value} (r : VRs P [a] vs) : OneR P a vs := by
  cases r with
  | cons _ v _ _ x y => cases y; exact ⟨v, x⟩
theorem VRs.two {a b : AV} {vs : List Value} (r : VRs P [a, b] vs) : TwoR P a b vs := by
  cases r with
  | cons _ v _ _ x y => obtain ⟨u, z⟩ := y.one; exact ⟨v, u, x, z⟩
theorem VRs.three {a b d : AV} {vs : List Value} (r : VRs P [a, b, d] vs) : ThreeR P a b d vs := by
  cases r with
  | cons _ v _ _ x y => obtain ⟨u, t, z, q⟩ := y.two; exact ⟨v, u, t, x, z, q⟩
inductive LstA (P : PM) (vs : List AV) (v : Value) : Prop
  | mk (a : Addr) (ws : Array Value) (n : Nat) (e0 : v = .ref a) (e : P a = some (lo ws n)) (r : VRs P vs ws.toList) (z : vs.length ≤ sizeLine) (l : vs.length = ws.size)
theorem VR.lstAt {vs : List AV} {v : Value} (r : VR P (.lst vs) v) : LstA P vs v := by
  cases r with
  | lst _ ws n a e r z => exact ⟨a, ws, n, rfl, e, r, z, by rw [r.length]; simp⟩
theorem not_too {a b : Nat} {ws : Array Value} (h : a + b ≤ sizeLine) : ¬(!ws.isEmpty && Builtin.List.listTooLong (a + b)) = true := by
  have e : Builtin.List.listTooLong (a + b) = false := by
    unfold Builtin.List.listTooLong
    unfold sizeLine at h
    exact decide_eq_false (by unfold sizeLine; omega)
  rw [e]; simp
theorem VRs.reverse {vs ws} (r : VRs P vs ws) : VRs P vs.reverse ws.reverse :=
  VRs.ind (M := fun vs ws => VRs P vs.reverse ws.reverse) .nil (fun _ _ _ _ a _ ih => by
    rw [List.reverse_cons, List.reverse_cons]
    exact ih.append (.cons _ _ _ _ a .nil)) r
theorem VRs.snoc {vs : List AV} {v : AV} : ∀ {ws : List Value}, VRs P (vs ++ [v]) ws → ∃ us u, ws = us ++ [u] ∧ VRs P vs us ∧ VR P v u := by
  induction vs with
  | nil =>
    intro ws r
    cases r with
    | cons _ u _ _ a b => cases b with
      | nil => exact ⟨[], u, rfl, .nil, a⟩
  | cons x r ih =>
    intro ws q
    cases q with
    | cons _ u _ us a b =>
      obtain ⟨us', u', rfl, b1, b2⟩ := ih b
      exact ⟨u :: us', u', rfl, .cons _ _ _ _ a b1, b2⟩
theorem iadd_list {l b : Addr} {a1 a2 : Array Value} {n n2 : Nat} {A : Around} {Q : Value → Shared → Prop} (hl : s.heap.get? l = some (lo a1 n)) (hb : s.heap.get? b = some (lo a2 n2)) (z : a1.size + a2.size ≤ sizeLine)
    (h : Q (.ref l) { s with heap := s.heap.update l (Obj.mapSeq fun x => x ++ a2) }) : wpAny (model prog w) A (inplaceOp .Add (.ref l) (.ref b)) Q E s := by
  unfold inplaceOp
  refine wpAny_holding ?_
  have hT : s.TypeIs (.ref l) "list" := ⟨_, hl, rfl⟩
  have hT2 : s.TypeIs (.ref b) "list" := ⟨_, hb, rfl⟩
  have e1 : typeLookup (.type "list") (dunderI "add") = pure (some (.builtin "list.__iadd__")) := F.slot_list_iadd.lookup
  have e2 : isSeqSlot (some (.builtin "list.__iadd__")) = true := by decide +kernel
  have hfi : fillsInplaceSlot (.type "list") "add" (Operator.Add == .Add) = pure false := by
    unfold fillsInplaceSlot
    show (typeLookup (.type "list") (dunderI "add") >>= fun fi => pure (fi.isSome && !isSeqSlot fi)) = pure false
    rw [e1]
    show (pure ((some (Value.builtin "list.__iadd__")).isSome && !isSeqSlot (some (.builtin "list.__iadd__"))) : Sem Bool) = pure false
    rw [e2]; rfl
  have hsi : seqSlot? (.type "list") (dunderI "add") = pure (some (.builtin "list.__iadd__")) := by
    unfold seqSlot?
    rw [e1]
    show (if (!isSeqSlot (some (.builtin "list.__iadd__"))) = true then (pure none : Sem (Option Value)) else pure (some (.builtin "list.__iadd__"))) = _
    rw [e2]; rfl
  refine wpAny_bind (wpAny_typeOf hT (wpAny_bind (wpAny_of_eq hfi ?_)))
  show wpAny _ _ (if false = true then _ else _) Q E s
  rw [if_neg Bool.false_ne_true]
  refine wpAny_bind (binaryOp1_none (nm := "add") hT hT2 noFill_list_add ?_)
  refine wpAny_bind (wpAny_of_eq hsi ?_)
  refine wpAny_bind (wpAny_rule ?_)
  exact call_meets F.slot_list_iadd hT F.entry_list_iadd (F.args_list_iadd_2 _ _) (AutoSeq1.list___iadd___list_list_0 l a1 n b a2 n2 (not_too z) (by omega) (by omega)) ⟨hl, hb, h⟩
theorem augList {a : Addr} {v : Value} {vs us : List AV} {Q : AV → HM → Prop} (I : FInv G c L names P σ s.heap) (rb : VR P (.lst us) v) (e : σ.H a = some (.list vs)) (z : vs.length + us.length ≤ sizeLine) (q : Q (.ref a) (σ.H.set a (.list (vs ++ us)))) :
    wpAny (model prog w) c.A (inplaceOp .Add (.ref a) v) (PH G c L names P σ s Q) E s := by
  obtain ⟨ws, n, a1, r1, z1, n1⟩ := I.listAt e
  obtain ⟨b, ws2, n2, rfl, e2, r2, z2, m2⟩ := rb.lstAt
  refine iadd_list a1 (I.s.k _ _ e2) (by omega) ?_
  exact ⟨P, _, _, PLe.refl _, I.updList e a1 (by simpa using r1.append r2) (by simpa using z), ⟨rfl, rfl, rfl⟩, .ref _, q⟩
noncomputable def meId : Me → String
  | .append => "list.append" | .extend => "list.extend" | .reverse => "list.reverse" | .pop => "list.pop" | .join => "str.join"
inductive MeI (h : HM) (Q : AV → HM → Prop) (a : Addr) (vs : List AV) : Me → List AV → Prop
  | append (v) : vs.length < sizeLine → Q .none (h.set a (.list (vs ++ [v]))) → MeI h Q a vs .append [v]
  | extend (ws) : vs.length + ws.length ≤ sizeLine → Q .none (h.set a (.list (vs ++ ws))) → MeI h Q a vs .extend [.lst ws]
  | reverse : Q .none (h.set a (.list vs.reverse)) → MeI h Q a vs .reverse []
  | pop (us v) : vs = us ++ [v] → Q v (h.set a (.list us)) → MeI h Q a vs .pop []
inductive MeR (h : HM) (Q : AV → HM → Prop) (m : Me) (args : List AV) : AV → Prop
  | mk (a vs) : h a = some (.list vs) → MeI h Q a vs m args → MeR h Q m args (.ref a)
theorem meW_inv {m : Me} {o : AV} {args : List AV} {h : HM} {Q : AV → HM → Prop} (hm : m ≠ .join) (H : meW m o args h Q) : MeR h Q m args o := by
  cases m with
  | append => obtain ⟨_, a, us, rfl, e, z, q⟩ := one_some H; exact .mk _ _ e (.append _ z q)
  | extend => obtain ⟨_, a, us, rfl, e, _, rfl, z, q⟩ := one_some H; exact .mk _ _ e (.extend _ z q)
  | reverse => obtain ⟨a, us, rfl, e, q⟩ := nilW_some H; exact .mk _ _ e (.reverse q)
  | pop => obtain ⟨a, us, rfl, e, _, _, e1, q⟩ := nilW_some H; exact .mk _ _ e (.pop _ _ e1 q)
  | join => exact absurd rfl hm
theorem meW_list {m : Me} {o : AV} {u : Value} {args : List AV} {vs : List Value} {Q : AV → HM → Prop} (hm : m ≠ .join) (I : FInv G c L names P σ s.heap) (ro : VR P o u) (ra : VRs P args vs) (H : meW m o args σ.H Q) :
    wpAny (model prog w) c.A (call (.builtin (meId m)) (u :: vs)) (PH G c L names P σ s Q) E s := by
  obtain ⟨a, us, e, z⟩ := meW_inv hm H
  clear H hm
  obtain rfl := ro.ref_inv
  obtain ⟨ws, n, a1, r1, z1, n1⟩ := I.listAt e
  cases z with
  | append v z q =>
    obtain ⟨y, ry⟩ := ra.one
    refine call_meets F.slot_list_append ⟨_, a1, rfl⟩ F.entry_list_append (F.args_list_append_2 _ _) (list_append _ ws n y (n1 ▸ Nat.le_of_lt z)) ⟨a1, ?_⟩
    exact ⟨P, _, _, PLe.refl _, I.updList e a1 (by simpa using r1.append (.cons _ _ _ _ ry .nil)) (by rw [List.length_append]; exact z), ⟨rfl, rfl, rfl⟩, .none, q⟩
  | extend vs z q =>
    obtain ⟨y, ry⟩ := ra.one
    obtain ⟨b, ws2, n2, rfl, e2, r2, z2, m2⟩ := ry.lstAt
    refine call_meets F.slot_list_extend ⟨_, a1, rfl⟩ F.entry_list_extend (F.args_list_extend_2 _ _) (AutoSeq1.list_extend_list_list_0 _ ws n b ws2 n2 (not_too (n1 ▸ m2 ▸ z)) (n1 ▸ z1) (n1 ▸ m2 ▸ Nat.le_succ_of_le z)) ⟨a1, I.s.k _ _ e2, ?_⟩
    exact ⟨P, _, _, PLe.refl _, I.updList e a1 (by simpa using r1.append r2) (by simpa using z), ⟨rfl, rfl, rfl⟩, .none, q⟩
  | reverse q =>
    cases ra
    refine call_meets F.slot_list_reverse ⟨_, a1, rfl⟩ F.entry_list_reverse (F.args_list_reverse_1 _) (AutoSeq1.list_reverse_list_0 _ ws n (n1 ▸ z1)) ⟨a1, ?_⟩
    exact ⟨P, _, _, PLe.refl _, I.updList e a1 (by simpa using r1.reverse) (by simpa using z1), ⟨rfl, rfl, rfl⟩, .none, q⟩
  | pop us v eq q =>
    cases ra
    subst eq
    obtain ⟨ys, y, e2, r2, ry⟩ := r1.snoc
    have hs : ws.size = ys.length + 1 := by
      have := congrArg List.length e2; simpa using this
    have hy : ws[ws.size - 1]? = some y := by
      rw [← Array.getElem?_toList, e2, hs]; simp
    refine call_meets F.slot_list_pop ⟨_, a1, rfl⟩ F.entry_list_pop (F.args_list_pop_1 _) (PySem.MeetsSeq.list_pop_last _ ws n y hy (n1 ▸ z1)) ⟨a1, ?_⟩
    refine ⟨P, _, _, PLe.refl _, I.updList (f := fun xs => xs.eraseIdxIfInBounds (ws.size - 1)) e a1 ?_ (by simp at z1; omega), ⟨rfl, rfl, rfl⟩, ry, q⟩
    have : (ws.eraseIdxIfInBounds (ws.size - 1)).toList = ys := by
      rw [Array.toList_eraseIdxIfInBounds, e2, hs, Nat.add_sub_cancel, List.eraseIdx_append_of_length_le (Nat.le_refl _)]
      simp
    rw [this]; exact r2
theorem strs_of_map {ls : List (List Nat)} : ∀ {ws : List Value}, VRs P (ls.map .str) ws → StrsAre ws (ls.map mkS) := by
  induction ls with
  | nil => intro ws r; cases r; exact .nil
  | cons x r ih =>
    intro ws r
    cases r with
    | cons _ _ _ _ a b =>
      obtain ⟨_, rfl, _⟩ := a.str_inv
      exact .cons _ _ (ih b)
theorem mkS_append (a b : List Nat) : mkS a ++ mkS b = mkS (a ++ b) := by apply congrArg Str.mk; simp [mkS]
theorem join_empty : ∀ (ls : List (List Nat)), Txt.join (mkS []) (ls.map mkS) = mkS ls.flatten := by
  intro ls
  unfold Txt.join
  rw [PySem.StrLaws.glued_eq_join]
  induction ls with
  | nil => rfl
  | cons x r ih =>
    cases r with
    | nil => simp [Str.join, mkS]
    | cons y q =>
      simp only [List.map_cons] at ih ⊢
      show mkS x ++ mkS [] ++ Str.join (mkS []) (mkS y :: List.map mkS q) = _
      rw [ih, mkS_append, mkS_append]
      simp
theorem meW_join {u : Value} {args : List AV} {o : AV} {vs : List Value} {Q : AV → HM → Prop} (I : FInv G c L names P σ s.heap) (ro : VR P o u) (ra : VRs P args vs) (H : meW .join o args σ.H Q) :
    wpAny (model prog w) c.A (call (.builtin "str.join") (u :: vs)) (PH G c L names P σ s Q) E s := by
  obtain ⟨a, rfl, ls, rfl, z, q⟩ := one_some H
  obtain ⟨_, rfl, _⟩ := ro.str_inv
  obtain ⟨y, ry⟩ := ra.one
  obtain ⟨b, ws2, n2, rfl, e2, r2, z2, m2⟩ := ry.lstAt
  have hs : ((ls.map mkS).map (fun x => x.length)) = ls.map List.length := by
    simp [List.map_map, Function.comp_def, mkS, Str.length]
  refine join_list ⟨_, I.s.k _ _ e2, rfl, n2, rfl⟩ (strs_of_map r2) (by rw [hs]; simp [Str.length]; try omega) fun t' k => ?_
  have := join_empty ls
  simp only [mkS] at this ⊢
  rw [this]
  refine ⟨P, σ.H, _, PLe.refl _, I, ⟨rfl, rfl, rfl⟩, .str _ _ ?_, q⟩
  rw [List.length_flatten]; unfold sizeLine; omega
end
section
open PySem.NumText
noncomputable def all01 : Nat → List (List Nat)
  | 0 => [[]]
  | k + 1 => (all01 k).map (48 :: ·) ++ (all01 k).map (49 :: ·)
theorem mem_all01 : ∀ {k : Nat} {l : List Nat}, l.length = k → (∀ c ∈ l, c = 48 ∨ c = 49) → l ∈ all01 k
  | 0, [], _, _ => .head _
  | k + 1, c :: l, h, hc => by
    have m := mem_all01 (k := k) (l := l) (by simpa using h) fun x hx => hc x (.tail _ hx)
    rcases hc c (.head _) with rfl | rfl
    · exact List.mem_append_left _ (List.mem_map.mpr ⟨l, m, rfl⟩)
    · exact List.mem_append_right _ (List.mem_map.mpr ⟨l, m, rfl⟩)
theorem read2_all : (all01 6).map (fun l => (int_private% "readNumeral") 0 2 l) = (all01 6).map (fun l => (int_private% "Numeral.value") (binVal l : Nat)) := by kernel_rfl
theorem read2 (l : List Nat) (h1 : l.length = 6) (h2 : ∀ c ∈ l, c = 48 ∨ c = 49) : (int_private% "readNumeral") 0 2 l = (int_private% "Numeral.value") (binVal l : Nat) :=
  List.map_inj_left.mp read2_all l (mem_all01 h1 h2)
theorem wp_text2 {M : Model} {A : Around} {E : Value → Shared → Prop} {s : Shared} {Q : Value → Shared → Prop} {v : Value} {text : List Nat} {n : Int}
    (hs : (text.takeWhile (· != 0)).length ≤ 640) (hr : (int_private% "readNumeral") 0 2 (text.takeWhile (· != 0)) = (int_private% "Numeral.value") n)
    (ha : ((text.takeWhile (· != 0)).length == text.length) = true) (h : Q (.int n s.toks) { s with toks := s.toks + 1 }) :
    wpAny M A ((int_private% "intFromText") v text 2) Q E s := by
  obtain ⟨hp, g, d, tk, os⟩ := s
  repeat (any_goals (first
    | assumption
    | (with_reducible refine wpAny_ite_true (decide_eq_true hs) ?_)
    | (with_reducible refine wpAny_ite_true (decide_eq_true ha) ?_)
    | wp_step))
  all_goals (try rw [hr])
  all_goals (try dsimp only)
  repeat (any_goals (first
    | assumption
    | (with_reducible refine wpAny_ite_true (decide_eq_true hs) ?_)
    | (with_reducible refine wpAny_ite_true (decide_eq_true ha) ?_)
    | wp_step))
theorem take_all : ∀ l : List Nat, (∀ c ∈ l, c = 48 ∨ c = 49) → l.takeWhile (· != 0) = l
  | [], _ => rfl
  | c :: l, h => by
    have h1 : (c != 0) = true := by rcases h c (.head _) with rfl | rfl <;> rfl
    rw [List.takeWhile_cons, if_pos h1, take_all l fun x m => h x (.tail _ m)]
structure Hid2 (p : Prop) : Prop where
  out : p
set_option maxHeartbeats 4000000 in
theorem gives_text2 {l : List Nat} {u t : Tok} (h1 : l.length = 6) (h2 : ∀ c ∈ l, c = 48 ∨ c = 49) : Gives (Builtin.«int.__new__» ⟨[.type "int", .str ⟨l.toArray⟩ u, .int 2 t], []⟩) (.int (binVal l : Nat)) :=
  .of_wp fun M A E s Q h => by
    obtain ⟨hp, g, d, tk, os⟩ := s
    have f1 := F.conv_sub_int
    have f2 := F.madeHere_int
    have f6 : typeOf (.str ⟨l.toArray⟩ u) = pure (.type "str") := rfl
    have ht : l.takeWhile (· != 0) = l := take_all l h2
    have hall : (⟨l.toArray⟩ : PySem.Str).cps.all (· < 128) = true := by
      simp only [Array.all_eq_true]
      intro i hi
      have := h2 (l[i]'(by simpa using hi)) (List.getElem_mem _)
      simp
      rcases this with e | e <;> omega
    have hk := Hid2.mk (And.intro (show (l.takeWhile (· != 0)).length ≤ 640 by rw [ht]; omega) (And.intro (show (int_private% "readNumeral") 0 2 (l.takeWhile (· != 0)) = (int_private% "Numeral.value") (binVal l : Nat) by rw [ht]; exact read2 l h1 h2) (show ((l.takeWhile (· != 0)).length == l.length) = true by rw [ht]; simp)))
    clear ht h1 h2
    repeat (any_goals (first
      | assumption
      | ((with_reducible show wpAny _ _ ((int_private% "intFromText") _ _ _) _ _ _); simp only [hall, if_true]; refine wp_text2 hk.out.1 hk.out.2.1 hk.out.2.2 ?_)
      | wp_step))
    all_goals first | exact ⟨_, rfl, h⟩ | skip
theorem typeCall2 (a b : Value) : checkTypeCall "int" ⟨[a, b], []⟩ = pure () := by kernel_rfl
theorem newCall2 (a b : Value) : checkBuiltinCall "int.__new__" ⟨[.type "int", a, b], []⟩ = pure () := by kernel_rfl
theorem call_text2 {prog : Program} {w : World} {A : Around} {E : Value → Shared → Prop} {s : Shared} {Q : Value → Shared → Prop} {l : List Nat} {u t : Tok} (h1 : l.length = 6) (h2 : ∀ c ∈ l, c = 48 ∨ c = 49)
    (h : Q (.int (binVal l : Nat) s.toks) { s with toks := s.toks + 1 }) : wpAny (model prog w) A (call (.type "int") [.str ⟨l.toArray⟩ u, .int 2 t]) Q E s :=
  callType_new F.called_int F.newNe_int (typeCall2 _ _) (newCall2 _ _) (fun obj => PySem.F.args_object_init_3 obj _ _) F.entry_int_new (gives_text2 h1 h2).meets (show (Made.int (binVal l : Nat)).post _ s from ⟨rfl, h⟩)
end
end Mine
end
section
open PySem PySem.W PyProof.Rows PySem.Calls PyProof.V PySem.Spec PySem.SeqAt
namespace Mine
section
variable {prog : Program} {w : World} {K : Frag} {p : Program} {loose : List Str} {mg mb : Str → Option Value} {G : Heap}
variable {c : Cx} {L : Addr} {names : Nm} {P P' : PM} {σ : St} {H : HM} {h h' : Heap} {s s' : Shared} {E : Value → Shared → Prop}
inductive IaddI (H : HM) (Q : AV → HM → Prop) : AV → AV → Prop
  | int (a b) (h : Q (.int (a + b)) H) : IaddI H Q (.int a) (.int b)
  | str (a b) (z : a.length + b.length ≤ sizeLine) (h : Q (.str (a ++ b)) H) : IaddI H Q (.str a) (.str b)
  | ref (a ws vs) (e : H a = some (.list vs)) (z : vs.length + ws.length ≤ sizeLine) (h : Q (.ref a) (H.set a (.list (vs ++ ws)))) : IaddI H Q (.ref a) (.lst ws)
theorem iaddW_inv {a b : AV} {Q : AV → HM → Prop} (h : iaddW a b H Q) : IaddI H Q a b := by
  cases a with
  | ref a => obtain ⟨ws, vs, rfl, e, z, q⟩ := h; exact .ref _ _ _ e z q
  | int a => cases b <;> first | exact False.elim h | exact .int _ _ h
  | str a => cases b <;> first | exact False.elim h | exact .str _ _ h.1 h.2
  | _ => exact False.elim h
inductive AugI (H : HM) (Q : AV → HM → Prop) (a b : AV) : Operator → Prop
  | add (h : IaddI H Q a b) : AugI H Q a b .Add
  | sub (h : IiA (fun a b => Q (.int (a - b)) H) a b) : AugI H Q a b .Sub
  | mod (h : IiA (fun a b => b ≠ 0 ∧ Q (.int (Int.fmod a b)) H) a b) : AugI H Q a b .Mod
  | shr (h : IiA (fun a n => 0 ≤ n ∧ Q (.int (Int.fdiv a (2 ^ n.toNat))) H) a b) : AugI H Q a b .RShift
theorem augW_inv {op : Operator} {a b : AV} {Q : AV → HM → Prop} (h : augW op a b H Q) : AugI H Q a b op := by
  cases op with
  | Add => exact .add (iaddW_inv h)
  | Sub => exact .sub (iiW_some h)
  | Mod => exact .mod (iiW_some h)
  | RShift => exact .shr (iiW_some h)
  | _ => exact False.elim h
set_option tactic.hygienic true in
theorem augW_sound {op : Operator} {a b : AV} {u v : Value} {Q : AV → HM → Prop} (I : FInv G c L names P σ s.heap) (ra : VR P a u) (rb : VR P b v) (H : augW op a b σ.H Q) :
    wpAny (model prog w) c.A (inplaceOp op u v) (PH G c L names P σ s Q) E s := by
  have same : ∀ {av : AV} {v : Value} {tk : Nat}, VR P av v → Q av σ.H → PH G c L names P σ s Q v { s with toks := tk } := fun r q => ⟨P, σ.H, _, PLe.refl _, I, ⟨rfl, rfl, rfl⟩, r, q⟩
  have z := augW_inv H
  clear H
  obtain z | ⟨i, j, h⟩ | ⟨i, j, h⟩ | ⟨i, j, h⟩ := z
  · obtain ⟨i, j, h⟩ | ⟨x, y, zz, h⟩ | ⟨a, ws, vs, e, z, q⟩ := z
    · obtain ⟨t, rfl⟩ := ra.int_inv; obtain ⟨t', rfl⟩ := rb.int_inv; exact iadd_int (same (.int _ _) h)
    · obtain ⟨t, rfl, zx⟩ := ra.str_inv; obtain ⟨t', rfl, zy⟩ := rb.str_inv
      refine iadd_str (fun t' tk => same ?_ h) (by rw [cps_len, cps_len]; exact zz)
      exact (mkS_append x y).symm ▸ .str _ _ (by rw [List.length_append]; exact zz)
    · obtain rfl := ra.ref_inv; exact augList I rb e z q
  · obtain ⟨t, rfl⟩ := ra.int_inv; obtain ⟨t', rfl⟩ := rb.int_inv; exact isub_int (same (.int _ _) h)
  · obtain ⟨t, rfl⟩ := ra.int_inv; obtain ⟨t', rfl⟩ := rb.int_inv; exact imod_int h.1 (same (.int _ _) h.2)
  · obtain ⟨t, rfl⟩ := ra.int_inv; obtain ⟨t', rfl⟩ := rb.int_inv; exact irshift_int h.1 (same (.int _ _) h.2)
noncomputable def biV : Bi → Value
  | .len => .builtin "len" | .abs => .builtin "abs" | .min => .builtin "min" | .max => .builtin "max" | .ord => .builtin "ord" | .chr => .builtin "chr"
  | .int => .type "int" | .str => .type "str" | .list => .type "list" | .isinst => .builtin "isinstance" | .range => .type "range"
noncomputable def KNi (K : Frag) (C : Addr) : Bool := kitOne K (.type "str") (.ref C) == some false
theorem PP.rng {Q : AV → Prop} {h' : Heap} {tk : Nat} {a : Addr} {x y z : Int} {t u v : Tok} (I : FInv G c L names P σ s.heap) (k : Kp s.heap h') (e0 : s.heap.get? a = none) (e : IsRange h' a x y z t u v) (ro : rngOk x y z)
    (q : Q (.rng x y z)) : PP G c L names P σ s Q (.ref a) { s with heap := h', toks := tk } := by
  obtain ⟨I', k'⟩ := I.grow k e0 e
  exact ⟨_, _, k', I', ⟨rfl, rfl, rfl⟩, .rng x y z a t u v ro (by simp [PM.set]), q⟩
inductive OneN (k : Int → Prop) : List Value → Prop
  | mk (i t) (h : k i) : OneN k [.int i t]
inductive TwoN (k : Int → Int → Prop) : List Value → Prop
  | mk (i j t u) (h : k i j) : TwoN k [.int i t, .int j u]
theorem one_int {args : List AV} {vs : List Value} {k : Int → Prop} (ra : VRs P args vs) (H : one args fun a => onI a k) : OneN k vs := by
  obtain ⟨a, H⟩ := one_some H
  obtain ⟨i, H⟩ := onI_some H
  obtain ⟨v, r⟩ := ra.one
  obtain ⟨t, rfl⟩ := r.int_inv
  exact ⟨i, t, H⟩
theorem two_int {args : List AV} {vs : List Value} {k : Int → Int → Prop} (ra : VRs P args vs) (H : two args fun a b => iiW a b k) : TwoN k vs := by
  obtain ⟨a, b, H⟩ := two_some H
  obtain ⟨i, j, H⟩ := iiW_some H
  obtain ⟨v, u, r, r'⟩ := ra.two
  obtain ⟨t, rfl⟩ := r.int_inv; obtain ⟨t', rfl⟩ := r'.int_inv
  exact ⟨i, j, t, t', H⟩
inductive LenI (H : HM) (Q : AV → Prop) : AV → Prop
  | lst (vs) (h : Q (.int (vs.length : Nat))) : LenI H Q (.lst vs)
  | str (l) (h : Q (.int (l.length : Nat))) : LenI H Q (.str l)
  | ref (a vs) (e : H a = some (.list vs)) (h : Q (.int (vs.length : Nat))) : LenI H Q (.ref a)
theorem lenW_inv {a : AV} {Q : AV → Prop} (h : lenW a H Q) : LenI H Q a := by
  cases a with
  | lst vs => exact .lst _ h
  | str l => exact .str _ h
  | ref a => obtain ⟨vs, e, h⟩ := h; exact .ref _ _ e h
  | _ => exact False.elim h
theorem lenW_sound {a : AV} {v : Value} {Q : AV → Prop} (I : FInv G c L names P σ s.heap) (r : VR P a v) (H : lenW a σ.H Q) : wpAny (model prog w) c.A (call (.builtin "len") [v]) (PP G c L names P σ s Q) E s := by
  have z := lenW_inv H
  clear H
  obtain ⟨vs, H⟩ | ⟨l, H⟩ | ⟨a, us, e, q⟩ := z
  · obtain ⟨l, ws, rfl, hl, r1, z1, n1⟩ := r.isList I.s.k
    exact len_list hl (n1 ▸ sl_small z1) (PP.same I (n1 ▸ .int _ _) H)
  · obtain ⟨t, rfl, z⟩ := r.str_inv
    exact len_str (by rw [cps_len]; have := sl_small z; omega) (PP.same I (by rw [cps_len]; exact .int _ _) H)
  · obtain rfl := r.ref_inv
    obtain ⟨ws, n, a1, r1, z1, n1⟩ := I.listAt e
    exact len_list ⟨_, a1, rfl, n, rfl⟩ (n1 ▸ sl_small z1) (PP.same I (n1 ▸ .int _ _) q)
theorem intW_sound {args : List AV} {vs : List Value} {Q : AV → Prop} (I : FInv G c L names P σ s.heap) (ra : VRs P args vs) (H : intW args Q) : wpAny (model prog w) c.A (call (.type "int") vs) (PP G c L names P σ s Q) E s := by
  cases args with
  | nil => exact H.elim
  | cons a r =>
    obtain ⟨l, H⟩ := onS_some H
    cases r with
    | nil =>
      obtain ⟨v, r⟩ := ra.one
      obtain ⟨t, rfl, z⟩ := r.str_inv
      obtain ⟨n, e, hl, q⟩ := H
      exact KIN.call_text e (by rw [cps_len]; exact hl) (PP.same I (.int _ _) q)
    | cons b r =>
      obtain ⟨rfl, rfl, h1, h2, q⟩ := H
      obtain ⟨v, u, r, r'⟩ := ra.two
      obtain ⟨t, rfl, z⟩ := r.str_inv
      obtain ⟨t', rfl⟩ := r'.int_inv
      exact call_text2 h1 h2 (PP.same I (.int _ _) q)
theorem isiW_sound (g : Glo K p loose mg mb G) {a b : AV} {u v : Value} {Q : AV → Prop} (I : FInv G c L names P σ s.heap) (ra : VR P a u) (rb : VR P b v) (H : isiW (KNi K) a b Q) : wpAny (model prog w) c.A (call (.builtin "isinstance") [u, v]) (PP G c L names P σ s Q) E s := by
  rcases H with ⟨rfl, ⟨i, rfl, q⟩ | ⟨l, rfl, q⟩⟩ | ⟨C, l, rfl, rfl, hC, q⟩
  · obtain rfl := rb.glob_inv
    obtain ⟨t, rfl⟩ := ra.int_inv
    exact kia_one kitx_int (I.s.kin g) trivial (b := true) (by rfl) (by intro e; cases e) fun tk => PP.same I (.bool _) q
  · obtain rfl := rb.glob_inv
    obtain ⟨t, rfl, z⟩ := ra.str_inv
    exact kia_one kitx_str (I.s.kin g) trivial (b := false) (by rfl) (by intro e; cases e) fun tk => PP.same I (.bool _) q
  · obtain rfl := rb.glob_inv
    obtain ⟨t, rfl, z⟩ := ra.str_inv
    exact kia_one kitx_str (I.s.kin g) trivial (b := false) (beq_iff_eq.mp hC) (by intro e; cases e) fun tk => PP.same I (.bool _) q
theorem rngW_sound {args : List AV} {vs : List Value} {Q : AV → Prop} (I : FInv G c L names P σ s.heap) (ra : VRs P args vs) (H : rngW args Q) : wpAny (model prog w) c.A (call (.type "range") vs) (PP G c L names P σ s Q) E s := by
  obtain ⟨m, hm, lr⟩ := I.f
  cases args with
  | nil => exact H.elim
  | cons a r =>
    obtain ⟨a, a1, a2, H⟩ := onI_some H
    cases r with
    | nil =>
      obtain ⟨v, r⟩ := ra.one
      obtain ⟨t, rfl⟩ := r.int_inv
      exact range1_rows (fr0 hm) news0 fun h' tk t1 u1 v1 e _ _ k => PP.rng I k (size_none _) e ⟨by decide, by decide, by decide, a1, a2, by decide, by decide⟩ H
    | cons b r =>
      obtain ⟨b, b1, b2, H⟩ := onI_some H
      cases r with
      | nil =>
        obtain ⟨v, u, r, r'⟩ := ra.two
        obtain ⟨t, rfl⟩ := r.int_inv; obtain ⟨t', rfl⟩ := r'.int_inv
        exact range2_rows (fr0 hm) news0 fun h' tk t1 u1 v1 e _ _ k => PP.rng I k (size_none _) e ⟨by decide, a1, a2, b1, b2, by decide, by decide⟩ H
      | cons c' r =>
        obtain ⟨c', rfl, c1, c2, c3, q⟩ := onI_some H
        obtain ⟨v, u, y, r, r', r''⟩ := ra.three
        obtain ⟨t, rfl⟩ := r.int_inv; obtain ⟨t', rfl⟩ := r'.int_inv; obtain ⟨t'', rfl⟩ := r''.int_inv
        exact range3_rows (fr0 hm) news0 c3 (fun h' tk t1 u1 v1 e _ _ k => PP.rng I k (size_none _) e ⟨c3, a1, a2, b1, b2, c1, c2⟩ q) (.inl (big_div _ (by omega)))
theorem biW_sound (g : Glo K p loose mg mb G) {b : Bi} {args : List AV} {vs : List Value} {Q : AV → Prop} (hh : c.A.handled = none) (I : FInv G c L names P σ s.heap) (ra : VRs P args vs) (H : biW (KNi K) b args σ.H Q) :
    wpAny (model prog w) c.A (call (biV b) vs) (PP G c L names P σ s Q) E s := by
  have two : ∀ {h' : Heap} {tk : Nat} {m : Str → Option Value} {i : Int} {t : Tok}, Fr {} L h' m → News {} L h' (allNews s.heap L) → LocR P names σ.loc m → Q (.int i) → PP G c L names P σ s Q (.int i t) { s with heap := h', toks := tk } := fun F N lr q =>
    ⟨P, _, PLe.refl _, I.but F.ns lr (but_of_news N fun q hq => hq), ⟨rfl, rfl, rfl⟩, .int _ _, q⟩
  obtain ⟨m, hm, lr⟩ := I.f
  cases b
  · obtain ⟨a, H⟩ := one_some H
    obtain ⟨v, r⟩ := ra.one
    exact lenW_sound I r H
  · obtain ⟨i, t, H⟩ := one_int ra H
    exact call_abs_int fun u tk => PP.same I (.int _ _) H
  · obtain ⟨i, j, t, u, H⟩ := two_int ra H
    exact min_two_N hh (fr0 hm) news0 fun h' tk F N => two F N lr H
  · obtain ⟨i, j, t, u, H⟩ := two_int ra H
    exact max_two_N hh (fr0 hm) news0 fun h' tk F N => two F N lr H
  · obtain ⟨a, H⟩ := one_some H
    obtain ⟨_, x, rfl, q⟩ := onS_some H
    obtain ⟨v, r⟩ := ra.one
    obtain ⟨t, rfl, z⟩ := r.str_inv
    exact ord_of_one (by rw [cps_len]; rfl) (PP.same I (.int _ _) q)
  · obtain ⟨i, t, H⟩ := one_int ra H
    exact chr_of_range H.1 H.2.1 (PP.same I (.str _ _ (by simp [sizeLine])) H.2.2)
  · exact intW_sound I ra H
  · obtain ⟨i, t, H⟩ := one_int ra H
    refine PySem.P.str_of_int H.1 (PP.same I ?_ H.2.2)
    have := VR.str (P := P) (decText _) s.toks H.2.1
    simpa [decText] using this
  · obtain ⟨_, us, rfl, q⟩ := one_some H
    obtain ⟨v, r⟩ := ra.one
    obtain ⟨a, ws, n, rfl, e, r1, z1, n1⟩ := r.lstAt
    refine call_list_seq a (.inl rfl) (I.s.k _ _ e) rfl rfl (fun h' c' k hD => ?_) (by omega)
    exact PP.newList (tk := s.toks) I k (size_none _) hD r1 z1 q
  · obtain ⟨a, b, H⟩ := two_some H
    obtain ⟨v, u, r, r'⟩ := ra.two
    exact isiW_sound g I r r' H
  · exact rngW_sound I ra H
theorem FRel.find {fs : List (Str × AV)} {es : List DictEntry} {x : Str} : FRel P fs es → match fs.lookup x with
    | some v => ∃ u, getL x es = some (some u) ∧ VR P v u
    | none => getL x es = some none := by
  induction fs generalizing es with
  | nil =>
    intro r
    cases es with
    | nil => rfl
    | cons _ _ => exact r.elim
  | cons f fs ih =>
    obtain ⟨y, v⟩ := f
    intro r
    cases es with
    | nil => exact r.elim
    | cons e es =>
      obtain ⟨⟨t, hk⟩, hv, hr⟩ := r
      have hi := ih hr
      by_cases z : x = y
      · subst z
        simp only [List.lookup_cons, beq_self_eq_true]
        refine ⟨e.val, ?_, hv⟩
        unfold getL
        have : e.key.isStr x = true := by rw [hk]; simp [Value.isStr]
        rw [List.find?_cons, this]
      · have hb : (x == y) = false := beq_eq_false_iff_ne.mpr z
        simp only [List.lookup_cons, hb]
        have hb2 : e.key.isStr x = false := by rw [hk]; simp [Value.isStr]; exact fun q => z q.symm
        have hg : getL x (e :: es) = getL x es := by
          unfold getL
          rw [List.find?_cons, hb2, List.any_cons]
          have : e.refKey = false := by unfold DictEntry.refKey; rw [hk]
          rw [this, Bool.false_or]
        rw [hg]; exact hi
theorem FRel.set {x : Str} {v : AV} {u : Value} {hsh : Int} {t : Tok} (rv : VR P v u) : ∀ {fs es}, FRel P fs es → FRel P (setF x v fs) (putL x hsh (.str x t) u es)
  | [], [], _ => ⟨⟨t, rfl⟩, rv, trivial⟩
  | [], _ :: _, r => r.elim
  | _ :: _, [], r => r.elim
  | (y, w) :: fs, e :: es, ⟨⟨t', hk⟩, hv, hr⟩ => by
    unfold setF putL
    by_cases z : y = x
    · subst z
      have : e.key.isStr y = true := by rw [hk]; simp [Value.isStr]
      rw [if_pos rfl, if_pos this]
      exact ⟨⟨t', hk⟩, rv, hr⟩
    · have hb2 : e.key.isStr x = false := by rw [hk]; simp [Value.isStr]; exact z
      rw [if_neg z, if_neg (by rw [hb2]; decide)]
      exact ⟨⟨t', hk⟩, hv, FRel.set rv hr⟩
theorem FRel.length : ∀ {fs es}, FRel P fs es → fs.length = es.length
  | [], [], _ => rfl
  | [], _ :: _, r => r.elim
  | _ :: _, [], r => r.elim
  | _ :: _, _ :: _, ⟨_, _, r⟩ => by simp [FRel.length r]
theorem setF_len (x : Str) (v : AV) : ∀ fs, (setF x v fs).length ≤ fs.length + 1
  | [] => by simp [setF]
  | (y, u) :: r => by
    unfold setF; split
    · simp
    · have := setF_len x v r; simp; omega
theorem setF_names {x : Str} {v : AV} {Z : Str → Prop} (hx : Z x) : ∀ {fs : List (Str × AV)}, (∀ f ∈ fs, Z f.1) → ∀ f ∈ setF x v fs, Z f.1
  | [], _, f, m => by simp [setF] at m; rw [m]; exact hx
  | (y, u) :: r, k, f, m => by
    unfold setF at m
    split at m
    · rcases List.mem_cons.mp m with rfl | m
      · exact k (y, u) (.head _)
      · exact k f (.tail _ m)
    · rcases List.mem_cons.mp m with rfl | m
      · exact k (y, u) (.head _)
      · exact setF_names hx (fun f m => k f (.tail _ m)) f m
theorem handed_of {v : AV} {u : Value} (r : VR P v u) (h : plainA v = true) : handedIn u = true := by
  cases r <;> first | rfl | cases h
inductive InstA (P : PM) (h : Heap) (a C d : Addr) (fs : List (Str × AV)) : Prop
  | mk (es : List DictEntry) (n : Nat) (I : InstAt h a (instObj C d) C (some (dictOf es n))) (hC : C ∈ gcs) (hd : h.get? d = some (dictOf es n)) (r : FRel P fs es) (z : fs.length ≤ 100) (g : ∀ f ∈ fs, f.1 ∈ goodNames)
theorem FInv.inst {a C d : Addr} {fs : List (Str × AV)} (I : FInv G c L names P σ h) (e1 : σ.H a = some (.inst C d)) (e2 : σ.H d = some (.dict fs)) :
    InstA P h a C d fs := by
  obtain ⟨o, a1, ⟨rfl, hC⟩, _⟩ := I.at e1
  obtain ⟨o', b1, ⟨es, n, rfl, r, z, gn⟩, _⟩ := I.at e2
  exact ⟨es, n, ⟨a1, rfl, rfl, b1⟩, hC, b1, r, z, gn⟩
theorem getaW_sound (g : Glo K p loose mg mb G) {o : AV} {u : Value} {name : Str} {Q : AV → Prop} (I : FInv G c L names P σ s.heap) (ro : VR P o u) (H : getaW o name σ.H Q) :
    wpAny (model prog w) c.A (getAttr u name true) (PP G c L names P σ s Q) E s := by
  · obtain ⟨a, C, d, fs, v, rfl, e1, e2, e3, pl, q⟩ := H
    obtain rfl := ro.ref_inv
    obtain ⟨es, n, IA, hC, hd, fr, zz, gn⟩ := I.inst e1 e2
    obtain ⟨c1, c2⟩ := g.cls C hC
    simp only [Bool.and_eq_true, beq_iff_eq] at c1
    obtain ⟨⟨⟨c1, c3⟩, c4⟩, c5⟩ := c1
    have hf := fr.find (x := name)
    rw [e3] at hf
    obtain ⟨y, hy, ry⟩ := hf
    have hn : name ∈ goodNames := by
      obtain ⟨i, hi⟩ : ∃ f ∈ fs, f.1 = name := by
        clear hy ry gn fr hd IA e2 zz
        induction fs with
        | nil => cases e3
        | cons f r ih =>
          obtain ⟨y, z⟩ := f
          by_cases q : name = y
          · subst q; exact ⟨_, .head _, rfl⟩
          · rw [List.lookup_cons, beq_eq_false_iff_ne.mpr q] at e3
            obtain ⟨f, m, e⟩ := ih e3
            exact ⟨f, .tail _ m, e⟩
      exact hi.2 ▸ gn i hi.1
    refine get_value (I.s.kin g) IA (plainGet_of c1).1 (findObj_own c3 (c2 name hn) rfl hy) (handed_of ry pl) (PP.same I ry q)
theorem setaW_sound (g : Glo K p loose mg mb G) {o v : AV} {u y : Value} {name : Str} {Q : HM → Prop} (I : FInv G c L names P σ s.heap) (ro : VR P o u) (rv : VR P v y) (H : setaW o name v σ.H Q) :
    wpAny (model prog w) c.A (setAttr u name y) (fun _ s' => ∃ H', FInv G c L names P ⟨σ.loc, H'⟩ s'.heap ∧ Rest s s' ∧ Q H') E s := by
  · obtain ⟨a, C, d, fs, rfl, e1, e2, z, pl, hn, q⟩ := H
    obtain rfl := ro.ref_inv
    obtain ⟨es, n, IA, hC, hd, fr, _, gn⟩ := I.inst e1 e2
    obtain ⟨c1, c2⟩ := g.cls C hC
    simp only [Bool.and_eq_true, beq_iff_eq] at c1
    obtain ⟨⟨⟨c1, c3⟩, c4⟩, c5⟩ := c1
    obtain ⟨m, hm, lr⟩ := I.f
    obtain ⟨o', b1, _, b3, b4, b5, b6⟩ := I.at e2
    have hX := I.s.kin g
    have N : News {} L s.heap ([] ++ (d, dictOf es n) :: (allNews s.heap L).filter (fun q => q.1 != d)) := by
      intro q hq
      rcases List.mem_cons.mp hq with rfl | hq
      · exact ⟨hd, b6, empty_get _⟩
      · exact news0 _ (List.mem_filter.mp hq).1
    have fr' := FRel.set (x := name) (hsh := PyData.keyHash w.params name) (t := s.toks + 1) rv fr
    have hl : (lookIn name (dictOf es n)).isSome = true := by
      rw [lookIn_dict]
      have hf := fr.find (x := name)
      cases e : fs.lookup name with
      | none => rw [e] at hf; rw [hf]; rfl
      | some v => rw [e] at hf; obtain ⟨y, hy, _⟩ := hf; rw [hy]; rfl
    refine set_plain hX IA c5 (osa_dict (pre := []) (s := { s with toks := s.toks + 1 }) (es := putL name (PyData.keyHash w.params name) (.str name (s.toks + 1)) y es) (n := putN name es n) (fr0 hm) N hX IA rfl c4 ?_ c3 hl (fun _ m => nomatch m) (fun q hq => ?_) (putName_dict _ _ _ _ _ _) rfl ?_ fun h' F' N' => ?_)
    · unfold takerIn; rw [c2 name hn]; rfl
    · have := (List.mem_filter.mp hq).2; simpa using this
    · rw [← fr'.length]; have := setF_len name v fs; omega
    · refine ⟨_, ?_, ⟨rfl, rfl, rfl⟩, q⟩
      have hd' : h'.get? d = some (dictOf (putL name (PyData.keyHash w.params name) (.str name (s.toks + 1)) y es) (putN name es n)) := (N' _ (.head _)).1
      have but : ∀ b x, b ≠ d → b ≠ L → s.heap.get? b = some x → h'.get? b = some x := fun b x n1 n2 e => (N' (b, x) (.tail _ (List.mem_filter.mpr ⟨mem_allNews e n2, by simpa using n1⟩))).1
      refine ⟨⟨I.s.g, fun b x e => but b x (fun w => by rw [w, b3] at e; cases e) (fun w => by rw [w, I.p] at e; cases e) (I.s.k b x e), fun q hq => ⟨?_, (I.s.ns q hq).2.1, ?_⟩, fun q hq => ⟨but _ _ (b5 q hq) (I.pin q hq) (I.s.pins q hq).1, (I.s.pins q hq).2.1, ?_⟩, I.s.np, fun b x e => ?_⟩, ⟨m, F'.ns, lr⟩, I.p, ?_, I.pin, I.nsl⟩
      · obtain ⟨o, es', ep, a1, a2⟩ := (I.s.ns q hq).1
        exact ⟨o, es', ep, but _ _ (b4 q hq) (I.nsl q hq) a1, a2⟩
      · show (σ.H.set d _) q.1 = none
        rw [HM.set_ne _ _ (b4 q hq)]; exact (I.s.ns q hq).2.2
      · show (σ.H.set d _) q.1 = none
        rw [HM.set_ne _ _ (b5 q hq)]; exact (I.s.pins q hq).2.2
      · by_cases w' : b = d
        · subst w'
          simp only [HM.set_same, Option.some.injEq] at e
          subst e
          refine ⟨_, hd', ⟨_, _, rfl, fr', ?_, setF_names hn gn⟩, b3⟩
          have := setF_len name v fs; omega
        · simp only [HM.set_ne _ _ w'] at e
          obtain ⟨o, a1, a2, a3⟩ := I.s.led b x e
          exact ⟨o, but _ _ w' (fun z => by rw [z, I.hl] at e; cases e) a1, a2, a3⟩
      · show (σ.H.set d _) L = none
        rw [HM.set_ne _ _ b6.symm]; exact I.hl
end
end Mine
end
section
open PySem PySem.W PyProof.Rows PySem.Calls PyProof.V PySem.Spec PySem.SeqAt
namespace Mine
noncomputable def DIE : Addr := 233
inductive TbAt (pins : List (Addr × Obj)) (P : PM) (h : Heap) (a : Addr) (vs : Array Value) : Prop
  | mk (T : Addr) (oT : Obj) (ts : Array Value) (e1 : vs[1]? = some (.ref T)) (e2 : T ≠ a) (e3 : h.get? T = some oT) (e4 : oT.data = .fields ts) (e5 : 3 < ts.size) (e6 : P T = none) (e7 : ∀ q ∈ pins, q.1 ≠ T)
inductive ExcA (pins : List (Addr × Obj)) (P : PM) (h : Heap) (B : Addr → Array Value → Prop) (e : Value) : Prop
  | mk (a : Addr) (o : Obj) (vs : Array Value) (a0 : Value) (e0 : e = .ref a) (e1 : h.get? a = some o) (e2 : o.cls = .ref DIE) (e3 : o.data = .fields vs) (e4 : vs[0]? = some a0) (e5 : P a = none) (e6 : ∀ q ∈ pins, q.1 ≠ a) (e7 : B a vs)
abbrev ExcAt (c : Cx) (P : PM) (h : Heap) (e : Value) : Prop := ExcA c.pins P h (fun a vs => vs[1]? = some .none ∨ TbAt c.pins P h a vs) e
abbrev ExcT (c : Cx) (P : PM) (h : Heap) (e : Value) : Prop := ExcA c.pins P h (TbAt c.pins P h) e
theorem ExcT.at {c : Cx} {P : PM} {h : Heap} {e : Value} (x : ExcT c P h e) : ExcAt c P h e := by
  obtain ⟨a, o, vs, a0, h1, h2, h3, h4, h5, h6, h7, h8⟩ := x
  exact ⟨a, o, vs, a0, h1, h2, h3, h4, h5, h6, h7, .inr h8⟩
structure Ok (d : Nat) (A : Around) (fr : List Addr) : Prop where
  hd : A.handled = none
  dep : A.depth + d ≤ 990
  un : A.units + 8 * d ≤ 9800
  st : ∃ st, A.frames = some st ∧ ∀ e ∈ st, e.scope.kind ≠ .module ∧ ∃ L ∈ fr, e.frame = some L
section
variable {prog : Program} {w : World} {K : Frag} {p : Program} {loose : List Str} {mg mb : Str → Option Value} {G : Heap}
variable {c : Cx} {L : Addr} {names : Nm} {P P' : PM} {σ : St} {H : HM} {h h' : Heap} {s s' : Shared} {E : Value → Shared → Prop} {d : Nat}
theorem notFields {o : Obj} {x : AO} (r : OR P x o) : ∀ vs, o.data ≠ .fields vs := by
  intro vs z
  cases x with
  | list us => obtain ⟨ws, n, rfl, _⟩ := r; cases z
  | inst C d => obtain ⟨rfl, _⟩ := r; cases z
  | dict fs => obtain ⟨es, n, rfl, _⟩ := r; cases z
  | cell v => obtain ⟨u, e, _⟩ := r; rw [e] at z; cases z
noncomputable def Turns (bad : List Addr) (fr : List Addr) (h h' : Heap) : Prop :=
  (∀ b o, b ∉ bad → b ∉ fr → h.get? b = some o → h'.get? b = some o) ∧ ∀ b o, h.get? b = some o → (∀ vs, o.data ≠ .fields vs) → ∃ sl, h'.get? b = some { o with slots := sl }
theorem ns_turn {a : Addr} {m : Str → Option Value} (t : ∀ b o, h.get? b = some o → (∀ vs, o.data ≠ .fields vs) → ∃ sl, h'.get? b = some { o with slots := sl }) (n : h.Ns a m) : h'.Ns a m := by
  obtain ⟨o, es, ep, e1, e2, e3⟩ := n
  obtain ⟨sl, e4⟩ := t a o e1 (fun vs z => by rw [e2] at z; cases z)
  exact ⟨_, es, ep, e4, e2, e3⟩
theorem SInv.turns {bad fr : List Addr} (I : SInv G c P H h) (hb : ∀ b ∈ bad, P b = none ∧ H b = none ∧ ∀ q ∈ c.pins, q.1 ≠ b) (hf : ∀ b ∈ fr, P b = none ∧ H b = none ∧ ∀ q ∈ c.pins, q.1 ≠ b) (t : Turns bad fr h h') :
    SInv G c P H h' := by
  refine ⟨I.g, fun b o e => t.1 b o (fun m => ?_) (fun m => ?_) (I.k b o e), fun q hq => ⟨ns_turn t.2 (I.ns q hq).1, (I.ns q hq).2⟩, fun q hq => ⟨t.1 _ _ (fun m => ?_) (fun m => ?_) (I.pins q hq).1, (I.pins q hq).2⟩, I.np, fun a x e => ?_⟩
  · rw [(hb b m).1] at e; cases e
  · rw [(hf b m).1] at e; cases e
  · exact (hb _ m).2.2 q hq rfl
  · exact (hf _ m).2.2 q hq rfl
  · obtain ⟨o, a1, a2⟩ := I.led a x e
    refine ⟨o, t.1 _ _ (fun m => ?_) (fun m => ?_) a1, a2⟩
    · rw [(hb _ m).2.1] at e; cases e
    · rw [(hf _ m).2.1] at e; cases e
theorem FInv.turns {bad fr : List Addr} (I : FInv G c L names P σ h) (hb : ∀ b ∈ bad, P b = none ∧ σ.H b = none ∧ ∀ q ∈ c.pins, q.1 ≠ b) (hf : ∀ b ∈ fr, P b = none ∧ σ.H b = none ∧ ∀ q ∈ c.pins, q.1 ≠ b) (t : Turns bad fr h h') :
    FInv G c L names P σ h' := ⟨I.s.turns hb hf t, let ⟨m, a, b⟩ := I.f; ⟨m, ns_turn t.2 a, b⟩, I.p, I.hl, I.pin, I.nsl⟩
theorem FInv.frOk (I : FInv G c L names P σ h) : ∀ b ∈ L :: c.ns.map (·.1), P b = none ∧ σ.H b = none ∧ ∀ q ∈ c.pins, q.1 ≠ b := by
  intro b m
  rcases List.mem_cons.mp m with rfl | m
  · exact ⟨I.p, I.hl, I.pin⟩
  · obtain ⟨q, hq, rfl⟩ := List.mem_map.mp m
    exact ⟨(I.s.ns q hq).2.1, (I.s.ns q hq).2.2, fun r hr z => I.s.np q hq r hr z.symm⟩
theorem FInv.nsAt (I : FInv G c L names P σ h) {b : Addr} (m : b ∈ L :: c.ns.map (·.1)) : ∃ mm, h.Ns b mm := by
  rcases List.mem_cons.mp m with rfl | m
  · obtain ⟨mm, a, _⟩ := I.f; exact ⟨mm, a⟩
  · obtain ⟨q, hq, rfl⟩ := List.mem_map.mp m
    exact ⟨_, (I.s.ns q hq).1⟩
theorem H_of_fields (I : FInv G c L names P σ h) {a : Addr} {o : Obj} {vs : Array Value} (e : h.get? a = some o) (d : o.data = .fields vs) : σ.H a = none := by
  cases q : σ.H a with
  | none => rfl
  | some x =>
    obtain ⟨o', a1, r, _⟩ := I.at q
    rw [e] at a1; cases a1
    exact absurd d (notFields r vs)
theorem funFrames (I : FInv G c L names P σ h) {bad : List Addr} : ∀ {st : List Env}, (∀ e ∈ st, e.scope.kind ≠ .module ∧ ∃ L' ∈ L :: c.ns.map (·.1), e.frame = some L') →
    h.FunFrames (hideAll h (bad ++ (L :: c.ns.map (·.1)))) st
  | [], _ => trivial
  | e :: r, k => by
    obtain ⟨k1, L', m, k2⟩ := k e (.head _)
    refine ⟨k1, ?_, funFrames I fun e m => k e (.tail _ m)⟩
    obtain ⟨mm, o, es, ep, e1, e2, _⟩ := I.nsAt m
    exact ⟨L', o, k2, hideAll_none _ (List.mem_append_right _ m), e1, fun vs z => by rw [e2] at z; cases z⟩
theorem note_core {a : Addr} {o : Obj} {vs : Array Value} {a0 head : Value} {hadNext : Bool} {env : Env} {outer : List Env} {Q : Unit → Shared → Prop} (I : FInv G c L names P σ s.heap)
    (h2 : s.heap.get? a = some o) (h3 : o.cls = .ref DIE) (h4 : o.data = .fields vs) (h5 : vs[0]? = some a0) (hz : 1 < vs.size) (h6 : P a = none) (h7 : ∀ q ∈ c.pins, q.1 ≠ a)
    (hfr : c.A.frames = some (env :: outer)) (hf : env.frame = some L)
    (st : ∀ e ∈ env :: outer, e.scope.kind ≠ .module ∧ ∃ L' ∈ L :: c.ns.map (·.1), e.frame = some L')
    (hq : ∀ h', FInv G c L names P σ h' → ExcT c P h' (.ref a) → Q () { s with heap := h' }) :
    wpAny (model prog w) c.A (do let f ← frameOf env; let pl ← entryPlaceOf L hadNext; let b ← EntryCells.newEntry head f .none (rawInt L) .none pl; setField (.ref a) 1 b) Q E s := by
  have Ha := H_of_fields I h2 h4
  refine wpAny_entryW (base := hideAll s.heap ([a] ++ (L :: c.ns.map (·.1)))) hfr (funFrames I st) hf h2 (fun b o e => of_hideAll _ e) (hideAll_none _ (by simp)) h4 hz h5 fun h' N => ?_
  obtain ⟨n1, n2, n3, n4⟩ := N
  have tn : Turns [a] (L :: c.ns.map (·.1)) s.heap h' := ⟨fun b o x y e => n1 b o (hideAll_get _ e (by simp only [List.mem_append, not_or]; exact ⟨x, y⟩)), n4⟩
  refine hq h' (I.turns (fun b m => ?_) I.frOk tn) ?_
  · rcases List.mem_singleton.mp m with rfl; exact ⟨h6, Ha, h7⟩
  · obtain ⟨oe, vs', T, oT, ts, g1, ⟨g2, g3⟩, g4, g5, g6, g7, g8, g9, g10⟩ := n3
    refine ⟨a, oe, vs', a0, rfl, g1, g2.trans h3, g4, g3, h6, h7, T, oT, ts, g5, g7, g8, g9, (Array.getElem?_eq_some_iff.mp g10).1, ?_, fun q hq z => ?_⟩
    · cases z : P T with
      | none => rfl
      | some y =>
        have hh := hideAll_get ([a] ++ (L :: c.ns.map (·.1))) (I.s.k _ _ z) (by
          simp only [List.mem_append, not_or]
          refine ⟨?_, fun m => ?_⟩
          · intro q; rcases List.mem_singleton.mp q with rfl; exact g7 rfl
          · have := (I.frOk T m).1; rw [z] at this; cases this)
        rw [g6] at hh; cases hh
    · have e1 := (I.s.pins q hq).1
      have hh := hideAll_get ([a] ++ (L :: c.ns.map (·.1))) e1 (by
        simp only [List.mem_append, not_or]
        refine ⟨?_, fun m => (I.frOk _ m).2.2 q hq rfl⟩
        intro q'; rcases List.mem_singleton.mp q' with e; exact h7 q hq e)
      rw [z, g6] at hh; cases hh
theorem FInv.updT {T : Addr} {oT : Obj} {ts : Array Value} {f : Obj → Obj} (I : FInv G c L names P σ h) (t3 : h.get? T = some oT) (t4 : oT.data = .fields ts) (t6 : P T = none) (t7 : ∀ q ∈ c.pins, q.1 ≠ T) : FInv G c L names P σ (h.update T f) ∧ ∀ b, b ≠ T → (h.update T f).get? b = h.get? b := by
  have HT := H_of_fields I t3 t4
  have ne : ∀ b, b ≠ T → (h.update T f).get? b = h.get? b := fun b n => update_other' _ _ n
  refine ⟨I.turns (bad := [T]) (fr := []) (fun b m => ?_) (fun b m => nomatch m) ⟨fun b o x _ e => (ne b (fun z => x (by simp [z]))).trans e, fun b o e nf => ⟨o.slots, (ne b (fun z => ?_)).trans e⟩⟩, ne⟩
  · rcases List.mem_singleton.mp m with rfl; exact ⟨t6, HT, t7⟩
  · subst z; rw [t3] at e; cases e; exact nf ts t4
theorem noteFrame_sound {e : Value} {env : Env} {outer : List Env} {Q : Unit → Shared → Prop} (I : FInv G c L names P σ s.heap) (x : ExcAt c P s.heap e) (hfr : c.A.frames = some (env :: outer)) (hf : env.frame = some L)
    (st : ∀ e ∈ env :: outer, e.scope.kind ≠ .module ∧ ∃ L' ∈ L :: c.ns.map (·.1), e.frame = some L')
    (hq : ∀ h', FInv G c L names P σ h' → ExcT c P h' e → Q () { s with heap := h' }) : wpAny (model prog w) c.A (noteFrame e env) Q E s := by
  obtain ⟨a, o, vs, a0, rfl, h2, h3, h4, h5, h6, h7, h8⟩ := x
  unfold noteFrame
  simp only [hf]
  rcases h8 with h8 | ⟨T, oT, ts, t1, t2, t3, t4, t5, t6, t7⟩
  · refine wpAny_bind (wpAny_field h2 h4 h8 ?_)
    rw [if_neg (by decide)]
    exact note_core I h2 h3 h4 h5 (Array.getElem?_eq_some_iff.mp h8).1 h6 h7 hfr hf st hq
  · refine wpAny_bind (wpAny_field h2 h4 t1 ?_)
    rw [if_pos (show (Value.ref T != Value.none) = true from by simp)]
    obtain ⟨x3, hx3⟩ : ∃ x, ts[3]? = some x := ⟨_, Array.getElem?_eq_getElem t5⟩
    refine wpAny_bind (wpAny_field t3 t4 hx3 ?_)
    by_cases q3 : (x3 == rawInt L) = true
    · rw [if_pos q3]
      exact wpAny_pure (hq s.heap I ⟨a, o, vs, a0, rfl, h2, h3, h4, h5, h6, h7, T, oT, ts, t1, t2, t3, t4, t5, t6, t7⟩)
    · rw [if_neg q3]
      refine wpAny_bind (wpAny_setField t3 t4 t5 ?_)
      obtain ⟨I', ne⟩ := I.updT (f := Obj.mapFields (·.setIfInBounds 3 .none)) t3 t4 t6 t7
      exact note_core (s := { s with heap := s.heap.update T (Obj.mapFields (·.setIfInBounds 3 .none)) }) I' ((ne a (Ne.symm t2)).trans h2) h3 h4 h5 (Array.getElem?_eq_some_iff.mp t1).1 h6 h7 hfr hf st hq
theorem setFlight_sound {e : Value} {fr : Option Addr} {Q : Unit → Shared → Prop} (I : FInv G c L names P σ s.heap) (x : ExcAt c P s.heap e)
    (hq : ∀ h', FInv G c L names P σ h' → ExcAt c P h' e → (ExcT c P s.heap e → ExcT c P h' e) → Q () { s with heap := h' }) : wpAny (model prog w) c.A (setFlight e fr) Q E s := by
  have x0 := x
  obtain ⟨a, o, vs, a0, rfl, h2, h3, h4, h5, h6, h7, h8⟩ := x
  unfold setFlight
  rcases h8 with h8 | ⟨T, oT, ts, t1, t2, t3, t4, t5, t6, t7⟩
  · refine wpAny_bind (wpAny_field h2 h4 h8 ?_)
    rw [if_neg (by decide)]
    exact wpAny_pure (hq s.heap I x0 id)
  · refine wpAny_bind (wpAny_field h2 h4 t1 ?_)
    rw [if_pos (show (Value.ref T != Value.none) = true from by simp)]
    refine wpAny_setField t3 t4 t5 ?_
    obtain ⟨I', ne⟩ := I.updT (f := Obj.mapFields (·.setIfInBounds 3 (fr.elim Value.none fun f => rawInt f))) t3 t4 t6 t7
    have X : ExcT c P (s.heap.update T (Obj.mapFields (·.setIfInBounds 3 (fr.elim Value.none fun f => rawInt f)))) (.ref a) :=
      ⟨a, o, vs, a0, rfl, (ne a (Ne.symm t2)).trans h2, h3, h4, h5, h6, h7, T, _, _, t1, t2, Heap.get?_update_self _ t3 (Obj.isFreed_of_fields (Obj.data_mapFields t4 _)), Obj.data_mapFields t4 _, by simpa using t5, t6, t7⟩
    exact hq _ I' X.at fun _ => X
theorem leaving_sound {e : Value} {env : Env} {outer : List Env} {Q : Unit → Shared → Prop} (I : FInv G c L names P σ s.heap) (x : ExcAt c P s.heap e) (hfr : c.A.frames = some (env :: outer)) (hf : env.frame = some L)
    (st : ∀ e ∈ env :: outer, e.scope.kind ≠ .module ∧ ∃ L' ∈ L :: c.ns.map (·.1), e.frame = some L')
    (hq : ∀ h', FInv G c L names P σ h' → ExcT c P h' e → Q () { s with heap := h' }) : wpAny (model prog w) c.A (leaving env e) Q E s := by
  unfold leaving
  refine wpAny_bind (noteFrame_sound I x hfr hf st fun h1 I1 x1 => ?_)
  exact setFlight_sound (s := { s with heap := h1 }) I1 x1.at fun h2 I2 x2 x3 => hq h2 I2 (x3 x1)
theorem cameBack_sound {e : Value} {env : Env} {X : Value → Shared → Prop} (I : FInv G c L names P σ s.heap) (x : ExcT c P s.heap e)
    (hq : ∀ h', FInv G c L names P σ h' → ExcT c P h' e → X e { s with heap := h' }) : cameBackBy (model prog w) c.A env X e s := by
  unfold cameBackBy
  have x0 := x
  obtain ⟨a, o, vs, a0, rfl, h2, h3, h4, h5, h6, h7, T, oT, ts, t1, t2, t3, t4, t5, t6, t7⟩ := x
  refine wpAny_bind (wpAny_field h2 h4 t1 ?_)
  rw [if_neg (by simp)]
  exact setFlight_sound I x0.at fun h2 I2 x2 x3 => hq h2 I2 (x3 x0)
end
end Mine
end
section
open PySem PySem.W PyProof.Rows PySem.Calls PyProof.V PySem.Spec PySem.SeqAt
namespace Mine
section
variable {prog : Program} {w : World} {A : Around} {E : Value → Shared → Prop} {R : Result → Shared → Prop} {s : Shared}
theorem while_step {test : Expr} {body : List Stmt} {env : Env}
    (h : wpAny (model prog w) A (isTrue test env (eval test env)) (fun b s₂ =>
        if b then wpAny (model prog w) A (execs body env) (fun f s₃ => match f with
            | .next => codeAny (model prog w) A (.whileLoop test body [] env) R s₃
            | .cont => codeAny (model prog w) A (.whileLoop test body [] env) R s₃
            | .brk => R (.ok .next) s₃
            | .ret v => R (.ok (.ret v)) s₃) (notedBy (model prog w) A env fun e s' => R (.error e) s') s₂
        else R (.ok .next) s₂)
        (notedBy (model prog w) A env fun e s' => R (.error e) s') s) : codeAny (model prog w) A (.whileLoop test body [] env) R s := by
  refine codeAny_of_tree ?_
  rw [Around.under_of_weight rfl]
  show wpAny _ A ((whileTurn test body [] env).onRaise (fun x => do noteFrame x env; theTreesLotGoes x)) _ _ s
  refine wpAny_noted ?_
  simp only [whileTurn]
  refine wpAny_bind (wpAny_mono h (fun b s₂ h₂ => ?_) fun _ _ h' => h')
  cases b with
  | false =>
    simp only [Bool.false_eq_true, if_false] at h₂ ⊢
    exact wpAny_bind (wpAny_execs_nil (wpAny_pure h₂))
  | true =>
    simp only [if_true] at h₂ ⊢
    refine wpAny_bind (wpAny_mono h₂ (fun f s₃ h₃ => ?_) fun _ _ h' => h')
    cases f with
    | next => exact wpAny_pure ⟨rfl, h₃⟩
    | cont => exact wpAny_pure ⟨rfl, h₃⟩
    | brk => exact wpAny_pure h₃
    | ret v => exact wpAny_pure h₃
theorem for_step {target : Expr} {it : Value} {body : List Stmt} {env : Env}
    (turn : wpAny (model prog w) A (pyNext it) (fun r s₁ => match r with
      | none => R (.ok .next) s₁
      | some v => wpAny (model prog w) A (letOwnedTupleGo target it v) (fun _ s₁' =>
          wpAny (model prog w) A (assign target env v) (fun _ s₂ => wpAny (model prog w) A (execs body env) (fun f s₃ => match f with
            | .next => codeAny (model prog w) A (.forLoop target it body [] env) R s₃
            | .cont => codeAny (model prog w) A (.forLoop target it body [] env) R s₃
            | .brk => R (.ok .next) s₃
            | .ret v => R (.ok (.ret v)) s₃) (notedBy (model prog w) A env fun e s' => R (.error e) s') s₂) (notedBy (model prog w) A env fun e s' => R (.error e) s') s₁') (notedBy (model prog w) A env fun e s' => R (.error e) s') s₁) (notedBy (model prog w) A env fun e s' => R (.error e) s') s) :
    codeAny (model prog w) A (.forLoop target it body [] env) R s := by
  refine codeAny_of_tree ?_
  rw [Around.under_of_weight rfl]
  show wpAny _ A ((forTurn target it body [] env).onRaise (fun x => do noteFrame x env; theTreesLotGoes x)) _ _ s
  refine wpAny_noted ?_
  simp only [forTurn]
  refine wpAny_bind (wpAny_standAt (wpAny_bind (wpAny_onRaise (wpAny_mono turn (fun r s₁ h₁ => ?_) fun _ _ h' => wpAny_standAt h'))))
  cases r with
  | none => exact wpAny_pure ⟨rfl, codeAny_block (wpAny_execs_nil h₁)⟩
  | some v =>
    refine wpAny_bind (wpAny_mono h₁ (fun _ s₁' h₁' => ?_) fun _ _ h' => h')
    refine wpAny_bind (wpAny_mono h₁' (fun _ s₂ h₂ => wpAny_bind (wpAny_mono h₂ (fun f s₃ h₃ => ?_) fun _ _ h' => h')) fun _ _ h' => h')
    cases f with
    | next => exact wpAny_pure ⟨rfl, h₃⟩
    | cont => exact wpAny_pure ⟨rfl, h₃⟩
    | brk => exact wpAny_pure h₃
    | ret v => exact wpAny_pure h₃
theorem comp_step {e elt target iter : Expr} {gens : List Comprehension} {scope : Scope} {pos : Pos} {depth : Nat} {it acc : Value} {env : Env} (hg : gens[depth]? = some ⟨target, iter, [], 0⟩) (hg' : gens[depth + 1]? = none)
    (turn : wpAny (model prog w) A (pyNext it) (fun r s₁ => match r with
      | none => R (.ok .next) s₁
      | some v => wpAny (model prog w) A (letOwnedTupleGo target it v) (fun _ s₁' => wpAny (model prog w) A (assign target env v) (fun _ s₂ => wpAny (model prog w) A (eval elt env) (fun x s₃ =>
          wpAny (model prog w) A (call (.builtin "list.append") [acc, x]) (fun _ s₄ => codeAny (model prog w) A (.compLoop (.ListComp elt gens scope pos) depth it acc env) R s₄) (fun _ _ => False) s₃)
          (fun _ _ => False) s₂) (fun _ _ => False) s₁') (fun _ _ => False) s₁) (fun _ _ => False) s) :
    codeAny (model prog w) A (.compLoop (.ListComp elt gens scope pos) depth it acc env) R s := by
  refine codeAny_of_tree ?_
  rw [Around.under_of_weight rfl]
  show wpAny _ _ ((compTurn (.ListComp elt gens scope pos) depth it acc env).onRaise (fun x => do noteFrame x env; theTreesLotGoes x)) _ _ s
  refine wpAny_onRaise (wpAny_mono (Q := _) (E := fun _ _ => False) ?_ (fun _ _ q => q) fun _ _ z => z.elim)
  unfold compTurn
  simp only [hg, hg']
  refine wpAny_bind (wpAny_standAt (wpAny_bind (wpAny_mono turn (fun r s₁ h₁ => ?_) fun _ _ h' => h')))
  cases r with
  | none => exact wpAny_pure h₁
  | some v =>
    refine wpAny_bind (wpAny_mono h₁ (fun _ s₁' h₁' => ?_) fun _ _ h' => h')
    refine wpAny_bind (wpAny_mono h₁' (fun _ s₂ h₂ => ?_) fun _ _ h' => h')
    simp only [List.forIn_nil]
    refine wpAny_bind (wpAny_pure ?_)
    rw [if_pos rfl]
    exact wpAny_bind (wpAny_bind (wpAny_mono h₂ (fun x s₃ h₃ => wpAny_bind (wpAny_mono h₃ (fun _ s₄ h₄ => wpAny_pure (wpAny_pure ⟨rfl, h₄⟩)) fun _ _ h' => h')) fun _ _ h' => h'))
end
end Mine
end
section
open PySem PySem.W PyProof.Rows PySem.Calls PyProof.V PySem.Spec PySem.SeqAt
namespace Mine
section
variable (prog : Program) (w : World) (K : Frag) (G : Heap)
inductive CPost (c : Cx) (P : PM) (s : Shared) (Q : AV → HM → Prop) (X : HM → Prop) (r : Result) (s' : Shared) : Prop
  | mk (P' : PM) (H' : HM) (k : PLe P P') (J : SInv G c P' H' s'.heap) (rs : Rest s s') (q : match r with
    | .ok (.ret v) => ∃ av, VR P' av v ∧ Q av H'
    | .ok _ => False
    | .error e => ExcAt c P' s'.heap e ∧ X H')
noncomputable def CallS (d : Nat) : CallP := fun f args H Q X =>
  ∃ fa, f = .glob (.ref fa) ∧ keepIn K (.ref fa) = true ∧ ∀ (c : Cx) (P : PM) (s : Shared) (vs : List Value), Ok d c.A (c.ns.map (·.1)) → SInv G c P H s.heap → VRs P args vs →
    codeAny (model prog w) c.A (.call (.ref fa) ⟨vs, []⟩) (CPost G c P s Q X) s
noncomputable def methIn (C : Addr) (name : Str) : Option AV := match findIn K (.ref C) name with
  | some (some (.ref f)) => if typeIn K (.ref f) == some (.type "function") then some (.glob (.ref f)) else none
  | _ => none
noncomputable def CPs (d : Nat) : CP := { call := CallS prog w K G d, meth := methIn K, ninst := KNi K }
end
section
variable {prog : Program} {w : World} {K : Frag} {p : Program} {loose : List Str} {mg mb : Str → Option Value} {G : Heap} {d : Nat}
structure EnvOk (sc : Scope) (env : Env) (L : Addr) : Prop where
  se : env.scope = sc
  k : sc.kind = .function
  l : env.locals = L
  g : env.globals = mainGlobals
  b : env.builtins = builtinsNs
inductive PV (G : Heap) (c : Cx) (L : Addr) (names : Nm) (P : PM) (l : List (Option AV)) (s : Shared) (Q : AV → St → Prop) (v : Value) (s' : Shared) : Prop
  | mk (P' : PM) (H' : HM) (av : AV) (k : PLe P P') (J : FInv G c L names P' ⟨l, H'⟩ s'.heap) (r : Rest s s') (v : VR P' av v) (q : Q av ⟨l, H'⟩)
inductive PVs (G : Heap) (c : Cx) (L : Addr) (names : Nm) (P : PM) (l : List (Option AV)) (s : Shared) (Q : List AV → St → Prop) (vs : List Value) (s' : Shared) : Prop
  | mk (P' : PM) (H' : HM) (avs : List AV) (k : PLe P P') (J : FInv G c L names P' ⟨l, H'⟩ s'.heap) (r : Rest s s') (v : VRs P' avs vs) (q : Q avs ⟨l, H'⟩)
inductive PT (G : Heap) (c : Cx) (L : Addr) (names : Nm) (P : PM) (l : List (Option AV)) (s : Shared) (Q : Bool → St → Prop) (b : Bool) (s' : Shared) : Prop
  | mk (P' : PM) (H' : HM) (k : PLe P P') (J : FInv G c L names P' ⟨l, H'⟩ s'.heap) (r : Rest s s') (q : Q b ⟨l, H'⟩)
inductive PX (G : Heap) (c : Cx) (L : Addr) (names : Nm) (P : PM) (s : Shared) (X : St → Prop) (e : Value) (s' : Shared) : Prop
  | mk (P' : PM) (σ' : St) (k : PLe P P') (J : FInv G c L names P' σ' s'.heap) (r : Rest s s') (x : ExcAt c P' s'.heap e) (q : X σ')
variable {c : Cx} {L : Addr} {names : Nm} {P P' P1 : PM} {σ : St} {s s' s1 : Shared} {E : Value → Shared → Prop}
variable {l : List (Option AV)}
theorem PV.up {Q v} (k : PLe P P1) (r : Rest s s1) (h : PV G c L names P1 l s1 Q v s') : PV G c L names P l s Q v s' :=
  let ⟨P', σ', av, a, b, c, d, e⟩ := h; ⟨P', σ', av, k.trans a, b, r.trans c, d, e⟩
theorem PT.up {Q v} (k : PLe P P1) (r : Rest s s1) (h : PT G c L names P1 l s1 Q v s') : PT G c L names P l s Q v s' :=
  let ⟨P', σ', a, b, c, d⟩ := h; ⟨P', σ', k.trans a, b, r.trans c, d⟩
theorem PX.up {X v} (k : PLe P P1) (r : Rest s s1) (h : PX G c L names P1 s1 X v s') : PX G c L names P s X v s' :=
  let ⟨P', σ', a, b, c, d, e⟩ := h; ⟨P', σ', k.trans a, b, r.trans c, d, e⟩
structure Tabs (K : Frag) (GT BT : List (Str × Value)) : Prop where
  gt : ∀ x v, GT.lookup x = some v → nsIn K mainGlobals x = some (some v)
  bt : ∀ x v, BT.lookup x = some v → nsIn K mainGlobals x = some none ∧ bootBuiltins x = some v ∧ x ≠ "__name__"
variable {GT BT : List (Str × Value)}
theorem name_global {A : Around} {env : Env} {sc : Scope} {x : Str} {pos : Pos} {v : Value} {Q : Value → Shared → Prop} (g : Glo K p loose mg mb G) (T : Tabs K GT BT) (I : FInv G c L names P σ s.heap) (eo : EnvOk sc env L)
    (hk : sc.names.lookup x = some .globalImplicit) (hd : (x == ("__debug__" : Str)) = false) (hv : GT.lookup x = some v ∨ BT.lookup x = some v) (h : Q v s) : wpAny (model prog w) A (eval (.Name x pos) env) Q E s := by
  have hx : env.kindOf x = some .globalImplicit := by unfold Env.kindOf; rw [eo.se]; exact hk
  have hK : env.scope.kind = .function := by rw [eo.se]; exact eo.k
  have top := I.s.top g
  have kin := I.s.kin g
  rcases hv with hv | hv
  · exact Name_function_global hK hx (loadGlobal_global (by rw [eo.g]; exact top.g) (mg_of kin top.g (T.gt x v hv)) h) hd
  · obtain ⟨b1, b2, b3⟩ := T.bt x v hv
    exact Name_function_global hK hx (loadGlobal_builtin (by rw [eo.g]; exact top.g) (mg_none_of kin top.g b1) (by rw [eo.b]; exact top.b) ((top.builtins x b3).trans b2) h) hd
theorem name_local {A : Around} {env : Env} {sc : Scope} {nm : List Str} {x : Str} {pos : Pos} {i : Nat} {v : AV} {Q : Value → Shared → Prop} (I : FInv G c L ⟨nm, env⟩ P σ s.heap) (eo : EnvOk sc env L)
    (hn : nm[i]? = some x) (hk : sc.names.lookup x = some .local) (hd : (x == ("__debug__" : Str)) = false) (hl : σ.loc[i]? = some (some v)) (h : ∀ u, VR P v u → Q u s) : wpAny (model prog w) A (eval (.Name x pos) env) Q E s := by
  obtain ⟨m, hm, lr⟩ := I.f
  have hx : env.kindOf x = some .local := by unfold Env.kindOf; rw [eo.se]; exact hk
  obtain ⟨u, a, b⟩ := (lr i x v hn hl).1 hx
  exact wpAny_Name (wpAny_loadName_local (by rw [eo.se]; exact eo.k) hx (by rw [eo.l]; exact hm) a (h u b)) hd
theorem name_cell {A : Around} {env : Env} {sc : Scope} {nm : List Str} {x : Str} {pos : Pos} {i : Nat} {ca : Addr} {v : AV} {Q : Value → Shared → Prop} (I : FInv G c L ⟨nm, env⟩ P σ s.heap) (eo : EnvOk sc env L)
    (hn : nm[i]? = some x) (hk : sc.names.lookup x = some .cell) (hd : (x == ("__debug__" : Str)) = false) (hl : σ.loc[i]? = some (some (.ref ca))) (hc : σ.H ca = some (.cell (some v))) (h : ∀ u, VR P v u → Q u s) : wpAny (model prog w) A (eval (.Name x pos) env) Q E s := by
  obtain ⟨m, hm, lr⟩ := I.f
  have hx : env.kindOf x = some .cell := by unfold Env.kindOf; rw [eo.se]; exact hk
  obtain ⟨ca', e, e2⟩ := (lr i x _ hn hl).2 hx
  cases e
  obtain ⟨o, o1, ⟨u, o2, y, rfl, ry⟩, _⟩ := I.at hc
  exact wpAny_Name (wpAny_loadName_cell (by rw [eo.se]; exact eo.k) hx e2 ⟨_, o1, o2⟩ (h y ry)) hd
theorem rangeSize_le (a b st : Int) (h : rngOk a b st) : 0 ≤ Builtin.Range.rangeSize a b st ∧ Builtin.Range.rangeSize a b st ≤ 2 ^ 42 := by
  obtain ⟨h0, h1, h2, h3, h4, h5, h6⟩ := h
  unfold Builtin.Range.rangeSize
  split
  · split
    · have a1 : 0 ≤ (b - a - 1) / st := Int.ediv_nonneg (by omega) (by omega)
      have a2 : (b - a - 1) / st ≤ b - a - 1 := Int.ediv_le_self _ (by omega)
      omega
    · omega
  · split
    · have a1 : 0 ≤ (a - b - 1) / -st := Int.ediv_nonneg (by omega) (by omega)
      have a2 : (a - b - 1) / -st ≤ a - b - 1 := Int.ediv_le_self _ (by omega)
      omega
    · omega
theorem range_small (a b st : Int) (h : rngOk a b st) : Builtin.Range.small a b st = true := by
  have h' := rangeSize_le a b st h
  obtain ⟨h0, h1, h2, h3, h4, h5, h6⟩ := h
  unfold Builtin.Range.small Builtin.Range.rangeFitsLong
  generalize Builtin.Range.rangeSize a b st = n at *
  simp only [Bool.and_eq_true, decide_eq_true_eq, Bool.or_eq_true, beq_iff_eq]
  refine ⟨⟨⟨⟨?_, ?_⟩, ?_⟩, ?_⟩, Or.inr ?_⟩
  · omega
  · omega
  · omega
  · omega
  · split <;> simp <;> omega
end
end Mine
end
section
open PySem PySem.W PyProof.Rows PySem.Calls PyProof.V PySem.Spec PySem.SeqAt
namespace Mine
noncomputable def nst (e : Expr) : Bool := e.ctorIdx != 22
noncomputable def nsl (e : Expr) : Bool := e.ctorIdx != 26
noncomputable def biN : Bi → Str
  | .len => "len" | .abs => "abs" | .min => "min" | .max => "max" | .ord => "ord" | .chr => "chr"
  | .int => "int" | .str => "str" | .list => "list" | .isinst => "isinstance" | .range => "range"
noncomputable def meN : Me → Str
  | .append => "append" | .extend => "extend" | .reverse => "reverse" | .pop => "pop" | .join => "join"
noncomputable def dbg : Str := "__debug__"
noncomputable def capOk (sc : Scope) (nm : List Str) (scope : Scope) (nm' : List Str) : List Nat → List Str → Bool
  | [], [] => true
  | i :: is, x :: xs => nm[i]? == some x && sc.names.lookup x == some .cell && scope.names.lookup x == some .free && capOk sc nm scope nm' is xs
  | _, _ => false
noncomputable def ndB : List Str → Bool
  | [] => true
  | x :: r => !r.contains x && ndB r
noncomputable def relab (sc : Scope) (scope : Scope) : Scope :=
  { scope with names := scope.names.map fun (n, k) => if (k == .free && sc.kind == .function && sc.names.lookup n == some .cell) then (n, .cell) else (n, k) }
noncomputable def scopeOk (scope : Scope) : Bool := scope.kind == .function && scope.names.all fun x => x.2 != .local || scope.names.lookup x.1 == some .local
noncomputable def noCell (scope : Scope) : Bool := scope.names.all fun x => x.2 != .cell
noncomputable def noFree (scope : Scope) : Bool := scope.names.all fun x => x.2 != .free
noncomputable def plainT : Expr → Bool
  | .UnaryOp op _ _ => op != .Not
  | .BoolOp .. => false
  | .IfExp .. => false
  | .Compare .. => false
  | _ => true
noncomputable def tOk (e : CE) (x : Expr) : Bool := match e with
  | .not _ => true | .and _ => true | .or _ => true | .ite .. => true | .cmp .. => true | .chain .. => true
  | _ => plainT x
noncomputable def tOks : CEs → List Expr → Bool
  | .nil, _ => true
  | .cons e es, xs => match xs with | [] => true | x :: xs => tOk e x && tOks es xs
noncomputable def notCall (v : Expr) : Bool := v.ctorIdx != 16
noncomputable def notSet (v : Expr) : Bool := v.ctorIdx != 7
noncomputable def isName (sc : Scope) (x : Str) (k : NameKind) : Bool := sc.names.lookup x == some k && (x == dbg) == false
theorem on_ifk {n i : Nat} {g : n = i → Bool} {C : Prop} (h : (if e : n = i then g e else false) = true) (k : ∀ e, g e = true → C) : C := by
  by_cases z : n = i
  · rw [dif_pos z] at h; exact k z h
  · rw [dif_neg z] at h; cases h
theorem on_if {n i : Nat} {g : n = i → Bool} (h : (if e : n = i then g e else false) = true) : ∃ e, g e = true := by
  by_cases z : n = i
  · rw [dif_pos z] at h; exact ⟨z, h⟩
  · rw [dif_neg z] at h; cases h
noncomputable def onBin (x : Expr) (f : Expr → Operator → Expr → Bool) : Bool := if e : x.ctorIdx = 2 then PySem.Expr.BinOp.elim (motive_1 := fun _ => Bool) x e (fun a b c _ => f a b c) else false
noncomputable def onUn (x : Expr) (f : UnaryOp → Expr → Bool) : Bool := if e : x.ctorIdx = 3 then PySem.Expr.UnaryOp.elim (motive_1 := fun _ => Bool) x e (fun a b _ => f a b) else false
noncomputable def onCmp (x : Expr) (f : Expr → (List CmpOp) → (List Expr) → Bool) : Bool := if e : x.ctorIdx = 15 then PySem.Expr.Compare.elim (motive_1 := fun _ => Bool) x e (fun a b c _ => f a b c) else false
noncomputable def onBoolOp (x : Expr) (f : BoolOp → (List Expr) → Bool) : Bool := if e : x.ctorIdx = 0 then PySem.Expr.BoolOp.elim (motive_1 := fun _ => Bool) x e (fun a b _ => f a b) else false
noncomputable def onIf (x : Expr) (f : Expr → Expr → Expr → Bool) : Bool := if e : x.ctorIdx = 5 then PySem.Expr.IfExp.elim (motive_1 := fun _ => Bool) x e (fun a b c _ => f a b c) else false
noncomputable def onSub (x : Expr) (f : Expr → Expr → Bool) : Bool := if e : x.ctorIdx = 21 then PySem.Expr.Subscript.elim (motive_1 := fun _ => Bool) x e (fun a b _ => f a b) else false
noncomputable def onTup (x : Expr) (f : (List Expr) → Bool) : Bool := if e : x.ctorIdx = 25 then PySem.Expr.Tuple.elim (motive_1 := fun _ => Bool) x e (fun a _ _ => f a) else false
noncomputable def onCall (x : Expr) (f : Expr → (List Expr) → (List Keyword) → Pos → Bool) : Bool := if e : x.ctorIdx = 16 then PySem.Expr.Call.elim (motive_1 := fun _ => Bool) x e (fun a b c d => f a b c d) else false
noncomputable def onComp (x : Expr) (f : Expr → (List Comprehension) → Scope → Pos → Bool) : Bool := if e : x.ctorIdx = 8 then PySem.Expr.ListComp.elim (motive_1 := fun _ => Bool) x e (fun a b c d => f a b c d) else false
noncomputable def onName (x : Expr) (f : Str → Pos → Bool) : Bool := if e : x.ctorIdx = 23 then PySem.Expr.Name.elim (motive_1 := fun _ => Bool) x e (fun a b => f a b) else false
noncomputable def onSlice (x : Expr) (f : (Option Expr) → (Option Expr) → (Option Expr) → Bool) : Bool := if e : x.ctorIdx = 26 then PySem.Expr.Slice.elim (motive_1 := fun _ => Bool) x e (fun a b c _ => f a b c) else false
noncomputable def onList (x : Expr) (f : (List Expr) → Bool) : Bool := if e : x.ctorIdx = 24 then PySem.Expr.List.elim (motive_1 := fun _ => Bool) x e (fun a _ => f a) else false
noncomputable def onAttr (x : Expr) (f : Expr → Str → Pos → Bool) : Bool := if e : x.ctorIdx = 20 then PySem.Expr.Attribute.elim (motive_1 := fun _ => Bool) x e (fun a b c => f a b c) else false
noncomputable def onConst (x : Expr) (f : Const → Bool) : Bool := if e : x.ctorIdx = 19 then PySem.Expr.Constant.elim (motive_1 := fun _ => Bool) x e (fun c _ _ => f c) else false
theorem onConst_el {x : Expr} {f : Const → Bool} {C : Expr → Prop} (h : onConst x f = true) (k : ∀ c a b, f c = true → C (.Constant c a b)) : C x :=
  on_ifk h fun e h => PySem.Expr.Constant.elim (motive_1 := fun x => ∀ e, PySem.Expr.Constant.elim (motive_1 := fun _ => Bool) x e (fun c _ _ => f c) = true → C x) x e (fun c a b _ h => k c a b h) e h
noncomputable def onInt (x : Expr) (f : Int → Bool) : Bool := onConst x fun c => if e : c.ctorIdx = 2 then PySem.Const.int.elim (motive := fun _ => Bool) c e f else false
noncomputable def onStr (x : Expr) (f : Str → Bool) : Bool := onConst x fun c => if e : c.ctorIdx = 5 then PySem.Const.str.elim (motive := fun _ => Bool) c e f else false
noncomputable def onBoolC (x : Expr) (f : Bool → Bool) : Bool := onConst x fun c => if e : c.ctorIdx = 1 then PySem.Const.bool.elim (motive := fun _ => Bool) c e f else false
noncomputable def onNoneC (x : Expr) : Bool := onConst x fun c => c == .none
noncomputable def onNeg (x : Expr) (f : Expr → Bool) : Bool := onUn x fun op y => op == .USub && f y
noncomputable def oneX (xs : List Expr) (f : Expr → Bool) : Bool := match xs with | [] => false | x :: r => r.isEmpty && f x
noncomputable def twoX (xs : List Expr) (f : Expr → Expr → Bool) : Bool := match xs with | [] => false | x :: r => oneX r (f x)
noncomputable def oneO (xs : List CmpOp) (f : CmpOp → Bool) : Bool := match xs with | [] => false | x :: r => r.isEmpty && f x
noncomputable def twoO (xs : List CmpOp) (f : CmpOp → CmpOp → Bool) : Bool := match xs with | [] => false | x :: r => oneO r (f x)
noncomputable def onSome (x : Option Expr) (f : Expr → Bool) : Bool := match x with | none => false | some x => f x
noncomputable def gen1 (gs : List Comprehension) (f : Str → Expr → Bool) : Bool := match gs with
  | [] => false
  | g :: r => r.isEmpty && g.ifs.isEmpty && g.is_async == 0 && onName g.target fun x _ => f x g.iter
noncomputable def gen2 (gs : List Comprehension) (f : Str → Expr → Str → Expr → Bool) : Bool := match gs with
  | [] => false
  | g :: r => g.ifs.isEmpty && g.is_async == 0 && onName g.target fun x _ => gen1 r (f x g.iter)
noncomputable def frees' (scope : Scope) : List Str := (scope.names.filter (·.2 == .free)).map (·.1)
noncomputable def onPart (e : CE) (x : Option Expr) (f : Expr → Bool) : Bool := match x with
  | none => (match e with | .nopart => true | _ => false)
  | some x => f x
noncomputable def fz (x : Expr) : Bool := onName x (fun _ _ => true) || onAttr x fun _ _ _ => true
mutual
noncomputable def mE (GT BT : List (Str × Value)) (sc : Scope) (nm : List Str) : CE → Expr → Bool
  | .int i, x => onInt x fun j => i == j
  | .str l, x => onStr x fun x => x.cps.toList == l && decide (l.length ≤ 1000)
  | .bool b, x => onBoolC x fun b' => b == b'
  | .none, x => onNoneC x
  | .loc i, x => onName x fun x _ => nm[i]? == some x && isName sc x .local
  | .cell i, x => onName x fun x _ => nm[i]? == some x && isName sc x .cell
  | .glob x v, y => onName y fun y _ => x == y && isName sc x .globalImplicit && (GT.lookup x == some v || BT.lookup x == some v)
  | .gint x i, y => onName y fun y _ => x == y && isName sc x .globalImplicit && (match GT.lookup x with | some v => (match v with | .int j _ => i == j | _ => false) | none => false)
  | .gstr x l, y => onName y fun y _ => x == y && isName sc x .globalImplicit && decide (l.length ≤ 1000) && (match GT.lookup x with | some v => (match v with | .str s _ => s.cps.toList == l | _ => false) | none => false)
  | .frz e, x => fz x && mE GT BT sc nm e x
  | .bin op a b, x => onBin x fun l o r => op == o && mE GT BT sc nm a l && mE GT BT sc nm b r
  | .neg a, x => onNeg x fun x => mE GT BT sc nm a x
  | .not a, x => onUn x fun op x => op == .Not && mE GT BT sc nm a x && tOk a x
  | .cmp op a b, x => onCmp x fun l os rs => oneO os fun o => oneX rs fun r => op == o && !behindInMarks o r && mE GT BT sc nm a l && mE GT BT sc nm b r
  | .chain op op' a b d, x => onCmp x fun l os rs => twoO os fun o o' => twoX rs fun r r' => op == o && op' == o' && !lastMarks [o, o'] [r, r'] && mE GT BT sc nm a l && mE GT BT sc nm b r && mE GT BT sc nm d r'
  | .and es, x => onBoolOp x fun op xs => op == .And && mEs GT BT sc nm es xs && tOks es xs
  | .or es, x => onBoolOp x fun op xs => op == .Or && mEs GT BT sc nm es xs && tOks es xs
  | .ite t a b, x => onIf x fun x y z => mE GT BT sc nm t x && tOk t x && mE GT BT sc nm a y && tOk a y && mE GT BT sc nm b z && tOk b z
  | .attr o n, x => onAttr x fun v a _ => n == a && mE GT BT sc nm o v && notCall v
  | .sub o i, x => onSub x fun v x => nsl x && mE GT BT sc nm o v && mE GT BT sc nm i x
  | .slice o l u, x => onSub x fun v y => onSlice y fun x y s => s.isNone && mE GT BT sc nm o v && onPart l x (fun x => mE GT BT sc nm l x) && onPart u y (fun y => mE GT BT sc nm u y)
  | .sliceM o l u, x => onSub x fun v y => onSlice y fun x y s => s.isNone && mE GT BT sc nm o v && onPart l x (fun x => mE GT BT sc nm l x) && onPart u y (fun y => mE GT BT sc nm u y)
  | .rev o, x => onSub x fun v y => onSlice y fun x y s => x.isNone && y.isNone && onSome s (fun z => onNeg z fun z => onInt z fun i => i == 1) && mE GT BT sc nm o v
  | .lst es, x => onList x fun xs => decide (xs.length ≤ 1000) && mEs GT BT sc nm es xs
  | .lstM es, x => onList x fun xs => decide (xs.length ≤ 1000) && mEs GT BT sc nm es xs
  | .tup es, x => onTup x fun xs => decide (xs.length ≤ 1000) && mEs GT BT sc nm es xs
  | .rep e n, x => onBin x fun z o y => o == .Mult && onList z fun xs => oneX xs fun x => nst x && mE GT BT sc nm e x && mE GT BT sc nm n y
  | .call f as, x => onCall x fun y xs ks _ => ks.isEmpty && onName y (fun _ _ => true) && mE GT BT sc nm f y && mEs GT BT sc nm as xs
  | .bi b as, x => onCall x fun y xs ks _ => ks.isEmpty && onName y (fun x _ => x == biN b && isName sc x .globalImplicit && BT.lookup x == some (biV b)) && mEs GT BT sc nm as xs
  | .me m o as, x => onCall x fun y xs ks pos => ks.isEmpty && onAttr y fun v n apos => meN m == n && mE GT BT sc nm o v && mEs GT BT sc nm as xs && apos.endLine == pos.line && decide (xs.length < 20) && notCall v
  | .ume o n as, x => onCall x fun y xs ks pos => ks.isEmpty && onAttr y fun v a apos => n == a && mE GT BT sc nm o v && mEs GT BT sc nm as xs && apos.endLine == pos.line && decide (xs.length < 20) && notCall v
  | .comp elt it caps, x => onComp x fun e gs scope _ => gen1 gs fun x iter => mE GT BT sc nm it iter && scopeOk scope && noCell scope && notSet iter && scope.names.lookup x == some .local && ndB (x :: frees' scope) && capOk sc nm scope nm caps (frees' scope) && mE GT BT (relab sc scope) (x :: frees' scope) elt e
  | .comp2 elt it it2, x => onComp x fun e gs scope _ => gen2 gs fun x iter y iter2 => mE GT BT sc nm it iter && scopeOk scope && noCell scope && noFree scope && notSet iter && notSet iter2 && scope.names.lookup x == some .local && scope.names.lookup y == some .local && (x == y) == false && mE GT BT scope [x, y] it2 iter2 && mE GT BT scope [x, y] elt e
  | .nopart, _ => false
  | .dead, _ => false
noncomputable def mEs (GT BT : List (Str × Value)) (sc : Scope) (nm : List Str) : CEs → List Expr → Bool
  | .nil, xs => xs.isEmpty
  | .cons e es, xs => (match xs with | [] => false | x :: xs => nst x && mE GT BT sc nm e x && mEs GT BT sc nm es xs)
end
theorem onBin_el {x : Expr} {f : Expr → Operator → Expr → Bool} {C : Expr → Prop} (h : onBin x f = true) (k : ∀ a b c d, f a b c = true → C (.BinOp a b c d)) : C x :=
  on_ifk h fun e h => PySem.Expr.BinOp.elim (motive_1 := fun x => ∀ e, PySem.Expr.BinOp.elim (motive_1 := fun _ => Bool) x e (fun a b c _ => f a b c) = true → C x) x e (fun a b c z3 _ h => k a b c z3 h) e h
theorem onUn_el {x : Expr} {f : UnaryOp → Expr → Bool} {C : Expr → Prop} (h : onUn x f = true) (k : ∀ a b c, f a b = true → C (.UnaryOp a b c)) : C x :=
  on_ifk h fun e h => PySem.Expr.UnaryOp.elim (motive_1 := fun x => ∀ e, PySem.Expr.UnaryOp.elim (motive_1 := fun _ => Bool) x e (fun a b _ => f a b) = true → C x) x e (fun a b z2 _ h => k a b z2 h) e h
theorem onCmp_el {x : Expr} {f : Expr → (List CmpOp) → (List Expr) → Bool} {C : Expr → Prop} (h : onCmp x f = true) (k : ∀ a b c d, f a b c = true → C (.Compare a b c d)) : C x :=
  on_ifk h fun e h => PySem.Expr.Compare.elim (motive_1 := fun x => ∀ e, PySem.Expr.Compare.elim (motive_1 := fun _ => Bool) x e (fun a b c _ => f a b c) = true → C x) x e (fun a b c z3 _ h => k a b c z3 h) e h
theorem onBoolOp_el {x : Expr} {f : BoolOp → (List Expr) → Bool} {C : Expr → Prop} (h : onBoolOp x f = true) (k : ∀ a b c, f a b = true → C (.BoolOp a b c)) : C x :=
  on_ifk h fun e h => PySem.Expr.BoolOp.elim (motive_1 := fun x => ∀ e, PySem.Expr.BoolOp.elim (motive_1 := fun _ => Bool) x e (fun a b _ => f a b) = true → C x) x e (fun a b z2 _ h => k a b z2 h) e h
theorem onIf_el {x : Expr} {f : Expr → Expr → Expr → Bool} {C : Expr → Prop} (h : onIf x f = true) (k : ∀ a b c d, f a b c = true → C (.IfExp a b c d)) : C x :=
  on_ifk h fun e h => PySem.Expr.IfExp.elim (motive_1 := fun x => ∀ e, PySem.Expr.IfExp.elim (motive_1 := fun _ => Bool) x e (fun a b c _ => f a b c) = true → C x) x e (fun a b c z3 _ h => k a b c z3 h) e h
theorem onSub_el {x : Expr} {f : Expr → Expr → Bool} {C : Expr → Prop} (h : onSub x f = true) (k : ∀ a b c, f a b = true → C (.Subscript a b c)) : C x :=
  on_ifk h fun e h => PySem.Expr.Subscript.elim (motive_1 := fun x => ∀ e, PySem.Expr.Subscript.elim (motive_1 := fun _ => Bool) x e (fun a b _ => f a b) = true → C x) x e (fun a b z2 _ h => k a b z2 h) e h
theorem onTup_el {x : Expr} {f : (List Expr) → Bool} {C : Expr → Prop} (h : onTup x f = true) (k : ∀ a b c, f a = true → C (.Tuple a b c)) : C x :=
  on_ifk h fun e h => PySem.Expr.Tuple.elim (motive_1 := fun x => ∀ e, PySem.Expr.Tuple.elim (motive_1 := fun _ => Bool) x e (fun a _ _ => f a) = true → C x) x e (fun a z1 z2 _ h => k a z1 z2 h) e h
theorem onCall_el {x : Expr} {f : Expr → (List Expr) → (List Keyword) → Pos → Bool} {C : Expr → Prop} (h : onCall x f = true) (k : ∀ a b c d, f a b c d = true → C (.Call a b c d)) : C x :=
  on_ifk h fun e h => PySem.Expr.Call.elim (motive_1 := fun x => ∀ e, PySem.Expr.Call.elim (motive_1 := fun _ => Bool) x e (fun a b c d => f a b c d) = true → C x) x e (fun a b c d _ h => k a b c d h) e h
theorem onComp_el {x : Expr} {f : Expr → (List Comprehension) → Scope → Pos → Bool} {C : Expr → Prop} (h : onComp x f = true) (k : ∀ a b c d, f a b c d = true → C (.ListComp a b c d)) : C x :=
  on_ifk h fun e h => PySem.Expr.ListComp.elim (motive_1 := fun x => ∀ e, PySem.Expr.ListComp.elim (motive_1 := fun _ => Bool) x e (fun a b c d => f a b c d) = true → C x) x e (fun a b c d _ h => k a b c d h) e h
theorem onName_el {x : Expr} {f : Str → Pos → Bool} {C : Expr → Prop} (h : onName x f = true) (k : ∀ a b, f a b = true → C (.Name a b)) : C x :=
  on_ifk h fun e h => PySem.Expr.Name.elim (motive_1 := fun x => ∀ e, PySem.Expr.Name.elim (motive_1 := fun _ => Bool) x e (fun a b => f a b) = true → C x) x e (fun a b _ h => k a b h) e h
theorem onSlice_el {x : Expr} {f : (Option Expr) → (Option Expr) → (Option Expr) → Bool} {C : Expr → Prop} (h : onSlice x f = true) (k : ∀ a b c d, f a b c = true → C (.Slice a b c d)) : C x :=
  on_ifk h fun e h => PySem.Expr.Slice.elim (motive_1 := fun x => ∀ e, PySem.Expr.Slice.elim (motive_1 := fun _ => Bool) x e (fun a b c _ => f a b c) = true → C x) x e (fun a b c z3 _ h => k a b c z3 h) e h
theorem onList_el {x : Expr} {f : (List Expr) → Bool} {C : Expr → Prop} (h : onList x f = true) (k : ∀ a b, f a = true → C (.List a b)) : C x :=
  on_ifk h fun e h => PySem.Expr.List.elim (motive_1 := fun x => ∀ e, PySem.Expr.List.elim (motive_1 := fun _ => Bool) x e (fun a _ => f a) = true → C x) x e (fun a z1 _ h => k a z1 h) e h
theorem onAttr_el {x : Expr} {f : Expr → Str → Pos → Bool} {C : Expr → Prop} (h : onAttr x f = true) (k : ∀ a b c, f a b c = true → C (.Attribute a b c)) : C x :=
  on_ifk h fun e h => PySem.Expr.Attribute.elim (motive_1 := fun x => ∀ e, PySem.Expr.Attribute.elim (motive_1 := fun _ => Bool) x e (fun a b c => f a b c) = true → C x) x e (fun a b c _ h => k a b c h) e h
theorem onInt_el {x : Expr} {f : Int → Bool} {C : Expr → Prop} (h : onInt x f = true) (k : ∀ j a b, f j = true → C (.Constant (.int j) a b)) : C x :=
  onConst_el h fun c a b h => on_ifk h fun e h => PySem.Const.int.elim (motive := fun c => ∀ e, PySem.Const.int.elim (motive := fun _ => Bool) c e f = true → C (.Constant c a b)) c e (fun j _ h => k j a b h) e h
theorem onStr_el {x : Expr} {f : Str → Bool} {C : Expr → Prop} (h : onStr x f = true) (k : ∀ j a b, f j = true → C (.Constant (.str j) a b)) : C x :=
  onConst_el h fun c a b h => on_ifk h fun e h => PySem.Const.str.elim (motive := fun c => ∀ e, PySem.Const.str.elim (motive := fun _ => Bool) c e f = true → C (.Constant c a b)) c e (fun j _ h => k j a b h) e h
theorem onBoolC_el {x : Expr} {f : Bool → Bool} {C : Expr → Prop} (h : onBoolC x f = true) (k : ∀ j a b, f j = true → C (.Constant (.bool j) a b)) : C x :=
  onConst_el h fun c a b h => on_ifk h fun e h => PySem.Const.bool.elim (motive := fun c => ∀ e, PySem.Const.bool.elim (motive := fun _ => Bool) c e f = true → C (.Constant c a b)) c e (fun j _ h => k j a b h) e h
theorem onNoneC_el {x : Expr} {C : Expr → Prop} (h : onNoneC x = true) (k : ∀ a b, C (.Constant .none a b)) : C x :=
  onConst_el h fun c a b h => (beq_iff_eq.mp h).symm ▸ k a b
theorem nB {b : Bool} (h : (!b) = true) : b = false := by cases b; rfl; cases h
theorem and2 {a b : Bool} (h : (a && b) = true) : a = true ∧ b = true := Bool.and_eq_true_iff.mp h
theorem onNeg_el {x : Expr} {f : Expr → Bool} {C : Expr → Prop} (h : onNeg x f = true) (k : ∀ y p, f y = true → C (.UnaryOp .USub y p)) : C x :=
  onUn_el h fun op y p h => beq_iff_eq.mp (and2 h).1 ▸ k y p (and2 h).2
section
variable {prog : Program} {w : World} {K : Frag} {p : Program} {loose : List Str} {mg mb : Str → Option Value} {G : Heap} {d : Nat}
variable {c : Cx} {L : Addr} {names : Nm} {P P' P1 : PM} {σ : St} {s s' s1 : Shared} {E : Value → Shared → Prop} {A : Around}
theorem star_none {env : Env} {pos : Pos} : ∀ {args : List Expr}, args.all nst = true → (backTo pos (starEach args env)).any (·.1) = false
  | [], _ => rfl
  | e :: r, h => by
    simp only [List.all_cons, Bool.and_eq_true] at h
    have := star_none (env := env) (pos := pos) h.2
    cases e <;> first | (cases h.1; done) | (show (false || (backTo pos (starEach r env)).any (·.1)) = false; rw [this]; rfl)
theorem star_cons {env : Env} {e : Expr} {r : List Expr} (h : nst e = true) : starEach (e :: r) env = (false, eval e env) :: starEach r env := by
  cases e <;> first | rfl | (cases h)
theorem callWith_nil {f : Value} {first : List Value} {env : Env} {pos : Pos} {Q : Value → Shared → Prop} {Z : Heap → Prop}
    (hk : ∀ h, Z h → ∃ k, (k = Keeper.frame ∨ k = Keeper.machine ∨ k = Keeper.boundFrame) ∧ Looks (model prog w) h (keeperOf f) k)
    (z : Z s.heap) (h : wpAny (model prog w) A (call f (first ++ [])) Q E s) :
    wpAny (model prog w) A (callWith pos f first (backTo pos (starEach [] env)) []) Q E s := callWith_of rfl hk (evalArgs_nil3 ⟨z, h⟩)
theorem callWith_cons {f : Value} {first : List Value} {e : Expr} {r : List Expr} {env : Env} {pos : Pos} {Q : Value → Shared → Prop} {Z : Heap → Prop} (h1 : nst e = true) (h2 : r.all nst = true)
    (hk : ∀ h, Z h → ∃ k, (k = Keeper.frame ∨ k = Keeper.machine ∨ k = Keeper.boundFrame) ∧ Looks (model prog w) h (keeperOf f) k)
    (h : wpAny (model prog w) A (spliced (backTo pos (starEach (e :: r) env))) (fun vs s₁ => Z s₁.heap ∧ wpAny (model prog w) A (call f (first ++ vs)) Q E s₁) E s) :
    wpAny (model prog w) A (callWith pos f first (backTo pos (starEach (e :: r) env)) []) Q E s := by
  have h3 := star_none (env := env) (pos := pos) (args := e :: r) (by simp [h1, h2])
  rw [star_cons h1] at h h3 ⊢
  exact callWith_of (by rw [h3]; rfl) hk (evalArgs_plain h)
theorem keeper_plain {f : Value} (h : ∀ a, f ≠ .ref a) (hp : Heap) (z : True) : ∃ k, (k = Keeper.frame ∨ k = Keeper.machine ∨ k = Keeper.boundFrame) ∧ Looks (model prog w) hp (keeperOf f) k := by
  refine ⟨.machine, .inr (.inl rfl), ?_⟩
  cases f <;> first | exact Looks.of_pure rfl | exact absurd rfl (h _)
theorem mEs_nst {GT BT sc nm} : ∀ {es : CEs} {xs : List Expr}, mEs GT BT sc nm es xs = true → xs.all nst = true
  | .nil, [], _ => rfl
  | .cons e es, x :: xs, h => by
    unfold mEs at h
    simp only [Bool.and_eq_true] at h
    simp only [List.all_cons, Bool.and_eq_true]
    exact ⟨h.1.1, mEs_nst h.2⟩
  | .nil, _ :: _, h => by unfold mEs at h; cases h
  | .cons _ _, [], h => by unfold mEs at h; cases h
theorem call_sound {f : AV} {u : Value} {args : List AV} {vs : List Value} {Q : AV → St → Prop} {X : St → Prop} (ok : Ok d c.A (L :: c.ns.map (·.1))) (I : FInv G c L names P σ s.heap) (rf : VR P f u) (ra : VRs P args vs)
    (h : CallS prog w K G d f args σ.H (fun v H' => Q v ⟨σ.loc, H'⟩) (fun H' => X ⟨σ.loc, H'⟩)) :
    wpAny (model prog w) c.A (call u vs) (PV G c L names P σ.loc s Q) (PX G c L names P s X) s := by
  obtain ⟨fa, rfl, hk, h⟩ := h
  obtain rfl := rf.glob_inv
  obtain ⟨m, hm, lr⟩ := I.f
  have J : SInv G ⟨c.A, (L, m) :: c.ns, c.pins⟩ P σ.H s.heap := by
    refine ⟨I.s.g, I.s.k, fun q hq => ?_, I.s.pins, fun q hq r hr => ?_, I.s.led⟩
    · rcases List.mem_cons.mp hq with rfl | hq
      · exact ⟨hm, I.p, I.hl⟩
      · exact I.s.ns q hq
    · rcases List.mem_cons.mp hq with rfl | hq
      · exact (I.pin r hr).symm
      · exact I.s.np q hq r hr
  have back : ∀ {P' H' h'}, PLe P P' → SInv G ⟨c.A, (L, m) :: c.ns, c.pins⟩ P' H' h' → FInv G c L names P' ⟨σ.loc, H'⟩ h' := fun {P' H' h'} k J => by
    have hL := J.ns (L, m) (.head _)
    exact ⟨⟨J.g, J.k, fun q hq => J.ns q (.tail _ hq), J.pins, fun q hq => J.np q (.tail _ hq), J.led⟩, ⟨m, hL.1, lr.mono k⟩, hL.2.1, hL.2.2, I.pin, I.nsl⟩
  refine wpAny_call (codeAny_mono (h ⟨c.A, (L, m) :: c.ns, c.pins⟩ P s vs ok J ra) fun r s' z => ?_)
  obtain ⟨P', H', z1, z2, z3, z4⟩ := z
  rcases r with e | (_ | _ | _ | v)
  · exact ⟨P', ⟨σ.loc, H'⟩, z1, back z1 z2, z3, z4.1, z4.2⟩
  · exact z4
  · exact z4
  · exact z4
  · obtain ⟨av, a, b⟩ := z4
    exact ⟨P', H', av, z1, back z1 z2, z3, a, b⟩
theorem subscripted_no (slice : Expr) (o i : Value) : subscripted slice false o i = operate [i, o] (getItem o i) ∨ subscripted slice false o i = operate [o, i] (getItem o i) := by
  cases slice with
  | Slice a b st p => cases st with
    | none => exact .inl rfl
    | some _ => exact .inr rfl
  | _ => exact .inr rfl
theorem subTail {value slice : Expr} {o i : Value} {T id : String} {Q : Value → Shared → Prop} (hT : s.TypeIs o T) (hl : typeLookup (.type T) "__getitem__" = pure (some (.builtin id)))
    (h : wpAny (model prog w) A (getItem o i) Q E s) : wpAny (model prog w) A (subscriptTail value slice o i) Q E s := by
  unfold subscriptTail getitemInPython
  refine wpAny_bind (wpAny_bind (wpAny_specialOf hT hl (wpAny_pure ?_)))
  have : ∀ vs, wpAny (model prog w) A (operate vs (getItem o i)) (fun a s' => wpAny (model prog w) A (letTemporaryGo value o a >>= fun _ => pure a) Q E s') E s := fun vs =>
    wpAny_operate' (wpAny_mono h (fun r s' q => wpAny_bind (wpAny_letTemporaryGo (wpAny_pure q))) fun _ _ x => x)
  refine wpAny_bind ?_
  show wpAny _ _ (subscripted slice false o i) _ _ _
  rcases subscripted_no slice o i with e | e
  · rw [e]; exact this _
  · rw [e]; exact this _
theorem subT_sound {value slice : Expr} {o i : AV} {u v : Value} {Q : AV → Prop} (I : FInv G c L names P σ s.heap) (ra : VR P o u) (rb : VR P i v) (H : subW o i σ.H Q) :
    wpAny (model prog w) c.A (subscriptTail value slice u v) (PP G c L names P σ s Q) E s := by
  have base := subW_sound (prog := prog) (w := w) (E := E) I ra rb H
  have z := subW_inv H
  clear H
  cases z with
  | lst =>
    obtain ⟨l, ws, rfl, ⟨o, h1, h2, _⟩, _⟩ := ra.isList I.s.k
    exact subTail ⟨o, h1, h2⟩ slot_list_getitem.lookup base
  | tup =>
    obtain ⟨l, ws, rfl, ⟨o, h1, h2, _⟩, _⟩ := ra.isTup I.s.k
    exact subTail ⟨o, h1, h2⟩ PySem.F.slot_tuple_getitem.lookup base
  | ref a vs k x i e0 =>
    obtain rfl := ra.ref_inv
    obtain ⟨ws, n, a1, _⟩ := I.listAt e0
    exact subTail ⟨_, a1, rfl⟩ slot_list_getitem.lookup base
  | str =>
    obtain ⟨t, rfl, _⟩ := ra.str_inv
    exact subTail (typeIs_str _ _ _) PySem.F.slot_str_getitem.lookup base
theorem optI_part {v : AV} {u : Value} {i : Option Int} (r : VR P v u) (e : optI v = some i) : IsPart u i ∧ ∃ q : Option (Int × Tok), u = partValue q ∧ q.map (·.1) = i := by
  cases v with
  | int i => cases e; obtain ⟨t, rfl⟩ := r.int_inv; exact ⟨.int _ _, some (_, t), rfl, rfl⟩
  | none => cases e; obtain rfl := r.none_inv; exact ⟨.none, none, rfl, rfl⟩
  | _ => exact nos e
end
end Mine
end
section
open PySem PySem.W PyProof.Rows PySem.Calls PyProof.V PySem.Spec PySem.SeqAt
namespace Mine
section
variable {prog : Program} {w : World} {K : Frag} {p : Program} {loose : List Str} {mg mb : Str → Option Value} {G : Heap} {d : Nat}
variable {c : Cx} {L : Addr} {names : Nm} {P P' P1 : PM} {σ : St} {s s' s1 : Shared} {E : Value → Shared → Prop} {A : Around}
theorem strIdx_eq (lo hi : Option Int) (n : Nat) : Builtin.Str.strSliceIndices lo hi 1 n = sliceRange (sliceBounds lo hi none n).1 (sliceBounds lo hi none n).2.1 (sliceBounds lo hi none n).2.2 := by
  cases lo <;> cases hi <;> simp [Builtin.Str.strSliceIndices, sliceBounds]
theorem strMade (l : List Nat) (t : Tok) (q1 q2 : Option (Int × Tok)) {Q : Value → Shared → Prop} (z : l.length ≤ sizeLine) (h : ∀ t' tk, Q (.str ⟨(pySlice l (q1.map (·.1)) (q2.map (·.1))).toArray⟩ t') { s with toks := tk }) :
    (sliceMade ⟨l.toArray⟩ t q1 q2 none).post Q s := by
  have e : (slicePicked ⟨l.toArray⟩ q1 q2 none).filterMap (fun k => l[k]?) = pySlice l (q1.map (·.1)) (q2.map (·.1)) := by
    unfold slicePicked
    rw [show ((Option.map (fun x : Int × Tok => x.1) none).getD 1 : Int) = 1 from rfl, strIdx_eq, cps_len, strSlice_eq]
  have e2 : (fun k : Nat => (⟨l.toArray⟩ : Str).cps[k]?) = fun k : Nat => l[k]? := by funext k; simp
  unfold sliceMade
  split
  · rename_i c
    simp only [Bool.and_eq_true, beq_iff_eq] at c
    have full : pySlice l (q1.map (·.1)) (q2.map (·.1)) = l := by
      refine pySlice_full _ _ _ ?_
      have := c.2
      unfold slicePicked at this
      rw [show ((Option.map (fun x : Int × Tok => x.1) none).getD 1 : Int) = 1 from rfl, strIdx_eq, cps_len] at this
      exact this
    have := h t s.toks
    rw [full] at this
    exact this
  · rw [e2, e]
    refine ⟨?_, h _ _⟩
    show (pySlice l _ _).toArray.size ≤ sizeLine
    have := pySlice_len l (q1.map (·.1)) (q2.map (·.1))
    simp; omega
set_option tactic.hygienic true in
theorem slice_sound {value : Expr} {x y : Option Expr} {pp : Pos} {o vl vh : AV} {u ul uh : Value} {i j : Option Int} {Q : AV → Prop} (I : FInv G c L names P σ s.heap) (ro : VR P o u) (rl : VR P vl ul) (rh : VR P vh uh) (e1 : optI vl = some i) (e2 : optI vh = some j)
    (H : slW o i j Q) :
    wpAny (model prog w) c.A (subscriptTail value (.Slice x y none pp) u (.ref s.heap.objs.size)) (PP G c L names P σ s Q) E { s with heap := s.heap.push { cls := .type "slice", data := .fields #[ul, uh, .none] } } := by
  obtain ⟨pl, ql, eql, eql2⟩ := optI_part rl e1
  obtain ⟨ph, qh, eqh, eqh2⟩ := optI_part rh e2
  have k := Kp.push s.heap { cls := .type "slice", data := .fields #[ul, uh, .none] }
  have hsl : (s.heap.push { cls := .type "slice", data := .fields #[ul, uh, .none] }).get? s.heap.objs.size = some { cls := .type "slice", data := .fields #[ul, uh, .none] } := Heap.get?_push_size _ rfl
  unfold slW at H
  split at H
  rotate_left
  · rename_i l
    obtain ⟨t, rfl, z⟩ := ro.str_inv
    subst eql eqh eql2 eqh2
    refine subTail (typeIs_str _ _ _) PySem.F.slot_str_getitem.lookup (wpAny_getItem_str_slice (l := ql) (u := qh) (st := none) ⟨_, hsl, rfl, rfl⟩ rfl (strMade l t ql qh z fun t' tk => ?_))
    have := pySlice_len l (ql.map (·.1)) (qh.map (·.1))
    exact ⟨P, _, PLe.refl _, I.keeps k, ⟨rfl, rfl, rfl⟩, .str _ _ (by omega), H⟩
  · exact H.elim
  · rename_i vs
    obtain ⟨a, ws, n, rfl, e, r1, z1, n1⟩ := ro.lstAt
    have ha := k _ _ (I.s.k _ _ e)
    refine subTail ⟨_, ha, rfl⟩ slot_list_getitem.lookup (wpAny_getItem_list_slice ⟨_, ha, rfl, n, rfl⟩ ⟨_, hsl, rfl, rfl⟩ pl ph .none (by simp) ?_ (by omega))
    rw [slicePick_eq]
    have := pySlice_len vs i j
    obtain ⟨P', av, a1, a2, a3, a4, a5⟩ := PP.newList (s := { s with heap := s.heap.push { cls := .type "slice", data := .fields #[ul, uh, .none] } }) (tk := s.toks) (n := 0) (Q := Q) (I.keeps k) (Kp.push _ { cls := .type "list", data := .seq (pySlice ws.toList i j).toArray }) (size_none _) (Heap.get?_push_size _ rfl) (by simpa using r1.slice i j) (by omega) H
    exact ⟨P', av, a1, a2, ⟨rfl, rfl, rfl⟩, a4, a5⟩
theorem sliceM_sound {value : Expr} {x y : Option Expr} {pp : Pos} {a : Addr} {vs : List AV} {vl vh : AV} {ul uh : Value} {i j : Option Int} {Q : AV → HM → Prop} (I : FInv G c L names P σ s.heap) (rl : VR P vl ul) (rh : VR P vh uh) (e1 : optI vl = some i) (e2 : optI vh = some j)
    (e : σ.H a = some (.list vs)) (H : ∀ b, σ.H b = none → Q (.ref b) (σ.H.set b (.list (pySlice vs i j)))) :
    wpAny (model prog w) c.A (subscriptTail value (.Slice x y none pp) (.ref a) (.ref s.heap.objs.size)) (PH G c L names P σ s Q) E { s with heap := s.heap.push { cls := .type "slice", data := .fields #[ul, uh, .none] } } := by
  obtain ⟨pl, ql, eql, eql2⟩ := optI_part rl e1
  obtain ⟨ph, qh, eqh, eqh2⟩ := optI_part rh e2
  have k := Kp.push s.heap { cls := .type "slice", data := .fields #[ul, uh, .none] }
  have hsl : (s.heap.push { cls := .type "slice", data := .fields #[ul, uh, .none] }).get? s.heap.objs.size = some { cls := .type "slice", data := .fields #[ul, uh, .none] } := Heap.get?_push_size _ rfl
  obtain ⟨ws, n, a1, r1, z1, n1⟩ := I.listAt e
  have ha := k _ _ a1
  refine subTail ⟨_, ha, rfl⟩ slot_list_getitem.lookup (wpAny_getItem_list_slice ⟨_, ha, rfl, n, rfl⟩ ⟨_, hsl, rfl, rfl⟩ pl ph .none (by simp) ?_ (by omega))
  rw [slicePick_eq]
  have hl := pySlice_len vs i j
  have I' := I.keeps k
  have nn := size_none (s.heap.push { cls := .type "slice", data := .fields #[ul, uh, .none] })
  refine ⟨P, _, _, PLe.refl _, I'.growH (x := .list (pySlice vs i j)) (Kp.push _ { cls := .type "list", data := .seq (pySlice ws.toList i j).toArray }) nn (Heap.get?_push_size _ rfl) ⟨_, 0, rfl, by simpa using r1.slice i j, by omega⟩, ⟨rfl, rfl, rfl⟩, .ref _, H _ (I'.free nn).h⟩
theorem rev_sound {value : Expr} {st : Expr} {pp : Pos} {vs : List AV} {u : Value} {t : Tok} {Q : AV → Prop} (I : FInv G c L names P σ s.heap) (ro : VR P (.lst vs) u) (H : Q (.lst vs.reverse)) :
    wpAny (model prog w) c.A (subscriptTail value (.Slice none none (some st) pp) u (.ref s.heap.objs.size)) (PP G c L names P σ s Q) E { s with heap := s.heap.push { cls := .type "slice", data := .fields #[.none, .none, .int (-1) t] } } := by
  have k := Kp.push s.heap { cls := .type "slice", data := .fields #[.none, .none, .int (-1) t] }
  have hsl : (s.heap.push { cls := .type "slice", data := .fields #[.none, .none, .int (-1) t] }).get? s.heap.objs.size = some { cls := .type "slice", data := .fields #[.none, .none, .int (-1) t] } := Heap.get?_push_size _ rfl
  obtain ⟨a, ws, n, rfl, e, r1, z1, n1⟩ := ro.lstAt
  have ha := k _ _ (I.s.k _ _ e)
  refine subTail ⟨_, ha, rfl⟩ slot_list_getitem.lookup (wpAny_getItem_list_slice ⟨_, ha, rfl, n, rfl⟩ ⟨_, hsl, rfl, rfl⟩ .none .none (.int _ _) (by decide) ?_ (by omega))
  rw [krv_pick]
  obtain ⟨P', av, a1, a2, a3, a4, a5⟩ := PP.newList (s := { s with heap := s.heap.push { cls := .type "slice", data := .fields #[.none, .none, .int (-1) t] } }) (tk := s.toks) (n := 0) (Q := Q) (I.keeps k) (Kp.push _ { cls := .type "list", data := .seq ws.toList.reverse.toArray }) (size_none _) (Heap.get?_push_size _ rfl) (by simpa using r1.reverse) (by simpa using z1) H
  exact ⟨P', av, a1, a2, ⟨rfl, rfl, rfl⟩, a4, a5⟩
end
end Mine
end
section
open PySem PySem.W PyProof.Rows PySem.Calls PyProof.V PySem.Spec PySem.SeqAt
namespace Mine
section
variable {prog : Program} {w : World} {K : Frag} {p : Program} {loose : List Str} {mg mb : Str → Option Value} {G : Heap} {d : Nat}
variable {c : Cx} {L : Addr} {names : Nm} {P P' P1 : PM} {σ : St} {s s' s1 : Shared} {E : Value → Shared → Prop} {A : Around} {h h' : Heap}
structure WK (prog : Program) (w : World) (I : Addr) (P : PM) (items : List AV) (St : Nat → Heap → Prop) : Prop where
  ex : ∀ i h, St i h → ∃ o, h.get? I = some o
  fr : ∀ i h h', St i h → (∀ o, h.get? I = some o → h'.get? I = some o) → (∀ b o, P b = some o → h'.get? b = some o) → St i h'
  item : ∀ A, A.handled = none → ∀ i (s : Shared) (Q : Option Value → Shared → Prop) (E : Value → Shared → Prop) v, items[i]? = some v → St i s.heap →
    (∀ u h' tk, VR P v u → St (i + 1) h' → (∀ b o, b ≠ I → s.heap.get? b = some o → h'.get? b = some o) → Q (some u) { s with heap := h', toks := tk }) → wpAny (model prog w) A (pyNext (.ref I)) Q E s
  done : ∀ A, A.handled = none → ∀ (s : Shared) (Q : Option Value → Shared → Prop) (E : Value → Shared → Prop), St items.length s.heap →
    (∀ h' tk, (∀ b o, b ≠ I → s.heap.get? b = some o → h'.get? b = some o) → Q none { s with heap := h', toks := tk }) → wpAny (model prog w) A (pyNext (.ref I)) Q E s
  self : ∀ A, A.handled = none → ∀ i (s : Shared) (Q : Value → Shared → Prop) (E : Value → Shared → Prop), St i s.heap → Q (.ref I) s → wpAny (model prog w) A (pyIter (.ref I)) Q E s
  own : ∀ A i (s : Shared) elts k pos v u (Q : Unit → Shared → Prop) (E : Value → Shared → Prop), v ∈ items → VR P v u → St i s.heap → Q () s → wpAny (model prog w) A (letOwnedTupleGo (.Tuple elts k pos) (.ref I) u) Q E s
theorem own_plain {I : Addr} {A : Around} {elts : List Expr} {k : Nat} {pos : Pos} {u : Value} {Q : Unit → Shared → Prop} (h : ∀ a, u ≠ .ref a) (q : Q () s) : wpAny (model prog w) A (letOwnedTupleGo (.Tuple elts k pos) (.ref I) u) Q E s := by
  unfold letOwnedTupleGo
  cases u <;> first | exact wpAny_pure q | exact absurd rfl (h _)
theorem nm1_of_ne {a b : Addr} (h : b ≠ a) : b ∉ [a] := fun m => h (List.mem_singleton.mp m)
theorem lt_of_get {α} {l : List α} {i n : Nat} {v : α} (h : l[i]? = some v) (e : l.length = n) : i < n := e ▸ (List.getElem?_eq_some_iff.mp h).1
theorem get_arr {ws : Array Value} {i : Nat} {y : Value} (h : ws.toList[i]? = some y) : ws[i]? = some y := by simpa using h
theorem get_lst {l : List Nat} {i : Nat} {y : Nat} (h : (⟨l.toArray⟩ : Str).cps[i]? = some y) : l[i]? = some y := by simpa using h
set_option tactic.hygienic true in
theorem iter_sound {v : AV} {u : Value} {items : List AV} {Q : Value → Shared → Prop} (I : FInv G c L names P σ s.heap) (hh : c.A.handled = none) (r : VR P v u) (e : iterA v = some items) (z : items.length ≤ 1000000)
    (hq : ∀ o St, WK prog w s.heap.objs.size P items St → St 0 (s.heap.push o) → (s.heap.push o).get? s.heap.objs.size = some o → Q (.ref s.heap.objs.size) { s with heap := s.heap.push o }) : wpAny (model prog w) c.A (pyIter u) Q E s := by
  unfold iterA at e
  split at e
  · rename_i vs
    cases e
    obtain ⟨a, ws, n, rfl, e, r1, z1, n1⟩ := r.lstAt
    have ha := I.s.k _ _ e
    have hne : a ≠ s.heap.objs.size := Nat.ne_of_lt (Heap.lt_size ha)
    refine wpAny_pyIter_list ⟨_, ha, rfl, n, rfl⟩ (hq _ (fun i h => h.IsListIter s.heap.objs.size a i ∧ h.IsList a ws ∧ P a = some (lo ws n)) ?_ ?_ (Heap.get?_push_size _ rfl))
    · refine ⟨fun i h st => let ⟨o, x, _⟩ := st.1; ⟨o, x⟩, fun i h h' st k1 k2 => ?_, fun A hA i s Q E v hv st hQ => ?_, fun A hA s Q E st hQ => ?_, fun A hA i s Q E st q => (Walks.list hA _ a hne ws).self i s Q E ⟨st.1, st.2.1⟩ q, fun A i s elts k pos v u Q E m r st q => ?_⟩
      · obtain ⟨⟨o, x, y⟩, l, pa⟩ := st
        exact ⟨⟨o, k1 _ x, y⟩, ⟨_, k2 _ _ pa, rfl, n, rfl⟩, pa⟩
      · obtain ⟨y, hy, ry⟩ := r1.get hv
        have hi : i < ws.size := lt_of_get hv n1
        refine (Walks.list hA _ a hne ws).item i s Q E hi ⟨st.1, st.2.1⟩ fun u h' tk hu st' k => hQ u h' tk ?_ ⟨st'.1, st'.2, st.2.2⟩ fun b o hb e => k b o (nm1_of_ne hb) e
        exact (Option.some.inj ((get_arr hy).symm.trans hu)) ▸ ry
      · exact (Walks.list hA _ a hne ws).done s Q E (n1 ▸ ⟨st.1, st.2.1⟩) fun h' tk k => hQ h' tk fun b o hb e => k b o (nm1_of_ne hb) e
      · by_cases hu : ∃ T, u = .ref T
        · obtain ⟨T, rfl⟩ := hu
          exact wpAny_letOwnedTupleGo_listiter st.1 q
        · exact own_plain (fun a e => hu ⟨a, e⟩) q
    · exact ⟨⟨_, Heap.get?_push_size _ rfl, rfl, rfl⟩, ⟨_, Heap.get?_push_of_some _ ha, rfl, n, rfl⟩, e⟩
  · rename_i l
    cases e
    obtain ⟨t, rfl, zl⟩ := r.str_inv
    have mk : ∀ ty, (∀ A, A.handled = none → Walks prog w A s.heap.objs.size [s.heap.objs.size] [s.heap.objs.size] l.length (SignAt ⟨l.toArray⟩) (fun i h => h.IsStrIter s.heap.objs.size ty ⟨l.toArray⟩ t i)) →
        WK prog w s.heap.objs.size P (l.map fun c => .str [c]) (fun i h => h.IsStrIter s.heap.objs.size ty ⟨l.toArray⟩ t i) := fun ty W => by
      refine ⟨fun i h st => let ⟨o, x, _⟩ := st; ⟨o, x⟩, fun i h h' st k1 k2 => let ⟨o, x, y⟩ := st; ⟨o, k1 _ x, y⟩, fun A hA i s Q E v hv st hQ => ?_, fun A hA s Q E st hQ => ?_, fun A hA i s Q E st q => (W A hA).self i s Q E st q, fun A i s elts k pos v u Q E m r st q => ?_⟩
      · have hi : i < l.length := lt_of_get hv (List.length_map ..)
        refine (W A hA).item i s Q E hi st fun u h' tk hu st' k => hQ u h' tk ?_ st' fun b o hb e => k b o (nm1_of_ne hb) e
        obtain ⟨c, u', e1, rfl⟩ := hu
        have e2 : l[i]? = some c := get_lst e1
        have := List.getElem?_map (f := fun c => AV.str [c]) (l := l) (i := i)
        rw [hv, e2] at this; cases this
        exact .str [c] _ (by simp [sizeLine])
      · exact (W A hA).done s Q E (by simpa using st) fun h' tk k => hQ h' tk fun b o hb e => k b o (nm1_of_ne hb) e
      · obtain ⟨x, _, rfl⟩ := List.mem_map.mp m
        obtain ⟨_, rfl, _⟩ := r.str_inv
        exact own_plain (fun a => nofun) q
    have cs : (⟨l.toArray⟩ : Str).cps.size = l.length := by simp
    cases ha : (⟨l.toArray⟩ : Str).cps.all (· < 128)
    · exact wpAny_pyIter_wide ha (hq _ _ (mk "str_iterator" fun A hA => cs ▸ Walks.strWide hA _ ⟨l.toArray⟩ t) ⟨_, Heap.get?_push_size _ rfl, rfl, rfl⟩ (Heap.get?_push_size _ rfl))
    · exact wpAny_pyIter_ascii ha (hq _ _ (mk "str_ascii_iterator" fun A hA => cs ▸ Walks.strAscii hA _ ⟨l.toArray⟩ t) ⟨_, Heap.get?_push_size _ rfl, rfl, rfl⟩ (Heap.get?_push_size _ rfl))
  · rename_i a b st
    cases e
    cases r with
    | rng _ _ _ r t u v ro e =>
      have ha := I.s.k _ _ e
      have hn := rangeSize_le a b st ro
      have hl : (rngL a b st).length = (Builtin.Range.rangeSize a b st).toNat := by simp [rngL]
      have hL : ((rngL a b st).map AV.int).length = (Builtin.Range.rangeSize a b st).toNat := by simp [hl]
      refine wpAny_pyIter_range ha (range_small a b st ro) (hq _ (fun i h => IsRangeIter h s.heap.objs.size (a + (i : Nat) * st) ((((Builtin.Range.rangeSize a b st).toNat : Nat) : Int) - (i : Nat)) st) ?_ ?_ (Heap.get?_push_size _ rfl))
      · refine ⟨fun i h st => ⟨_, st⟩, fun i h h' st k1 k2 => k1 _ st, fun A hA i s Q E v hv st' hQ => ?_, fun A hA s Q E st' hQ => ?_, fun A hA i s Q E st' q => (Walks.range hA _ a st _).self i s Q E st' q, fun A i s elts k pos v u Q E m r st' q => ?_⟩
        · have hi : i < (Builtin.Range.rangeSize a b st).toNat := lt_of_get hv hL
          refine (Walks.range hA _ a st _).item i s Q E hi st' fun u h' tk hu st'' k => hQ u h' tk ?_ st'' fun b o hb e => k b o (nm1_of_ne hb) e
          obtain ⟨t', rfl⟩ := hu
          have : v = .int (a + (i : Int) * st) := by
            simp only [rngL, List.map_map, List.getElem?_map, Option.map_eq_some_iff] at hv
            obtain ⟨j, e1, rfl⟩ := hv
            rw [List.getElem?_range hi] at e1
            cases e1; rfl
          rw [this]; exact .int _ _
        · exact (Walks.range hA _ a st (Builtin.Range.rangeSize a b st).toNat).done s Q E (hL ▸ st') fun h' tk k => hQ h' tk fun b o hb e => k b o (nm1_of_ne hb) e
        · obtain ⟨x, _, rfl⟩ := List.mem_map.mp m
          obtain ⟨_, rfl⟩ := r.int_inv
          exact own_plain (fun a => nofun) q
      · show Heap.get? _ _ = some _
        rw [Heap.get?_push_size _ rfl]
        simp only [rawInt]
        congr 5 <;> simp <;> omega
  · cases e
theorem FInv.store {env : Env} {nm : List Str} {i : Nat} {x : Str} {v : AV} {u : Value} (I : FInv G c L ⟨nm, env⟩ P σ h) (hn : nm[i]? = some x) (nd : nm.Nodup) (hk : env.kindOf x = some .local) (r : VR P v u)
    {m : Str → Option Value} (hm : h.Ns L m) (lr : LocR P ⟨nm, env⟩ σ.loc m) (hm' : h'.Ns L (fun y => if y = x then some u else m y)) (sb : Heap.SameBut L h h') : FInv G c L ⟨nm, env⟩ P (setL σ i v) h' := by
  have I0 : FInv G c L ⟨nm, env⟩ P ⟨[], σ.H⟩ h := ⟨I.s, ⟨m, hm, fun j y v' _ e => by simp at e⟩, I.p, I.hl, I.pin, I.nsl⟩
  have I1 := I0.but hm' (fun j y v' _ e => by simp at e) (fun b o n e => sb.extBut b o n e)
  refine ⟨I1.s, ⟨_, hm', fun j y v' e1 e2 => ?_⟩, I1.p, I1.hl, I1.pin, I1.nsl⟩
  simp only [setL] at e2
  by_cases ji : j = i
  · subst ji
    have : some x = some y := hn.symm.trans e1
    cases this
    rw [List.getElem?_set_self'] at e2
    cases q : σ.loc[j]? with
    | none => rw [q] at e2; simp at e2
    | some z =>
      rw [q] at e2
      simp at e2
      subst e2
      exact ⟨fun _ => ⟨u, by simp, r⟩, fun z => by rw [hk] at z; cases z⟩
  · rw [List.getElem?_set_ne (Ne.symm ji)] at e2
    have ne : y ≠ x := fun z => by
      subst z
      have h1 := (List.getElem?_eq_some_iff.mp e1).1
      have h2 := (List.getElem?_eq_some_iff.mp hn).1
      have h3 : nm[j] = nm[i] := by
        have a := (List.getElem?_eq_some_iff.mp e1).2
        have b := (List.getElem?_eq_some_iff.mp hn).2
        exact a.trans b.symm
      rcases Nat.lt_or_gt_of_ne ji with q | q
      · exact List.pairwise_iff_getElem.mp nd j i h1 h2 q h3
      · exact List.pairwise_iff_getElem.mp nd i j h2 h1 q h3.symm
    obtain ⟨l1, l2⟩ := lr j y v' e1 e2
    exact ⟨fun z => let ⟨u', a, b⟩ := l1 z; ⟨u', by simp [ne, a], b⟩, l2⟩
theorem store_sound {env : Env} {sc : Scope} {nm : List Str} {i : Nat} {x : Str} {v : AV} {u : Value} {Q : Unit → Shared → Prop} (I : FInv G c L ⟨nm, env⟩ P σ s.heap) (eo : EnvOk sc env L) (hn : nm[i]? = some x) (nd : nm.Nodup) (hk : sc.names.lookup x = some .local) (r : VR P v u)
    (hq : ∀ h' tk, FInv G c L ⟨nm, env⟩ P (setL σ i v) h' → (∀ b o, b ≠ L → s.heap.get? b = some o → h'.get? b = some o) → Q () { s with heap := h', toks := tk }) : wpAny (model prog w) A (storeName env x u) Q E s := by
  obtain ⟨m, hm, lr⟩ := I.f
  have hx : env.kindOf x = some .local := by unfold Env.kindOf; rw [eo.se]; exact hk
  refine wpAny_storeName_local hx (by rw [eo.l]; exact hm) (fun h' h1 h2 => ?_) (by rw [eo.se, eo.k]; rfl)
  rw [eo.l] at h1 h2
  exact hq h' _ (I.store hn nd hx r hm lr h1 h2) fun b o n e => h2.extBut b o n e
noncomputable def pinI (c : Cx) (I : Addr) (o : Obj) : Cx := ⟨c.A, c.ns, (I, o) :: c.pins⟩
structure Off (c : Cx) (L : Addr) (P : PM) (H : HM) (I : Addr) : Prop where
  p : P I = none
  h : H I = none
  ns : ∀ q ∈ c.ns, q.1 ≠ I
  pins : ∀ q ∈ c.pins, q.1 ≠ I
  l : I ≠ L
theorem FInv.pinned {I : Addr} {o : Obj} (J : FInv G c L names P σ h) (f : Off c L P σ.H I) (e : h.get? I = some o) : FInv G (pinI c I o) L names P σ h := by
  refine ⟨⟨J.s.g, J.s.k, J.s.ns, fun q hq => ?_, fun q hq r hr => ?_, J.s.led⟩, J.f, J.p, J.hl, fun q hq => ?_, J.nsl⟩
  · rcases List.mem_cons.mp hq with rfl | hq
    · exact ⟨e, f.p, f.h⟩
    · exact J.s.pins q hq
  · rcases List.mem_cons.mp hr with rfl | hr
    · exact f.ns q hq
    · exact J.s.np q hq r hr
  · rcases List.mem_cons.mp hq with rfl | hq
    · exact f.l
    · exact J.pin q hq
theorem FInv.unpin {I : Addr} {o : Obj} {P0 : PM} {H0 : HM} (f : Off c L P0 H0 I) (J : FInv G (pinI c I o) L names P σ h) : FInv G c L names P σ h ∧ Off c L P σ.H I ∧ h.get? I = some o := by
  have q := J.s.pins (I, o) (.head _)
  refine ⟨⟨⟨J.s.g, J.s.k, J.s.ns, fun q hq => J.s.pins q (.tail _ hq), fun q hq r hr => J.s.np q hq r (.tail _ hr), J.s.led⟩, J.f, J.p, J.hl, fun q hq => J.pin q (.tail _ hq), J.nsl⟩, ⟨q.2.1, q.2.2, f.ns, f.pins, f.l⟩, q.1⟩
end
end Mine
end
section
open PySem PySem.W PyProof.Rows PySem.Calls PyProof.V PySem.Spec PySem.SeqAt
namespace Mine
section
variable {prog : Program} {w : World} {K : Frag} {p : Program} {loose : List Str} {mg mb : Str → Option Value} {G : Heap} {d : Nat}
variable {c : Cx} {L : Addr} {names : Nm} {P P' P1 : PM} {σ : St} {s s' s1 : Shared} {E : Value → Shared → Prop} {A : Around} {h h' : Heap} {H : HM}
theorem FInv.butOff {I : Addr} (J : FInv G c L names P σ h) (f : Off c L P σ.H I) (k : ∀ b o, b ≠ I → h.get? b = some o → h'.get? b = some o) : FInv G c L names P σ h' := by
  refine ⟨⟨J.s.g, fun b o e => k _ _ (fun z => ?_) (J.s.k b o e), fun q hq => ⟨?_, (J.s.ns q hq).2⟩, fun q hq => ⟨k _ _ (f.pins q hq) (J.s.pins q hq).1, (J.s.pins q hq).2⟩, J.s.np, fun a x e => ?_⟩, ?_, J.p, J.hl, J.pin, J.nsl⟩
  · rw [z, f.p] at e; cases e
  · obtain ⟨o, es, ep, a1, a2⟩ := (J.s.ns q hq).1
    exact ⟨o, es, ep, k _ _ (f.ns q hq) a1, a2⟩
  · obtain ⟨o, a1, a2⟩ := J.s.led a x e
    exact ⟨o, k _ _ (fun z => by rw [z, f.h] at e; cases e) a1, a2⟩
  · obtain ⟨m, ⟨o, es, ep, a1, a2⟩, lr⟩ := J.f
    exact ⟨m, ⟨o, es, ep, k _ _ (fun z => f.l z.symm) a1, a2⟩, lr⟩
theorem FInv.weak {i : Nat} {l : List (Option AV)} (J : FInv G c L names P ⟨l, H⟩ h) : FInv G c L names P ⟨l.set i none, H⟩ h := by
  obtain ⟨m, hm, lr⟩ := J.f
  refine ⟨J.s, ⟨m, hm, fun j x v e1 e2 => lr j x v e1 ?_⟩, J.p, J.hl, J.pin, J.nsl⟩
  simp only at e2 ⊢
  by_cases z : j = i
  · subst z
    rw [List.getElem?_set_self'] at e2
    cases q : l[j]? with
    | none => rw [q] at e2; simp at e2
    | some y => rw [q] at e2; simp at e2
  · rwa [List.getElem?_set_ne (Ne.symm z)] at e2
theorem FInv.enter {C : Addr} {m : Str → Option Value} {N' : Nm} {l : List (Option AV)} {mC : Str → Option Value} (J : FInv G c L names P σ h) (hm : h.Ns L m) (k : Kp h h') (e0 : h.get? C = none) (hC : h'.Ns C mC) (lr : LocR P N' l mC) :
    FInv G ⟨c.A, (L, m) :: c.ns, c.pins⟩ C N' P ⟨l, σ.H⟩ h' := by
  obtain ⟨f1, f2, f3, f4, f5⟩ := J.free e0
  have J' := J.keeps k
  refine ⟨⟨J'.s.g, J'.s.k, fun q hq => ?_, J'.s.pins, fun q hq r hr => ?_, J'.s.led⟩, ⟨mC, hC, lr⟩, f1, f2, f4, fun q hq => ?_⟩
  · rcases List.mem_cons.mp hq with rfl | hq
    · exact ⟨hm.keeps k, J.p, J.hl⟩
    · exact J'.s.ns q hq
  · rcases List.mem_cons.mp hq with rfl | hq
    · exact (J.pin r hr).symm
    · exact J.s.np q hq r hr
  · rcases List.mem_cons.mp hq with rfl | hq
    · exact f5.symm
    · exact f3 q hq
theorem FInv.leave {C : Addr} {m : Str → Option Value} {N' : Nm} {l : List (Option AV)} {σ' : St} (J : FInv G ⟨c.A, (L, m) :: c.ns, c.pins⟩ C N' P σ' h) (lr : LocR P names l m) (hp : ∀ q ∈ c.pins, q.1 ≠ L) (hn : ∀ q ∈ c.ns, q.1 ≠ L) :
    FInv G c L names P ⟨l, σ'.H⟩ h ∧ Off c L P σ'.H C ∧ ∃ mC, h.Ns C mC := by
  have hL := J.s.ns (L, m) (.head _)
  obtain ⟨mC, hC, _⟩ := J.f
  exact ⟨⟨⟨J.s.g, J.s.k, fun q hq => J.s.ns q (.tail _ hq), J.s.pins, fun q hq => J.s.np q (.tail _ hq), J.s.led⟩, ⟨m, hL.1, lr⟩, hL.2.1, hL.2.2, hp, hn⟩,
    ⟨J.p, J.hl, fun q hq => J.nsl q (.tail _ hq), J.pin, fun z => J.nsl (L, m) (.head _) z.symm⟩, mC, hC⟩
theorem Off.pin {I D : Addr} {o : Obj} (f : Off c L P H I) (n : D ≠ I) : Off (pinI c D o) L P H I :=
  ⟨f.p, f.h, f.ns, fun q hq => by
    rcases List.mem_cons.mp hq with rfl | hq
    · exact n
    · exact f.pins q hq, f.l⟩
theorem comp_loop1 {elt iter : Expr} {x : Str} {px : Pos} {gens : List Comprehension} {scope sc : Scope} {pos : Pos} {depth : Nat} {I D : Addr} {env : Env} {nm : List Str} {i : Nat} {loc : List (Option AV)} {items : List AV} {P0 : PM} {Sti : Nat → Heap → Prop}
    {R : Result → Shared → Prop} {CC : CP} {ce : CE} (hh : c.A.handled = none)
    (hg : gens[depth]? = some ⟨.Name x px, iter, [], 0⟩) (hg' : gens[depth + 1]? = none) (eo : EnvOk sc env L) (hn : nm[i]? = some x) (nd : nm.Nodup) (hk : sc.names.lookup x = some .local) (hloc : loc.set i none = loc) (W : WK prog w I P0 items Sti)
    (hE : ∀ (c' : Cx) P σ s Q, c'.A = c.A → c'.ns = c.ns → FInv G c' L ⟨nm, env⟩ P σ s.heap → ewp CC ce Q (fun _ => False) σ → wpAny (model prog w) c.A (eval elt env) (PV G c' L ⟨nm, env⟩ P σ.loc s Q) (fun _ _ => False) s)
    (hID : I ≠ D) :
    ∀ (rest : List AV) (j : Nat) (P : PM) (H : HM) (s : Shared) (ys : List AV) (Q : List AV → HM → Prop), items.drop j = rest → j + rest.length = items.length → PLe P0 P → FInv G c L ⟨nm, env⟩ P ⟨loc, H⟩ s.heap → Off c L P H I → Off c L P H D → (∃ ws n, s.heap.get? D = some (lo ws n) ∧ VRs P ys ws.toList) →
      Sti j s.heap → ys.length + rest.length ≤ sizeLine →
      compW (fun v H k => ewp CC ce (fun y τ => k y τ.H) (fun _ => False) ⟨loc.set i (some v), H⟩) rest H Q →
      (∀ P' H' zs s', PLe P P' → FInv G c L ⟨nm, env⟩ P' ⟨loc, H'⟩ s'.heap → Off c L P' H' D → (∃ ws n, s'.heap.get? D = some (lo ws n) ∧ VRs P' (ys ++ zs) ws.toList) → zs.length = rest.length → Rest s s' → Q zs H' → R (.ok .next) s') →
      codeAny (model prog w) c.A (.compLoop (.ListComp elt gens scope pos) depth (.ref I) (.ref D) env) R s := by
  intro rest
  induction rest with
  | nil =>
    intro j P H s ys Q hd hjl k0 J oI oD hD st hz hw hR
    have hj : j = items.length := by simpa using hjl
    subst hj
    refine comp_step (e := elt) hg hg' (W.done _ hh _ _ _ st fun h1 tk k1 => ?_)
    have J1 := J.butOff oI k1
    obtain ⟨ws, n, e1, r1⟩ := hD
    exact hR P H [] _ (PLe.refl _) J1 oD ⟨ws, n, k1 _ _ (Ne.symm hID) e1, by simpa using r1⟩ rfl ⟨rfl, rfl, rfl⟩ hw
  | cons v rest ih =>
    intro j P H s ys Q hd hjl k0 J oI oD hD st hz hw hR
    have hv : items[j]? = some v := by
      have := congrArg (fun l => l[0]?) hd
      simpa using this
    have hd' : items.drop (j + 1) = rest := by
      have := congrArg List.tail hd
      simpa using this
    obtain ⟨ws, n, e1, r1⟩ := hD
    refine comp_step (e := elt) hg hg' (W.item _ hh _ _ _ _ v hv st fun u h1 tk ru st1 k1 => ?_)
    have J1 := J.butOff oI k1
    have d1 := k1 _ _ (Ne.symm hID) e1
    refine wpAny_pure ?_
    refine wpAny_assign_Name (store_sound (s := { s with heap := h1, toks := tk }) (v := v) (i := i) J1 eo hn nd hk (ru.mono k0) fun h2 tk2 J2 k2 => ?_)
    have d2 := k2 _ _ oD.l d1
    obtain ⟨o1, i1⟩ := W.ex _ _ st1
    have i2 := k2 _ _ oI.l i1
    have st2 : Sti (j + 1) h2 := W.fr _ _ _ st1 (fun o e => k2 _ _ oI.l e) (fun b o e => J2.s.k b o (k0 b o e))
    have J3 := (J2.pinned oD d2).pinned (oI.pin (o := lo ws n) (Ne.symm hID)) i2
    refine wpAny_mono (hE (pinI (pinI c D (lo ws n)) I o1) P ⟨loc.set i (some v), H⟩ { s with heap := h2, toks := tk2 } _ rfl rfl J3 hw) (fun y s3 z => ?_) fun _ _ z => z.elim
    obtain ⟨P3, H3, av, k3, J4, rs3, ry, q3⟩ := z
    obtain ⟨J5, oI5, i5⟩ := J4.unpin (oI.pin (o := lo ws n) (Ne.symm hID))
    obtain ⟨J6, oD6, d6⟩ := J5.unpin oD
    have oI6 : Off c L P3 H3 I := ⟨oI5.p, oI5.h, oI.ns, oI.pins, oI.l⟩
    refine call_meets F.slot_list_append ⟨_, d6, rfl⟩ F.entry_list_append (F.args_list_append_2 _ _) (list_append _ ws n y ?_) ⟨d6, ?_⟩
    · have := r1.length; simp at this; simp at hz; omega
    · have e2 := Heap.get?_update_self (Obj.mapSeq fun x => x.push y) d6 (by rfl)
      have ne : ∀ b o, b ≠ D → s3.heap.get? b = some o → (s3.heap.update D (Obj.mapSeq fun x => x.push y)).get? b = some o := fun b o n e => by rw [update_other' _ _ n]; exact e
      have J7 := (J6.butOff oD6 ne).weak (i := i)
      simp only [setL, List.set_set, hloc] at J7
      refine ih (j + 1) P3 H3 { s3 with heap := s3.heap.update D (Obj.mapSeq fun x => x.push y) } (ys ++ [av]) _ hd' (by simp at hjl; omega) (k0.trans k3) J7 oI6 oD6
        ⟨ws.push y, _, e2, by simpa using (r1.mono k3).append (.cons _ _ _ _ ry .nil)⟩ ?_ (by simp at hz ⊢; omega) q3 fun P' H' zs s' a1 a2 a3 a4 a5 a6 a7 => ?_
      · exact W.fr _ _ _ st2 (fun o e => ne _ _ hID (by rw [i2] at e; cases e; exact i5)) (fun b o e => J7.s.k b o (k3 _ _ (k0 b o e)))
      · refine hR P' H' (av :: zs) s' (k3.trans a1) a2 a3 ?_ (by simp [a5]) (Rest.trans (Rest.trans ⟨rfl, rfl, rfl⟩ rs3) (Rest.trans ⟨rfl, rfl, rfl⟩ a6)) a7
        obtain ⟨ws', n', b1, b2⟩ := a4
        exact ⟨ws', n', b1, by simpa using b2⟩
theorem compStart_step {elt target iter : Expr} {gens : List Comprehension} {scope : Scope} {pos : Pos} {depth : Nat} {it acc : Value} {env : Env} {R : Result → Shared → Prop} (hg : gens[depth]? = some ⟨target, iter, [], 0⟩)
    (h0 : codeAny (model prog w) A (.compLoop (.ListComp elt gens scope pos) depth it acc env) R s)
    (h : wpAny (model prog w) A (pyIter it) (fun it' s' => codeAny (model prog w) A (.compLoop (.ListComp elt gens scope pos) depth it' acc env) R s') (fun _ _ => False) s) :
    codeAny (model prog w) A (.compStart (.ListComp elt gens scope pos) depth it acc env) R s := by
  refine codeAny_of_tree ?_
  show wpAny _ _ ((compStart (.ListComp elt gens scope pos) depth it acc env).onRaise (fun x => do noteFrame x env; standAt theWindowsPlace)) _ _ s
  refine wpAny_notedAt ?_
  unfold compStart
  have hc : (clausesOf (.ListComp elt gens scope pos))[depth]? = some ⟨target, iter, [], 0⟩ := hg
  rw [hc]
  show wpAny _ _ (ask >>= _) _ _ s
  refine wpAny_bind (wpAny_askSetting (wpAny_ite ?_))
  split
  · first
      | exact wpAny_bind (wpAny_pure (wpAny_pure (And.intro rfl h0)))
      | exact wpAny_pure (And.intro rfl h0)
  · first
      | exact wpAny_bind (wpAny_rule (wpAny_bind (wpAny_standAt (wpAny_bind (wpAny_mono h (fun it' s' h' => wpAny_pure (And.intro rfl h')) fun _ _ x => x.elim)))))
      | (refine wpAny_bind (wpAny_rule ?_); show wpAny _ _ (standAt iter.pos >>= _) _ _ s; exact wpAny_bind (wpAny_standAt (wpAny_bind (wpAny_mono h (fun it' s' h' => wpAny_pure (And.intro rfl h')) fun _ _ x => x.elim))))
theorem comp_step2 {elt target iter target2 iter2 : Expr} {gens : List Comprehension} {scope : Scope} {pos : Pos} {depth : Nat} {it acc : Value} {env : Env} {R : Result → Shared → Prop} (hg : gens[depth]? = some ⟨target, iter, [], 0⟩) (hg' : gens[depth + 1]? = some ⟨target2, iter2, [], 0⟩)
    (hs : ∀ x, foldedSetIterable iter2 env x = pure x)
    (turn : wpAny (model prog w) A (pyNext it) (fun r s₁ => match r with
      | none => R (.ok .next) s₁
      | some v => wpAny (model prog w) A (letOwnedTupleGo target it v) (fun _ s₁' => wpAny (model prog w) A (assign target env v) (fun _ s₂ => wpAny (model prog w) A (eval iter2 env) (fun x s₃ =>
          wpAny (model prog w) A (pyIter x) (fun it2 s₄ => codeAny (model prog w) A (.compStart (.ListComp elt gens scope pos) (depth + 1) it2 acc env) (fun r s₅ => match r with
            | .ok _ => codeAny (model prog w) A (.compLoop (.ListComp elt gens scope pos) depth it acc env) R s₅
            | .error _ => False) s₄) (fun _ _ => False) s₃)
          (fun _ _ => False) s₂) (fun _ _ => False) s₁') (fun _ _ => False) s₁) (fun _ _ => False) s) :
    codeAny (model prog w) A (.compLoop (.ListComp elt gens scope pos) depth it acc env) R s := by
  refine codeAny_of_tree ?_
  rw [Around.under_of_weight rfl]
  show wpAny _ _ ((compTurn (.ListComp elt gens scope pos) depth it acc env).onRaise (fun x => do noteFrame x env; theTreesLotGoes x)) _ _ s
  refine wpAny_onRaise (wpAny_mono (Q := _) (E := fun _ _ => False) ?_ (fun _ _ q => q) fun _ _ z => z.elim)
  unfold compTurn
  simp only [hg, hg']
  refine wpAny_bind (wpAny_standAt (wpAny_bind (wpAny_mono turn (fun r s₁ h₁ => ?_) fun _ _ h' => h')))
  cases r with
  | none => exact wpAny_pure h₁
  | some v =>
    refine wpAny_bind (wpAny_mono h₁ (fun _ s₁' h₁' => ?_) fun _ _ h' => h')
    refine wpAny_bind (wpAny_mono h₁' (fun _ s₂ h₂ => ?_) fun _ _ h' => h')
    simp only [List.forIn_nil]
    refine wpAny_bind (wpAny_pure ?_)
    rw [if_pos rfl]
    refine wpAny_bind (wpAny_mono h₂ (fun x s₃ h₃ => ?_) fun _ _ h' => h')
    refine wpAny_bind (wpAny_standAt ?_)
    show wpAny _ _ (foldedSetIterable iter2 env x >>= _) _ _ _
    refine wpAny_bind (wpAny_of_eq (hs x) ?_)
    refine wpAny_bind (wpAny_holding (wpAny_mono h₃ (fun it2 s₄ h₄ => ?_) fun _ _ h' => h'))
    refine wpAny_bind (wpAny_runOwn (codeAny_mono h₄ fun r s₅ h₅ => ?_))
    cases r with
    | ok f => exact wpAny_pure ⟨rfl, h₅⟩
    | error e => exact h₅.elim
theorem comp_loop2 {elt iter iter2 : Expr} {x y : Str} {px py : Pos} {scope sc : Scope} {pos : Pos} {I D : Addr} {env : Env} {items : List AV} {P0 : PM} {Sti : Nat → Heap → Prop}
    {R : Result → Shared → Prop} {CC : CP} {ce ci : CE} (hh : c.A.handled = none)
    (eo : EnvOk sc env L) (hxy : x ≠ y) (hkx : sc.names.lookup x = some .local) (hky : sc.names.lookup y = some .local) (W : WK prog w I P0 items Sti) (hs : ∀ x, foldedSetIterable iter2 env x = pure x)
    (hE : ∀ (c' : Cx) P σ s Q, c'.A = c.A → c'.ns = c.ns → FInv G c' L ⟨[x, y], env⟩ P σ s.heap → ewp CC ce Q (fun _ => False) σ → wpAny (model prog w) c.A (eval elt env) (PV G c' L ⟨[x, y], env⟩ P σ.loc s Q) (fun _ _ => False) s)
    (hE2 : ∀ (c' : Cx) P σ s Q, c'.A = c.A → c'.ns = c.ns → FInv G c' L ⟨[x, y], env⟩ P σ s.heap → ewp CC ci Q (fun _ => False) σ → wpAny (model prog w) c.A (eval iter2 env) (PV G c' L ⟨[x, y], env⟩ P σ.loc s Q) (fun _ _ => False) s)
    (hID : I ≠ D) :
    ∀ (rest : List AV) (j : Nat) (P : PM) (H : HM) (s : Shared) (ys : List AV) (Q : List AV → HM → Prop), items.drop j = rest → j + rest.length = items.length → PLe P0 P → FInv G c L ⟨[x, y], env⟩ P ⟨[none, none], H⟩ s.heap → Off c L P H I → Off c L P H D → (∃ ws n, s.heap.get? D = some (lo ws n) ∧ VRs P ys ws.toList) →
      Sti j s.heap → ys.length + 1000 * rest.length ≤ 1000000 →
      compW (fun v H k => ewp CC ci (fun vj τ => withO (iterA vj) fun items2 => items2.length ≤ 1000 ∧
        compW (fun u H k' => ewp CC ce (fun y τ => k' y τ.H) (fun _ => False) ⟨[some v, some u], H⟩) items2 τ.H fun ys H' => k (.lst ys) H') (fun _ => False) ⟨[some v, none], H⟩) rest H Q →
      (∀ P' H' (zs : List (List AV)) s', PLe P P' → FInv G c L ⟨[x, y], env⟩ P' ⟨[none, none], H'⟩ s'.heap → Off c L P' H' D → (∃ ws n, s'.heap.get? D = some (lo ws n) ∧ VRs P' (ys ++ zs.flatten) ws.toList) → zs.flatten.length ≤ 1000 * rest.length → Rest s s' → Q (zs.map .lst) H' → R (.ok .next) s') →
      codeAny (model prog w) c.A (.compLoop (.ListComp elt [⟨.Name x px, iter, [], 0⟩, ⟨.Name y py, iter2, [], 0⟩] scope pos) 0 (.ref I) (.ref D) env) R s := by
  intro rest
  have nd : [x, y].Nodup := by simp [hxy]
  induction rest with
  | nil =>
    intro j P H s ys Q hd hjl k0 J oI oD hD st hz hw hR
    have hj : j = items.length := by simpa using hjl
    subst hj
    refine comp_step2 rfl rfl hs (W.done _ hh _ _ _ st fun h1 tk k1 => ?_)
    have J1 := J.butOff oI k1
    obtain ⟨ws, n, e1, r1⟩ := hD
    exact hR P H [] _ (PLe.refl _) J1 oD ⟨ws, n, k1 _ _ (Ne.symm hID) e1, by simpa using r1⟩ (by simp) ⟨rfl, rfl, rfl⟩ hw
  | cons v rest ih =>
    intro j P H s ys Q hd hjl k0 J oI oD hD st hz hw hR
    have hv : items[j]? = some v := by
      have := congrArg (fun l => l[0]?) hd
      simpa using this
    have hd' : items.drop (j + 1) = rest := by
      have := congrArg List.tail hd
      simpa using this
    obtain ⟨ws, n, e1, r1⟩ := hD
    refine comp_step2 rfl rfl hs (W.item _ hh _ _ _ _ v hv st fun u h1 tk ru st1 k1 => ?_)
    have J1 := J.butOff oI k1
    have d1 := k1 _ _ (Ne.symm hID) e1
    refine wpAny_pure ?_
    refine wpAny_assign_Name (store_sound (s := { s with heap := h1, toks := tk }) (v := v) (i := 0) J1 eo rfl nd hkx (ru.mono k0) fun h2 tk2 J2 k2 => ?_)
    have d2 := k2 _ _ oD.l d1
    obtain ⟨o1, i1⟩ := W.ex _ _ st1
    have i2 := k2 _ _ oI.l i1
    have st2 : Sti (j + 1) h2 := W.fr _ _ _ st1 (fun o e => k2 _ _ oI.l e) (fun b o e => J2.s.k b o (k0 b o e))
    have J3 := (J2.pinned oD d2).pinned (oI.pin (o := lo ws n) (Ne.symm hID)) i2
    refine wpAny_mono (hE2 (pinI (pinI c D (lo ws n)) I o1) P ⟨[some v, none], H⟩ { s with heap := h2, toks := tk2 } _ rfl rfl J3 hw) (fun xv s3 z => ?_) fun _ _ z => z.elim
    obtain ⟨P3, H3, av, k3, J4, rs3, rx, z⟩ := z
    obtain ⟨items2, it2, hn2, q3⟩ := withO_some z
    obtain ⟨J5, oI5, i5⟩ := J4.unpin (oI.pin (o := lo ws n) (Ne.symm hID))
    obtain ⟨J6, oD6, d6⟩ := J5.unpin oD
    have oI6 : Off c L P3 H3 I := ⟨oI5.p, oI5.h, oI.ns, oI.pins, oI.l⟩
    refine iter_sound J6 hh rx it2 (by omega) fun o4 St2 W2 st4 g4 => ?_
    have n4 := size_none s3.heap
    have k4 := Kp.push s3.heap o4
    obtain ⟨f1, f2, f3, f4, f5⟩ := J6.free n4
    have J7 := J6.keeps k4
    have hII : I ≠ s3.heap.objs.size := fun z => by rw [← z, i5] at n4; cases n4
    have hDI : s3.heap.objs.size ≠ D := fun z => by rw [z, d6] at n4; cases n4
    have oI2 : Off c L P3 H3 s3.heap.objs.size := ⟨f1, f2, f3, f4, f5⟩
    have d7 := k4 _ _ d6
    have i7 := k4 _ _ i5
    have st3 : Sti (j + 1) (s3.heap.push o4) := W.fr _ _ _ st2 (fun o e => by rw [i2] at e; cases e; exact i7) (fun b o e => J7.s.k b o (k3 _ _ (k0 b o e)))
    have inner : codeAny (model prog w) (pinI c I o1).A (.compLoop (.ListComp elt [⟨.Name x px, iter, [], 0⟩, ⟨.Name y py, iter2, [], 0⟩] scope pos) (0 + 1) (.ref s3.heap.objs.size) (.ref D) env) (fun r s₅ => match r with
            | .ok _ => codeAny (model prog w) c.A (.compLoop (.ListComp elt [⟨.Name x px, iter, [], 0⟩, ⟨.Name y py, iter2, [], 0⟩] scope pos) 0 (.ref I) (.ref D) env) R s₅
            | .error _ => False) { s3 with heap := s3.heap.push o4 } := by
      refine comp_loop1 (c := pinI c I o1) (depth := 0 + 1) (i := 1) (nm := [x, y]) (loc := [some v, none]) (iter := iter2) (px := py) hh rfl rfl eo rfl nd hky rfl W2 hE hDI items2 0 P3 H3 { s3 with heap := s3.heap.push o4 } ys _ rfl (by simp) (PLe.refl _)
        (J7.pinned oI6 i7) (oI2.pin hII) (oD6.pin hID) ⟨ws, n, d7, r1.mono k3⟩ st4 (by simp at hz; unfold sizeLine; omega) q3 fun P' H' zs s' a1 a2 a3 a4 a5 a6 a7 => ?_
      obtain ⟨b1, b2, b3⟩ := a2.unpin oI6
      have a3' : Off c L P' H' D := ⟨a3.p, a3.h, oD.ns, oD.pins, oD.l⟩
      refine ih (j + 1) P' H' s' (ys ++ zs) _ hd' (by simp at hjl; omega) (k0.trans (k3.trans a1)) (b1.weak (i := 0)) b2 a3' a4 ?_ (by simp at hz ⊢; omega) a7 fun P'' H'' zss s'' c1 c2 c3 c4 c5 c6 c7 => ?_
      · exact W.fr _ _ _ st3 (fun o e => by rw [i7] at e; cases e; exact b3) (fun b o e => b1.s.k b o (a1 _ _ (k3 _ _ (k0 b o e))))
      · refine hR P'' H'' (zs :: zss) s'' (k3.trans (a1.trans c1)) c2 c3 ?_ (by simp at c5 ⊢; omega) (Rest.trans (Rest.trans ⟨rfl, rfl, rfl⟩ rs3) (Rest.trans (Rest.trans ⟨rfl, rfl, rfl⟩ a6) c6)) c7
        obtain ⟨ws', n', b1, b2⟩ := c4
        exact ⟨ws', n', b1, by simpa using b2⟩
    exact compStart_step rfl inner (W2.self _ hh _ _ _ _ st4 inner)
end
end Mine
end
section
open PySem PySem.W PyProof.Rows PySem.Calls PyProof.V PySem.Spec PySem.SeqAt
namespace Mine
section
variable {prog : Program} {w : World} {K : Frag} {p : Program} {loose : List Str} {mg mb : Str → Option Value} {G : Heap} {d : Nat}
variable {c : Cx} {L : Addr} {names : Nm} {P P' P1 : PM} {σ : St} {s s' s1 : Shared} {E : Value → Shared → Prop} {A : Around} {h h' : Heap} {H : HM}
noncomputable def clOf (env : Env) : List (Str × NameKind) → List (Str × Addr) → List (Str × Addr)
  | [], cs => cs
  | (n, k) :: r, cs => if k == .free then (match env.cells.lookup n with | some a => clOf env r ((n, a) :: cs) | none => clOf env r cs) else clOf env r cs
theorem clOf_loop {env : Env} : ∀ (names : List (Str × NameKind)) (cs : List (Str × Addr)), (∀ x ∈ names, x.2 = .free → ∃ a, env.cells.lookup x.1 = some a) →
    (forIn names cs fun x r => if (x.2 == NameKind.free) = true then (cellOf env x.1 >>= fun a => (pure (ForInStep.yield ((x.1, a) :: r)) : Sem _)) else pure (ForInStep.yield r)) = pure (clOf env names cs)
  | [], cs, _ => rfl
  | (n, k) :: r, cs, h => by
    rw [List.forIn_cons]
    unfold clOf
    by_cases hk : (k == NameKind.free) = true
    · simp only [hk, if_true]
      obtain ⟨a, ha⟩ := h (n, k) (.head _) (by simpa using hk)
      have : cellOf env n = pure a := by
        unfold cellOf; simp only at ha; rw [ha]
      simp only at ha
      rw [this, ha]
      exact clOf_loop r _ fun x m => h x (.tail _ m)
    · simp only [hk]
      exact clOf_loop r _ fun x m => h x (.tail _ m)
theorem closureFor_cl {scope : Scope} {env : Env} (h : ∀ x ∈ scope.names, x.2 = .free → ∃ a, env.cells.lookup x.1 = some a) : closureFor scope env = pure (clOf env scope.names []) := by
  have := clOf_loop scope.names [] h
  unfold closureFor
  show (forIn scope.names [] _ >>= fun s => pure s) = _
  rw [show (fun (x : Str × NameKind) (r : List (Str × Addr)) => if (x.2 == NameKind.free) = true then (cellOf env x.1 >>= fun a => (pure (ForInStep.yield ((x.1, a) :: r)) : Sem _)) else pure (ForInStep.yield r)) = _ from rfl] at this
  exact (congrArg (fun z => z >>= fun s => pure s) this).trans rfl
theorem clOf_lookup {env : Env} : ∀ (names : List (Str × NameKind)) (cs : List (Str × Addr)), (∀ q ∈ cs, env.cells.lookup q.1 = some q.2) → ∀ (y : Str) (a : Addr), env.cells.lookup y = some a → ((y, NameKind.free) ∈ names ∨ y ∈ cs.map (·.1)) → (clOf env names cs).lookup y = some a
  | [], cs, hc, y, a, ha, hm => by
    unfold clOf
    rcases hm with m | m
    · cases m
    · induction cs with
      | nil => cases m
      | cons q cs ih =>
        obtain ⟨n, b⟩ := q
        by_cases z : y = n
        · subst z
          have := hc _ (.head _)
          simp only at this
          rw [ha] at this; cases this
          simp
        · rw [List.lookup_cons, beq_eq_false_iff_ne.mpr z]
          simp only [List.map_cons, List.mem_cons, z, false_or] at m
          exact ih (fun q hq => hc q (.tail _ hq)) m
  | (n, k) :: r, cs, hc, y, a, ha, hm => by
    unfold clOf
    by_cases hk : (k == NameKind.free) = true
    · have hk' : k = .free := by simpa using hk
      subst hk'
      simp only [beq_self_eq_true, if_true]
      cases hl : env.cells.lookup n with
      | none =>
        refine clOf_lookup r cs hc y a ha ?_
        rcases hm with m | m
        · rcases List.mem_cons.mp m with e | m
          · cases e; rw [ha] at hl; cases hl
          · exact .inl m
        · exact .inr m
      | some b =>
        refine clOf_lookup r ((n, b) :: cs) (fun q hq => ?_) y a ha ?_
        · rcases List.mem_cons.mp hq with rfl | hq
          · exact hl
          · exact hc q hq
        · rcases hm with m | m
          · rcases List.mem_cons.mp m with e | m
            · cases e; exact .inr (.head _)
            · exact .inl m
          · exact .inr (.tail _ m)
    · simp only [hk]
      refine clOf_lookup r cs hc y a ha ?_
      rcases hm with m | m
      · rcases List.mem_cons.mp m with e | m
        · cases e; simp at hk
        · exact .inl m
      · exact .inr m
theorem relab_eq {scope : Scope} {env : Env} {sc : Scope} (h : env.scope = sc) : relabel scope env = relab sc scope := by
  subst h; rfl
theorem relab_cell {sc scope : Scope} {y : Str} (hk : sc.kind = .function) (h1 : sc.names.lookup y = some .cell) (h2 : scope.names.lookup y = some .free) : (relab sc scope).names.lookup y = some .cell := by
  unfold relab
  simp only
  generalize scope.names = names at h2
  induction names with
  | nil => cases h2
  | cons q r ih =>
    obtain ⟨n, k⟩ := q
    simp only [List.map_cons]
    by_cases z : y = n
    · subst z
      simp only [List.lookup_cons, beq_self_eq_true] at h2
      cases h2
      simp [hk, h1]
    · have zb : (y == n) = false := beq_eq_false_iff_ne.mpr z
      simp only [List.lookup_cons, zb] at h2
      have := ih h2
      split
      · simp only [List.lookup_cons, zb]; exact this
      · simp only [List.lookup_cons, zb]; exact this
theorem relab_local {sc scope : Scope} {y : Str} (h2 : scope.names.lookup y = some .local) : (relab sc scope).names.lookup y = some .local := by
  unfold relab
  simp only
  generalize scope.names = names at h2
  induction names with
  | nil => cases h2
  | cons q r ih =>
    obtain ⟨n, k⟩ := q
    simp only [List.map_cons]
    by_cases z : y = n
    · subst z
      simp only [List.lookup_cons, beq_self_eq_true] at h2
      cases h2
      simp
    · have zb : (y == n) = false := beq_eq_false_iff_ne.mpr z
      simp only [List.lookup_cons, zb] at h2
      have := ih h2
      split
      · simp only [List.lookup_cons, zb]; exact this
      · simp only [List.lookup_cons, zb]; exact this
theorem capOk_mem {sc scope : Scope} {nm nm' : List Str} : ∀ {is : List Nat} {ys : List Str}, capOk sc nm scope nm' is ys = true → ∀ (j : Nat) (y : Str), ys[j]? = some y → ∃ i, is[j]? = some i ∧ nm[i]? = some y ∧ sc.names.lookup y = some .cell ∧ scope.names.lookup y = some .free
  | [], [], _, j, y, e => by simp at e
  | i :: is, x :: xs, h, 0, y, e => by
    unfold capOk at h
    simp only [Bool.and_eq_true, beq_iff_eq] at h
    simp at e; subst e
    exact ⟨i, rfl, h.1.1.1, h.1.1.2, h.1.2⟩
  | i :: is, x :: xs, h, j + 1, y, e => by
    unfold capOk at h
    simp only [Bool.and_eq_true, beq_iff_eq] at h
    obtain ⟨i', a, b⟩ := capOk_mem h.2 j y (by simpa using e)
    exact ⟨i', by simpa using a, b⟩
  | [], _ :: _, h, _, _, _ => by unfold capOk at h; cases h
  | _ :: _, [], h, _, _, _ => by unfold capOk at h; cases h
theorem compFresh {scope : Scope} {env : Env} {cl : List (Str × Addr)} {Z : Value → Env → Shared → Prop} (hcell : ∀ y ∈ scope.names, y.2 ≠ .cell) (hkind : scope.kind = .function)
    (k : ∀ D C h1 tk, Kp s.heap h1 → s.heap.get? D = none → s.heap.get? C = none → D ≠ C → h1.Ns C (fun _ => none) → h1.get? D = some (lo #[] 0) → Z (.ref D) (newEnv scope C env.globals cl env.qual none .none (some env) builtinsNs) { s with heap := h1, toks := tk }) :
    wpAny (model prog w) A (newList []) (fun acc s₃ => wpAny (model prog w) A (newFunctionEnv scope env.globals cl [] env.qual none .none (some env)) (fun cenv s₄ => Z acc cenv s₄) E s₃) E s := by
  refine wpAny_newObj_type (wpAny_newFunctionEnv hcell (by intro y hy; simp at hy) (fun h₁ hns₁ hsb₁ => ?_) hkind)
  dsimp only at hns₁ hsb₁ ⊢
  generalize hH2 : s.heap.push { cls := .type "list", dict := none, data := .seq ([] : List Value).toArray } = H2 at hns₁ hsb₁ ⊢
  have hC : H2.objs.size = s.heap.objs.size + 1 := by rw [← hH2, Heap.size_push]
  have hDC : s.heap.objs.size ≠ H2.objs.size := by rw [hC]; exact Nat.ne_of_lt (Nat.lt_succ_self _)
  have fresh : ∀ a, s.heap.objs.size ≤ a → s.heap.get? a = none := fun a ha => by
    cases e : s.heap.get? a with
    | none => rfl
    | some o' => exact absurd (Heap.lt_size e) (Nat.not_lt.mpr ha)
  refine k s.heap.objs.size H2.objs.size h₁ _ (fun b o e => ?_) (fresh _ (Nat.le_refl _)) (fresh _ (by rw [hC]; exact Nat.le_succ _)) hDC hns₁ ?_
  · have hb := Heap.lt_size e
    exact hsb₁.extBut b o (fun z => by rw [z, hC] at hb; exact Nat.lt_irrefl _ (Nat.lt_of_succ_lt hb)) (Heap.get?_push_of_some _ (hH2 ▸ Heap.get?_push_of_some _ e))
  · exact hsb₁.extBut _ _ hDC (Heap.get?_push_of_some _ (hH2 ▸ Heap.get?_push_size _ rfl))
end
end Mine
end
section
open PySem PySem.W PyProof.Rows PySem.Calls PyProof.V PySem.Spec PySem.SeqAt
namespace Mine
section
variable {prog : Program} {w : World} {K : Frag} {p : Program} {loose : List Str} {mg mb : Str → Option Value} {G : Heap} {d : Nat}
variable {c : Cx} {L : Addr} {names : Nm} {P P' P1 : PM} {σ : St} {s s' s1 : Shared} {E : Value → Shared → Prop} {A : Around} {h h' : Heap} {H : HM}
structure Done (G : Heap) (c : Cx) (L : Addr) (N : Nm) (P : PM) (s : Shared) (D C : Addr) (s' : Shared) (P' : PM) (l : List (Option AV)) (H' : HM) (zs : List AV) : Prop where
  le : PLe P P'
  j : FInv G c L N P' ⟨l, H'⟩ s'.heap
  oC : Off c L P' H' C
  nC : ∃ mC, s'.heap.Ns C mC
  oD : Off c L P' H' D
  dD : ∃ ws n, s'.heap.get? D = some (lo ws n) ∧ VRs P' zs ws.toList
  z : zs.length ≤ sizeLine
  ne : D ≠ C
  r : Rest s s'
theorem Done.frozen {D C : Addr} {l : List (Option AV)} {zs : List AV} (X : Done G c L names P s D C s' P' l H zs) : ∃ ws n, s'.heap.get? D = some (lo ws n) ∧ FInv G c L names (P'.set D (lo ws n)) ⟨l, H⟩ s'.heap ∧ PLe P (P'.set D (lo ws n)) ∧ VR (P'.set D (lo ws n)) (.lst zs) (.ref D) ∧ Off c L (P'.set D (lo ws n)) H C := by
  obtain ⟨ws, n, e, r⟩ := X.dD
  have k := PLe.set (P := P') (o := lo ws n) X.oD.p
  refine ⟨ws, n, e, X.j.addP e X.oD.p X.oD.h X.oD.ns X.oD.pins X.oD.l, X.le.trans k, .lst zs ws n D (by simp [PM.set]) (r.mono k) X.z, ⟨?_, X.oC.h, X.oC.ns, X.oC.pins, X.oC.l⟩⟩
  unfold PM.set; rw [if_neg X.ne.symm]; exact X.oC.p
theorem fin_none {D C : Addr} {l : List (Option AV)} {zs : List AV} {Q : AV → St → Prop} (X : Done G c L names P s D C s' P' l H zs) (q : Q (.lst zs) ⟨l, H⟩) :
    compPost (model prog w) c.A E none (PV G c L names P l s Q) (.ref D) C (.ok .next) s' := by
  obtain ⟨mC, nC⟩ := X.nC
  obtain ⟨ws, n, e, J, k, v, oC⟩ := X.frozen
  refine ⟨mC, nC, fun h' sb => ⟨_, H, .lst zs, k, J.butOff oC fun b o n e => sb.extBut b o n e, Rest.trans X.r ⟨rfl, rfl, rfl⟩, v, q⟩⟩
theorem fin_asg {D C : Addr} {l : List (Option AV)} {zs : List AV} {nm : List Str} {env : Env} {sc : Scope} {i : Nat} {y : Str} {py : Pos} {Q : Value → Shared → Prop} (X : Done G c L ⟨nm, env⟩ P s D C s' P' l H zs)
    (eo : EnvOk sc env L) (hn : nm[i]? = some y) (nd : nm.Nodup) (hk : sc.names.lookup y = some .local)
    (q : ∀ P'' s'', PLe P P'' → FInv G c L ⟨nm, env⟩ P'' (setL ⟨l, H⟩ i (.lst zs)) s''.heap → Rest s s'' → Q .none s'') :
    compPost (model prog w) c.A E (some (assign (.Name y py) env)) Q (.ref D) C (.ok .next) s' := by
  obtain ⟨mC, nC⟩ := X.nC
  obtain ⟨ws, n, e, J, k, v, oC⟩ := X.frozen
  show wpAny _ _ (assign (.Name y py) env (.ref D)) _ _ _
  refine wpAny_assign_Name (store_sound J eo hn nd hk v fun h2 tk2 J2 k2 => ?_)
  refine ⟨mC, ?_, fun h' sb => ?_⟩
  · obtain ⟨o, es, ep, a1, a2⟩ := nC
    exact ⟨o, es, ep, k2 _ _ oC.l a1, a2⟩
  · have oC' : Off c L (P'.set D (lo ws n)) (setL ⟨l, H⟩ i (.lst zs)).H C := oC
    exact q _ _ k (J2.butOff oC' fun b o n e => sb.extBut b o n e) (Rest.trans X.r ⟨rfl, rfl, rfl⟩)
theorem empty_locR {N : Nm} {n : Nat} {m : Str → Option Value} : LocR P N (List.replicate n none) m := by
  intro i x v e1 e2
  rw [List.getElem?_replicate] at e2
  split at e2 <;> simp at e2
theorem comp1_sound {elt iter : Expr} {x : Str} {px : Pos} {scope sc : Scope} {pos pos' : Pos} {env : Env} {nm : List Str} {caps : List Nat} {use : Option (Value → Sem Unit)} {Q : Value → Shared → Prop} {CC : CP} {ce : CE} {Qc : List AV → HM → Prop}
    (hh : c.A.handled = none) (eo : EnvOk sc env L) (hs : ∀ x, foldedSetIterable iter env x = pure x)
    (hsc : scopeOk scope = true) (hnc : noCell scope = true) (hx : scope.names.lookup x = some .local)
    (hcap : capOk sc nm scope nm caps (frees' scope) = true)
    (I0 : FInv G c L ⟨nm, env⟩ P σ s.heap) (hl : ∀ i ∈ caps, ∃ ca, σ.loc[i]? = some (some (.ref ca)))
    (hit : wpAny (model prog w) c.A (eval iter env) (PV G c L ⟨nm, env⟩ P σ.loc s (fun vi σ1 => withO (iterA vi) fun items => items.length ≤ 1000000 ∧
      compW (fun v H k => ewp CC ce (fun y τ => k y τ.H) (fun _ => False) ⟨some v :: caps.map fun i => (σ.loc[i]?).join, H⟩) items σ1.H Qc)) E s)
    (hE : ∀ (C : Addr) (cenv : Env) (c' : Cx) P σ s Q, EnvOk (relab sc scope) cenv C → c'.A = c.A → c'.ns.map (·.1) = L :: c.ns.map (·.1) → FInv G c' C ⟨x :: frees' scope, cenv⟩ P σ s.heap → ewp CC ce Q (fun _ => False) σ →
      wpAny (model prog w) c.A (eval elt cenv) (PV G c' C ⟨x :: frees' scope, cenv⟩ P σ.loc s Q) (fun _ _ => False) s)
    (hnd : (x :: frees' scope).Nodup)
    (fin : ∀ D C s' P' H' zs, Done G c L ⟨nm, env⟩ P s D C s' P' σ.loc H' zs → Qc zs H' → compPost (model prog w) c.A E use Q (.ref D) C (.ok .next) s') :
    wpAny (model prog w) c.A (comprehension (.ListComp elt [⟨.Name x px, iter, [], 0⟩] scope pos) scope env pos' (newList []) false (eval iter env) use) Q E s := by
  unfold scopeOk at hsc
  simp only [Bool.and_eq_true, beq_iff_eq, List.all_eq_true, Bool.or_eq_true, bne_iff_ne] at hsc
  have hcell : ∀ y ∈ scope.names, y.2 ≠ .cell := by
    unfold noCell at hnc
    simpa [List.all_eq_true] using hnc
  have hfree : ∀ z ∈ scope.names, z.2 = .free → ∃ (i : Nat) (ca : Addr), nm[i]? = some z.1 ∧ sc.names.lookup z.1 = some .cell ∧ env.cells.lookup z.1 = some ca := by
    intro z hz hf
    have m : z.1 ∈ frees' scope := List.mem_map.mpr ⟨z, List.mem_filter.mpr ⟨hz, by simp [hf]⟩, rfl⟩
    obtain ⟨j, hj⟩ := List.mem_iff_getElem?.mp m
    obtain ⟨i, a1, a2, a3, a4⟩ := capOk_mem hcap j _ hj
    obtain ⟨ca, b1⟩ := hl i (List.mem_of_getElem? a1)
    obtain ⟨m0, hm0, lr⟩ := I0.f
    obtain ⟨ca', e, e2⟩ := (lr i _ _ a2 b1).2 (by show env.kindOf z.1 = _; unfold Env.kindOf; rw [eo.se]; exact a3)
    exact ⟨i, ca', a2, a3, e2⟩
  have hclos := closureFor_cl (scope := scope) (env := env) fun z hz hf => let ⟨_, ca, _, _, e⟩ := hfree z hz hf; ⟨ca, e⟩
  refine wpAny_comprehension_free rfl hs hclos hsc.1 (fun y hy hl => ?_) (wpAny_mono hit (fun xv s₁ h₁ => ?_) fun _ _ e => e)
  · rcases hsc.2 y hy with q | q
    · exact absurd hl q
    · exact q
  obtain ⟨P1, H1, av, k1, J1, rs1, rv, h₁⟩ := h₁
  obtain ⟨items, hi, hlen, hw⟩ := withO_some h₁
  refine iter_sound J1 hh rv hi (by omega) fun o4 Sti W st0 g4 => ?_
  have J2 := J1.keeps (Kp.push s₁.heap o4)
  have n4 := size_none s₁.heap
  obtain ⟨f1, f2, f3, f4, f5⟩ := J1.free n4
  have oI : Off c L P1 H1 s₁.heap.objs.size := ⟨f1, f2, f3, f4, f5⟩
  generalize hI : s₁.heap.objs.size = I at *
  refine compFresh (s := { s₁ with heap := s₁.heap.push o4 }) hcell hsc.1 fun D C h1 tk hk hD hC hDC hns hDo => ?_
  obtain ⟨m, hm, lr⟩ := J2.f
  obtain ⟨fD1, fD2, fD3, fD4, fD5⟩ := J2.free hD
  obtain ⟨fC1, fC2, fC3, fC4, fC5⟩ := J2.free hC
  have hID : I ≠ D := fun z => by rw [← z] at hD; simp only at hD; rw [g4] at hD; cases hD
  have hIC : I ≠ C := fun z => by rw [← z] at hC; simp only at hC; rw [g4] at hC; cases hC
  have eoC : EnvOk (relab sc scope) { newEnv scope C env.globals (clOf env scope.names []) env.qual none .none (some env) builtinsNs with scope := relabel scope env } C :=
    ⟨relab_eq eo.se, hsc.1, rfl, eo.g, eo.b⟩
  generalize hcenv : ({ newEnv scope C env.globals (clOf env scope.names []) env.qual none .none (some env) builtinsNs with scope := relabel scope env } : Env) = cenv at eoC
  have hcells : cenv.cells = clOf env scope.names [] := by rw [← hcenv]; rfl
  have J3 : FInv G ⟨c.A, (L, m) :: c.ns, c.pins⟩ C ⟨x :: frees' scope, cenv⟩ P1 ⟨none :: caps.map fun i => (σ.loc[i]?).join, H1⟩ h1 := by
    refine J2.enter hm hk hC hns ?_
    intro j y v e1 e2
    cases j with
    | zero => simp at e2
    | succ j =>
      simp only [List.getElem?_cons_succ] at e1 e2
      obtain ⟨i, a1, a2, a3, a4⟩ := capOk_mem hcap j y e1
      have hkd : cenv.kindOf y = some .cell := by unfold Env.kindOf; rw [eoC.se]; exact relab_cell eo.k a3 a4
      refine ⟨fun z => (by rw [hkd] at z; cases z), fun _ => ?_⟩
      rw [List.getElem?_map, a1] at e2
      simp only [Option.map_some, Option.some.injEq] at e2
      have e3 : σ.loc[i]? = some (some v) := by
        cases q : σ.loc[i]? with
        | none => rw [q] at e2; cases e2
        | some z => rw [q] at e2; exact congrArg some e2
      obtain ⟨ca, e, e4⟩ := (lr i y v a2 e3).2 (by show env.kindOf y = _; unfold Env.kindOf; rw [eo.se]; exact a3)
      refine ⟨ca, e, ?_⟩
      show cenv.cells.lookup y = some ca
      rw [hcells]
      refine clOf_lookup scope.names [] (fun q m => nomatch m) y ca e4 (.inl ?_)
      obtain ⟨q, hq, e5⟩ := List.mem_map.mp (List.mem_of_getElem? e1)
      obtain ⟨hq1, hq2⟩ := List.mem_filter.mp hq
      obtain ⟨n, kd⟩ := q
      simp only [beq_iff_eq] at hq2
      simp only at e5
      subst e5; subst hq2; exact hq1
  have oI3 : Off (⟨c.A, (L, m) :: c.ns, c.pins⟩ : Cx) C P1 H1 I := ⟨oI.p, oI.h, fun q hq => by
    rcases List.mem_cons.mp hq with rfl | hq
    · exact oI.l.symm
    · exact oI.ns q hq, oI.pins, hIC⟩
  have oD3 : Off (⟨c.A, (L, m) :: c.ns, c.pins⟩ : Cx) C P1 H1 D := ⟨fD1, fD2, fun q hq => by
    rcases List.mem_cons.mp hq with rfl | hq
    · exact fD5.symm
    · exact fD3 q hq, fD4, hDC⟩
  have st3 : Sti 0 h1 := W.fr _ _ _ st0 (fun o e => hk _ _ e) (fun b o e => hk _ _ (J2.s.k b o e))
  have go := comp_loop1 (prog := prog) (w := w) (c := ⟨c.A, (L, m) :: c.ns, c.pins⟩) (L := C) (depth := 0) (elt := elt) (iter := iter) (px := px) (pos := pos) (scope := scope) (i := 0) (env := cenv) (loc := none :: caps.map fun i => (σ.loc[i]?).join) (gens := [⟨.Name x px, iter, [], 0⟩]) (R := compPost (model prog w) c.A E use Q (.ref D) C) hh rfl rfl eoC rfl hnd (relab_local hx) rfl W
    (fun c' P σ s Q e1 e2 => hE C cenv c' P σ s Q eoC e1 (by rw [e2]; rfl)) hID items 0 P1 H1 { s₁ with heap := h1, toks := tk } [] Qc rfl (by simp) (PLe.refl _) J3 oI3 oD3 ⟨#[], 0, hDo, .nil⟩ st3 (by simp; unfold sizeLine; omega) hw
    (fun P' H' zs s' a1 a2 a3 a4 a5 a6 a7 => by
      obtain ⟨b1, b2, mC, b3⟩ := a2.leave (names := ⟨nm, env⟩) (l := σ.loc) (lr.mono a1) J1.pin J1.nsl
      refine fin D C s' P' H' zs ⟨k1.trans a1, b1, b2, ⟨mC, b3⟩, ⟨a3.p, a3.h, fun q hq => a3.ns q (.tail _ hq), a3.pins, fun z => a3.ns (L, m) (.head _) z.symm⟩, by simpa using a4, by rw [a5]; unfold sizeLine; omega, hDC, Rest.trans rs1 (Rest.trans ⟨rfl, rfl, rfl⟩ a6)⟩ a7)
  subst hcenv
  exact compStart_step rfl go (W.self _ hh _ _ _ _ st3 go)
theorem comp2_sound {elt iter iter2 : Expr} {x y : Str} {px py : Pos} {scope sc : Scope} {pos pos' : Pos} {env : Env} {nm : List Str} {use : Option (Value → Sem Unit)} {Q : Value → Shared → Prop} {CC : CP} {ce ci : CE} {Qc : List AV → HM → Prop}
    (hh : c.A.handled = none) (eo : EnvOk sc env L) (hs : ∀ x, foldedSetIterable iter env x = pure x) (hs2 : ∀ env x, foldedSetIterable iter2 env x = pure x)
    (hsc : scopeOk scope = true) (hnc : noCell scope = true) (hnf : noFree scope = true) (hx : scope.names.lookup x = some .local) (hy : scope.names.lookup y = some .local) (hxy : x ≠ y)
    (I0 : FInv G c L ⟨nm, env⟩ P σ s.heap)
    (hit : wpAny (model prog w) c.A (eval iter env) (PV G c L ⟨nm, env⟩ P σ.loc s (fun vi σ1 => withO (iterA vi) fun items => items.length ≤ 1000 ∧
      compW (fun v H k => ewp CC ci (fun vj τ => withO (iterA vj) fun items2 => items2.length ≤ 1000 ∧
        compW (fun u H k' => ewp CC ce (fun y τ => k' y τ.H) (fun _ => False) ⟨[some v, some u], H⟩) items2 τ.H fun ys H' => k (.lst ys) H') (fun _ => False) ⟨[some v, none], H⟩) items σ1.H
        fun yss H' => ∃ lss : List (List AV), yss = lss.map .lst ∧ Qc lss.flatten H')) E s)
    (hE : ∀ (C : Addr) (cenv : Env) (c' : Cx) P σ s Q, EnvOk scope cenv C → c'.A = c.A → c'.ns.map (·.1) = L :: c.ns.map (·.1) → FInv G c' C ⟨[x, y], cenv⟩ P σ s.heap → ewp CC ce Q (fun _ => False) σ →
      wpAny (model prog w) c.A (eval elt cenv) (PV G c' C ⟨[x, y], cenv⟩ P σ.loc s Q) (fun _ _ => False) s)
    (hE2 : ∀ (C : Addr) (cenv : Env) (c' : Cx) P σ s Q, EnvOk scope cenv C → c'.A = c.A → c'.ns.map (·.1) = L :: c.ns.map (·.1) → FInv G c' C ⟨[x, y], cenv⟩ P σ s.heap → ewp CC ci Q (fun _ => False) σ →
      wpAny (model prog w) c.A (eval iter2 cenv) (PV G c' C ⟨[x, y], cenv⟩ P σ.loc s Q) (fun _ _ => False) s)
    (fin : ∀ D C s' P' H' zs, Done G c L ⟨nm, env⟩ P s D C s' P' σ.loc H' zs → Qc zs H' → compPost (model prog w) c.A E use Q (.ref D) C (.ok .next) s') :
    wpAny (model prog w) c.A (comprehension (.ListComp elt [⟨.Name x px, iter, [], 0⟩, ⟨.Name y py, iter2, [], 0⟩] scope pos) scope env pos' (newList []) false (eval iter env) use) Q E s := by
  unfold scopeOk at hsc
  simp only [Bool.and_eq_true, beq_iff_eq, List.all_eq_true, Bool.or_eq_true, bne_iff_ne] at hsc
  have hcell : ∀ y ∈ scope.names, y.2 ≠ .cell := by
    unfold noCell at hnc
    simpa [List.all_eq_true] using hnc
  have hfree : ∀ y ∈ scope.names, y.2 ≠ .free := by
    unfold noFree at hnf
    simpa [List.all_eq_true] using hnf
  have hclos := closureFor_none (env := env) hfree
  refine wpAny_comprehension_free rfl hs hclos hsc.1 (fun y hy hl => ?_) (wpAny_mono hit (fun xv s₁ h₁ => ?_) fun _ _ e => e)
  · rcases hsc.2 y hy with q | q
    · exact absurd hl q
    · exact q
  obtain ⟨P1, H1, av, k1, J1, rs1, rv, h₁⟩ := h₁
  obtain ⟨items, hi, hlen, hw⟩ := withO_some h₁
  refine iter_sound J1 hh rv hi (by omega) fun o4 Sti W st0 g4 => ?_
  have J2 := J1.keeps (Kp.push s₁.heap o4)
  have n4 := size_none s₁.heap
  obtain ⟨f1, f2, f3, f4, f5⟩ := J1.free n4
  have oI : Off c L P1 H1 s₁.heap.objs.size := ⟨f1, f2, f3, f4, f5⟩
  generalize hI : s₁.heap.objs.size = I at *
  refine compFresh (s := { s₁ with heap := s₁.heap.push o4 }) hcell hsc.1 fun D C h1 tk hk hD hC hDC hns hDo => ?_
  obtain ⟨m, hm, lr⟩ := J2.f
  obtain ⟨fD1, fD2, fD3, fD4, fD5⟩ := J2.free hD
  obtain ⟨fC1, fC2, fC3, fC4, fC5⟩ := J2.free hC
  have hID : I ≠ D := fun z => by rw [← z] at hD; simp only at hD; rw [g4] at hD; cases hD
  have hIC : I ≠ C := fun z => by rw [← z] at hC; simp only at hC; rw [g4] at hC; cases hC
  have hre : relabel scope env = scope := by
    unfold relabel
    rw [map_eq_self]
    intro x hx
    obtain ⟨n, k⟩ := x
    have : (k == NameKind.free) = false := by simpa using hfree _ hx
    simp [this]
  have eoC : EnvOk scope { newEnv scope C env.globals [] env.qual none .none (some env) builtinsNs with scope := relabel scope env } C :=
    ⟨hre, hsc.1, rfl, eo.g, eo.b⟩
  generalize hcenv : ({ newEnv scope C env.globals [] env.qual none .none (some env) builtinsNs with scope := relabel scope env } : Env) = cenv at eoC
  have J3 : FInv G ⟨c.A, (L, m) :: c.ns, c.pins⟩ C ⟨[x, y], cenv⟩ P1 ⟨[none, none], H1⟩ h1 := J2.enter hm hk hC hns (empty_locR (n := 2))
  have oI3 : Off (⟨c.A, (L, m) :: c.ns, c.pins⟩ : Cx) C P1 H1 I := ⟨oI.p, oI.h, fun q hq => by
    rcases List.mem_cons.mp hq with rfl | hq
    · exact oI.l.symm
    · exact oI.ns q hq, oI.pins, hIC⟩
  have oD3 : Off (⟨c.A, (L, m) :: c.ns, c.pins⟩ : Cx) C P1 H1 D := ⟨fD1, fD2, fun q hq => by
    rcases List.mem_cons.mp hq with rfl | hq
    · exact fD5.symm
    · exact fD3 q hq, fD4, hDC⟩
  have st3 : Sti 0 h1 := W.fr _ _ _ st0 (fun o e => hk _ _ e) (fun b o e => hk _ _ (J2.s.k b o e))
  have go := comp_loop2 (prog := prog) (w := w) (c := ⟨c.A, (L, m) :: c.ns, c.pins⟩) (L := C) (elt := elt) (iter := iter) (iter2 := iter2) (px := px) (py := py) (pos := pos) (scope := scope) (env := cenv) (R := compPost (model prog w) c.A E use Q (.ref D) C) hh eoC hxy hx hy W (hs2 _)
    (fun c' P σ s Q e1 e2 => hE C cenv c' P σ s Q eoC e1 (by rw [e2]; rfl)) (fun c' P σ s Q e1 e2 => hE2 C cenv c' P σ s Q eoC e1 (by rw [e2]; rfl)) hID items 0 P1 H1 { s₁ with heap := h1, toks := tk } [] _ rfl (by simp) (PLe.refl _) J3 oI3 oD3 ⟨#[], 0, hDo, .nil⟩ st3 (by simp; omega) hw
    (fun P' H' zs s' a1 a2 a3 a4 a5 a6 a7 => by
      obtain ⟨b1, b2, mC, b3⟩ := a2.leave (names := ⟨nm, env⟩) (l := σ.loc) (lr.mono a1) J1.pin J1.nsl
      obtain ⟨lss, e1, e2⟩ := a7
      have e3 : zs = lss := by
        have : Function.Injective AV.lst := fun a b e => by cases e; rfl
        exact (List.map_inj_right (fun _ _ q => this q)).mp e1
      subst e3
      refine fin D C s' P' H' zs.flatten ⟨k1.trans a1, b1, b2, ⟨mC, b3⟩, ⟨a3.p, a3.h, fun q hq => a3.ns q (.tail _ hq), a3.pins, fun z => a3.ns (L, m) (.head _) z.symm⟩, by simpa using a4, ?_, hDC, Rest.trans rs1 (Rest.trans ⟨rfl, rfl, rfl⟩ a6)⟩ e2
      unfold sizeLine; omega)
  subst hcenv
  exact compStart_step rfl go (W.self _ hh _ _ _ _ st3 go)
end
end Mine
end
section
open PySem PySem.W PyProof.Rows PySem.Calls PyProof.V PySem.Spec PySem.SeqAt
namespace Mine
structure Rd (G : Heap) (d : Nat) (sc : Scope) (nm : List Str) (env : Env) (c : Cx) (L : Addr) (P : PM) (l : List (Option AV)) (H : HM) (h : Heap) : Prop where
  eo : EnvOk sc env L
  nd : nm.Nodup
  ok : Ok d c.A (L :: c.ns.map (·.1))
  I : FInv G c L ⟨nm, env⟩ P ⟨l, H⟩ h
section
variable (prog : Program) (w : World) (K : Frag) (G : Heap) (d : Nat) (GT BT : List (Str × Value))
noncomputable def ES (e : CE) : Prop := ∀ {x : Expr} {sc : Scope} {nm : List Str} {env : Env} {c : Cx} {L : Addr} {P : PM} {l : List (Option AV)} {H : HM} {s : Shared} {Q : AV → St → Prop} {X : St → Prop},
  mE GT BT sc nm e x = true → Rd G d sc nm env c L P l H s.heap → ewp (CPs prog w K G d) e Q X ⟨l, H⟩ →
  wpAny (model prog w) c.A (eval x env) (PV G c L ⟨nm, env⟩ P l s Q) (PX G c L ⟨nm, env⟩ P s X) s
noncomputable def TS (e : CE) : Prop := ∀ {x : Expr} {sc : Scope} {nm : List Str} {env : Env} {c : Cx} {L : Addr} {P : PM} {l : List (Option AV)} {H : HM} {s : Shared} {W : AV → St → Prop} {X : St → Prop},
  mE GT BT sc nm e x = true → tOk e x = true → Rd G d sc nm env c L P l H s.heap → (∀ v σ, W v σ → ∃ t, truthA v = some t) → ewp (CPs prog w K G d) e W X ⟨l, H⟩ →
  wpAny (model prog w) c.A (isTrue x env (eval x env)) (PT G c L ⟨nm, env⟩ P l s fun t σ => ∃ v, truthA v = some t ∧ W v σ) (PX G c L ⟨nm, env⟩ P s X) s
noncomputable def SS (es : CEs) : Prop := ∀ {xs : List Expr} {sc : Scope} {nm : List Str} {env : Env} {c : Cx} {L : Addr} {P : PM} {l : List (Option AV)} {H : HM} {s : Shared} {Q : List AV → St → Prop} {X : St → Prop} {pos : Pos},
  mEs GT BT sc nm es xs = true → Rd G d sc nm env c L P l H s.heap → eswp (CPs prog w K G d) es Q X ⟨l, H⟩ →
  wpAny (model prog w) c.A (spliced (backTo pos (starEach xs env))) (fun vs s' => vs.length = xs.length ∧ PVs G c L ⟨nm, env⟩ P l s Q vs s') (PX G c L ⟨nm, env⟩ P s X) s
noncomputable def BE (op : BoolOp) (W : CP → CEs → (AV → St → Prop) → (St → Prop) → St → Prop) (es : CEs) : Prop := ∀ {xs : List Expr} {sc : Scope} {nm : List Str} {env : Env} {c : Cx} {L : Addr} {P : PM} {l : List (Option AV)} {H : HM} {s : Shared} {Q : AV → St → Prop} {X : St → Prop} {pos : Pos},
  mEs GT BT sc nm es xs = true → Rd G d sc nm env c L P l H s.heap → W (CPs prog w K G d) es Q X ⟨l, H⟩ →
  wpAny (model prog w) c.A (boolOp pos op (evalEach xs env)) (PV G c L ⟨nm, env⟩ P l s Q) (PX G c L ⟨nm, env⟩ P s X) s
noncomputable def BT' (op : BoolOp) (W : CP → CEs → (AV → St → Prop) → (St → Prop) → St → Prop) (es : CEs) : Prop := ∀ {xs : List Expr} {sc : Scope} {nm : List Str} {env : Env} {c : Cx} {L : Addr} {P : PM} {l : List (Option AV)} {H : HM} {s : Shared} {V : AV → St → Prop} {X : St → Prop},
  mEs GT BT sc nm es xs = true → tOks es xs = true → Rd G d sc nm env c L P l H s.heap → (∀ v σ, V v σ → ∃ t, truthA v = some t) → W (CPs prog w K G d) es V X ⟨l, H⟩ →
  wpAny (model prog w) c.A (allTrue op xs env) (PT G c L ⟨nm, env⟩ P l s fun t σ => ∃ v, truthA v = some t ∧ V v σ) (PX G c L ⟨nm, env⟩ P s X) s
end
section
variable {prog : Program} {w : World} {K : Frag} {p : Program} {loose : List Str} {mg mb : Str → Option Value} {G : Heap} {d : Nat} {GT BT : List (Str × Value)}
variable {sc : Scope} {nm : List Str} {env : Env} {c : Cx} {L : Addr} {N : Nm} {P P' P1 : PM} {l : List (Option AV)} {H H1 : HM} {s s' s1 : Shared} {h1 : Heap}
theorem Rd.to (r : Rd G d sc nm env c L P l H s.heap) (J : FInv G c L ⟨nm, env⟩ P1 ⟨l, H1⟩ h1) : Rd G d sc nm env c L P1 l H1 h1 := ⟨r.eo, r.nd, r.ok, J⟩
theorem Rd.hh (r : Rd G d sc nm env c L P l H s.heap) : c.A.handled = none := r.ok.hd
theorem E_then {m : Sem Value} {Q1 : AV → St → Prop} {X : St → Prop} {Z : Value → Shared → Prop} (h : wpAny (model prog w) c.A m (PV G c L N P l s Q1) (PX G c L N P s X) s)
    (k : ∀ P1 H1 av u s1, PLe P P1 → FInv G c L N P1 ⟨l, H1⟩ s1.heap → Rest s s1 → VR P1 av u → Q1 av ⟨l, H1⟩ → Z u s1) : wpAny (model prog w) c.A m Z (PX G c L N P s X) s :=
  wpAny_mono h (fun u s1 ⟨P1, H1, av, a, b, c, d, e⟩ => k P1 H1 av u s1 a b c d e) fun _ _ z => z
theorem T_then {m : Sem Bool} {Q1 : Bool → St → Prop} {X : St → Prop} {Z : Bool → Shared → Prop} (h : wpAny (model prog w) c.A m (PT G c L N P l s Q1) (PX G c L N P s X) s)
    (k : ∀ P1 H1 t s1, PLe P P1 → FInv G c L N P1 ⟨l, H1⟩ s1.heap → Rest s s1 → Q1 t ⟨l, H1⟩ → Z t s1) : wpAny (model prog w) c.A m Z (PX G c L N P s X) s :=
  wpAny_mono h (fun u s1 ⟨P1, H1, a, b, c, d⟩ => k P1 H1 u s1 a b c d) fun _ _ z => z
theorem E_up {m : Sem Value} {Q : AV → St → Prop} {X : St → Prop} (k : PLe P P1) (r : Rest s s1) (h : wpAny (model prog w) c.A m (PV G c L N P1 l s1 Q) (PX G c L N P1 s1 X) s1) :
    wpAny (model prog w) c.A m (PV G c L N P l s Q) (PX G c L N P s X) s1 := wpAny_mono h (fun _ _ z => z.up k r) fun _ _ z => z.up k r
theorem T_up {m : Sem Bool} {Q : Bool → St → Prop} {X : St → Prop} (k : PLe P P1) (r : Rest s s1) (h : wpAny (model prog w) c.A m (PT G c L N P1 l s1 Q) (PX G c L N P1 s1 X) s1) :
    wpAny (model prog w) c.A m (PT G c L N P l s Q) (PX G c L N P s X) s1 := wpAny_mono h (fun _ _ z => z.up k r) fun _ _ z => z.up k r
theorem X_up {α : Type} {m : Sem α} {X : St → Prop} {Z : α → Shared → Prop} (k : PLe P P1) (r : Rest s s1) (h : wpAny (model prog w) c.A m Z (PX G c L N P1 s1 X) s1) :
    wpAny (model prog w) c.A m Z (PX G c L N P s X) s1 := wpAny_mono h (fun _ _ z => z) fun _ _ z => z.up k r
theorem PV.ofPP {Q : AV → St → Prop} {v : Value} (k : PLe P P1) (r : Rest s s1) (z : PP G c L N P1 ⟨l, H1⟩ s1 (fun v => Q v ⟨l, H1⟩) v s') : PV G c L N P l s Q v s' := by
  obtain ⟨P', av, a, b, c, d, e⟩ := z
  exact ⟨P', H1, av, k.trans a, b, r.trans c, d, e⟩
theorem PV.ofPH {Q : AV → St → Prop} {v : Value} (k : PLe P P1) (r : Rest s s1) (z : PH G c L N P1 ⟨l, H1⟩ s1 (fun v H' => Q v ⟨l, H'⟩) v s') : PV G c L N P l s Q v s' := by
  obtain ⟨P', H', av, a, b, c, d, e⟩ := z
  exact ⟨P', H', av, k.trans a, b, r.trans c, d, e⟩
theorem E_pp {m : Sem Value} {Q : AV → St → Prop} {E : Value → Shared → Prop} (k : PLe P P1) (r : Rest s s1) (h : wpAny (model prog w) c.A m (PP G c L N P1 ⟨l, H1⟩ s1 (fun v => Q v ⟨l, H1⟩)) (fun _ _ => False) s1) :
    wpAny (model prog w) c.A m (PV G c L N P l s Q) E s1 := wpAny_mono h (fun _ _ z => .ofPP k r z) fun _ _ z => z.elim
theorem E_ph {m : Sem Value} {Q : AV → St → Prop} {E : Value → Shared → Prop} (k : PLe P P1) (r : Rest s s1) (h : wpAny (model prog w) c.A m (PH G c L N P1 ⟨l, H1⟩ s1 (fun v H' => Q v ⟨l, H'⟩)) (fun _ _ => False) s1) :
    wpAny (model prog w) c.A m (PV G c L N P l s Q) E s1 := wpAny_mono h (fun _ _ z => .ofPH k r z) fun _ _ z => z.elim
theorem PV.mk1 {Q : AV → St → Prop} {av : AV} {v : Value} {tk : Nat} (k : PLe P P1) (r : Rest s s1) (J : FInv G c L N P1 ⟨l, H1⟩ s1.heap) (rv : VR P1 av v) (q : Q av ⟨l, H1⟩) : PV G c L N P l s Q v { s1 with toks := tk } :=
  ⟨P1, H1, av, k, J, r.trans ⟨rfl, rfl, rfl⟩, rv, q⟩
set_option tactic.hygienic true in
theorem isTrue_plain {x : Expr} {env : Env} {m : Sem Value} (h : plainT x = true) : isTrue x env m = (do let v ← m; standAt x.pos; holding [v] (truthy v)) := by
  cases x <;> first | rfl | (cases h; done) | skip
  rename_i op _ _
  cases op <;> first | rfl | cases h
theorem ts_plain {e : CE} (hp : ∀ x, tOk e x = plainT x) (ie : ES prog w K G d GT BT e) : TS prog w K G d GT BT e := by
  intro x sc nm env c L P l H s W X hm ht R hW h
  refine wpAny_isTrue_value (E_then (ie hm R h) fun P1 H1 av u s1 k J r ru q => ?_) (isTrue_plain (hp x ▸ ht))
  obtain ⟨t, e⟩ := hW _ _ q
  exact truthA_sound J.s.k ru e fun tk => ⟨P1, H1, k, J, r.trans ⟨rfl, rfl, rfl⟩, av, e, q⟩
theorem oneX_el {xs : List Expr} {f : Expr → Bool} {C : List Expr → Prop} (h : oneX xs f = true) (k : ∀ x, f x = true → C [x]) : C xs := by
  cases xs with
  | nil => exact Bool.noConfusion h
  | cons x r => exact (List.isEmpty_iff.mp (and2 h).1).symm ▸ k x (and2 h).2
theorem twoX_el {xs : List Expr} {f : Expr → Expr → Bool} {C : List Expr → Prop} (h : twoX xs f = true) (k : ∀ x y, f x y = true → C [x, y]) : C xs := by
  cases xs with
  | nil => exact Bool.noConfusion h
  | cons x r => exact oneX_el (C := fun r => C (x :: r)) h (k x)
theorem oneO_el {xs : List CmpOp} {f : CmpOp → Bool} {C : List CmpOp → Prop} (h : oneO xs f = true) (k : ∀ x, f x = true → C [x]) : C xs := by
  cases xs with
  | nil => exact Bool.noConfusion h
  | cons x r => exact (List.isEmpty_iff.mp (and2 h).1).symm ▸ k x (and2 h).2
theorem twoO_el {xs : List CmpOp} {f : CmpOp → CmpOp → Bool} {C : List CmpOp → Prop} (h : twoO xs f = true) (k : ∀ x y, f x y = true → C [x, y]) : C xs := by
  cases xs with
  | nil => exact Bool.noConfusion h
  | cons x r => exact oneO_el (C := fun r => C (x :: r)) h (k x)
theorem isName_inv {sc : Scope} {x : Str} {k : NameKind} (h : isName sc x k = true) : sc.names.lookup x = some k ∧ (x == dbg) = false := ⟨beq_iff_eq.mp (and2 h).1, beq_iff_eq.mp (and2 h).2⟩
theorem Rd.un (R : Rd G d sc nm env c L P l H s.heap) : c.A.units + 64 < cLine := by
  have := R.ok.un
  unfold cLine
  omega
theorem br_W {v : AV} {A B : Prop} (h : br (truthA v) A B) : ∃ t, truthA v = some t := let ⟨t, e, _⟩ := br_some h; ⟨t, e⟩
theorem PV.here {Q : AV → St → Prop} {av : AV} {v : Value} {tk : Nat} (R : Rd G d sc nm env c L P l H s.heap) (rv : VR P av v) (q : Q av ⟨l, H⟩) : PV G c L ⟨nm, env⟩ P l s Q v { s with toks := tk } :=
  PV.mk1 (PLe.refl _) (Rest.refl _) R.I rv q
theorem es_int {i : Int} : ES prog w K G d GT BT (.int i) := by
  intro x sc nm env c L P l H s Q X hm R h
  apply onInt_el hm
  intro j a b hm
  obtain rfl := beq_iff_eq.mp hm
  exact wpAny_Constant_int (PV.here R (.int _ _) h)
theorem es_str {i : List Nat} : ES prog w K G d GT BT (.str i) := by
  intro x sc nm env c L P l H s Q X hm R h
  apply onStr_el hm
  intro y a b hm
  have e := (and2 hm).1
  have hz := (and2 hm).2
  obtain rfl := beq_iff_eq.mp e
  exact wpAny_Constant_str (PV.here R (.str y.cps.toList _ (by have := of_decide_eq_true hz; unfold sizeLine; omega)) h)
theorem es_bool {i : Bool} : ES prog w K G d GT BT (.bool i) := by
  intro x sc nm env c L P l H s Q X hm R h
  apply onBoolC_el hm
  intro y a b hm
  obtain rfl := beq_iff_eq.mp hm
  exact wpAny_Constant_bool (PV.here (tk := s.toks) R (.bool _) h)
theorem es_none : ES prog w K G d GT BT .none := by
  intro x sc nm env c L P l H s Q X hm R h
  apply onNoneC_el hm
  intro a b
  exact wpAny_Constant_none (PV.here (tk := s.toks) R .none h)
theorem es_loc {i : Nat} : ES prog w K G d GT BT (.loc i) := by
  intro x sc nm env c L P l H s Q X hm R h
  apply onName_el hm
  intro y p hm
  obtain ⟨h2, h3⟩ := isName_inv (and2 hm).2
  obtain ⟨v, a, b⟩ := locL_some h
  exact name_local R.I R.eo (beq_iff_eq.mp (and2 hm).1) h2 h3 a fun u ru => PV.here (tk := s.toks) R ru b
theorem es_cell {i : Nat} : ES prog w K G d GT BT (.cell i) := by
  intro x sc nm env c L P l H s Q X hm R h
  apply onName_el hm
  intro y p hm
  obtain ⟨h2, h3⟩ := isName_inv (and2 hm).2
  obtain ⟨ca, v, a, a2, b⟩ := cellW_some h
  exact name_cell R.I R.eo (beq_iff_eq.mp (and2 hm).1) h2 h3 a a2 fun u ru => PV.here (tk := s.toks) R ru b
theorem es_glob (g : Glo K p loose mg mb G) (T : Tabs K GT BT) {x v} : ES prog w K G d GT BT (.glob x v) := by
  intro x sc nm env c L P l H s Q X hm R h
  apply onName_el hm
  intro y p hm
  have h4 := (and2 hm).2
  have hm := (and2 hm).1
  obtain rfl := beq_iff_eq.mp (and2 hm).1
  obtain ⟨h2, h3⟩ := isName_inv (and2 hm).2
  exact name_global g T R.I R.eo h2 h3 ((Bool.or_eq_true_iff.mp h4).imp beq_iff_eq.mp beq_iff_eq.mp) (PV.here (tk := s.toks) R (.glob _) h)
theorem es_gint (g : Glo K p loose mg mb G) (T : Tabs K GT BT) {x i} : ES prog w K G d GT BT (.gint x i) := by
  intro x sc nm env c L P l H s Q X hm R h
  apply onName_el hm
  intro y p hm
  have h4 := (and2 hm).2
  have hm := (and2 hm).1
  obtain rfl := beq_iff_eq.mp (and2 hm).1
  obtain ⟨h2, h3⟩ := isName_inv (and2 hm).2
  split at h4 <;> try contradiction
  rename_i hv
  split at h4 <;> try contradiction
  obtain rfl := beq_iff_eq.mp h4
  exact name_global g T R.I R.eo h2 h3 (.inl hv) (PV.here (tk := s.toks) R (.int _ _) h)
set_option tactic.hygienic true in
theorem es_gstr (g : Glo K p loose mg mb G) (T : Tabs K GT BT) {x i} : ES prog w K G d GT BT (.gstr x i) := by
  intro x sc nm env c L P l H s Q X hm R h
  apply onName_el hm
  intro y p hm
  have h4 := (and2 hm).2
  have hm := (and2 hm).1
  have hz := (and2 hm).2
  have hm := (and2 hm).1
  obtain rfl := beq_iff_eq.mp (and2 hm).1
  obtain ⟨h2, h3⟩ := isName_inv (and2 hm).2
  split at h4 <;> try contradiction
  rename_i hv
  split at h4 <;> try contradiction
  rename_i y _
  obtain rfl := beq_iff_eq.mp h4
  exact name_global g T R.I R.eo h2 h3 (.inl hv) (PV.here (tk := s.toks) R (.str y.cps.toList _ (by have := of_decide_eq_true hz; unfold sizeLine; omega)) h)
theorem es_bin {op : Operator} {a b : CE} (ia : ES prog w K G d GT BT a) (ib : ES prog w K G d GT BT b) : ES prog w K G d GT BT (.bin op a b) := by
  intro x sc nm env c L P l H s Q X hm R h
  apply onBin_el hm
  intro x1 op' x2 p hm
  have m2 := (and2 hm).2
  have hm := (and2 hm).1
  have m0 := (and2 hm).1
  have m1 := (and2 hm).2
  obtain rfl := beq_iff_eq.mp m0
  exact wpAny_BinOp (E_then (ia m1 R h) fun P1 H1 va u s1 k1 J1 r1 ru q1 => X_up k1 r1 (E_then (ib m2 (R.to J1) q1) fun P2 H2 vb v s2 k2 J2 r2 rv q2 => E_pp (k1.trans k2) (r1.trans r2) (binW_sound R.hh J2 (ru.mono k2) rv q2)))
theorem es_neg {a : CE} (ia : ES prog w K G d GT BT a) : ES prog w K G d GT BT (.neg a) := by
  intro x sc nm env c L P l H s Q X hm R h
  apply onNeg_el hm
  intro y p hm
  refine wpAny_UnaryOp (E_then (ia hm R h) fun P1 H1 va u s1 k1 J1 r1 ru q1 => ?_)
  obtain ⟨i, q1⟩ := onI_some q1
  obtain ⟨t, rfl⟩ := ru.int_inv
  exact neg_int (PV.mk1 k1 r1 J1 (.int _ _) q1)
theorem not_el {sc : Scope} {nm : List Str} {a : CE} {x : Expr} {C : Expr → Prop} (hm : mE GT BT sc nm (.not a) x = true) (k : ∀ y p, mE GT BT sc nm a y = true → tOk a y = true → C (.UnaryOp .Not y p)) : C x := by
  apply onUn_el hm
  intro op y p hm
  have m2 := (and2 hm).2
  have hm := (and2 hm).1
  have m0 := (and2 hm).1
  have m1 := (and2 hm).2
  obtain rfl := beq_iff_eq.mp m0
  exact k _ _ m1 m2
theorem es_not {a : CE} (ia : ES prog w K G d GT BT a) : ES prog w K G d GT BT (.not a) := by
  intro x sc nm env c L P l H s Q X hm R h
  apply not_el hm
  intro y p m1 _
  refine wpAny_UnaryOp (E_then (ia m1 R h) fun P1 H1 va u s1 k1 J1 r1 ru q1 => ?_)
  obtain ⟨t, e, q1⟩ := withO_some q1
  exact not_value (truthA_sound J1.s.k ru e fun tk => PV.mk1 k1 r1 J1 (.bool _) q1)
theorem ts_not {a : CE} (ia : TS prog w K G d GT BT a) : TS prog w K G d GT BT (.not a) := by
  intro x sc nm env c L P l H s W X hm ht R hW h
  apply not_el hm
  intro y p m1 m2
  refine wpAny_isTrue_Not (T_then (ia m1 m2 R (fun v σ z => let ⟨t, e, _⟩ := withO_some z; ⟨t, e⟩) h) fun P1 H1 t s1 k1 J1 r1 q1 => ⟨P1, H1, k1, J1, r1, .bool (!t), rfl, ?_⟩)
  obtain ⟨v, e, q⟩ := q1
  rw [e] at q; exact q
theorem cmp_el {sc : Scope} {nm : List Str} {op : CmpOp} {a b : CE} {x : Expr} {C : Expr → Prop} (hm : mE GT BT sc nm (.cmp op a b) x = true) (k : ∀ l r p, behindInMarks op r = false → mE GT BT sc nm a l = true → mE GT BT sc nm b r = true → C (.Compare l [op] [r] p)) : C x := by
  apply onCmp_el hm
  intro l os rs p hm
  apply oneO_el hm
  intro o hm
  apply oneX_el hm
  intro r hm
  have m3 := (and2 hm).2
  have hm := (and2 hm).1
  have m2 := (and2 hm).2
  have hm := (and2 hm).1
  have m0 := (and2 hm).1
  have m1 := (and2 hm).2
  obtain rfl := beq_iff_eq.mp m0
  exact k _ _ _ (nB m1) m2 m3
theorem es_cmp {op : CmpOp} {a b : CE} (ia : ES prog w K G d GT BT a) (ib : ES prog w K G d GT BT b) : ES prog w K G d GT BT (.cmp op a b) := by
  intro x sc nm env c L P l H s Q X hm R h
  apply cmp_el hm
  intro l r p m0 m1 m2
  refine wpAny_Compare1 (E_then (ia m1 R h) fun P1 H1 va u s1 k1 J1 r1 ru q1 => X_up k1 r1 (E_then (ib m2 (R.to J1) q1) fun P2 H2 vb v s2 k2 J2 r2 rv q2 => ?_)) m0
  obtain ⟨t, e, q2⟩ := withO_some q2
  exact cmpA_sound R.un J2.s.k (ru.mono k2) rv e (PV.mk1 (tk := s2.toks) (k1.trans k2) (r1.trans r2) J2 (.bool _) q2)
theorem ts_cmp {op : CmpOp} {a b : CE} (ia : ES prog w K G d GT BT a) (ib : ES prog w K G d GT BT b) : TS prog w K G d GT BT (.cmp op a b) := by
  intro x sc nm env c L P l H s W X hm ht R hW h
  apply cmp_el hm
  intro l r p m0 m1 m2
  refine wpAny_isTrue_Compare1 (E_then (ia m1 R h) fun P1 H1 va u s1 k1 J1 r1 ru q1 => X_up k1 r1 (E_then (ib m2 (R.to J1) q1) fun P2 H2 vb v s2 k2 J2 r2 rv q2 => ?_)) m0
  obtain ⟨t, e, q2⟩ := withO_some q2
  exact cmpA_sound R.un J2.s.k (ru.mono k2) rv e (wpAny_truthy_bool ⟨P2, H2, k1.trans k2, J2, r1.trans r2, .bool t, rfl, q2⟩)
theorem chain_el {sc : Scope} {nm : List Str} {op op' : CmpOp} {a b e : CE} {x : Expr} {C : Expr → Prop} (hm : mE GT BT sc nm (.chain op op' a b e) x = true) (k : ∀ l r r' p, lastMarks [op, op'] [r, r'] = false → mE GT BT sc nm a l = true → mE GT BT sc nm b r = true → mE GT BT sc nm e r' = true → C (.Compare l [op, op'] [r, r'] p)) : C x := by
  apply onCmp_el hm
  intro l os rs p hm
  apply twoO_el hm
  intro o o' hm
  apply twoX_el hm
  intro r r' hm
  have m5 := (and2 hm).2
  have hm := (and2 hm).1
  have m4 := (and2 hm).2
  have hm := (and2 hm).1
  have m3 := (and2 hm).2
  have hm := (and2 hm).1
  have m2 := (and2 hm).2
  have hm := (and2 hm).1
  have m0 := (and2 hm).1
  have m1 := (and2 hm).2
  obtain rfl := beq_iff_eq.mp m0
  obtain rfl := beq_iff_eq.mp m1
  exact k _ _ _ _ (nB m2) m3 m4 m5
theorem es_chain {op op' : CmpOp} {a b e : CE} (ia : ES prog w K G d GT BT a) (ib : ES prog w K G d GT BT b) (ie : ES prog w K G d GT BT e) : ES prog w K G d GT BT (.chain op op' a b e) := by
  intro x sc nm env c L P l H s Q X hm R h
  apply chain_el hm
  intro l r r' p m0 m1 m2 m3
  refine Compare_chain (E_then (ia m1 R h) fun P1 H1 va u s1 k1 J1 r1 ru q1 => chain_link (X_up k1 r1 (E_then (ib m2 (R.to J1) q1) fun P2 H2 vb v s2 k2 J2 r2 rv q2 => ?_))) m0
  obtain ⟨t, e, q2⟩ := br_some q2
  refine cmpA_sound R.un J2.s.k (ru.mono k2) rv e (wpAny_truthy_bool ?_)
  cases t with
  | false => exact PV.mk1 (tk := s2.toks) (k1.trans k2) (r1.trans r2) J2 (.bool _) q2
  | true =>
    refine chain_last (X_up (k1.trans k2) (r1.trans r2) (E_then (ie m3 (R.to J2) q2) fun P3 H3 vc z s3 k3 J3 r3 rz q3 => ?_))
    obtain ⟨u, e3, q3⟩ := withO_some q3
    exact cmpA_sound R.un J3.s.k (rv.mono k3) rz e3 (PV.mk1 (tk := s3.toks) ((k1.trans k2).trans k3) ((r1.trans r2).trans r3) J3 (.bool _) q3)
theorem ts_chain {op op' : CmpOp} {a b e : CE} (ia : ES prog w K G d GT BT a) (ib : ES prog w K G d GT BT b) (ie : ES prog w K G d GT BT e) : TS prog w K G d GT BT (.chain op op' a b e) := by
  intro x sc nm env c L P l H s W X hm ht R hW h
  apply chain_el hm
  intro l r r' p m0 m1 m2 m3
  refine isTrue_chain (E_then (ia m1 R h) fun P1 H1 va u s1 k1 J1 r1 ru q1 => test_link (X_up k1 r1 (E_then (ib m2 (R.to J1) q1) fun P2 H2 vb v s2 k2 J2 r2 rv q2 => ?_))) m0
  obtain ⟨t, e, q2⟩ := br_some q2
  refine cmpA_sound R.un J2.s.k (ru.mono k2) rv e (wpAny_truthy_bool ?_)
  cases t with
  | false => exact ⟨P2, H2, k1.trans k2, J2, r1.trans r2, .bool false, rfl, q2⟩
  | true =>
    refine test_last (X_up (k1.trans k2) (r1.trans r2) (E_then (ie m3 (R.to J2) q2) fun P3 H3 vc z s3 k3 J3 r3 rz q3 => ?_))
    obtain ⟨u, e3, q3⟩ := withO_some q3
    exact cmpA_sound R.un J3.s.k (rv.mono k3) rz e3 (wpAny_truthy_bool ⟨P3, H3, (k1.trans k2).trans k3, J3, (r1.trans r2).trans r3, .bool u, rfl, q3⟩)
end
end Mine
end
section
open PySem PySem.W PyProof.Rows PySem.Calls PyProof.V PySem.Spec PySem.SeqAt
namespace Mine
section
variable {prog : Program} {w : World} {K : Frag} {p : Program} {loose : List Str} {mg mb : Str → Option Value} {G : Heap} {d : Nat} {GT BT : List (Str × Value)}
variable {sc : Scope} {nm : List Str} {env : Env} {c : Cx} {L : Addr} {N : Nm} {P P' P1 : PM} {l : List (Option AV)} {H H1 : HM} {s s' s1 : Shared} {h1 : Heap}
theorem ite_el {sc : Scope} {nm : List Str} {a b e : CE} {x : Expr} {C : Expr → Prop} (hm : mE GT BT sc nm (.ite a b e) x = true) (k : ∀ t y z p, mE GT BT sc nm a t = true ∧ tOk a t = true → mE GT BT sc nm b y = true ∧ tOk b y = true → mE GT BT sc nm e z = true ∧ tOk e z = true → C (.IfExp t y z p)) : C x := by
  apply onIf_el hm
  intro t y z p hm
  have m6 := (and2 hm).2
  have hm := (and2 hm).1
  have m5 := (and2 hm).2
  have hm := (and2 hm).1
  have m4 := (and2 hm).2
  have hm := (and2 hm).1
  have m3 := (and2 hm).2
  have hm := (and2 hm).1
  exact k _ _ _ _ (and2 hm) ⟨m3, m4⟩ ⟨m5, m6⟩
theorem es_ite {a b e : CE} (ia : TS prog w K G d GT BT a) (ib : ES prog w K G d GT BT b) (ie : ES prog w K G d GT BT e) : ES prog w K G d GT BT (.ite a b e) := by
  intro x sc nm env c L P l H s Q X hm R h
  apply ite_el hm
  intro t y z p m1 m2 m3
  refine wpAny_IfExp (T_then (ia m1.1 m1.2 R (fun v σ => br_W) h) fun P1 H1 t s1 k1 J1 r1 q1 => ?_)
  obtain ⟨v, e, q1⟩ := q1
  rw [e] at q1
  cases t with
  | true => exact E_up k1 r1 (ib m2.1 (R.to J1) q1)
  | false => exact E_up k1 r1 (ie m3.1 (R.to J1) q1)
theorem ts_ite {a b e : CE} (ia : TS prog w K G d GT BT a) (ib : TS prog w K G d GT BT b) (ie : TS prog w K G d GT BT e) : TS prog w K G d GT BT (.ite a b e) := by
  intro x sc nm env c L P l H s W X hm ht R hW h
  apply ite_el hm
  intro t y z p m1 m2 m3
  rw [arm_isTrue_IfExp]
  refine wpAny_bind (T_then (ia m1.1 m1.2 R (fun v σ => br_W) h) fun P1 H1 t s1 k1 J1 r1 q1 => ?_)
  obtain ⟨v, e, q1⟩ := q1
  rw [e] at q1
  cases t with
  | true => exact T_up k1 r1 (ib m2.1 m2.2 (R.to J1) hW q1)
  | false => exact T_up k1 r1 (ie m3.1 m3.2 (R.to J1) hW q1)
theorem attr_plain {v : Expr} {n : Str} {p : Pos} (h : notCall v = true) : eval (v.Attribute n p) env = (do
    let o ← eval v env
    standAt p.atName
    let r ← holding [o] (getAttr o n true)
    letTemporaryGo v o r
    pure r) := by
  cases v <;> first | rfl | exact Bool.noConfusion h
theorem es_attr (g : Glo K p loose mg mb G) {o : CE} {n : Str} (io : ES prog w K G d GT BT o) : ES prog w K G d GT BT (.attr o n) := by
  intro x sc nm env c L P l H s Q X hm R h
  apply onAttr_el hm
  intro v n' p hm
  have m2 := (and2 hm).2
  have hm := (and2 hm).1
  have m0 := (and2 hm).1
  have m1 := (and2 hm).2
  obtain rfl := beq_iff_eq.mp m0
  refine Attribute_any_ (E_then (io m1 R h) fun P1 H1 va u s1 k1 J1 r1 ru q1 => E_pp k1 r1 (getaW_sound g J1 ru q1)) (attr_plain m2)
theorem es_sub {o i : CE} (io : ES prog w K G d GT BT o) (ii : ES prog w K G d GT BT i) : ES prog w K G d GT BT (.sub o i) := by
  intro x sc nm env c L P l H s Q X hm R h
  apply onSub_el hm
  intro v y p hm
  have m2 := (and2 hm).2
  have hm := (and2 hm).1
  exact Subscript_ (E_then (io (and2 hm).2 R h) fun P1 H1 va u s1 k1 J1 r1 ru q1 => X_up k1 r1 (E_then (ii m2 (R.to J1) q1) fun P2 H2 vb v s2 k2 J2 r2 rv q2 => E_pp (k1.trans k2) (r1.trans r2) (subT_sound J2 (ru.mono k2) rv q2)))
theorem part_sound {e : CE} (ie : ES prog w K G d GT BT e) {y : Option Expr} {Q : AV → St → Prop} {X : St → Prop} (hm : onPart e y (fun y => mE GT BT sc nm e y) = true) (R : Rd G d sc nm env c L P l H s.heap) (h : ewp (CPs prog w K G d) e Q X ⟨l, H⟩) :
    wpAny (model prog w) c.A (evalPart y env) (PV G c L ⟨nm, env⟩ P l s Q) (PX G c L ⟨nm, env⟩ P s X) s := by
  cases y with
  | none =>
    unfold onPart at hm
    simp only at hm
    split at hm
    · exact wpAny_evalPart_none (PV.here (tk := s.toks) R .none h)
    · cases hm
  | some x => exact wpAny_evalPart_some (ie hm R h)
theorem slice_parts {o lo hi : CE} (io : ES prog w K G d GT BT o) (il : ES prog w K G d GT BT lo) (ih : ES prog w K G d GT BT hi) {x : Expr} {Q : AV → St → Prop} {X : St → Prop} {F : AV → St → Option Int → Option Int → Prop}
    (hm : (onSub x fun v y => onSlice y fun x y s => s.isNone && mE GT BT sc nm o v && onPart lo x (fun x => mE GT BT sc nm lo x) && onPart hi y (fun y => mE GT BT sc nm hi y)) = true) (R : Rd G d sc nm env c L P l H s.heap)
    (h : ewp (CPs prog w K G d) o (fun vo σ1 => ewp (CPs prog w K G d) lo (fun vl σ2 => ewp (CPs prog w K G d) hi (fun vh σ3 => withO (optI vl) fun i => withO (optI vh) fun j => F vo σ3 i j) X σ2) X σ1) X ⟨l, H⟩)
    (go : ∀ P' H' va vl vh u ul uh i j s' v y z p, PLe P P' → FInv G c L ⟨nm, env⟩ P' ⟨l, H'⟩ s'.heap → Rest s s' → VR P' va u → VR P' vl ul → VR P' vh uh → optI vl = some i → optI vh = some j → F va ⟨l, H'⟩ i j →
      wpAny (model prog w) c.A (subscriptTail v (.Slice y z none p) u (.ref s'.heap.objs.size)) (PV G c L ⟨nm, env⟩ P l s Q) (PX G c L ⟨nm, env⟩ P s X) { s' with heap := s'.heap.push { cls := .type "slice", data := .fields #[ul, uh, .none] } }) :
    wpAny (model prog w) c.A (eval x env) (PV G c L ⟨nm, env⟩ P l s Q) (PX G c L ⟨nm, env⟩ P s X) s := by
  apply onSub_el hm
  intro v y p hm
  apply onSlice_el hm
  intro a b st p' hm
  have m3 := (and2 hm).2
  have hm := (and2 hm).1
  have m2 := (and2 hm).2
  have hm := (and2 hm).1
  have m0 := (and2 hm).1
  have m1 := (and2 hm).2
  obtain rfl := Option.isNone_iff_eq_none.mp m0
  refine Subscript_ (E_then (io m1 R h) fun P1 H1 va u s1 k1 J1 r1 ru q1 => X_up k1 r1 (wpAny_Slice (E_then (part_sound il m2 (R.to J1) q1) fun P2 H2 vb v s2 k2 J2 r2 rv q2 => X_up k2 r2 (E_then (part_sound ih m3 (R.to J2) q2) fun P3 H3 vc z s3 k3 J3 r3 rz q3 => ?_))))
  obtain ⟨i, e1, q3⟩ := withO_some q3
  obtain ⟨j, e2, q3⟩ := withO_some q3
  exact wpAny_evalPart_none (go P3 H3 va vb vc u _ z i j s3 _ a b p' ((k1.trans k2).trans k3) J3 ((r1.trans r2).trans r3) ((ru.mono k2).mono k3) (rv.mono k3) rz e1 e2 q3)
theorem es_slice {o lo hi : CE} (io : ES prog w K G d GT BT o) (il : ES prog w K G d GT BT lo) (ih : ES prog w K G d GT BT hi) : ES prog w K G d GT BT (.slice o lo hi) := by
  intro x sc nm env c L P l H s Q X hm R h
  exact slice_parts (F := fun vo σ i j => slW vo i j fun v => Q v σ) io il ih hm R h fun P' H' va vl vh u ul uh i j s' v y z p k J r ru rl rh e1 e2 q => wpAny_mono (slice_sound (E := fun _ _ => False) J ru rl rh e1 e2 q) (fun _ _ z => PV.ofPP k r z) fun _ _ z => z.elim
theorem es_sliceM {o lo hi : CE} (io : ES prog w K G d GT BT o) (il : ES prog w K G d GT BT lo) (ih : ES prog w K G d GT BT hi) : ES prog w K G d GT BT (.sliceM o lo hi) := by
  intro x sc nm env c L P l H s Q X hm R h
  refine slice_parts (F := fun vo σ i j => refL vo σ.H fun _ vs => ∀ b, σ.H b = none → Q (.ref b) ⟨σ.loc, σ.H.set b (.list (pySlice vs i j))⟩) io il ih hm R h fun P' H' va vl vh u ul uh i j s' v y z p k J r ru rl rh e1 e2 q => ?_
  obtain ⟨a, vs, rfl, ea, q⟩ := q
  obtain rfl := ru.ref_inv
  exact E_ph (H1 := H') (Q := Q) k r (sliceM_sound J rl rh e1 e2 ea q)
theorem es_rev {o : CE} (io : ES prog w K G d GT BT o) : ES prog w K G d GT BT (.rev o) := by
  intro x sc nm env c L P l H s Q X hm R h
  apply onSub_el hm
  intro v y p hm
  apply onSlice_el hm
  intro a b st p' hm
  have m1 := (and2 hm).2
  have hm := (and2 hm).1
  have m4 := (and2 hm).2
  have hm := (and2 hm).1
  have m2 := (and2 hm).1
  have m3 := (and2 hm).2
  obtain rfl := Option.isNone_iff_eq_none.mp m2
  obtain rfl := Option.isNone_iff_eq_none.mp m3
  cases st with
  | none => cases m4
  | some st =>
  apply onNeg_el m4
  intro y p2 m4
  apply onInt_el m4
  intro i _ _ m4
  obtain rfl := beq_iff_eq.mp m4
  refine Subscript_ (E_then (io m1 R h) fun P1 H1 va u s1 k1 J1 r1 ru q1 => wpAny_Slice (wpAny_evalPart_none (wpAny_evalPart_none (wpAny_evalPart_some (wpAny_UnaryOp (wpAny_Constant_int (neg_int ?_)))))))
  obtain ⟨vs, rfl, q1⟩ := q1
  exact wpAny_mono (rev_sound (s := { s1 with toks := s1.toks + 1 + 1 }) (t := s1.toks + 1) (E := fun _ _ => False) (Q := fun v => Q v ⟨l, H1⟩) J1 ru q1) (fun _ _ z => PV.ofPP (s1 := { s1 with toks := s1.toks + 1 + 1 }) k1 (r1.trans ⟨rfl, rfl, rfl⟩) z) fun _ _ z => z.elim
theorem ss_nil : SS prog w K G d GT BT .nil := by
  intro xs sc nm env c L P l H s Q X pos hm R h
  obtain rfl := List.isEmpty_iff.mp hm
  exact wpAny_items_nil ⟨rfl, P, H, [], PLe.refl _, R.I, Rest.refl _, .nil, h⟩
theorem mEs_cons {sc : Scope} {nm : List Str} {e : CE} {es : CEs} {xs : List Expr} (hm : mEs GT BT sc nm (.cons e es) xs = true) : ∃ x r, xs = x :: r ∧ nst x = true ∧ mE GT BT sc nm e x = true ∧ mEs GT BT sc nm es r = true := by
  cases xs with
  | nil => cases hm
  | cons x r => obtain ⟨hm, m2⟩ := and2 hm; exact ⟨x, r, rfl, (and2 hm).1, (and2 hm).2, m2⟩
theorem ss_cons {e : CE} {es : CEs} (ie : ES prog w K G d GT BT e) (is : SS prog w K G d GT BT es) : SS prog w K G d GT BT (.cons e es) := by
  intro xs sc nm env c L P l H s Q X pos hm R h
  obtain ⟨x, xs, rfl, m0, m1, m2⟩ := mEs_cons hm
  refine wpAny_items_cons (E_then (ie m1 R h) fun P1 H1 va u s1 k1 J1 r1 ru q1 => X_up k1 r1 (wpAny_mono (is m2 (R.to J1) q1) (fun us s2 z => ?_) fun _ _ z => z)) (star_cons m0)
  obtain ⟨hl, P2, H2, avs, k2, J2, r2, rus, q2⟩ := z
  exact ⟨congrArg (· + 1) hl, P2, H2, va :: avs, k1.trans k2, J2, r1.trans r2, .cons _ _ _ _ (ru.mono k2) rus, q2⟩
theorem few {us : List Value} {xs : List Expr} (hl : us.length = xs.length) (hz : decide (xs.length ≤ 1000) = true) : us.length ≤ sizeLine := by
  have := of_decide_eq_true hz
  rw [hl]; unfold sizeLine; omega
theorem es_lst {es : CEs} (is : SS prog w K G d GT BT es) : ES prog w K G d GT BT (.lst es) := by
  intro x sc nm env c L P l H s Q X hm R h
  apply onList_el hm
  intro xs p hm
  have hz := (and2 hm).1
  have hm := (and2 hm).2
  refine wpAny_List_spliced (wpAny_mono (is hm R h) (fun us s2 z => ?_) fun _ _ z => z)
  obtain ⟨hl, P2, H2, avs, k2, J2, r2, rus, q2⟩ := z
  have hsz := few hl hz
  exact ⟨hsz, PV.ofPP k2 r2 (PP.newList (Q := fun v => Q v ⟨l, H2⟩) (tk := s2.toks) (n := 0) (ws := us.toArray) J2 (Kp.push s2.heap { cls := .type "list", data := .seq us.toArray }) (size_none _) (Heap.get?_push_size _ rfl) rus (by rw [rus.length]; exact hsz) q2)⟩
theorem es_lstM {es : CEs} (is : SS prog w K G d GT BT es) : ES prog w K G d GT BT (.lstM es) := by
  intro x sc nm env c L P l H s Q X hm R h
  apply onList_el hm
  intro xs p hm
  have hz := (and2 hm).1
  have hm := (and2 hm).2
  refine wpAny_List_spliced (wpAny_mono (is hm R h) (fun us s2 z => ?_) fun _ _ z => z)
  obtain ⟨hl, P2, H2, avs, k2, J2, r2, rus, q2⟩ := z
  have hsz := few hl hz
  have nn := size_none s2.heap
  have J3 := J2.growH (x := .list avs) (Kp.push s2.heap { cls := .type "list", data := .seq us.toArray }) nn (Heap.get?_push_size _ rfl) ⟨us.toArray, 0, rfl, rus, by rw [rus.length]; exact hsz⟩
  exact ⟨hsz, P2, _, .ref s2.heap.objs.size, k2, J3, r2.trans ⟨rfl, rfl, rfl⟩, .ref _, q2 _ (J2.free nn).h⟩
theorem es_tup {es : CEs} (is : SS prog w K G d GT BT es) : ES prog w K G d GT BT (.tup es) := by
  intro x sc nm env c L P l H s Q X hm R h
  apply onTup_el hm
  intro xs _ p hm
  have hz := (and2 hm).1
  have hm := (and2 hm).2
  refine wpAny_Tuple_spliced (wpAny_mono (is hm R h) (fun us s2 z => ?_) fun _ _ z => z)
  obtain ⟨hl, P2, H2, avs, k2, J2, r2, rus, q2⟩ := z
  have hsz := few hl hz
  obtain ⟨J3, k3⟩ := J2.grow (Kp.push s2.heap { cls := .type "tuple", data := .seq us.toArray }) (size_none s2.heap) (Heap.get?_push_size _ rfl)
  exact ⟨hsz, _, H2, .tup avs, k2.trans k3, J3, r2.trans ⟨rfl, rfl, rfl⟩, .tup avs us.toArray 0 _ (if_pos rfl) (rus.mono k3) (by rw [rus.length]; exact hsz), q2⟩
theorem foldl_one (v : Value) : ∀ (k : Nat) (acc : Array Value), (List.replicate k #[v]).foldl (fun x1 x2 => x1 ++ x2) acc = acc ++ (List.replicate k v).toArray
  | 0, acc => by simp
  | k + 1, acc => by
    rw [List.replicate_succ, List.foldl_cons, foldl_one v k, List.replicate_succ]
    apply Array.toList_inj.mp
    simp
theorem VRs.rep {v : AV} {u : Value} (r : VR P v u) : ∀ n, VRs P (List.replicate n v) (List.replicate n u)
  | 0 => .nil
  | n + 1 => .cons _ _ _ _ r (VRs.rep r n)
theorem es_rep {e n : CE} (ie : ES prog w K G d GT BT e) (inn : ES prog w K G d GT BT n) : ES prog w K G d GT BT (.rep e n) := by
  intro x sc nm env c L P l H s Q X hm R h
  apply onBin_el hm
  intro z o y p hm
  have mo := (and2 hm).1
  have hm := (and2 hm).2
  obtain rfl := beq_iff_eq.mp mo
  apply onList_el hm
  intro xs _ hm
  apply oneX_el hm
  intro x hm
  have m2 := (and2 hm).2
  have hm := (and2 hm).1
  have m0 := (and2 hm).1
  have m1 := (and2 hm).2
  refine wpAny_BinOp (wpAny_List_spliced (wpAny_items_cons (E_then (ie m1 R h) fun P1 H1 va u s1 k1 J1 r1 ru q1 => wpAny_items_nil ⟨by simp [sizeLine], ?_⟩) (star_cons m0)))
  have nn := size_none s1.heap
  obtain ⟨J2, k2⟩ := J1.grow (Kp.push s1.heap { cls := .type "list", data := .seq [u].toArray }) nn (Heap.get?_push_size _ rfl)
  have ha : (P1.set s1.heap.objs.size { cls := .type "list", data := .seq [u].toArray }) s1.heap.objs.size = some (lo #[u] 0) := by simp [PM.set]
  refine X_up (s1 := { s1 with heap := s1.heap.push { cls := .type "list", data := .seq [u].toArray } }) (k1.trans k2) (r1.trans ⟨rfl, rfl, rfl⟩) (E_then (inn m2 (s := { s1 with heap := s1.heap.push { cls := .type "list", data := .seq [u].toArray } }) (R.to J2) q1) fun P3 H3 vb z s3 k3 J3 r3 rz q3 => ?_)
  obtain ⟨k, h1, h2, q⟩ := onI_some q3
  obtain ⟨t, rfl⟩ := rz.int_inv
  obtain ⟨m, hm, lr⟩ := J3.f
  refine mul_list (fr0 hm) news0 (J3.s.k _ _ (k3 _ _ ha)) (by omega) (by omega) (by simp; omega) fun h' F N => ?_
  have k' := but_of_news N (fun q hq => .tail _ hq)
  have I' := J3.but F.ns lr k'
  have hn := (N _ (.head _)).1
  obtain ⟨f1, f2, f3, f4, f5⟩ := J3.free (size_none s3.heap)
  have e1 : List.foldl (fun x1 x2 => x1 ++ x2) #[] (List.replicate (if ([u].toArray).isEmpty = true then 0 else k.toNat) [u].toArray) = (List.replicate k.toNat u).toArray := by
    have : ([u].toArray).isEmpty = false := rfl
    rw [this]
    simp only [Bool.false_eq_true, if_false]
    have := foldl_one u k.toNat #[]
    simpa using this
  simp only at hn
  rw [e1] at hn
  have k4 := PLe.set (P := P3) (o := lo (List.replicate k.toNat u).toArray 0) f1
  refine ⟨_, H3, .lst (List.replicate k.toNat va), ((k1.trans k2).trans k3).trans k4, I'.addP hn f1 f2 f3 f4 f5, (r1.trans ⟨rfl, rfl, rfl⟩).trans (r3.trans ⟨rfl, rfl, rfl⟩), .lst _ (List.replicate k.toNat u).toArray 0 _ (by simp [PM.set]) ?_ (by simp [sizeLine]; omega), q⟩
  simpa using (VRs.rep (((ru.mono k2).mono k3).mono k4) k.toNat)
end
end Mine
end
section
open PySem PySem.W PyProof.Rows PySem.Calls PyProof.V PySem.Spec PySem.SeqAt
namespace Mine
section
variable {prog : Program} {w : World} {K : Frag} {p : Program} {loose : List Str} {mg mb : Str → Option Value} {G : Heap} {d : Nat} {GT BT : List (Str × Value)}
variable {sc : Scope} {nm : List Str} {env : Env} {c : Cx} {L : Addr} {N : Nm} {P P' P1 : PM} {l : List (Option AV)} {H H1 : HM} {s s' s1 : Shared} {h1 : Heap}
theorem args_call {es : CEs} (is : SS prog w K G d GT BT es) {xs : List Expr} {f : Value} {first : List Value} {pos : Pos} {Q : AV → St → Prop} {X : St → Prop} {Q1 : List AV → St → Prop} {Z : Heap → Prop}
    (hm : mEs GT BT sc nm es xs = true) (R : Rd G d sc nm env c L P l H s.heap) (h : eswp (CPs prog w K G d) es Q1 X ⟨l, H⟩)
    (hk : ∀ h, Z h → ∃ k, (k = Keeper.frame ∨ k = Keeper.machine ∨ k = Keeper.boundFrame) ∧ Looks (model prog w) h (keeperOf f) k)
    (go : ∀ P1 H1 avs vs s1, PLe P P1 → FInv G c L ⟨nm, env⟩ P1 ⟨l, H1⟩ s1.heap → Rest s s1 → VRs P1 avs vs → Q1 avs ⟨l, H1⟩ → Z s1.heap ∧ wpAny (model prog w) c.A (call f (first ++ vs)) (PV G c L ⟨nm, env⟩ P l s Q) (PX G c L ⟨nm, env⟩ P s X) s1) :
    wpAny (model prog w) c.A (callWith pos f first (backTo pos (starEach xs env)) []) (PV G c L ⟨nm, env⟩ P l s Q) (PX G c L ⟨nm, env⟩ P s X) s := by
  cases xs with
  | nil =>
    cases es with
    | nil =>
      obtain ⟨z, q⟩ := go P H [] [] s (PLe.refl _) R.I (Rest.refl _) .nil h
      exact callWith_nil (Z := Z) hk z q
    | cons e es => cases hm
  | cons x xs =>
    have hn := mEs_nst hm
    simp only [List.all_cons, Bool.and_eq_true] at hn
    refine callWith_cons (Z := Z) hn.1 hn.2 hk (wpAny_mono (is hm R h) (fun vs s1 z => ?_) fun _ _ z => z)
    obtain ⟨_, P1, H1, avs, k1, J1, r1, rs, q1⟩ := z
    exact go P1 H1 avs vs s1 k1 J1 r1 rs q1
theorem es_call (g : Glo K p loose mg mb G) {f : CE} {as : CEs} (jf : ES prog w K G d GT BT f) (ja : SS prog w K G d GT BT as) : ES prog w K G d GT BT (.call f as) := by
  intro x sc nm env c L P l H s Q X hm R h
  apply onCall_el hm
  intro y xs ks pos hm
  have m2 := (and2 hm).2
  have hm := (and2 hm).1
  have m1 := (and2 hm).2
  have hm := (and2 hm).1
  have m0 := (and2 hm).1
  have hm := (and2 hm).2
  obtain rfl := List.isEmpty_iff.mp m0
  revert m1
  apply onName_el hm
  intro y p _ m1
  refine wpAny_Call_ofName (E_then (jf m1 R h) fun P1 H1 vf u s1 k1 J1 r1 ru q1 => ?_)
  refine E_up k1 r1 (args_call ja (Z := fun h => K.In h ∧ keepIn K u = true) m2 (R.to J1) q1 (fun h z => keeps_K z.2 h z.1) fun P2 H2 avs vs s2 k2 J2 r2 rv q2 => ?_)
  have q2' : CallS prog w K G d vf avs H2 (fun v H' => Q v ⟨l, H'⟩) (fun H' => X ⟨l, H'⟩) := q2
  refine ⟨⟨J2.s.kin g, ?_⟩, ?_⟩
  · obtain ⟨fa, rfl, hk, _⟩ := q2'
    obtain rfl := ru.glob_inv
    exact hk
  · exact E_up k2 r2 (call_sound (σ := ⟨l, H2⟩) R.ok J2 (ru.mono k2) rv q2')
theorem biV_noRef (b : Bi) : ∀ a, biV b ≠ .ref a := by cases b <;> intro a e <;> cases e
theorem es_bi (g : Glo K p loose mg mb G) (T : Tabs K GT BT) {b : Bi} {as : CEs} (ja : SS prog w K G d GT BT as) : ES prog w K G d GT BT (.bi b as) := by
  intro x sc nm env c L P l H s Q X hm R h
  apply onCall_el hm
  intro y xs ks pos hm
  have hm1 := (and2 hm).1
  have m5 := (and2 hm).2
  have m0 := (and2 hm1).1
  have hm2 := (and2 hm1).2
  obtain rfl := List.isEmpty_iff.mp m0
  apply onName_el hm2
  intro y p hm3
  have hm4 := (and2 hm3).1
  have m4 := (and2 hm3).2
  have hm5 := (and2 hm4).1
  have hm6 := (and2 hm4).2
  obtain ⟨m2, m3⟩ := isName_inv hm6
  obtain rfl := beq_iff_eq.mp hm5
  refine wpAny_Call_ofName (name_global g T R.I R.eo m2 m3 (.inr (beq_iff_eq.mp m4)) ?_)
  exact args_call ja (Z := fun h => True) m5 R h (fun h z => keeper_plain (biV_noRef b) h z) fun P2 H2 avs vs s2 k2 J2 r2 rv q2 => ⟨trivial, E_pp (H1 := H2) k2 r2 (biW_sound g R.hh J2 rv q2)⟩
theorem base_plain {v : Expr} {n : Str} {m : Sem Value} (h : notCall v = true) : attributeBase v n env m = m := by
  cases v <;> first | rfl | exact Bool.noConfusion h
theorem few_of (xs : List Expr) (hz : xs.length < 20) (hn : xs.all nst = true) (pos : Pos) : methodCallForm (xs.length + ([] : List Keyword).length) (backTo pos (starEach xs env)) (backToKw pos (keywordEach [] env)) = true := by
  have h1 : (backTo pos (starEach xs env)).all (!·.1) = true := by
    have := star_none (env := env) (pos := pos) hn
    rw [List.any_eq_false] at this
    rw [List.all_eq_true]
    intro x hx
    simpa using this x hx
  unfold methodCallForm
  rw [h1]
  rw [show keywordEach [] env = [] from rfl]
  rw [show backToKw pos ([] : List (Option Str × Sem Value)) = [] from rfl]
  simp
  omega
theorem method_call {v : Expr} {n : Str} {apos pos : Pos} {xs : List Expr} {Q : Value → Shared → Prop} {E : Value → Shared → Prop} (hb : notCall v = true) (hp : apos.endLine = pos.line) (hz : xs.length < 20) (hn : xs.all nst = true)
    (h : wpAny (model prog w) c.A (eval v env) (fun ov s₁ => ∀ pl, wpAny (model prog w) c.A (getMethod ov n pl) (fun fx s₂ => wpAny (model prog w) c.A (callWith pos fx.1 fx.2 (backTo pos (starEach xs env)) []) Q E s₂) E s₁) E s) :
    wpAny (model prog w) c.A (eval (.Call (.Attribute v n apos) xs [] pos) env) Q E s := by
  refine methodCall_KW (pl := (do return (← importBound v env).getD true)) (wpAny_mono h (fun ov s₁ h₁ => h₁ _) fun _ _ z => z) ?_
  rw [arm_eval_Call, base_plain hb]
  unfold methodCall calleeOf methodCallPos
  rw [few_of xs hz hn pos]
  simp only [Bool.not_true, Bool.false_or, hp, beq_self_eq_true, if_true]
  rfl
theorem meth_el {sc : Scope} {nm : List Str} {o : CE} {as : CEs} {n0 : Str} {x : Expr} {C : Expr → Prop}
    (hm : (onCall x fun y xs ks pos => ks.isEmpty && onAttr y fun v n apos => n0 == n && mE GT BT sc nm o v && mEs GT BT sc nm as xs && apos.endLine == pos.line && decide (xs.length < 20) && notCall v) = true)
    (k : ∀ v xs apos pos, mE GT BT sc nm o v = true → mEs GT BT sc nm as xs = true → apos.endLine = pos.line → xs.length < 20 → notCall v = true → C (.Call (.Attribute v n0 apos) xs [] pos)) : C x := by
  apply onCall_el hm
  intro y xs ks pos hm
  have m0 := (and2 hm).1
  have hm := (and2 hm).2
  obtain rfl := List.isEmpty_iff.mp m0
  apply onAttr_el hm
  intro v n apos hm
  have m5 := (and2 hm).2
  have hm := (and2 hm).1
  have m4 := (and2 hm).2
  have hm := (and2 hm).1
  have m3 := (and2 hm).2
  have hm := (and2 hm).1
  have m2 := (and2 hm).2
  have hm := (and2 hm).1
  have m0 := (and2 hm).1
  have m1 := (and2 hm).2
  obtain rfl := beq_iff_eq.mp m0
  exact k v xs apos pos m1 m2 (beq_iff_eq.mp m3) (of_decide_eq_true m4) m5
theorem es_me {m : Me} {o : CE} {as : CEs} (jo : ES prog w K G d GT BT o) (ja : SS prog w K G d GT BT as) : ES prog w K G d GT BT (.me m o as) := by
  intro x sc nm env c L P l H s Q X hm R h
  apply meth_el (n0 := meN m) hm
  intro v xs apos pos m1 m2 m3 m4 m5
  refine method_call m5 m3 m4 (mEs_nst m2) (E_then (jo m1 R h) fun P1 H1 vo u s1 k1 J1 r1 ru q1 pl => ?_)
  obtain ⟨qo, q1⟩ := q1
  have fin : wpAny (model prog w) c.A (getMethod u (meN m) pl) (fun fx s₂ => fx = (.builtin (meId m), [u]) ∧ s₂ = s1) (fun _ _ => False) s1 := by
    have lst : ∀ {id : String} {nme : Str}, Slot "list" nme id → typeOf (.builtin id) = pure (.type "method_descriptor") → (∃ a vs, vo = .ref a ∧ H1 a = some (.list vs)) →
        wpAny (model prog w) c.A (getMethod u nme pl) (fun fx s₂ => fx = (.builtin id, [u]) ∧ s₂ = s1) (fun _ _ => False) s1 := fun sl ty q => by
      obtain ⟨a, vs, rfl, e⟩ := q
      obtain rfl := ru.ref_inv
      obtain ⟨ws, n, a1, _⟩ := J1.listAt e
      exact getMethod_builtin ⟨_, a1, rfl⟩ PySem.F.plainAttrs_list sl ty (fun a e => by cases e; exact ⟨_, a1, rfl⟩) ⟨rfl, rfl⟩
    cases m
    · exact lst F.slot_list_append F.type_list_append qo
    · exact lst F.slot_list_extend F.type_list_extend qo
    · exact lst F.slot_list_reverse F.type_list_reverse qo
    · exact lst F.slot_list_pop F.type_list_pop qo
    · have qo' : vo = .str [] := qo
      subst qo'
      obtain ⟨t, rfl, _⟩ := ru.str_inv
      exact getMethod_builtin (typeIs_str _ _ _) PySem.F.plainAttrs_str F.slot_str_join F.type_str_join (fun a e => nomatch e) ⟨rfl, rfl⟩
  refine wpAny_mono fin (fun fx s2 z => ?_) fun _ _ z => z.elim
  obtain ⟨rfl, rfl⟩ := z
  refine E_up k1 r1 (args_call ja (Z := fun h => True) m2 (R.to J1) q1 (fun h z => keeper_plain (by intro a e; cases e) h z) fun P2 H2 avs vs s3 k2 J2 r2 rv q2 => ⟨trivial, ?_⟩)
  by_cases hj : m = .join
  · subst hj
    exact E_ph (H1 := H2) (Q := Q) k2 r2 (meW_join J2 (ru.mono k2) rv q2)
  · exact E_ph (H1 := H2) (Q := Q) k2 r2 (meW_list hj J2 (ru.mono k2) rv q2)
inductive MethI (K : Frag) (C : Addr) (n : Str) : AV → Prop
  | mk (fa : Addr) (h : findIn K (.ref C) n = some (some (.ref fa))) (t : typeIn K (.ref fa) = some (.type "function")) : MethI K C n (.glob (.ref fa))
set_option tactic.hygienic true in
theorem methIn_inv {C : Addr} {n : Str} {f : AV} (e : methIn K C n = some f) : MethI K C n f := by
  unfold methIn at e
  split at e
  · rename_i fa hfa
    split at e
    · rename_i hty
      cases e
      exact ⟨fa, hfa, beq_iff_eq.mp hty⟩
    · exact nos e
  · exact nos e
theorem FRel.absent {fs : List (Str × AV)} {es : List DictEntry} {x : Str} (r : FRel P fs es) (e : fs.lookup x = none) : getL x es = some none := by
  have hf := r.find (x := x)
  rw [e] at hf
  exact hf
theorem shadow_none {es : List DictEntry} {n : Nat} {x : Str} (h : getL x es = some none) : shadowIn (some (dictOf es n)) x = some false := by
  unfold shadowIn; simp only [lookIn_dict]; rw [h]; rfl
set_option tactic.hygienic true in
theorem es_ume (g : Glo K p loose mg mb G) {o : CE} {n : Str} {as : CEs} (jo : ES prog w K G d GT BT o) (ja : SS prog w K G d GT BT as) : ES prog w K G d GT BT (.ume o n as) := by
  intro x sc nm env c L P l H s Q X hm R h
  apply meth_el (n0 := n) hm
  intro v xs apos pos m1 m2 m3 m4 m5
  refine method_call m5 m3 m4 (mEs_nst m2) (E_then (jo m1 R h) fun P1 H1 vo u s1 k1 J1 r1 ru q1 pl => ?_)
  obtain ⟨a, C, dd, fs, f, rfl, e1, e2, e3, e4, q1⟩ := q1
  obtain rfl := ru.ref_inv
  obtain ⟨es, nn, IA, hC, hd, fr, _, _⟩ := J1.inst e1 e2
  have c1 := (and2 (and2 (and2 (g.cls C hC).1).1).1).1
  obtain ⟨fa, hfa, hty⟩ := methIn_inv e4
  refine method_fn (J1.s.kin g) IA (plainGet_of c1).1 (plainGet_of c1).2 hfa hty (shadow_none (fr.absent e3)) ?_
  refine E_up k1 r1 (args_call ja (Z := fun h => K.In h ∧ keepIn K (.ref fa) = true) m2 (R.to J1) q1 (fun h z => keeps_K z.2 h z.1) fun P2 H2 avs vs s2 k2 J2 r2 rv q2 => ?_)
  have q2' : CallS prog w K G d (.glob (.ref fa)) (.ref a :: avs) H2 (fun v H' => Q v ⟨l, H'⟩) (fun H' => X ⟨l, H'⟩) := q2
  refine ⟨⟨J2.s.kin g, ?_⟩, ?_⟩
  · obtain ⟨fa', e, hk, _⟩ := q2'
    cases e; exact hk
  · exact E_up k2 r2 (call_sound (σ := ⟨l, H2⟩) R.ok J2 (.glob _) (.cons _ _ _ _ (.ref a) rv) q2')
end
end Mine
end
section
open PySem PySem.W PyProof.Rows PySem.Calls PyProof.V PySem.Spec PySem.SeqAt
namespace Mine
section
variable {prog : Program} {w : World} {K : Frag} {p : Program} {loose : List Str} {mg mb : Str → Option Value} {G : Heap} {d : Nat} {GT BT : List (Str × Value)}
variable {sc : Scope} {nm : List Str} {env : Env} {c : Cx} {L : Addr} {N : Nm} {P P' P1 : PM} {l : List (Option AV)} {H H1 : HM} {s s' s1 : Shared} {h1 : Heap}
theorem folded_pure {iter : Expr} (h : notSet iter = true) : ∀ env x, foldedSetIterable iter env x = pure x := by
  intro env x
  cases iter <;> first | rfl | cases h
theorem ndB_nodup : ∀ {l : List Str}, ndB l = true → l.Nodup
  | [], _ => .nil
  | x :: r, h => by
    unfold ndB at h
    simp only [Bool.and_eq_true, Bool.not_eq_true', List.contains_eq_mem, decide_eq_false_iff_not] at h
    exact List.nodup_cons.mpr ⟨h.1, ndB_nodup h.2⟩
theorem Ok.more {A : Around} {fr fr' : List Addr} (o : Ok d A fr) (k : ∀ a ∈ fr, a ∈ fr') : Ok d A fr' :=
  ⟨o.hd, o.dep, o.un, let ⟨st, e, h⟩ := o.st; ⟨st, e, fun x m => let ⟨a, L, m', e⟩ := h x m; ⟨a, L, k L m', e⟩⟩⟩
theorem PX_false {e : Value} (z : PX G c L N P s (fun _ => False) e s') : False := by
  obtain ⟨_, _, _, _, _, _, f⟩ := z; exact f
theorem gen1_el {gs : List Comprehension} {f : Str → Expr → Bool} {C : List Comprehension → Prop} (h : gen1 gs f = true) (k : ∀ x p iter, f x iter = true → C [⟨.Name x p, iter, [], 0⟩]) : C gs := by
  cases gs with
  | nil => exact Bool.noConfusion h
  | cons g r =>
    obtain ⟨t, it, ifs, as⟩ := g
    have h4 := (and2 h).2
    have h := (and2 h).1
    have h3 := beq_iff_eq.mp (and2 h).2
    have h := (and2 h).1
    have h1 := List.isEmpty_iff.mp (and2 h).1
    have h2 := List.isEmpty_iff.mp (and2 h).2
    clear h
    dsimp only at h2 h3
    subst h1 h2 h3
    replace h4 : onName t _ = true := h4
    apply onName_el h4
    intro x p h4
    exact k x p it h4
theorem gen2_el {gs : List Comprehension} {f : Str → Expr → Str → Expr → Bool} {C : List Comprehension → Prop} (h : gen2 gs f = true) (k : ∀ x p iter y q iter2, f x iter y iter2 = true → C [⟨.Name x p, iter, [], 0⟩, ⟨.Name y q, iter2, [], 0⟩]) : C gs := by
  cases gs with
  | nil => exact Bool.noConfusion h
  | cons g r =>
    obtain ⟨t, it, ifs, as⟩ := g
    have h4 := (and2 h).2
    have h := (and2 h).1
    have h2 := List.isEmpty_iff.mp (and2 h).1
    have h3 := beq_iff_eq.mp (and2 h).2
    clear h
    dsimp only at h2 h3
    subst h2 h3
    replace h4 : onName t _ = true := h4
    apply onName_el h4
    intro x p h4
    exact gen1_el (C := fun r => C (⟨.Name x p, it, [], 0⟩ :: r)) h4 fun y q iter2 h => k x p it y q iter2 h
noncomputable def mC1 (GT BT : List (Str × Value)) (sc : Scope) (nm : List Str) (elt it : CE) (caps : List Nat) (e : Expr) (scope : Scope) (x : Str) (iter : Expr) : Bool :=
  mE GT BT sc nm it iter && scopeOk scope && noCell scope && notSet iter && scope.names.lookup x == some .local && ndB (x :: frees' scope) && capOk sc nm scope nm caps (frees' scope) && mE GT BT (relab sc scope) (x :: frees' scope) elt e
noncomputable def mC2 (GT BT : List (Str × Value)) (sc : Scope) (nm : List Str) (elt it it2 : CE) (e : Expr) (scope : Scope) (x : Str) (iter : Expr) (y : Str) (iter2 : Expr) : Bool :=
  mE GT BT sc nm it iter && scopeOk scope && noCell scope && noFree scope && notSet iter && notSet iter2 && scope.names.lookup x == some .local && scope.names.lookup y == some .local && (x == y) == false && mE GT BT scope [x, y] it2 iter2 && mE GT BT scope [x, y] elt e
inductive CompE (GT BT : List (Str × Value)) (sc : Scope) (nm : List Str) (e : Expr) (scope : Scope) : CE → List Comprehension → Prop
  | one (elt it : CE) (caps : List Nat) (x : Str) (p : Pos) (iter : Expr) (h : mC1 GT BT sc nm elt it caps e scope x iter = true) : CompE GT BT sc nm e scope (.comp elt it caps) [⟨.Name x p, iter, [], 0⟩]
  | two (elt it it2 : CE) (x : Str) (p : Pos) (iter : Expr) (y : Str) (q : Pos) (iter2 : Expr) (h : mC2 GT BT sc nm elt it it2 e scope x iter y iter2 = true) : CompE GT BT sc nm e scope (.comp2 elt it it2) [⟨.Name x p, iter, [], 0⟩, ⟨.Name y q, iter2, [], 0⟩]
theorem compE {ce : CE} {sc : Scope} {nm : List Str} {e : Expr} {gens : List Comprehension} {scope : Scope} {pos : Pos} (h : mE GT BT sc nm ce (.ListComp e gens scope pos) = true) : CompE GT BT sc nm e scope ce gens := by
  cases ce with
  | comp elt it caps => exact gen1_el (f := mC1 GT BT sc nm elt it caps e scope) h fun x p iter h => .one _ _ _ x p iter h
  | comp2 elt it it2 => exact gen2_el (f := mC2 GT BT sc nm elt it it2 e scope) h fun x p iter y q iter2 h => .two _ _ _ x p iter y q iter2 h
  | _ => exact Bool.noConfusion h
theorem comp_use {elt it : CE} {caps : List Nat} (je : ES prog w K G d GT BT elt) (ji : ES prog w K G d GT BT it) {e iter : Expr} {x : Str} {px pos pos' : Pos} {scope : Scope} {use : Option (Value → Sem Unit)} {Q : Value → Shared → Prop} {X : St → Prop} {Qc : List AV → HM → Prop}
    (hm : mC1 GT BT sc nm elt it caps e scope x iter = true) (R : Rd G d sc nm env c L P l H s.heap)
    (hl : ∀ i ∈ caps, ∃ ca, l[i]? = some (some (.ref ca)))
    (h : ewp (CPs prog w K G d) it (fun vi σ1 => withO (iterA vi) fun items => items.length ≤ 1000000 ∧
      compW (fun v H k => ewp (CPs prog w K G d) elt (fun y τ => k y τ.H) (fun _ => False) ⟨some v :: caps.map fun i => (l[i]?).join, H⟩) items σ1.H Qc) X ⟨l, H⟩)
    (fin : ∀ D C s' P' H' zs, Done G c L ⟨nm, env⟩ P s D C s' P' l H' zs → Qc zs H' → compPost (model prog w) c.A (PX G c L ⟨nm, env⟩ P s X) use Q (.ref D) C (.ok .next) s') :
    wpAny (model prog w) c.A (comprehension (.ListComp e [⟨.Name x px, iter, [], 0⟩] scope pos) scope env pos' (newList []) false (eval iter env) use) Q (PX G c L ⟨nm, env⟩ P s X) s := by
  have m8 := (and2 hm).2
  have hm := (and2 hm).1
  have m7 := (and2 hm).2
  have hm := (and2 hm).1
  have m6 := (and2 hm).2
  have hm := (and2 hm).1
  have m5 := (and2 hm).2
  have hm := (and2 hm).1
  have m4 := (and2 hm).2
  have hm := (and2 hm).1
  have m3 := (and2 hm).2
  have hm := (and2 hm).1
  have m1 := (and2 hm).1
  have m2 := (and2 hm).2
  refine comp1_sound (σ := ⟨l, H⟩) (ce := elt) (CC := CPs prog w K G d) (caps := caps) R.hh R.eo (folded_pure m4 env) m2 m3 (beq_iff_eq.mp m5) m7 R.I hl (ji m1 R h) (fun C cenv c' P σ s Q eoC eA eN J q => ?_) (ndB_nodup m6) fin
  refine wpAny_mono (eA ▸ je m8 (sc := relab sc scope) (env := cenv) (c := c') (L := C) (P := P) (l := σ.loc) (H := σ.H) (s := s) (Q := Q) (X := fun _ => False) ⟨eoC, ndB_nodup m6, ?_, J⟩ q) (fun _ _ z => z) fun _ _ z => PX_false z
  rw [eA, eN]
  exact R.ok.more fun a m => .tail _ m
theorem es_comp {elt it : CE} {caps : List Nat} (je : ES prog w K G d GT BT elt) (ji : ES prog w K G d GT BT it) : ES prog w K G d GT BT (.comp elt it caps) := by
  intro x sc nm env c L P l H s Q X hm R h
  apply onComp_el hm
  intro e gens scope pos hm
  apply gen1_el hm
  intro x px iter hm
  rw [eval_ListComp]
  exact comp_use (use := none) je ji hm R h.1 h.2 fun D C s' P' H' zs X q => fin_none X q
theorem comp2_use {elt it it2 : CE} (je : ES prog w K G d GT BT elt) (ji : ES prog w K G d GT BT it) (ji2 : ES prog w K G d GT BT it2) {e iter iter2 : Expr} {x y : Str} {px py pos pos' : Pos} {scope : Scope} {use : Option (Value → Sem Unit)} {Q : Value → Shared → Prop} {X : St → Prop} {Qc : List AV → HM → Prop}
    (hm : mC2 GT BT sc nm elt it it2 e scope x iter y iter2 = true) (R : Rd G d sc nm env c L P l H s.heap)
    (h : ewp (CPs prog w K G d) it (fun vi σ1 => withO (iterA vi) fun items => items.length ≤ 1000 ∧
      compW (fun v H k => ewp (CPs prog w K G d) it2 (fun vj τ => withO (iterA vj) fun items2 => items2.length ≤ 1000 ∧
        compW (fun u H k' => ewp (CPs prog w K G d) elt (fun y τ => k' y τ.H) (fun _ => False) ⟨[some v, some u], H⟩) items2 τ.H fun ys H' => k (.lst ys) H') (fun _ => False) ⟨[some v, none], H⟩) items σ1.H
        fun yss H' => ∃ lss : List (List AV), yss = lss.map .lst ∧ Qc lss.flatten H') X ⟨l, H⟩)
    (fin : ∀ D C s' P' H' zs, Done G c L ⟨nm, env⟩ P s D C s' P' l H' zs → Qc zs H' → compPost (model prog w) c.A (PX G c L ⟨nm, env⟩ P s X) use Q (.ref D) C (.ok .next) s') :
    wpAny (model prog w) c.A (comprehension (.ListComp e [⟨.Name x px, iter, [], 0⟩, ⟨.Name y py, iter2, [], 0⟩] scope pos) scope env pos' (newList []) false (eval iter env) use) Q (PX G c L ⟨nm, env⟩ P s X) s := by
  have m9 := (and2 hm).2
  have hm := (and2 hm).1
  have m8 := (and2 hm).2
  have hm := (and2 hm).1
  have m7 := (and2 hm).2
  have hm := (and2 hm).1
  have m6 := (and2 hm).2
  have hm := (and2 hm).1
  have m5 := (and2 hm).2
  have hm := (and2 hm).1
  have m4' := (and2 hm).2
  have hm := (and2 hm).1
  have m4 := (and2 hm).2
  have hm := (and2 hm).1
  have m3' := (and2 hm).2
  have hm := (and2 hm).1
  have m3 := (and2 hm).2
  have hm := (and2 hm).1
  have m1 := (and2 hm).1
  have m2 := (and2 hm).2
  have hxy : x ≠ y := beq_eq_false_iff_ne.mp (beq_iff_eq.mp m7)
  have nd : [x, y].Nodup := by simp [hxy]
  have run : ∀ {ce : CE} {z : Expr}, ES prog w K G d GT BT ce → mE GT BT scope [x, y] ce z = true → ∀ (C : Addr) (cenv : Env) (c' : Cx) P σ s Q, EnvOk scope cenv C → c'.A = c.A → c'.ns.map (·.1) = L :: c.ns.map (·.1) → FInv G c' C ⟨[x, y], cenv⟩ P σ s.heap → ewp (CPs prog w K G d) ce Q (fun _ => False) σ →
      wpAny (model prog w) c.A (eval z cenv) (PV G c' C ⟨[x, y], cenv⟩ P σ.loc s Q) (fun _ _ => False) s := by
    intro ce z jz mz C cenv c' P σ s Q eoC eA eN J q
    refine wpAny_mono (eA ▸ jz mz (sc := scope) (env := cenv) (c := c') (L := C) (P := P) (l := σ.loc) (H := σ.H) (s := s) (Q := Q) (X := fun _ => False) ⟨eoC, nd, ?_, J⟩ q) (fun _ _ z => z) fun _ _ z => PX_false z
    rw [eA, eN]
    exact R.ok.more fun a m => .tail _ m
  exact comp2_sound (σ := ⟨l, H⟩) (ce := elt) (ci := it2) (CC := CPs prog w K G d) R.hh R.eo (folded_pure m4 env) (folded_pure m4') m2 m3 m3' (beq_iff_eq.mp m5) (beq_iff_eq.mp m6) hxy R.I (ji m1 R h) (run je m9) (run ji2 m8) fin
theorem es_comp2 {elt it it2 : CE} (je : ES prog w K G d GT BT elt) (ji : ES prog w K G d GT BT it) (ji2 : ES prog w K G d GT BT it2) : ES prog w K G d GT BT (.comp2 elt it it2) := by
  intro x sc nm env c L P l H s Q X hm R h
  apply onComp_el hm
  intro e gens scope pos hm
  apply gen2_el hm
  intro x px iter y py iter2 hm
  rw [eval_ListComp]
  exact comp2_use (use := none) (Qc := fun ys H' => Q (.lst ys) ⟨l, H'⟩) je ji ji2 hm R h fun D C s' P' H' zs X q => fin_none X q
theorem boolOp_two {pos : Pos} {op : BoolOp} {m m' : Sem Value} {r : List (Sem Value)} : boolOp pos op (m :: m' :: r) = (do
    let v ← m
    standAt pos
    let t ← holding [v] (truthy v)
    match op, t with
    | .And, false | .Or, true => pure v
    | _, _ => boolOp pos op (m' :: r)) := rfl
theorem be_and {e : CE} {es : CEs} (ie : ES prog w K G d GT BT e) (is : BE prog w K G d GT BT .And awp es) : BE prog w K G d GT BT .And awp (.cons e es) := by
  intro xs sc nm env c L P l H s Q X pos hm R h
  obtain ⟨x, xs, rfl, m0, m1, m2⟩ := mEs_cons hm
  cases es with
  | nil => obtain rfl := List.isEmpty_iff.mp m2; exact ie m1 R h
  | cons e' es =>
    obtain ⟨x', xs, rfl, _⟩ := mEs_cons m2
    show wpAny _ _ (boolOp pos .And (eval x env :: eval x' env :: evalEach xs env)) _ _ _
    rw [boolOp_two]
    refine wpAny_bind (E_then (ie m1 R h) fun P1 H1 va u s1 k1 J1 r1 ru q1 => wpAny_bind (wpAny_standAt (wpAny_bind (wpAny_holding ?_))))
    obtain ⟨t, e, q1⟩ := br_some q1
    refine truthA_sound J1.s.k ru e fun tk => ?_
    cases t with
    | false => exact wpAny_pure (PV.mk1 k1 r1 J1 ru q1)
    | true => exact E_up k1 (r1.trans ⟨rfl, rfl, rfl⟩) (is (s := { s1 with toks := tk }) m2 (R.to J1) q1)
theorem bt_and {e : CE} {es : CEs} (ie : TS prog w K G d GT BT e) (is : BT' prog w K G d GT BT .And awp es) : BT' prog w K G d GT BT .And awp (.cons e es) := by
  intro xs sc nm env c L P l H s V X hm ht R hV h
  obtain ⟨x, xs, rfl, m0, m1, m2⟩ := mEs_cons hm
  have t1 := (and2 ht).1
  have t2 := (and2 ht).2
  refine wpAny_allTrue_And_cons ?_
  cases es with
  | nil =>
    obtain rfl := List.isEmpty_iff.mp m2
    refine T_then (ie m1 t1 R hV h) fun P1 H1 t s1 k1 J1 r1 q1 => ?_
    cases t with
    | true => exact wpAny_allTrue_And_nil ⟨P1, H1, k1, J1, r1, q1⟩
    | false => exact ⟨P1, H1, k1, J1, r1, q1⟩
  | cons e' es =>
    refine T_then (ie m1 t1 R (fun v σ => br_W) h) fun P1 H1 t s1 k1 J1 r1 q1 => ?_
    obtain ⟨v, ev, q1⟩ := q1
    rw [ev] at q1
    cases t with
    | true => exact T_up k1 r1 (is m2 t2 (R.to J1) hV q1)
    | false => exact ⟨P1, H1, k1, J1, r1, v, ev, q1⟩
theorem be_or {e : CE} {es : CEs} (ie : ES prog w K G d GT BT e) (is : BE prog w K G d GT BT .Or owp es) : BE prog w K G d GT BT .Or owp (.cons e es) := by
  intro xs sc nm env c L P l H s Q X pos hm R h
  obtain ⟨x, xs, rfl, m0, m1, m2⟩ := mEs_cons hm
  cases es with
  | nil => obtain rfl := List.isEmpty_iff.mp m2; exact ie m1 R h
  | cons e' es =>
    obtain ⟨x', xs, rfl, _⟩ := mEs_cons m2
    show wpAny _ _ (boolOp pos .Or (eval x env :: eval x' env :: evalEach xs env)) _ _ _
    rw [boolOp_two]
    refine wpAny_bind (E_then (ie m1 R h) fun P1 H1 va u s1 k1 J1 r1 ru q1 => wpAny_bind (wpAny_standAt (wpAny_bind (wpAny_holding ?_))))
    obtain ⟨t, e, q1⟩ := br_some q1
    refine truthA_sound J1.s.k ru e fun tk => ?_
    cases t with
    | true => exact wpAny_pure (PV.mk1 k1 r1 J1 ru q1)
    | false => exact E_up k1 (r1.trans ⟨rfl, rfl, rfl⟩) (is (s := { s1 with toks := tk }) m2 (R.to J1) q1)
theorem bt_or {e : CE} {es : CEs} (ie : TS prog w K G d GT BT e) (is : BT' prog w K G d GT BT .Or owp es) : BT' prog w K G d GT BT .Or owp (.cons e es) := by
  intro xs sc nm env c L P l H s V X hm ht R hV h
  obtain ⟨x, xs, rfl, m0, m1, m2⟩ := mEs_cons hm
  have t1 := (and2 ht).1
  have t2 := (and2 ht).2
  refine wpAny_allTrue_Or_cons ?_
  cases es with
  | nil =>
    obtain rfl := List.isEmpty_iff.mp m2
    refine T_then (ie m1 t1 R hV h) fun P1 H1 t s1 k1 J1 r1 q1 => ?_
    cases t with
    | false => exact wpAny_allTrue_Or_nil ⟨P1, H1, k1, J1, r1, q1⟩
    | true => exact ⟨P1, H1, k1, J1, r1, q1⟩
  | cons e' es =>
    refine T_then (ie m1 t1 R (fun v σ => br_W) h) fun P1 H1 t s1 k1 J1 r1 q1 => ?_
    obtain ⟨v, ev, q1⟩ := q1
    rw [ev] at q1
    cases t with
    | false => exact T_up k1 r1 (is m2 t2 (R.to J1) hV q1)
    | true => exact ⟨P1, H1, k1, J1, r1, v, ev, q1⟩
theorem es_frz {e : CE} (ie : ES prog w K G d GT BT e) : ES prog w K G d GT BT (.frz e) := by
  intro x sc nm env c L P l H s Q X hm R h
  refine wpAny_mono (ie (and2 hm).2 R h) (fun u s1 z => ?_) fun _ _ z => z
  obtain ⟨P1, H1, av, k1, J1, r1, ru, a, vs, rfl, e, q⟩ := z
  obtain rfl := ru.ref_inv
  obtain ⟨ws, n, J2, k2, r2⟩ := J1.freeze e
  exact ⟨_, _, .lst vs, k1.trans k2, J2, r1, r2, q⟩
theorem es_off {e : CE} (h : ∀ sc nm x, mE GT BT sc nm e x = false) : ES prog w K G d GT BT e := by
  intro x sc nm env c L P l H s Q X hm R _
  rw [h] at hm; cases hm
theorem bool_el {sc : Scope} {nm : List Str} {es : CEs} {op : BoolOp} {x : Expr} {C : Expr → Prop} (hm : (onBoolOp x fun o xs => o == op && mEs GT BT sc nm es xs && tOks es xs) = true) (k : ∀ xs p, mEs GT BT sc nm es xs = true → tOks es xs = true → C (.BoolOp op xs p)) : C x := by
  apply onBoolOp_el hm
  intro o xs p hm
  have m2 := (and2 hm).2
  have hm := (and2 hm).1
  have m0 := (and2 hm).1
  have m1 := (and2 hm).2
  obtain rfl := beq_iff_eq.mp m0
  exact k xs p m1 m2
theorem es_and {es : CEs} (i : BE prog w K G d GT BT .And awp es) : ES prog w K G d GT BT (.and es) := by
  intro x sc nm env c L P l H s Q X hm R h
  apply bool_el (op := .And) hm
  intro xs p m1 m2
  rw [arm_eval_BoolOp]
  exact i m1 R h
theorem es_or {es : CEs} (i : BE prog w K G d GT BT .Or owp es) : ES prog w K G d GT BT (.or es) := by
  intro x sc nm env c L P l H s Q X hm R h
  apply bool_el (op := .Or) hm
  intro xs p m1 m2
  rw [arm_eval_BoolOp]
  exact i m1 R h
theorem ts_and {es : CEs} (i : BT' prog w K G d GT BT .And awp es) : TS prog w K G d GT BT (.and es) := by
  intro x sc nm env c L P l H s W X hm ht R hW h
  apply bool_el (op := .And) hm
  intro xs p m1 m2
  exact wpAny_isTrue_BoolOp (i m1 m2 R hW h)
theorem ts_or {es : CEs} (i : BT' prog w K G d GT BT .Or owp es) : TS prog w K G d GT BT (.or es) := by
  intro x sc nm env c L P l H s W X hm ht R hW h
  apply bool_el (op := .Or) hm
  intro xs p m1 m2
  exact wpAny_isTrue_BoolOp (i m1 m2 R hW h)
theorem be_nil {op : BoolOp} {W : CP → CEs → (AV → St → Prop) → (St → Prop) → St → Prop} (h : ∀ C Q X σ, ¬ W C .nil Q X σ) : BE prog w K G d GT BT op W .nil := by
  intro xs sc nm env c L P l H s Q X pos hm R z
  exact (h _ _ _ _ z).elim
theorem bt_nil {op : BoolOp} {W : CP → CEs → (AV → St → Prop) → (St → Prop) → St → Prop} (h : ∀ C Q X σ, ¬ W C .nil Q X σ) : BT' prog w K G d GT BT op W .nil := by
  intro xs sc nm env c L P l H s V X hm ht R hV z
  exact (h _ _ _ _ z).elim
theorem both {e : CE} (hp : ∀ x, tOk e x = plainT x) (ie : ES prog w K G d GT BT e) : ES prog w K G d GT BT e ∧ TS prog w K G d GT BT e := ⟨ie, ts_plain hp ie⟩
mutual
theorem ewp_sound (g : Glo K p loose mg mb G) (T : Tabs K GT BT) : ∀ e : CE, ES prog w K G d GT BT e ∧ TS prog w K G d GT BT e
  | .int i => both (fun _ => rfl) es_int
  | .str i => both (fun _ => rfl) es_str
  | .bool i => both (fun _ => rfl) es_bool
  | .none => both (fun _ => rfl) es_none
  | .nopart => both (fun _ => rfl) (es_off fun _ _ _ => rfl)
  | .dead => both (fun _ => rfl) (es_off fun _ _ _ => rfl)
  | .frz e => both (fun _ => rfl) (es_frz (ewp_sound g T e).1)
  | .loc i => both (fun _ => rfl) es_loc
  | .cell i => both (fun _ => rfl) es_cell
  | .glob x v => both (fun _ => rfl) (es_glob g T)
  | .gint x v => both (fun _ => rfl) (es_gint g T)
  | .gstr x v => both (fun _ => rfl) (es_gstr g T)
  | .bin op a b => both (fun _ => rfl) (es_bin (ewp_sound g T a).1 (ewp_sound g T b).1)
  | .neg a => both (fun _ => rfl) (es_neg (ewp_sound g T a).1)
  | .not a => ⟨es_not (ewp_sound g T a).1, ts_not (ewp_sound g T a).2⟩
  | .cmp op a b => ⟨es_cmp (ewp_sound g T a).1 (ewp_sound g T b).1, ts_cmp (ewp_sound g T a).1 (ewp_sound g T b).1⟩
  | .chain op op' a b e => ⟨es_chain (ewp_sound g T a).1 (ewp_sound g T b).1 (ewp_sound g T e).1, ts_chain (ewp_sound g T a).1 (ewp_sound g T b).1 (ewp_sound g T e).1⟩
  | .and es => ⟨es_and (eswp_sound g T es).2.1.1, ts_and (eswp_sound g T es).2.1.2⟩
  | .or es => ⟨es_or (eswp_sound g T es).2.2.1, ts_or (eswp_sound g T es).2.2.2⟩
  | .ite a b e => ⟨es_ite (ewp_sound g T a).2 (ewp_sound g T b).1 (ewp_sound g T e).1, ts_ite (ewp_sound g T a).2 (ewp_sound g T b).2 (ewp_sound g T e).2⟩
  | .attr o n => both (fun _ => rfl) (es_attr g (ewp_sound g T o).1)
  | .sub o i => both (fun _ => rfl) (es_sub (ewp_sound g T o).1 (ewp_sound g T i).1)
  | .slice a b e => both (fun _ => rfl) (es_slice (ewp_sound g T a).1 (ewp_sound g T b).1 (ewp_sound g T e).1)
  | .sliceM a b e => both (fun _ => rfl) (es_sliceM (ewp_sound g T a).1 (ewp_sound g T b).1 (ewp_sound g T e).1)
  | .rev a => both (fun _ => rfl) (es_rev (ewp_sound g T a).1)
  | .lst es => both (fun _ => rfl) (es_lst (eswp_sound g T es).1)
  | .lstM es => both (fun _ => rfl) (es_lstM (eswp_sound g T es).1)
  | .tup es => both (fun _ => rfl) (es_tup (eswp_sound g T es).1)
  | .rep a b => both (fun _ => rfl) (es_rep (ewp_sound g T a).1 (ewp_sound g T b).1)
  | .call f as => both (fun _ => rfl) (es_call g (ewp_sound g T f).1 (eswp_sound g T as).1)
  | .bi b as => both (fun _ => rfl) (es_bi g T (eswp_sound g T as).1)
  | .me m o as => both (fun _ => rfl) (es_me (ewp_sound g T o).1 (eswp_sound g T as).1)
  | .ume o n as => both (fun _ => rfl) (es_ume g (ewp_sound g T o).1 (eswp_sound g T as).1)
  | .comp e it cs => both (fun _ => rfl) (es_comp (ewp_sound g T e).1 (ewp_sound g T it).1)
  | .comp2 e it it2 => both (fun _ => rfl) (es_comp2 (ewp_sound g T e).1 (ewp_sound g T it).1 (ewp_sound g T it2).1)
theorem eswp_sound (g : Glo K p loose mg mb G) (T : Tabs K GT BT) : ∀ es : CEs, SS prog w K G d GT BT es ∧ (BE prog w K G d GT BT .And awp es ∧ BT' prog w K G d GT BT .And awp es) ∧ (BE prog w K G d GT BT .Or owp es ∧ BT' prog w K G d GT BT .Or owp es)
  | .nil => ⟨ss_nil, ⟨be_nil fun C Q X σ z => z, bt_nil fun C Q X σ z => z⟩, ⟨be_nil fun C Q X σ z => z, bt_nil fun C Q X σ z => z⟩⟩
  | .cons e es => ⟨ss_cons (ewp_sound g T e).1 (eswp_sound g T es).1, ⟨be_and (ewp_sound g T e).1 (eswp_sound g T es).2.1.1, bt_and (ewp_sound g T e).2 (eswp_sound g T es).2.1.2⟩, ⟨be_or (ewp_sound g T e).1 (eswp_sound g T es).2.2.1, bt_or (ewp_sound g T e).2 (eswp_sound g T es).2.2.2⟩⟩
end
end
end Mine
end
section
open PySem PySem.W PyProof.Rows PySem.Calls PyProof.V PySem.Spec PySem.SeqAt
namespace Mine
noncomputable def notComp (e : Expr) : Bool := e.ctorIdx != 8 && e.ctorIdx != 9 && e.ctorIdx != 10
noncomputable def notTup (e : Expr) : Bool := e.ctorIdx != 25
noncomputable def onExprS (x : Stmt) (f : Expr → Bool) : Bool := if e : x.ctorIdx = 24 then @PySem.Stmt.Expr.elim (fun _ => Bool) x e (fun a _ => f a) else false
theorem onExprS_el {x : Stmt} {f : Expr → Bool} {C : Stmt → Prop} (h : onExprS x f = true) (k : ∀ a b, f a = true → C (.Expr a b)) : C x :=
  on_ifk h fun e h => @PySem.Stmt.Expr.elim (fun x => ∀ e, @PySem.Stmt.Expr.elim (fun _ => Bool) x e (fun a _ => f a) = true → C x) x e (fun a z1 _ h => k a z1 h) e h
noncomputable def onRet (x : Stmt) (f : (Option Expr) → Bool) : Bool := if e : x.ctorIdx = 3 then @PySem.Stmt.Return.elim (fun _ => Bool) x e (fun a _ => f a) else false
theorem onRet_el {x : Stmt} {f : (Option Expr) → Bool} {C : Stmt → Prop} (h : onRet x f = true) (k : ∀ a b, f a = true → C (.Return a b)) : C x :=
  on_ifk h fun e h => @PySem.Stmt.Return.elim (fun x => ∀ e, @PySem.Stmt.Return.elim (fun _ => Bool) x e (fun a _ => f a) = true → C x) x e (fun a z1 _ h => k a z1 h) e h
noncomputable def onAsgs (x : Stmt) (f : (List Expr) → Expr → Bool) : Bool := if e : x.ctorIdx = 5 then @PySem.Stmt.Assign.elim (fun _ => Bool) x e (fun a b _ => f a b) else false
theorem onAsgs_el {x : Stmt} {f : (List Expr) → Expr → Bool} {C : Stmt → Prop} (h : onAsgs x f = true) (k : ∀ a b c, f a b = true → C (.Assign a b c)) : C x :=
  on_ifk h fun e h => @PySem.Stmt.Assign.elim (fun x => ∀ e, @PySem.Stmt.Assign.elim (fun _ => Bool) x e (fun a b _ => f a b) = true → C x) x e (fun a b z2 _ h => k a b z2 h) e h
noncomputable def onAug (x : Stmt) (f : Expr → Operator → Expr → Bool) : Bool := if e : x.ctorIdx = 7 then @PySem.Stmt.AugAssign.elim (fun _ => Bool) x e (fun a b c _ => f a b c) else false
theorem onAug_el {x : Stmt} {f : Expr → Operator → Expr → Bool} {C : Stmt → Prop} (h : onAug x f = true) (k : ∀ a b c d, f a b c = true → C (.AugAssign a b c d)) : C x :=
  on_ifk h fun e h => @PySem.Stmt.AugAssign.elim (fun x => ∀ e, @PySem.Stmt.AugAssign.elim (fun _ => Bool) x e (fun a b c _ => f a b c) = true → C x) x e (fun a b c z3 _ h => k a b c z3 h) e h
noncomputable def onIfS (x : Stmt) (f : Expr → (List Stmt) → (List Stmt) → Bool) : Bool := if e : x.ctorIdx = 12 then @PySem.Stmt.If.elim (fun _ => Bool) x e (fun a b c _ => f a b c) else false
theorem onIfS_el {x : Stmt} {f : Expr → (List Stmt) → (List Stmt) → Bool} {C : Stmt → Prop} (h : onIfS x f = true) (k : ∀ a b c d, f a b c = true → C (.If a b c d)) : C x :=
  on_ifk h fun e h => @PySem.Stmt.If.elim (fun x => ∀ e, @PySem.Stmt.If.elim (fun _ => Bool) x e (fun a b c _ => f a b c) = true → C x) x e (fun a b c z3 _ h => k a b c z3 h) e h
noncomputable def onWhile (x : Stmt) (f : Expr → (List Stmt) → (List Stmt) → Bool) : Bool := if e : x.ctorIdx = 11 then @PySem.Stmt.While.elim (fun _ => Bool) x e (fun a b c _ => f a b c) else false
theorem onWhile_el {x : Stmt} {f : Expr → (List Stmt) → (List Stmt) → Bool} {C : Stmt → Prop} (h : onWhile x f = true) (k : ∀ a b c d, f a b c = true → C (.While a b c d)) : C x :=
  on_ifk h fun e h => @PySem.Stmt.While.elim (fun x => ∀ e, @PySem.Stmt.While.elim (fun _ => Bool) x e (fun a b c _ => f a b c) = true → C x) x e (fun a b c z3 _ h => k a b c z3 h) e h
noncomputable def onFor (x : Stmt) (f : Expr → Expr → (List Stmt) → (List Stmt) → Bool) : Bool := if e : x.ctorIdx = 9 then @PySem.Stmt.For.elim (fun _ => Bool) x e (fun a b c d _ => f a b c d) else false
theorem onFor_el {x : Stmt} {f : Expr → Expr → (List Stmt) → (List Stmt) → Bool} {C : Stmt → Prop} (h : onFor x f = true) (k : ∀ a b c d e, f a b c d = true → C (.For a b c d e)) : C x :=
  on_ifk h fun e h => @PySem.Stmt.For.elim (fun x => ∀ e, @PySem.Stmt.For.elim (fun _ => Bool) x e (fun a b c d _ => f a b c d) = true → C x) x e (fun a b c d z4 _ h => k a b c d z4 h) e h
noncomputable def onRaise (x : Stmt) (f : (Option Expr) → (Option Expr) → Bool) : Bool := if e : x.ctorIdx = 16 then @PySem.Stmt.Raise.elim (fun _ => Bool) x e (fun a b _ => f a b) else false
theorem onRaise_el {x : Stmt} {f : (Option Expr) → (Option Expr) → Bool} {C : Stmt → Prop} (h : onRaise x f = true) (k : ∀ a b c, f a b = true → C (.Raise a b c)) : C x :=
  on_ifk h fun e h => @PySem.Stmt.Raise.elim (fun x => ∀ e, @PySem.Stmt.Raise.elim (fun _ => Bool) x e (fun a b _ => f a b) = true → C x) x e (fun a b z2 _ h => k a b z2 h) e h
noncomputable def onTry (x : Stmt) (f : (List Stmt) → (List ExceptHandler) → (List Stmt) → (List Stmt) → Bool) : Bool := if e : x.ctorIdx = 17 then @PySem.Stmt.Try.elim (fun _ => Bool) x e (fun a b c d _ => f a b c d) else false
theorem onTry_el {x : Stmt} {f : (List Stmt) → (List ExceptHandler) → (List Stmt) → (List Stmt) → Bool} {C : Stmt → Prop} (h : onTry x f = true) (k : ∀ a b c d e, f a b c d = true → C (.Try a b c d e)) : C x :=
  on_ifk h fun e h => @PySem.Stmt.Try.elim (fun x => ∀ e, @PySem.Stmt.Try.elim (fun _ => Bool) x e (fun a b c d _ => f a b c d) = true → C x) x e (fun a b c d z4 _ h => k a b c d z4 h) e h
noncomputable def onAsg (x : Stmt) (f : Expr → Expr → Bool) : Bool := onAsgs x fun ts v => oneX ts fun t => f t v
theorem onAsg_el {x : Stmt} {f : Expr → Expr → Bool} {C : Stmt → Prop} (h : onAsg x f = true) (k : ∀ t v p, f t v = true → C (.Assign [t] v p)) : C x :=
  onAsgs_el h fun _ v p h => oneX_el (C := fun ts => C (.Assign ts v p)) h fun t h => k t v p h
noncomputable def isLoc (sc : Scope) (nm : List Str) (i : Nat) (k : NameKind) (x : Str) : Bool := nm[i]? == some x && sc.names.lookup x == some k
theorem isLoc_inv {sc : Scope} {nm : List Str} {i : Nat} {k : NameKind} {x : Str} (h : isLoc sc nm i k x = true) : nm[i]? = some x ∧ sc.names.lookup x = some k := ⟨beq_iff_eq.mp (and2 h).1, beq_iff_eq.mp (and2 h).2⟩
noncomputable def mNs (sc : Scope) (nm : List Str) : List Nat → List Expr → Bool
  | [], xs => xs.isEmpty
  | i :: is, xs => match xs with | [] => false | x :: xs => onName x (fun x _ => isLoc sc nm i .local x) && mNs sc nm is xs
noncomputable def mTs (GT BT : List (Str × Value)) (sc : Scope) (nm : List Str) : List Tg → List Expr → Bool
  | [], xs => xs.isEmpty
  | t :: ts, xs => match xs with | [] => false | x :: xs => (match t with
    | .loc i => onName x fun x _ => isLoc sc nm i .local x
    | .attr o n => onAttr x fun v a _ => n == a && mE GT BT sc nm o v) && mTs GT BT sc nm ts xs
noncomputable def dieS : Str := "Die"
noncomputable def isDie (GT : List (Str × Value)) (sc : Scope) (x : Str) : Bool := x == dieS && sc.names.lookup x == some .globalImplicit && GT.lookup x == some (.ref DIE)
theorem isDie_el {GT : List (Str × Value)} {sc : Scope} {x : Str} {C : Str → Prop} (h : isDie GT sc x = true) (k : sc.names.lookup dieS = some .globalImplicit → GT.lookup dieS = some (.ref DIE) → C dieS) : C x := by
  obtain rfl := beq_iff_eq.mp (and2 (and2 h).1).1
  exact k (beq_iff_eq.mp (and2 (and2 h).1).2) (beq_iff_eq.mp (and2 h).2)
noncomputable def bindOk (sc : Scope) (nm : List Str) (ts : List Nat) (x : Expr) : Bool := match ts with
  | [] => false
  | i :: is => match is with
    | [] => onName x fun x _ => isLoc sc nm i .local x
    | _ :: _ => onTup x fun elts => mNs sc nm ts elts
noncomputable def hasName (scope : Scope) (y : Str) : Bool := scope.names.any fun (n, k) => n == y && (k == .local || k == .cell)
noncomputable def asgOk (y : Str) (py : Pos) (v : Expr) : Bool := notComp v || onComp v fun _ _ scope pos => py.line == pos.line && !hasName scope y
noncomputable def retsNone (b : List Stmt) : Bool := match b with | [] => false | x :: r => r.isEmpty && onRet x fun y => onSome y onNoneC
noncomputable def onH (hs : List ExceptHandler) (f : Str → Bool) : Bool := match hs with
  | [] => false
  | h :: r => r.isEmpty && (match h with | .ExceptHandler t n b _ => n.isNone && retsNone b && onSome t fun t => onName t fun x _ => f x)
theorem onH_el {hs : List ExceptHandler} {f : Str → Bool} {C : List ExceptHandler → Prop} (h : onH hs f = true) (k : ∀ x px a b pr ph, f x = true → C [.ExceptHandler (some (.Name x px)) none [.Return (some (.Constant .none a b)) pr] ph]) : C hs := by
  cases hs with
  | nil => cases h
  | cons e r =>
    have h1 := (and2 h).1
    have h := (and2 h).2
    obtain rfl := List.isEmpty_iff.mp h1
    cases e with
    | ExceptHandler t n b ph =>
      have h4 := (and2 h).2
      have h := (and2 h).1
      have h2 := (and2 h).1
      have h3 := (and2 h).2
      obtain rfl := Option.isNone_iff_eq_none.mp h2
      cases t with
      | none => cases h4
      | some t =>
        apply onName_el h4
        intro x px h4
        cases b with
        | nil => cases h3
        | cons s r =>
          have h5 := (and2 h3).1
          have h6 := (and2 h3).2
          obtain rfl := List.isEmpty_iff.mp h5
          apply onRet_el h6
          intro y pr h6
          cases y with
          | none => cases h6
          | some y =>
            apply onNoneC_el h6
            intro a b
            exact k x px a b pr ph h4
noncomputable def isCont (x : Stmt) : Bool := x.ctorIdx == 27
mutual
noncomputable def mS (GT BT : List (Str × Value)) (sc : Scope) (nm : List Str) : CS → Stmt → Bool
  | .expr e, x => onExprS x fun x => mE GT BT sc nm e x && notComp x
  | .ret e, x => onRet x fun x => onSome x fun x => mE GT BT sc nm e x
  | .retNone, x => onRet x fun x => x.isNone
  | .asg i e, x => onAsg x fun t v => onName t fun x px => isLoc sc nm i .local x && mE GT BT sc nm e v && asgOk x px v
  | .asgC i e, x => onAsg x fun t v => onName t fun x px => isLoc sc nm i .cell x && mE GT BT sc nm e v && notComp v
  | .asgT ts e, x => onAsg x fun t v => onTup t fun elts => mTs GT BT sc nm ts elts && mE GT BT sc nm e v && notComp v && notTup v
  | .seta o n e, x => onAsg x fun t x => onAttr t fun v a _ => n == a && mE GT BT sc nm o v && mE GT BT sc nm e x && notComp x
  | .aug i op e, x => onAug x fun t o v => onName t fun x _ => isLoc sc nm i .local x && op == o && mE GT BT sc nm e v
  | .augC i op e, x => onAug x fun t o v => onName t fun x _ => isLoc sc nm i .cell x && op == o && mE GT BT sc nm e v
  | .auga o n op e, x => onAug x fun t p x => onAttr t fun v a _ => n == a && op == p && mE GT BT sc nm o v && mE GT BT sc nm e x
  | .ite t a b, x => onIfS x fun x y z => mE GT BT sc nm t x && tOk t x && mSs GT BT sc nm a y && mSs GT BT sc nm b z
  | .wh t b, x => onWhile x fun x y z => z.isEmpty && mE GT BT sc nm t x && tOk t x && mSs GT BT sc nm b y
  | .forr ts it b, x => onFor x fun t y z oe => oe.isEmpty && bindOk sc nm ts t && mE GT BT sc nm it y && notSet y && mSs GT BT sc nm b z
  | .raise e, x => onRaise x fun y z => z.isNone && onSome y fun y => onCall y fun f xs ks _ => ks.isEmpty && onName f (fun x _ => isDie GT sc x) && oneX xs fun y => nst y && mE GT BT sc nm e y
  | .tryx b _, x => onTry x fun y hs oe fb => oe.isEmpty && fb.isEmpty && onH hs (isDie GT sc) && mSs GT BT sc nm b y
  | .cont, x => isCont x
  | .dead, _ => true
noncomputable def mSs (GT BT : List (Str × Value)) (sc : Scope) (nm : List Str) : CSs → List Stmt → Bool
  | .nil, xs => xs.isEmpty
  | .cons s ss, xs => (match s with | .dead => (match ss with | .nil => true | _ => false) | _ => false) || (match xs with | [] => false | x :: xs => mS GT BT sc nm s x && mSs GT BT sc nm ss xs)
end
structure GloE (K : Frag) : Prop where
  m : exmOne K (.ref DIE) (.ref DIE) = some true
  t : typeIn K (.ref DIE) = some (.type "type")
  b : subIn K (.ref DIE) (.type "BaseException") = some true
  k : keepIn K (.ref DIE) = true
structure RdS (G : Heap) (d : Nat) (sc : Scope) (nm : List Str) (env : Env) (c : Cx) (L : Addr) (P : PM) (σ : St) (h : Heap) : Prop extends Rd G d sc nm env c L P σ.loc σ.H h where
  top : ∃ outer, c.A.frames = some (env :: outer)
  fr : env.frame = some L
inductive PS (G : Heap) (c : Cx) (L : Addr) (N : Nm) (P : PM) (s : Shared) (R : Fl → St → Prop) (f : Flow) (s' : Shared) : Prop
  | mk (P' : PM) (σ' : St) (k : PLe P P') (J : FInv G c L N P' σ' s'.heap) (r : Rest s s') (q : match f with
    | .next => R .next σ'
    | .brk => R .brk σ'
    | .cont => R .cont σ'
    | .ret v => ∃ av, VR P' av v ∧ R (.ret av) σ')
section
variable (prog : Program) (w : World) (K : Frag) (G : Heap) (d : Nat) (GT BT : List (Str × Value))
noncomputable def DieS : Prop := ∀ {c : Cx} {L : Addr} {N : Nm} {P : PM} {σ : St} {s : Shared} {av : AV} {u : Value}, Ok d c.A (L :: c.ns.map (·.1)) → FInv G c L N P σ s.heap → VR P av u →
  wpAny (model prog w) c.A (call (.ref DIE) [u]) (fun r s' => ∃ P', PLe P P' ∧ FInv G c L N P' σ s'.heap ∧ Rest s s' ∧ ExcAt c P' s'.heap r) (fun _ _ => False) s
noncomputable def SO (a : CS) : Prop := ∀ {x : Stmt} {sc : Scope} {nm : List Str} {env : Env} {c : Cx} {L : Addr} {P : PM} {σ : St} {s : Shared} {R : Fl → St → Prop} {X : St → Prop},
  mS GT BT sc nm a x = true → RdS G d sc nm env c L P σ s.heap → swp (CPs prog w K G d) a R X σ →
  wpAny (model prog w) c.A (exec x env) (PS G c L ⟨nm, env⟩ P s R) (PX G c L ⟨nm, env⟩ P s X) s
noncomputable def SOs (a : CSs) : Prop := ∀ {xs : List Stmt} {sc : Scope} {nm : List Str} {env : Env} {c : Cx} {L : Addr} {P : PM} {σ : St} {s : Shared} {R : Fl → St → Prop} {X : St → Prop},
  mSs GT BT sc nm a xs = true → RdS G d sc nm env c L P σ s.heap → swps (CPs prog w K G d) a R X σ →
  wpAny (model prog w) c.A (execs xs env) (PS G c L ⟨nm, env⟩ P s R) (PX G c L ⟨nm, env⟩ P s X) s
end
section
variable {prog : Program} {w : World} {K : Frag} {p : Program} {loose : List Str} {mg mb : Str → Option Value} {G : Heap} {d : Nat} {GT BT : List (Str × Value)}
variable {sc : Scope} {nm : List Str} {env : Env} {c : Cx} {L : Addr} {N : Nm} {P P' P1 : PM} {l : List (Option AV)} {H H1 : HM} {σ σ1 : St} {s s' s1 : Shared} {h1 : Heap}
theorem RdS.to (r : RdS G d sc nm env c L P σ s.heap) (J : FInv G c L ⟨nm, env⟩ P1 σ1 h1) : RdS G d sc nm env c L P1 σ1 h1 := ⟨⟨r.eo, r.nd, r.ok, J⟩, r.top, r.fr⟩
theorem PS.up {R f} (k : PLe P P1) (r : Rest s s1) (h : PS G c L N P1 s1 R f s') : PS G c L N P s R f s' :=
  let ⟨P', σ', a, b, c, d⟩ := h; ⟨P', σ', k.trans a, b, r.trans c, d⟩
theorem S_up {m : Sem Flow} {R : Fl → St → Prop} {X : St → Prop} (k : PLe P P1) (r : Rest s s1) (h : wpAny (model prog w) c.A m (PS G c L N P1 s1 R) (PX G c L N P1 s1 X) s1) :
    wpAny (model prog w) c.A m (PS G c L N P s R) (PX G c L N P s X) s1 := wpAny_mono h (fun _ _ z => z.up k r) fun _ _ z => z.up k r
theorem PS.nx {R : Fl → St → Prop} {h' : Heap} {tk : Nat} (k : PLe P P1) (r : Rest s s1) (J : FInv G c L N P1 σ1 h') (q : R .next σ1) : PS G c L N P s R .next { s1 with heap := h', toks := tk } :=
  ⟨P1, σ1, k, J, r.trans ⟨rfl, rfl, rfl⟩, q⟩
theorem swap_no {v : Expr} {t : Option Expr} {line : Nat} (h : notComp v = true) : swapsWith v t line env = pure false := by
  cases v <;> first | rfl | cases h
theorem EnvOk.inter (e : EnvOk sc env L) : interactive env = false := by
  unfold interactive
  rw [e.se, e.k]; rfl
theorem EnvOk.local (e : EnvOk sc env L) {x : Str} {k : NameKind} (h : sc.names.lookup x = some k) : env.kindOf x = some k := by
  unfold Env.kindOf; rw [e.se]; exact h
theorem so_expr {e : CE} (ie : ES prog w K G d GT BT e) : SO prog w K G d GT BT (.expr e) := by
  intro x sc nm env c L P σ s R X hm D h
  apply onExprS_el hm
  intro y p hm
  have m1 := (and2 hm).1
  have m2 := (and2 hm).2
  exact wpAny_Expr_any (E_then (ie m1 D.toRd h) fun P1 H1 va u s1 k1 J1 r1 ru q1 => ⟨P1, _, k1, J1, r1, q1⟩) D.eo.inter (swap_no m2)
theorem so_ret {e : CE} (ie : ES prog w K G d GT BT e) : SO prog w K G d GT BT (.ret e) := by
  intro x sc nm env c L P σ s R X hm D h
  apply onRet_el hm
  intro y p hm
  cases y with
  | none => cases hm
  | some y => exact wpAny_Return_some (E_then (ie hm D.toRd h) fun P1 H1 va u s1 k1 J1 r1 ru q1 => ⟨P1, _, k1, J1, r1, va, ru, q1⟩)
theorem so_retNone : SO prog w K G d GT BT .retNone := by
  intro x sc nm env c L P σ s R X hm D h
  apply onRet_el hm
  intro y p hm
  obtain rfl := Option.isNone_iff_eq_none.mp hm
  exact wpAny_Return_none ⟨P, σ, PLe.refl _, D.I, Rest.refl _, .none, .none, h⟩
theorem so_cont : SO prog w K G d GT BT .cont := by
  intro x sc nm env c L P σ s R X hm D h
  have e : x.ctorIdx = 27 := beq_iff_eq.mp hm
  exact @PySem.Stmt.Continue.elim (fun x => wpAny (model prog w) c.A (exec x env) (PS G c L ⟨nm, env⟩ P s R) (PX G c L ⟨nm, env⟩ P s X) s) x e fun p => wpAny_Continue ⟨P, σ, PLe.refl _, D.I, Rest.refl _, h⟩
theorem so_ite {t : CE} {a b : CSs} (it : TS prog w K G d GT BT t) (ia : SOs prog w K G d GT BT a) (ib : SOs prog w K G d GT BT b) : SO prog w K G d GT BT (.ite t a b) := by
  intro x sc nm env c L P σ s R X hm D h
  apply onIfS_el hm
  intro x y z p hm
  have m4 := (and2 hm).2
  have hm := (and2 hm).1
  have m3 := (and2 hm).2
  have hm := (and2 hm).1
  have m1 := (and2 hm).1
  have m2 := (and2 hm).2
  refine wpAny_If (T_then (it m1 m2 D.toRd (fun v σ => br_W) h) fun P1 H1 t s1 k1 J1 r1 q1 => ?_)
  obtain ⟨v, e, q1⟩ := q1
  rw [e] at q1
  cases t with
  | true => exact S_up k1 r1 (ia m3 (D.to J1) q1)
  | false => exact S_up k1 r1 (ib m4 (D.to J1) q1)
theorem asg_comp {i : Nat} {e : CE} (ic : ∀ elt it caps, e = .comp elt it caps → ES prog w K G d GT BT elt ∧ ES prog w K G d GT BT it)
    (ic2 : ∀ elt it it2, e = .comp2 elt it it2 → ES prog w K G d GT BT elt ∧ ES prog w K G d GT BT it ∧ ES prog w K G d GT BT it2) {y : Str} {py spos pos : Pos} {elt : Expr} {gens : List Comprehension} {scope : Scope} {R : Fl → St → Prop} {X : St → Prop}
    (D : RdS G d sc nm env c L P σ s.heap) (h : ewp (CPs prog w K G d) e (fun v τ => R .next (setL τ i v)) X σ)
    (m1 : nm[i]? = some y) (m2 : sc.names.lookup y = some .local) (m3 : mE GT BT sc nm e (.ListComp elt gens scope pos) = true) (m4 : py.line = pos.line) (m5 : hasName scope y = false) :
    wpAny (model prog w) c.A (exec (.Assign [.Name y py] (.ListComp elt gens scope pos) spos) env) (PS G c L ⟨nm, env⟩ P s R) (PX G c L ⟨nm, env⟩ P s X) s := by
  have hsw : swapsWith (.ListComp elt gens scope pos) (some (.Name y py)) spos.line env = pure true := by
    unfold swapsWith
    show (pure (env.blockKind == .function && env.kindOf y == some .local && py.line == pos.line && !hasName scope y) : Sem Bool) = pure true
    have hb : env.blockKind = .function := by
      unfold Env.blockKind; rw [D.eo.se, D.eo.k]; rfl
    rw [hb, D.eo.local m2, m4, m5]; simp only [beq_self_eq_true, Bool.and_self, Bool.not_false]
  rw [exec_Assign_Name_used _ _ _ _ hsw]
  refine wpAny_bind (wpAny_standAt (wpAny_bind ?_))
  have fin : ∀ {Da C : Addr} {s' : Shared} {P' : PM} {H' : HM} {zs : List AV}, Done G c L ⟨nm, env⟩ P s Da C s' P' σ.loc H' zs → R .next (setL ⟨σ.loc, H'⟩ i (.lst zs)) → compPost (model prog w) c.A (PX G c L ⟨nm, env⟩ P s X) (some (assign (.Name y py) env)) (fun _ s' => PS G c L ⟨nm, env⟩ P s R .next s') (.ref Da) C (.ok .next) s' :=
    fun X' q => fin_asg X' D.eo m1 D.nd m2 fun P'' s'' k J r => ⟨P'', _, k, J, r, q⟩
  have z := compE m3
  clear m3
  obtain ⟨_, _, _, x, px, iter, m3⟩ | ⟨_, _, _, x, px, iter, y2, py2, iter2, m3⟩ := z
  · exact wpAny_bind (wpAny_mono (comp_use (use := some (assign (.Name y py) env)) (Q := fun _ s' => PS G c L ⟨nm, env⟩ P s R .next s') (ic _ _ _ rfl).1 (ic _ _ _ rfl).2 m3 D.toRd h.1 h.2 fun Da C s' P' H' zs X' q => fin X' q) (fun _ s' hq => wpAny_pure (wpAny_pure hq)) fun _ _ e => e)
  · exact wpAny_bind (wpAny_mono (comp2_use (use := some (assign (.Name y py) env)) (Q := fun _ s' => PS G c L ⟨nm, env⟩ P s R .next s') (Qc := fun ys H' => R .next (setL ⟨σ.loc, H'⟩ i (.lst ys))) (ic2 _ _ _ rfl).1 (ic2 _ _ _ rfl).2.1 (ic2 _ _ _ rfl).2.2 m3 D.toRd h fun Da C s' P' H' zs X' q => fin X' q) (fun _ s' hq => wpAny_pure (wpAny_pure hq)) fun _ _ e => e)
theorem so_asg {i : Nat} {e : CE} (ie : ES prog w K G d GT BT e) (ic : ∀ elt it caps, e = .comp elt it caps → ES prog w K G d GT BT elt ∧ ES prog w K G d GT BT it)
    (ic2 : ∀ elt it it2, e = .comp2 elt it it2 → ES prog w K G d GT BT elt ∧ ES prog w K G d GT BT it ∧ ES prog w K G d GT BT it2) : SO prog w K G d GT BT (.asg i e) := by
  intro x sc nm env c L P σ s R X hm D h
  apply onAsg_el hm
  intro t v p hm
  apply onName_el hm
  intro y py hm
  have m4 := (and2 hm).2
  have hm := (and2 hm).1
  have m1 := (and2 hm).1
  have m3 := (and2 hm).2
  have m2 := (isLoc_inv m1).2
  have m1 := (isLoc_inv m1).1
  rcases Bool.or_eq_true_iff.mp m4 with m4 | m4
  · refine wpAny_Assign_Name (E_then (ie m3 D.toRd h) fun P1 H1 va u s1 k1 J1 r1 ru q1 => ?_) (swap_no m4)
    exact store_sound J1 D.eo m1 D.nd m2 ru fun h' tk J _ => PS.nx k1 r1 J q1
  · revert m3
    apply onComp_el m4
    intro _ _ _ _ m4 m3
    have m5 := (and2 m4).2
    have m4 := (and2 m4).1
    exact asg_comp ic ic2 D h m1 m2 m3 (beq_iff_eq.mp m4) (by simpa using m5)
theorem so_seta (g : Glo K p loose mg mb G) {o e : CE} {n : Str} (io : ES prog w K G d GT BT o) (ie : ES prog w K G d GT BT e) : SO prog w K G d GT BT (.seta o n e) := by
  intro x sc nm env c L P σ s R X hm D h
  apply onAsg_el hm
  intro t y p hm
  apply onAttr_el hm
  intro v a q hm
  have m3 := (and2 hm).2
  have hm := (and2 hm).1
  have m2 := (and2 hm).2
  have hm := (and2 hm).1
  have m0 := (and2 hm).1
  have m1 := (and2 hm).2
  obtain rfl := beq_iff_eq.mp m0
  refine plainObj_wpAny_Assign_Attribute (E_then (ie m2 D.toRd h) fun P1 H1 va u s1 k1 J1 r1 ru q1 => X_up k1 r1 (E_then (io m1 (D.toRd.to J1) q1) fun P2 H2 vo v s2 k2 J2 r2 rv q2 => ?_)) (swap_no m3)
  refine wpAny_mono (setaW_sound (σ := ⟨σ.loc, H2⟩) (E := fun _ _ => False) g J2 rv (ru.mono k2) q2) (fun _ s3 z => ?_) fun _ _ z => z.elim
  obtain ⟨H3, J3, r3, q3⟩ := z
  exact ⟨P2, _, k1.trans k2, J3, (r1.trans r2).trans r3, q3⟩
theorem load_local {i : Nat} {x : Str} {v : AV} {A : Around} {E : Value → Shared → Prop} {Q : Value → Shared → Prop} (I : FInv G c L ⟨nm, env⟩ P σ s.heap) (eo : EnvOk sc env L)
    (hn : nm[i]? = some x) (hk : sc.names.lookup x = some .local) (hl : σ.loc[i]? = some (some v)) (h : ∀ u, VR P v u → Q u s) : wpAny (model prog w) A (loadName env x) Q E s := by
  obtain ⟨m, hm, lr⟩ := I.f
  have hx : env.kindOf x = some .local := eo.local hk
  obtain ⟨u, a, b⟩ := (lr i x v hn hl).1 hx
  exact wpAny_loadName_local (by rw [eo.se]; exact eo.k) hx (by rw [eo.l]; exact hm) a (h u b)
theorem load_cell {i : Nat} {x : Str} {ca : Addr} {v : AV} {A : Around} {E : Value → Shared → Prop} {Q : Value → Shared → Prop} (I : FInv G c L ⟨nm, env⟩ P σ s.heap) (eo : EnvOk sc env L)
    (hn : nm[i]? = some x) (hk : sc.names.lookup x = some .cell) (hl : σ.loc[i]? = some (some (.ref ca))) (hc : σ.H ca = some (.cell (some v))) (h : ∀ u, VR P v u → Q u s) : wpAny (model prog w) A (loadName env x) Q E s := by
  obtain ⟨m, hm, lr⟩ := I.f
  have hx : env.kindOf x = some .cell := eo.local hk
  obtain ⟨ca', e, e2⟩ := (lr i x _ hn hl).2 hx
  cases e
  obtain ⟨o, o1, ⟨u, o2, y, rfl, ry⟩, _⟩ := I.at hc
  exact wpAny_loadName_cell (by rw [eo.se]; exact eo.k) hx e2 ⟨_, o1, o2⟩ (h y ry)
theorem store_cell {i : Nat} {x : Str} {ca : Addr} {y : Option AV} {v : AV} {u : Value} {A : Around} {E : Value → Shared → Prop} {Q : Unit → Shared → Prop} (I : FInv G c L ⟨nm, env⟩ P σ s.heap) (eo : EnvOk sc env L)
    (hn : nm[i]? = some x) (hk : sc.names.lookup x = some .cell) (hl : σ.loc[i]? = some (some (.ref ca))) (hc : σ.H ca = some (.cell y)) (r : VR P v u)
    (h : ∀ h', FInv G c L ⟨nm, env⟩ P ⟨σ.loc, σ.H.set ca (.cell (some v))⟩ h' → Q () { s with heap := h' }) : wpAny (model prog w) A (storeName env x u) Q E s := by
  obtain ⟨m, hm, lr⟩ := I.f
  have hx : env.kindOf x = some .cell := eo.local hk
  obtain ⟨ca', e, e2⟩ := (lr i x _ hn hl).2 hx
  cases e
  obtain ⟨o, o1, ⟨w', o2, _⟩, o3, o4, o5, o6⟩ := I.at hc
  refine wpAny_storeName_cell (by rw [eo.se]; exact eo.k) hx e2 ⟨_, o1, o2⟩ fun h' ic sb => h h' ?_
  obtain ⟨o', e3, e4⟩ := ic
  exact I.setH (x := .cell (some v)) (fun b y nb e => sb.extBut b y nb e) e3 ⟨some u, e4, u, rfl, r⟩ o3 o4 o5 o6
theorem aug_el {sc : Scope} {nm : List Str} {i : Nat} {op : Operator} {e : CE} {k : NameKind} {x : Stmt} {C : Stmt → Prop} (hm : (onAug x fun t o v => onName t fun x _ => isLoc sc nm i k x && op == o && mE GT BT sc nm e v) = true)
    (h : ∀ y py v p, nm[i]? = some y → sc.names.lookup y = some k → mE GT BT sc nm e v = true → C (.AugAssign (.Name y py) op v p)) : C x := by
  apply onAug_el hm
  intro t o v p hm
  apply onName_el hm
  intro y py hm
  have m3 := (and2 hm).2
  have hm := (and2 hm).1
  have m1 := (and2 hm).1
  have m2 := (and2 hm).2
  obtain rfl := beq_iff_eq.mp m2
  exact h y py v p (isLoc_inv m1).1 (isLoc_inv m1).2 m3
theorem so_aug {i : Nat} {op : Operator} {e : CE} (ie : ES prog w K G d GT BT e) : SO prog w K G d GT BT (.aug i op e) := by
  intro x sc nm env c L P σ s R X hm D h
  apply aug_el hm
  intro y py v p m1 m2 m3
  obtain ⟨old, ho, h⟩ := locL_some h
  refine wpAny_AugAssign_Name (load_local D.I D.eo m1 m2 ho fun u0 r0 => E_then (ie m3 D.toRd h) fun P1 H1 va u s1 k1 J1 r1 ru q1 => ?_)
  refine wpAny_mono (augW_sound (σ := ⟨σ.loc, H1⟩) (E := fun _ _ => False) J1 (r0.mono k1) ru q1) (fun v s2 z => ?_) fun _ _ z => z.elim
  obtain ⟨P2, H2, av, k2, J2, r2, rv, q2⟩ := z
  exact store_sound J2 D.eo m1 D.nd m2 rv fun h' tk J _ => PS.nx (k1.trans k2) (r1.trans r2) J q2
theorem so_augC {i : Nat} {op : Operator} {e : CE} (ie : ES prog w K G d GT BT e) : SO prog w K G d GT BT (.augC i op e) := by
  intro x sc nm env c L P σ s R X hm D h
  apply aug_el hm
  intro y py v p m1 m2 m3
  obtain ⟨ca, old, ho, hc, h⟩ := cellW_some h
  refine wpAny_AugAssign_Name (load_cell D.I D.eo m1 m2 ho hc fun u0 r0 => E_then (ie m3 D.toRd h) fun P1 H1 va u s1 k1 J1 r1 ru q1 => ?_)
  refine wpAny_mono (augW_sound (σ := ⟨σ.loc, H1⟩) (E := fun _ _ => False) J1 (r0.mono k1) ru q1) (fun v s2 z => ?_) fun _ _ z => z.elim
  obtain ⟨P2, H2, av, k2, J2, r2, rv, q2⟩ := z
  obtain ⟨_, q2, rfl, y, q3, q4⟩ := locL_some q2
  exact store_cell J2 D.eo m1 m2 q2 q3 rv fun h' J => PS.nx (tk := s2.toks) (k1.trans k2) (r1.trans r2) J q4
theorem so_asgC {i : Nat} {e : CE} (ie : ES prog w K G d GT BT e) : SO prog w K G d GT BT (.asgC i e) := by
  intro x sc nm env c L P σ s R X hm D h
  apply onAsg_el hm
  intro t v p hm
  apply onName_el hm
  intro y py hm
  have m4 := (and2 hm).2
  have hm := (and2 hm).1
  have m1 := (and2 hm).1
  have m3 := (and2 hm).2
  have m2 := (isLoc_inv m1).2
  have m1 := (isLoc_inv m1).1
  refine wpAny_Assign_Name (E_then (ie m3 D.toRd h) fun P1 H1 va u s1 k1 J1 r1 ru q1 => ?_) (swap_no m4)
  obtain ⟨_, q2, ca, y, rfl, q3, q4⟩ := locL_some q1
  exact store_cell J1 D.eo m1 m2 q2 q3 ru fun h' J => PS.nx (tk := s1.toks) k1 r1 J q4
theorem so_auga (g : Glo K p loose mg mb G) {o e : CE} {n : Str} {op : Operator} (io : ES prog w K G d GT BT o) (ie : ES prog w K G d GT BT e) : SO prog w K G d GT BT (.auga o n op e) := by
  intro x sc nm env c L P σ s R X hm D h
  apply onAug_el hm
  intro t o' y p hm
  apply onAttr_el hm
  intro v a q hm
  have m2 := (and2 hm).2
  have hm := (and2 hm).1
  have m1 := (and2 hm).2
  have hm := (and2 hm).1
  have m3 := (and2 hm).1
  have m4 := (and2 hm).2
  obtain rfl := beq_iff_eq.mp m3
  obtain rfl := beq_iff_eq.mp m4
  refine wpAny_AugAssign_AttributeAny (E_then (io m1 D.toRd h) fun P1 H1 vo uo s1 k1 J1 r1 ru q1 => ?_)
  refine wpAny_mono (getaW_sound (σ := ⟨σ.loc, H1⟩) (E := fun _ _ => False) g J1 ru q1) (fun v0 s2 z => ?_) fun _ _ z => z.elim
  obtain ⟨P2, old, k2, J2, r2, r0, q2⟩ := z
  refine X_up (k1.trans k2) (r1.trans r2) (E_then (ie m2 (D.toRd.to J2) q2) fun P3 H3 va u s3 k3 J3 r3 rv q3 => ?_)
  refine wpAny_mono (augW_sound (σ := ⟨σ.loc, H3⟩) (E := fun _ _ => False) J3 (r0.mono k3) rv q3) (fun v s4 z => ?_) fun _ _ z => z.elim
  obtain ⟨P4, H4, av, k4, J4, r4, rr, q4⟩ := z
  refine wpAny_mono (setaW_sound (σ := ⟨σ.loc, H4⟩) (E := fun _ _ => False) g J4 (((ru.mono k2).mono k3).mono k4) rr q4) (fun _ s5 z => ?_) fun _ _ z => z.elim
  obtain ⟨H5, J5, r5, q5⟩ := z
  exact ⟨P4, _, ((k1.trans k2).trans k3).trans k4, J5, (((r1.trans r2).trans r3).trans r4).trans r5, q5⟩
theorem swapped_none {ts : List Expr} {k : Nat} {tp : Pos} {v : Expr} (h : notTup v = true) : swappedStores [.Tuple ts k tp] v env = pure none := by
  cases v <;> first | rfl | cases h
theorem tgs_sound (g : Glo K p loose mg mb G) : ∀ {ts : List Tg} {elts : List Expr} {vs : List AV} {us : List Value} {P : PM} {σ : St} {s : Shared} {k : St → Prop} {X : St → Prop},
    (∀ o n, Tg.attr o n ∈ ts → ES prog w K G d GT BT o) → mTs GT BT sc nm ts elts = true → RdS G d sc nm env c L P σ s.heap → VRs P vs us → tgsW (CPs prog w K G d) X ts vs k σ →
    wpAny (model prog w) c.A (assignInOrder ((assignEach elts env).map (·.2)) us) (fun _ s' => ∃ P' σ', PLe P P' ∧ FInv G c L ⟨nm, env⟩ P' σ' s'.heap ∧ Rest s s' ∧ k σ') (PX G c L ⟨nm, env⟩ P s X) s
  | [], elts, vs, us, P, σ, s, k, X, ht, hm, D, rv, h => by
    obtain ⟨h⟩ := nilW_some h
    obtain rfl := List.isEmpty_iff.mp hm
    cases rv
    exact wpAny_assignInOrder_none ⟨P, σ, PLe.refl _, D.I, Rest.refl _, h⟩
  | t :: ts, [], vs, us, P, σ, s, k, X, ht, hm, D, rv, h => by cases hm
  | t :: ts, x :: xs, vs, us, P, σ, s, k, X, ht, hm, D, rv, h => by
    have m1 := (and2 hm).1
    have m3 := (and2 hm).2
    cases rv with
    | nil => exact h.elim
    | cons v u vs us a b =>
      cases t with
      | loc i =>
        apply onName_el m1
        intro y py m1
        have m2 := (isLoc_inv m1).2
        have m1 := (isLoc_inv m1).1
        refine wpAny_assignInOrder_more (wpAny_assign_Name (store_sound D.I D.eo m1 D.nd m2 a fun h' tk J _ => ?_))
        refine wpAny_mono (tgs_sound g (s := { s with heap := h', toks := tk }) (fun o n m => ht o n (.tail _ m)) m3 (D.to J) b h) (fun _ s2 z => ?_) fun _ _ z => PX.up (s1 := { s with heap := h', toks := tk }) (PLe.refl _) ⟨rfl, rfl, rfl⟩ z
        obtain ⟨P', σ', z1, z2, z3, z4⟩ := z
        exact ⟨P', σ', z1, z2, Rest.trans ⟨rfl, rfl, rfl⟩ z3, z4⟩
      | attr o n =>
        apply onAttr_el m1
        intro y n' py m1
        have m2 := (and2 m1).2
        have m1 := (and2 m1).1
        obtain rfl := beq_iff_eq.mp m1
        refine wpAny_assignInOrder_more ?_
        show wpAny _ _ (assign (.Attribute _ _ _) env u) _ _ _
        rw [assign_Attribute]
        refine wpAny_bind (wpAny_holding (E_then (ht _ _ (.head _) m2 D.toRd h) fun P1 H1 vo w' s1 k1 J1 r1 ro q1 => wpAny_bind (wpAny_standAt (wpAny_bind (wpAny_holding ?_)))))
        refine wpAny_mono (setaW_sound (σ := ⟨σ.loc, H1⟩) (E := fun _ _ => False) g J1 ro (a.mono k1) q1) (fun _ s2 z => ?_) fun _ _ z => z.elim
        obtain ⟨H2, J2, r2, q2⟩ := z
        refine wpAny_release' ?_
        refine wpAny_mono (tgs_sound g (s := s2) (fun o n m => ht o n (.tail _ m)) m3 (D.to J2) (b.mono k1) q2) (fun _ s3 z => ?_) fun _ _ z => z.up k1 (r1.trans r2)
        obtain ⟨P', σ', z1, z2, z3, z4⟩ := z
        exact ⟨P', σ', k1.trans z1, z2, (r1.trans r2).trans z3, z4⟩
noncomputable def plainTg (e : Expr) : Bool := e.ctorIdx == 23 || e.ctorIdx == 20
theorem eachOne {x : Expr} {xs : List Expr} (h : plainTg x = true) : ∃ m, assignEach (x :: xs) env = (false, m) :: assignEach xs env := by
  rcases Bool.or_eq_true_iff.mp h with e | e
  · exact @PySem.Expr.Name.elim (fun x => ∃ m, assignEach (x :: xs) env = (false, m) :: assignEach xs env) x (beq_iff_eq.mp e) fun _ _ => ⟨_, rfl⟩
  · exact @PySem.Expr.Attribute.elim (fun x => ∃ m, assignEach (x :: xs) env = (false, m) :: assignEach xs env) x (beq_iff_eq.mp e) fun _ _ _ => ⟨_, rfl⟩
theorem eachP : ∀ {elts : List Expr}, elts.all plainTg = true → (assignEach elts env).findIdx? (·.1) = none ∧ (assignEach elts env).length = elts.length
  | [], _ => ⟨rfl, rfl⟩
  | x :: xs, h => by
    obtain ⟨a, b⟩ := eachP (elts := xs) (and2 h).2
    obtain ⟨m, e⟩ := eachOne (env := env) (xs := xs) (and2 h).1
    rw [e, List.findIdx?_cons, if_neg nofun, a]
    exact ⟨rfl, congrArg (· + 1) b⟩
theorem mTs_plain : ∀ {ts : List Tg} {elts : List Expr}, mTs GT BT sc nm ts elts = true → elts.all plainTg = true ∧ elts.length = ts.length
  | [], elts, h => by obtain rfl := List.isEmpty_iff.mp h; exact ⟨rfl, rfl⟩
  | t :: ts, [], h => by cases h
  | t :: ts, x :: xs, h => by
    have m1 := (and2 h).1
    have m3 := (and2 h).2
    obtain ⟨a, b⟩ := mTs_plain m3
    have e : plainTg x = true := by
      cases t with
      | loc i => exact onName_el (C := fun x => plainTg x = true) m1 fun _ _ _ => rfl
      | attr o n => exact onAttr_el (C := fun x => plainTg x = true) m1 fun _ _ _ _ => rfl
    exact ⟨by rw [List.all_cons, e, a]; rfl, congrArg (· + 1) b⟩
theorem mNs_plain : ∀ {ts : List Nat} {elts : List Expr}, mNs sc nm ts elts = true → elts.all plainTg = true ∧ elts.length = ts.length
  | [], elts, h => by obtain rfl := List.isEmpty_iff.mp h; exact ⟨rfl, rfl⟩
  | t :: ts, [], h => by cases h
  | t :: ts, x :: xs, h => by
    have m1 := (and2 h).1
    have m3 := (and2 h).2
    obtain ⟨a, b⟩ := mNs_plain m3
    apply onName_el m1
    intro _ _ _
    exact ⟨a, congrArg (· + 1) b⟩
theorem unpack_sound {elts : List Expr} {k : Nat} {tp : Pos} {vs : List AV} {u : Value} {Q : Unit → Shared → Prop} {E : Value → Shared → Prop} (hh : c.A.handled = none) (I : FInv G c L N P σ s.heap) (r : VR P (.tup vs) u)
    (hp : elts.all plainTg = true) (hn : elts.length = vs.length)
    (h : ∀ us h', VRs P vs us → Kp s.heap h' → FInv G c L N P σ h' → wpAny (model prog w) c.A (assignInOrder ((assignEach elts env).map (·.2)) us) Q E { s with heap := h' }) :
    wpAny (model prog w) c.A (assign (.Tuple elts k tp) env u) Q E s := by
  obtain ⟨t, ws, rfl, ht, rs, _, hl⟩ := r.isTup I.s.k
  obtain ⟨hs, hn'⟩ := eachP (env := env) hp
  refine wpAny_assign_Tuple hh ht (by omega) hs fun h' e => ?_
  have kp : Kp s.heap h' := fun b o g => e b o (Nat.ne_of_lt (Heap.lt_size g)) g
  exact h ws.toList h' rs kp (I.keeps kp)
theorem so_asgT (g : Glo K p loose mg mb G) {ts : List Tg} {e : CE} (ie : ES prog w K G d GT BT e) (it : ∀ o n, Tg.attr o n ∈ ts → ES prog w K G d GT BT o) : SO prog w K G d GT BT (.asgT ts e) := by
  intro x sc nm env c L P σ s R X hm D h
  apply onAsg_el hm
  intro t v p hm
  apply onTup_el hm
  intro elts kk tp hm
  have m4 := (and2 hm).2
  have hm := (and2 hm).1
  have m3 := (and2 hm).2
  have hm := (and2 hm).1
  have m1 := (and2 hm).1
  have m2 := (and2 hm).2
  refine wpAny_Assign_stores (E_then (ie m2 D.toRd h) fun P1 H1 va u s1 k1 J1 r1 ru q1 => ?_) (by unfold swapsWithSole; exact swap_no m3) (swapped_none m4)
  unfold onT at q1
  split at q1 <;> try exact q1.elim
  obtain ⟨q0, q1⟩ := q1
  obtain ⟨a1, a2⟩ := mTs_plain m1
  show wpAny _ _ (assign (.Tuple elts kk tp) env u) _ _ _
  refine unpack_sound (k := kk) (tp := tp) D.hh J1 ru a1 (by rw [a2]; exact q0) fun us h' rus kp J2 => ?_
  refine wpAny_mono (tgs_sound g (s := { s1 with heap := h' }) it m1 (D.to J2) rus q1) (fun _ s3 z => ?_) fun _ _ z => PX.up (s1 := { s1 with heap := h' }) k1 (r1.trans ⟨rfl, rfl, rfl⟩) z
  obtain ⟨P', σ', z1, z2, z3, z4⟩ := z
  exact ⟨P', σ', k1.trans z1, z2, r1.trans (Rest.trans ⟨rfl, rfl, rfl⟩ z3), z4⟩
end
end Mine
end
section
open PySem PySem.W PyProof.Rows PySem.Calls PyProof.V PySem.Spec PySem.SeqAt
namespace Mine
section
variable {prog : Program} {w : World} {K : Frag} {p : Program} {loose : List Str} {mg mb : Str → Option Value} {G : Heap} {d : Nat} {GT BT : List (Str × Value)}
variable {sc : Scope} {nm : List Str} {env : Env} {c : Cx} {L : Addr} {N : Nm} {P P' P1 : PM} {l : List (Option AV)} {H H1 : HM} {σ σ1 : St} {s s' s1 : Shared} {h1 : Heap}
theorem names_sound {A : Around} {E : Value → Shared → Prop} : ∀ {is : List Nat} {elts : List Expr} {vs : List AV} {us : List Value} {σ : St} {s : Shared} {k : St → Prop} {Q : Unit → Shared → Prop}, mNs sc nm is elts = true → EnvOk sc env L → nm.Nodup → FInv G c L ⟨nm, env⟩ P σ s.heap → VRs P vs us → setTs is vs σ k →
    (∀ τ h' tk, FInv G c L ⟨nm, env⟩ P τ h' → τ.H = σ.H → (∀ b o, b ≠ L → s.heap.get? b = some o → h'.get? b = some o) → k τ → Q () { s with heap := h', toks := tk }) →
    wpAny (model prog w) A (assignInOrder ((assignEach elts env).map (·.2)) us) Q E s
  | [], elts, vs, us, σ, s, k, Q, hm, eo, nd, I, rv, h, q => by
    obtain ⟨h⟩ := nilW_some h
    obtain rfl := List.isEmpty_iff.mp hm
    cases rv
    exact wpAny_assignInOrder_none (q σ s.heap s.toks I rfl (fun _ _ _ e => e) h)
  | i :: is, [], vs, us, σ, s, k, Q, hm, eo, nd, I, rv, h, q => by cases hm
  | i :: is, x :: xs, vs, us, σ, s, k, Q, hm, eo, nd, I, rv, h, q => by
    have m1 := (and2 hm).1
    have m3 := (and2 hm).2
    apply onName_el m1
    intro y py m1
    have m2 := (isLoc_inv m1).2
    have m1 := (isLoc_inv m1).1
    cases rv with
    | nil => exact h.elim
    | cons v u vs us a b =>
      refine wpAny_assignInOrder_more (wpAny_assign_Name (store_sound I eo m1 nd m2 a fun h' tk J k1 => ?_))
      exact names_sound (s := { s with heap := h', toks := tk }) m3 eo nd J b h fun τ h'' tk' J' eH k2 hk => q τ h'' tk' J' eH (fun b o n e => k2 b o n (k1 b o n e)) hk
theorem noted_sound {X : St → Prop} {e : Value} (D : RdS G d sc nm env c L P σ s.heap) (z : PX G c L ⟨nm, env⟩ P s X e s') :
    notedBy (model prog w) c.A env (fun e s'' => cameBackBy (model prog w) c.A env (PX G c L ⟨nm, env⟩ P s X) e s'') e s' := by
  obtain ⟨P1, σ1, k1, J1, r1, x1, q⟩ := z
  obtain ⟨outer, hfr⟩ := D.top
  have st : ∀ e ∈ env :: outer, e.scope.kind ≠ .module ∧ ∃ L' ∈ L :: c.ns.map (·.1), e.frame = some L' := by
    obtain ⟨st, e1, e2⟩ := D.ok.st
    rw [hfr] at e1; cases e1
    exact e2
  refine noteFrame_sound J1 x1 hfr D.fr st fun h2 J2 x2 => ?_
  exact cameBack_sound (s := { s' with heap := h2 }) J2 x2 fun h3 J3 x3 => ⟨P1, σ1, k1, J3, r1.trans ⟨rfl, rfl, rfl⟩, x3.at, q⟩
noncomputable def LR (prog : Program) (w : World) (G : Heap) (c : Cx) (L : Addr) (nm : List Str) (env : Env) (P : PM) (s : Shared) (R : Fl → St → Prop) (X : St → Prop) (r : Result) (s' : Shared) : Prop := match r with
  | .ok f => PS G c L ⟨nm, env⟩ P s R f s'
  | .error e => cameBackBy (model prog w) c.A env (PX G c L ⟨nm, env⟩ P s X) e s'
theorem LR_error {X : St → Prop} {R : Fl → St → Prop} {e : Value} (D : RdS G d sc nm env c L P σ s.heap) (z : PX G c L ⟨nm, env⟩ P s X e s') :
    notedBy (model prog w) c.A env (fun e s'' => LR prog w G c L nm env P s R X (.error e) s'') e s' := noted_sound D z
theorem so_wh {t : CE} {b : CSs} (it : TS prog w K G d GT BT t) (ib : SOs prog w K G d GT BT b) : SO prog w K G d GT BT (.wh t b) := by
  intro x sc nm env c L P σ s R X hm D h
  apply onWhile_el hm
  intro test body z pos hm
  have m2 := (and2 hm).2
  have hm := (and2 hm).1
  have mt := (and2 hm).2
  have hm := (and2 hm).1
  have m0 := (and2 hm).1
  have m1 := (and2 hm).2
  obtain rfl := List.isEmpty_iff.mp m0
  refine wpAny_While (codeAny_mono (R := LR prog w G c L nm env P s R X) ?_ fun r s' z => by cases r <;> exact z)
  refine h (fun τ => ∀ P1 s1, PLe P P1 → FInv G c L ⟨nm, env⟩ P1 τ s1.heap → Rest s s1 → codeAny (model prog w) c.A (.whileLoop test body [] env) (LR prog w G c L nm env P s R X) s1) (fun τ hτ P1 s1 k1 J1 r1 => ?_) P s (PLe.refl _) D.I (Rest.refl _)
  have D1 := D.to J1
  refine while_step (wpAny_mono (it m1 mt D1.toRd (fun v σ => br_W) hτ) (fun t s2 z => ?_) fun e s2 z => LR_error D (z.up k1 r1))
  obtain ⟨P2, H2, k2, J2, r2, v, ev, q2⟩ := z
  rw [ev] at q2
  cases t with
  | false => exact ⟨P2, _, k1.trans k2, J2, r1.trans r2, q2⟩
  | true =>
    refine wpAny_mono (ib m2 (D1.to J2) q2) (fun f s3 z => ?_) fun e s3 z => LR_error D ((z.up k2 r2).up k1 r1)
    obtain ⟨P3, σ3, k3, J3, r3, q3⟩ := z
    have k := (k1.trans k2).trans k3
    have r := (r1.trans r2).trans r3
    cases f with
    | next => exact q3 P3 s3 k J3 r
    | cont => exact q3 P3 s3 k J3 r
    | brk => exact ⟨P3, σ3, k, J3, r, q3⟩
    | ret v => obtain ⟨av, rv, q⟩ := q3; exact ⟨P3, σ3, k, J3, r, av, rv, q⟩
set_option tactic.hygienic true in
theorem bind_sound {E : Value → Shared → Prop} {ts : List Nat} {target : Expr} {v : AV} {u : Value} {k : St → Prop} {Q : Unit → Shared → Prop} (hm : bindOk sc nm ts target = true) (hh : c.A.handled = none) (eo : EnvOk sc env L) (nd : nm.Nodup) (I : FInv G c L ⟨nm, env⟩ P σ s.heap) (r : VR P v u) (h : bindT ts v σ k)
    (q : ∀ τ h' tk, FInv G c L ⟨nm, env⟩ P τ h' → τ.H = σ.H → (∀ b o, b ≠ L → s.heap.get? b = some o → h'.get? b = some o) → k τ → Q () { s with heap := h', toks := tk }) :
    wpAny (model prog w) c.A (assign target env u) Q E s := by
  cases ts with
  | nil => exact h.elim
  | cons i is =>
    cases is with
    | nil =>
      apply onName_el hm
      intro y py m1
      have m2 := (isLoc_inv m1).2
      have m1 := (isLoc_inv m1).1
      exact wpAny_assign_Name (store_sound I eo m1 nd m2 r fun h' tk J k1 => q _ h' tk J rfl k1 h)
    | cons j is =>
      apply onTup_el hm
      intro elts kk tp m1
      replace h : onT v fun vs => setTs (i :: j :: is) vs σ k := h
      unfold onT at h
      split at h <;> try exact h.elim
      rename_i vs
      obtain ⟨a1, a2⟩ := mNs_plain m1
      have hl : ∀ {is : List Nat} {vs : List AV} {σ : St}, setTs is vs σ k → is.length = vs.length := by
        intro is
        induction is with
        | nil => intro vs σ h; obtain ⟨_⟩ := nilW_some h; rfl
        | cons i is ih =>
          intro vs σ h
          cases vs with
          | nil => exact h.elim
          | cons v vs => exact congrArg (· + 1) (ih h)
      refine unpack_sound hh I r a1 (by rw [a2]; exact hl h) fun us h' rus kp J => ?_
      exact names_sound (s := { s with heap := h' }) m1 eo nd J rus h fun τ h'' tk J' eH k1 hk => q τ h'' tk J' eH (fun b o n e => k1 b o n (kp b o e)) hk
theorem ExcAt.unpin {I : Addr} {o : Obj} {h : Heap} {e : Value} (x : ExcAt (pinI c I o) P h e) : ExcAt c P h e := by
  obtain ⟨a, ob, vs, a0, h1, h2, h3, h4, h5, h6, h7, h8⟩ := x
  refine ⟨a, ob, vs, a0, h1, h2, h3, h4, h5, h6, fun q m => h7 q (.tail _ m), ?_⟩
  rcases h8 with h8 | ⟨T, oT, ts, t1, t2, t3, t4, t5, t6, t7⟩
  · exact .inl h8
  · exact .inr ⟨T, oT, ts, t1, t2, t3, t4, t5, t6, fun q m => t7 q (.tail _ m)⟩
theorem own_sound {I : Addr} {items : List AV} {P0 : PM} {Sti : Nat → Heap → Prop} {A : Around} {E : Value → Shared → Prop} {Q : Unit → Shared → Prop} {j : Nat} {v : AV} {u : Value} {ts : List Nat} {target : Expr} (hm : bindOk sc nm ts target = true) (W : WK prog w I P0 items Sti) (hv : items[j]? = some v) (r : VR P0 v u) {i : Nat} (st : Sti i s.heap) (q : Q () s) :
    wpAny (model prog w) A (letOwnedTupleGo target (.ref I) u) Q E s := by
  cases ts with
  | nil => cases hm
  | cons i is =>
    cases is with
    | nil => apply onName_el hm; intro y py m1; exact wpAny_pure q
    | cons j is => apply onTup_el hm; intro elts kk tp m1; exact W.own _ _ _ _ _ _ v _ _ _ (List.mem_of_getElem? hv) r st q
theorem for_loop {I : Addr} {items : List AV} {P0 : PM} {Sti : Nat → Heap → Prop} {ts : List Nat} {target : Expr} {body : List Stmt} {b : CSs} {R : Fl → St → Prop} {X : St → Prop} (ib : SOs prog w K G d GT BT b) (W : WK prog w I P0 items Sti)
    (hb : bindOk sc nm ts target = true) (m2 : mSs GT BT sc nm b body = true) (D : RdS G d sc nm env c L P σ s.heap) :
    ∀ (rest : List AV) (j : Nat) (P1 : PM) (τ : St) (s1 : Shared), items.drop j = rest → j + rest.length = items.length → PLe P P1 → PLe P0 P1 → Rest s s1 → FInv G c L ⟨nm, env⟩ P1 τ s1.heap → Off c L P1 τ.H I → Sti j s1.heap →
      forW (fun v k τ1 => bindT ts v τ1 fun τ2 => swps (CPs prog w K G d) b k X τ2) R rest τ →
      codeAny (model prog w) c.A (.forLoop target (.ref I) body [] env) (LR prog w G c L nm env P s R X) s1 := by
  intro rest
  induction rest with
  | nil =>
    intro j P1 τ s1 hd hjl k1 k0 r1 J oI st h
    have hj : j = items.length := by simpa using hjl
    subst hj
    refine for_step (W.done _ D.hh _ _ _ st fun h1 tk kk => ?_)
    exact ⟨P1, τ, k1, J.butOff oI kk, r1.trans ⟨rfl, rfl, rfl⟩, h⟩
  | cons v rest ih =>
    intro j P1 τ s1 hd hjl k1 k0 r1 J oI st h
    have hv : items[j]? = some v := by
      have := congrArg (fun l => l[0]?) hd
      simpa using this
    have hd' : items.drop (j + 1) = rest := by
      have := congrArg List.tail hd
      simpa using this
    refine for_step (W.item _ D.hh _ _ _ _ v hv st fun u h1 tk ru st1 kk => ?_)
    have J1 := J.butOff oI kk
    refine own_sound (s := { s1 with heap := h1, toks := tk }) hb W hv ru st1 ?_
    refine bind_sound (s := { s1 with heap := h1, toks := tk }) hb D.hh D.eo D.nd J1 (ru.mono k0) h fun τ2 h2 tk2 J2 eH kk2 h2' => ?_
    have oI2 : Off c L P1 τ2.H I := eH ▸ oI
    obtain ⟨o1, i1⟩ := W.ex _ _ st1
    have i2 := kk2 _ _ oI.l i1
    have st2 : Sti (j + 1) h2 := W.fr _ _ _ st1 (fun o e => kk2 _ _ oI.l e) (fun b o e => J2.s.k b o (k0 b o e))
    have J3 := J2.pinned oI2 i2
    have D3 : RdS G d sc nm env (pinI c I o1) L P1 τ2 h2 := ⟨⟨D.eo, D.nd, D.ok, J3⟩, D.top, D.fr⟩
    refine wpAny_mono (ib (s := { s1 with heap := h2, toks := tk2 }) (c := pinI c I o1) m2 D3 h2') (fun f s3 z => ?_) fun e s3 z => ?_
    · obtain ⟨P3, σ3, k3, J4, r3, q3⟩ := z
      obtain ⟨J5, oI5, i5⟩ := J4.unpin oI2
      have k := k1.trans k3
      have r := r1.trans (Rest.trans ⟨rfl, rfl, rfl⟩ r3)
      have st5 : Sti (j + 1) s3.heap := W.fr _ _ _ st2 (fun o e => by rw [i2] at e; cases e; exact i5) (fun b o e => J5.s.k b o (k3 _ _ (k0 b o e)))
      cases f with
      | next => exact ih (j + 1) P3 σ3 s3 hd' (by simp at hjl; omega) k (k0.trans k3) r J5 oI5 st5 q3
      | cont => exact ih (j + 1) P3 σ3 s3 hd' (by simp at hjl; omega) k (k0.trans k3) r J5 oI5 st5 q3
      | brk => exact ⟨P3, σ3, k, J5, r, q3⟩
      | ret v =>
        obtain ⟨av, rv, q⟩ := q3
        exact ⟨P3, σ3, k, J5, r, av, rv, q⟩
    · obtain ⟨P3, σ3, k3, J4, r3, x3, q3⟩ := z
      obtain ⟨J5, oI5, i5⟩ := J4.unpin oI2
      exact LR_error D ⟨P3, σ3, k1.trans k3, J5, r1.trans (Rest.trans ⟨rfl, rfl, rfl⟩ r3), x3.unpin, q3⟩
theorem so_for {ts : List Nat} {it : CE} {b : CSs} (ii : ES prog w K G d GT BT it) (ib : SOs prog w K G d GT BT b) : SO prog w K G d GT BT (.forr ts it b) := by
  intro x sc nm env c L P σ s R X hm D h
  apply onFor_el hm
  intro target iter body oe pos hm
  have m2 := (and2 hm).2
  have hm := (and2 hm).1
  have m0 := (and2 hm).2
  have hm := (and2 hm).1
  have m1 := (and2 hm).2
  have hm := (and2 hm).1
  have m3 := (and2 hm).1
  have hb := (and2 hm).2
  obtain rfl := List.isEmpty_iff.mp m3
  refine wpAny_For (E_then (ii m1 D.toRd h) fun P1 H1 va u s1 k1 J1 r1 ru q1 => ?_) (fun x => folded_pure m0 env x)
  obtain ⟨items, e, hz, q⟩ := withO_some q1
  refine iter_sound J1 D.hh ru e hz fun o Sti W st0 g0 => ?_
  have nn := size_none s1.heap
  obtain ⟨f1, f2, f3, f4, f5⟩ := J1.free nn
  refine codeAny_mono (R := LR prog w G c L nm env P s R X) ?_ fun r s' z => by cases r <;> exact z
  exact for_loop (s := s) ib W hb m2 D items 0 P1 ⟨σ.loc, H1⟩ { s1 with heap := s1.heap.push o } rfl (by simp) k1 (PLe.refl _) (r1.trans ⟨rfl, rfl, rfl⟩) (J1.keeps (Kp.push _ _)) ⟨f1, f2, f3, f4, f5⟩ st0 q
theorem exc_type {e : Value} (x : ExcAt c P s.heap e) : Looks (model prog w) s.heap (typeOf e) (.ref DIE) ∧ ∃ a, e = .ref a ∧ Looks (model prog w) s.heap (isType e) false := by
  obtain ⟨a, o, vs, a0, rfl, h2, h3, h4, _⟩ := x
  refine ⟨?_, a, rfl, ?_⟩
  · have := (Looks.ld (M := model prog w) (part := some headPart) h2).andThen (f := fun o => pure o.cls) (b := .ref DIE) (Looks.of_pure (by rw [h3]))
    exact this
  · have := (Looks.ld (M := model prog w) (part := some headPart) h2).andThen (f := fun o => pure (match o.data with | .cls _ => true | _ => false)) (b := false) (Looks.of_pure (by rw [h4]))
    exact this
theorem raise_of {x : Sem Value} {Q : Flow → Shared → Prop} {X : St → Prop} (g : Glo K p loose mg mb G) (ge : GloE K) (hh : c.A.handled = none)
    (h : wpAny (model prog w) c.A x (fun v s₁ => ∃ P1 σ1, PLe P P1 ∧ FInv G c L N P1 σ1 s₁.heap ∧ Rest s s₁ ∧ ExcAt c P1 s₁.heap v ∧ X σ1) (PX G c L N P s X) s) :
    wpAny (model prog w) c.A (raiseStmt env (some x) none) Q (PX G c L N P s X) s := by
  unfold raiseStmt
  refine wpAny_bind (wpAny_mono h (fun v s1 z => ?_) fun _ _ z => z)
  obtain ⟨P1, σ1, k1, J1, r1, x1, q1⟩ := z
  obtain ⟨L1, a, rfl, L2⟩ := exc_type (prog := prog) (w := w) x1
  have X1 := J1.s.kin g
  have L3 : Looks (model prog w) s1.heap (isSubtype (.ref DIE) (.type "BaseException")) true := looks_subIn X1 ge.b
  have L4 : Looks (model prog w) s1.heap (typeOf (.ref DIE)) (.type "type") := looks_typeIn X1 ge.t
  refine wpAny_bind (wpAny_pure ?_)
  refine wpAny_bind (wpAny_holding ?_)
  unfold excFromValue isExcClass
  refine wpAny_bind (wpAny_bind (L2.here ?_))
  rw [if_neg Bool.false_ne_true]
  refine wpAny_pure ?_
  rw [if_neg Bool.false_ne_true]
  unfold isInstance
  refine wpAny_bind (wpAny_bind (L1.here (L3.here ?_)))
  rw [if_pos rfl]
  refine wpAny_pure ?_
  refine wpAny_bind (L2.here ?_)
  dsimp only
  rw [if_neg Bool.false_ne_true]
  unfold raisedInstance
  refine wpAny_bind (wpAny_bind (L1.here (wpAny_bind (L4.here ?_))))
  rw [if_pos (by decide)]
  refine wpAny_pure ?_
  refine wpAny_bind (setFlight_sound J1 x1 fun h2 J2 x2 _ => ?_)
  exact wpAny_raiseNew_none hh ⟨P1, σ1, k1, J2, r1.trans ⟨rfl, rfl, rfl⟩, x2, q1⟩
theorem so_raise (g : Glo K p loose mg mb G) (ge : GloE K) (T : Tabs K GT BT) (Dm : DieS prog w G d) {e : CE} (ie : ES prog w K G d GT BT e) : SO prog w K G d GT BT (.raise e) := by
  intro x sc nm env c L P σ s R X hm D h
  apply onRaise_el hm
  intro y z pos hm
  have m0 := (and2 hm).1
  have hm := (and2 hm).2
  obtain rfl := Option.isNone_iff_eq_none.mp m0
  cases y with
  | none => cases hm
  | some y =>
  apply onCall_el hm
  intro f xs ks p2 hm
  have m4 := (and2 hm).2
  have hm := (and2 hm).1
  have m3 := (and2 hm).1
  have hm := (and2 hm).2
  obtain rfl := List.isEmpty_iff.mp m3
  apply onName_el hm
  intro x p1 hm
  apply isDie_el hm
  intro m1 m2
  apply oneX_el m4
  intro y m4
  have m3 := (and2 m4).1
  have m4 := (and2 m4).2
  rw [arm_exec_Raise]
  refine wpAny_bind (wpAny_standAt ?_)
  show wpAny _ _ (raiseStmt env (some (do let v ← eval (.Call (.Name dieS p1) [y] [] p2) env; standAt pos; pure v)) none) _ _ _
  refine raise_of g ge D.hh (wpAny_bind ?_)
  refine wpAny_mono (Q := fun v s₁ => ∃ P1 σ1, PLe P P1 ∧ FInv G c L ⟨nm, env⟩ P1 σ1 s₁.heap ∧ Rest s s₁ ∧ ExcAt c P1 s₁.heap v ∧ X σ1) (E := PX G c L ⟨nm, env⟩ P s X) ?_ (fun v s1 z => wpAny_bind (wpAny_standAt (wpAny_pure z))) fun _ _ z => z
  refine wpAny_Call_ofName (name_global g T D.I D.eo m1 (by decide) (.inl m2) ?_)
  refine callWith_cons (Z := fun h => K.In h) (first := []) m3 rfl (fun h z => keeps_K ge.k h z) (wpAny_items_cons (E_then (ie m4 D.toRd h) fun P1 H1 va u s1 k1 J1 r1 ru q1 => wpAny_items_nil ⟨J1.s.kin g, ?_⟩) (star_cons m3))
  refine wpAny_mono (Dm D.ok J1 ru) (fun r s2 z => ?_) fun _ _ z => z.elim
  obtain ⟨P2, k2, J2, r2, x2⟩ := z
  exact ⟨P2, _, k1.trans k2, J2, r1.trans r2, x2, q1⟩
theorem FInv.other {A : Around} {h : Heap} (I : FInv G c L N P σ h) : FInv G ⟨A, c.ns, c.pins⟩ L N P σ h := ⟨⟨I.s.g, I.s.k, I.s.ns, I.s.pins, I.s.np, I.s.led⟩, I.f, I.p, I.hl, I.pin, I.nsl⟩
theorem FInv.back {A : Around} {h : Heap} (I : FInv G ⟨A, c.ns, c.pins⟩ L N P σ h) : FInv G c L N P σ h := ⟨⟨I.s.g, I.s.k, I.s.ns, I.s.pins, I.s.np, I.s.led⟩, I.f, I.p, I.hl, I.pin, I.nsl⟩
theorem so_try (g : Glo K p loose mg mb G) (ge : GloE K) (T : Tabs K GT BT) {b : CSs} {cls : Str} (ib : SOs prog w K G d GT BT b) : SO prog w K G d GT BT (.tryx b cls) := by
  intro x sc nm env c L P σ s R X hm D h
  apply onTry_el hm
  intro y hs oe fb pos hm
  have m3 := (and2 hm).2
  have hm := (and2 hm).1
  have m4 := (and2 hm).2
  have hm := (and2 hm).1
  have m1 := (and2 hm).1
  have m2 := (and2 hm).2
  obtain rfl := List.isEmpty_iff.mp m1
  obtain rfl := List.isEmpty_iff.mp m2
  apply onH_el m4
  intro x px ca cb pr ph m4
  apply isDie_el m4
  intro m1 m2
  refine wpAny_Try_except (wpAny_mono (ib m3 D h) (fun f s1 z => ?_) fun e s1 z => ?_)
  · cases f with
    | next => exact wpAny_execs_nil z
    | cont => exact z
    | brk => exact z
    | ret v => exact z
  · obtain ⟨P1, σ1, k1, J1, r1, x1, q⟩ := z
    replace q : R (.ret .none) σ1 := q
    obtain ⟨outer, hfr⟩ := D.top
    have st : ∀ e ∈ env :: outer, e.scope.kind ≠ .module ∧ ∃ L' ∈ L :: c.ns.map (·.1), e.frame = some L' := by
      obtain ⟨st, e1, e2⟩ := D.ok.st
      rw [hfr] at e1; cases e1
      exact e2
    refine noteFrame_sound J1 x1 hfr D.fr st fun h2 J2 x2 => ?_
    refine setFlight_sound (s := { s1 with heap := h2 }) J2 x2.at fun h3 J3 x3 x3' => ?_
    obtain ⟨a, o, vs, a0, e1, e2, e3, e4, _⟩ := id x3
    subst e1
    have LT : Looks (model prog w) h3 (typeOf (.ref a)) (.ref DIE) := (exc_type (prog := prog) (w := w) (s := { s1 with heap := h3 }) x3).1
    refine wpAny_handleBy_cons (codeAny_handlers_test (s := { s1 with heap := h3 }) (name_global g T (s := { s1 with heap := h3 }) J3 D.eo m1 (by decide) (.inl m2) ?_)) (by intro q; cases q)
    refine (exm_one (M := model prog w) (J3.s.kin g) LT ge.m).here (s := { s1 with heap := h3 }) ?_
    rw [if_pos rfl]
    refine codeAny_handlers_suite ?_
    refine setFlight_sound (c := ⟨c.A.mark (some (.ref a)), c.ns, c.pins⟩) (s := { s1 with heap := h3 }) J3.other x3 fun h4 J4 x4 _ => ?_
    refine wpAny_execs_cons (wpAny_Return_some (wpAny_Constant_none ?_))
    exact ⟨P1, σ1, k1, J4.back, r1.trans ⟨rfl, rfl, rfl⟩, .none, .none, q⟩
theorem sos_nil : SOs prog w K G d GT BT .nil := by
  intro xs sc nm env c L P σ s R X hm D h
  obtain rfl := List.isEmpty_iff.mp hm
  exact wpAny_execs_nil ⟨P, σ, PLe.refl _, D.I, Rest.refl _, h⟩
theorem sos_cons {a : CS} {as : CSs} (ia : SO prog w K G d GT BT a) (is : SOs prog w K G d GT BT as) : SOs prog w K G d GT BT (.cons a as) := by
  intro xs sc nm env c L P σ s R X hm D h
  rcases Bool.or_eq_true_iff.mp hm with hm | hm
  · cases a <;> first | (cases hm; done) | exact h.elim
  · cases xs with
    | nil => cases hm
    | cons x xs =>
      have m1 := (and2 hm).1
      have m2 := (and2 hm).2
      refine wpAny_execs_cons (wpAny_mono (ia m1 D h) (fun f s1 z => ?_) fun _ _ z => z)
      obtain ⟨P1, σ1, k1, J1, r1, q⟩ := z
      cases f with
      | next => exact S_up k1 r1 (is m2 (D.to J1) q)
      | cont => exact ⟨P1, σ1, k1, J1, r1, q⟩
      | brk => exact ⟨P1, σ1, k1, J1, r1, q⟩
      | ret v => exact ⟨P1, σ1, k1, J1, r1, q⟩
theorem so_dead : SO prog w K G d GT BT .dead := by
  intro x sc nm env c L P σ s R X hm D h
  exact h.elim
mutual
theorem swp_sound (g : Glo K p loose mg mb G) (ge : GloE K) (T : Tabs K GT BT) (Dm : DieS prog w G d) : ∀ a : CS, SO prog w K G d GT BT a
  | .expr e => so_expr (ewp_sound g T e).1
  | .ret e => so_ret (ewp_sound g T e).1
  | .retNone => so_retNone
  | .asg x e => so_asg (ewp_sound g T e).1 (fun a b _ _ => ⟨(ewp_sound g T a).1, (ewp_sound g T b).1⟩) (fun a b c _ => ⟨(ewp_sound g T a).1, (ewp_sound g T b).1, (ewp_sound g T c).1⟩)
  | .asgT ts e => so_asgT g (ewp_sound g T e).1 fun o n _ => (ewp_sound g T o).1
  | .seta o n e => so_seta g (ewp_sound g T o).1 (ewp_sound g T e).1
  | .asgC x e => so_asgC (ewp_sound g T e).1
  | .augC x op e => so_augC (ewp_sound g T e).1
  | .aug x op e => so_aug (ewp_sound g T e).1
  | .auga o n op e => so_auga g (ewp_sound g T o).1 (ewp_sound g T e).1
  | .ite t a b => so_ite (ewp_sound g T t).2 (swps_sound g ge T Dm a) (swps_sound g ge T Dm b)
  | .wh t b => so_wh (ewp_sound g T t).2 (swps_sound g ge T Dm b)
  | .forr ts it b => so_for (ewp_sound g T it).1 (swps_sound g ge T Dm b)
  | .raise e => so_raise g ge T Dm (ewp_sound g T e).1
  | .tryx b cls => so_try g ge T (swps_sound g ge T Dm b)
  | .cont => so_cont
  | .dead => so_dead
theorem swps_sound (g : Glo K p loose mg mb G) (ge : GloE K) (T : Tabs K GT BT) (Dm : DieS prog w G d) : ∀ a : CSs, SOs prog w K G d GT BT a
  | .nil => sos_nil
  | .cons a as => sos_cons (swp_sound g ge T Dm a) (swps_sound g ge T Dm as)
end
end
end Mine
end
section
open PySem PySem.W PyProof.Rows PySem.Calls PyProof.V PySem.Spec PySem.SeqAt
namespace Mine
noncomputable def pnames (fd : FuncData) : List Str := fd.params.args.map (·.arg)
end Mine
end
section
open PySem PySem.W PyProof.Rows PySem.Calls PyProof.V PySem.Spec PySem.SeqAt
namespace Mine
noncomputable def celOk (nm : List Str) (np : Nat) (sc : Scope) (cell : Option Nat) : Bool := match cell with
  | none => sc.names.all (fun x => x.2 != .cell) && (nm.take np).all (fun x => sc.names.lookup x == some .local)
  | some i => (match nm[i]? with
    | some y => (sc.names.filter (fun x => x.2 == .cell)).map (·.1) == [y] && sc.names.lookup y == some .cell && (nm.take np).all (fun x => x == y || sc.names.lookup x == some .local)
    | none => false)
noncomputable def fdOk (K : Frag) (GT BT : List (Str × Value)) (fa : Addr) (nm : List Str) (np : Nat) (cell : Option Nat) (b : CSs) (fd : FuncData) : Bool :=
  (match fd.body with | .stmts body => mSs GT BT fd.scope nm b body | _ => false) && (pnames fd == nm.take np) && fd.closure.isEmpty && fd.globals == mainGlobals && fd.builtins == builtinsNs && !fd.scope.isCoroutine && !fd.scope.isGenerator && fd.scope.kind == .function &&
    codeIn K fd.code fd.qualname && ndB nm && keepIn K (.ref fa) && celOk nm np fd.scope cell
structure FdP (K : Frag) (GT BT : List (Str × Value)) (fa : Addr) (nm : List Str) (np : Nat) (cell : Option Nat) (b : CSs) (fd : FuncData) : Prop where
  body : ∃ body, fd.body = .stmts body ∧ mSs GT BT fd.scope nm b body = true
  pn : pnames fd = nm.take np
  cl : fd.closure = []
  gl : fd.globals = mainGlobals
  bu : fd.builtins = builtinsNs
  co : fd.scope.isCoroutine = false
  ge : fd.scope.isGenerator = false
  k : fd.scope.kind = .function
  code : codeIn K fd.code fd.qualname = true
  nd : nm.Nodup
  keep : keepIn K (.ref fa) = true
  cel : celOk nm np fd.scope cell = true
theorem fd_of {K : Frag} {GT BT : List (Str × Value)} {fa : Addr} {nm : List Str} {np : Nat} {cell : Option Nat} {b : CSs} {fd : FuncData} (h : fdOk K GT BT fa nm np cell b fd = true) : FdP K GT BT fa nm np cell b fd := by
  have cel := (and2 h).2
  have h := (and2 h).1
  have keep := (and2 h).2
  have h := (and2 h).1
  have nd := (and2 h).2
  have h := (and2 h).1
  have code := (and2 h).2
  have h := (and2 h).1
  have k := (and2 h).2
  have h := (and2 h).1
  have ge := (and2 h).2
  have h := (and2 h).1
  have co := (and2 h).2
  have h := (and2 h).1
  have bu := (and2 h).2
  have h := (and2 h).1
  have gl := (and2 h).2
  have h := (and2 h).1
  have cl := (and2 h).2
  have h := (and2 h).1
  refine ⟨?_, beq_iff_eq.mp (and2 h).2, List.isEmpty_iff.mp cl, beq_iff_eq.mp gl, beq_iff_eq.mp bu, nB co, nB ge, beq_iff_eq.mp k, code, ndB_nodup nd, keep, cel⟩
  have h := (and2 h).1
  cases hb : fd.body with
  | stmts body => rw [hb] at h; exact ⟨body, rfl, h⟩
  | _ => rw [hb] at h; cases h
noncomputable def fdAt (K : Frag) (fa : Addr) {α : Type} (f : FuncData → α) (z : α) : α := (K.lookup fa).elim z fun o => if e : o.data.ctorIdx = 7 then @Data.func.elim (fun _ => α) o.data e f else z
noncomputable def fnOk (K : Frag) (GT BT : List (Str × Value)) (fa : Addr) (nm : List Str) (np : Nat) (cell : Option Nat) (b : CSs) : Bool := fdAt K fa (fdOk K GT BT fa nm np cell b) false
noncomputable def bindAt (K : Frag) (fa : Addr) (vs : List Value) (S : Setting) : Option (List (Str × Value)) := fdAt K fa (fun fd => peek K S (bindArgs fd ⟨vs, []⟩)) none
theorem fdAt_inv {K : Frag} {fa : Addr} {f : FuncData → Bool} (h : fdAt K fa f false = true) : ∃ fd o, (K.lookup fa = some o ∧ o.data = .func fd) ∧ (∀ {α : Type} (g : FuncData → α) (z : α), fdAt K fa g z = g fd) ∧ f fd = true := by
  have key : ∀ {o : Obj}, K.lookup fa = some o → ∀ {fd : FuncData}, o.data = .func fd → ∀ {α : Type} (g : FuncData → α) (z : α), fdAt K fa g z = g fd := fun {o} e {fd} hd {α} g z => by
    obtain ⟨oc, od, dt, osl⟩ := o
    cases hd
    unfold fdAt
    rw [e]; rfl
  cases e : K.lookup fa with
  | none => unfold fdAt at h; rw [e] at h; cases h
  | some o =>
    have h' := h
    unfold fdAt at h'
    rw [e] at h'
    obtain ⟨i, _⟩ := on_if h'
    have ⟨fd, hd⟩ : ∃ fd, o.data = .func fd := @Data.func.elim (fun t => ∃ fd, t = .func fd) o.data i fun fd => ⟨fd, rfl⟩
    exact ⟨fd, o, ⟨rfl, hd⟩, key e hd, (key e hd _ _).symm.trans h⟩
noncomputable def entryW (cell : Option Nat) (l : List (Option AV)) (H : HM) (k : St → Prop) : Prop := match cell with
  | none => k ⟨l, H⟩
  | some i => ∀ ca, H ca = none → k ⟨l.set i (some (.ref ca)), H.set ca (.cell ((l[i]?).join))⟩
noncomputable def bodyR (Q : AV → HM → Prop) : Fl → St → Prop
  | .ret v, τ => Q v τ.H
  | .next, τ => Q .none τ.H
  | _, _ => False
noncomputable def fnW (C : CP) (nm : List Str) (cell : Option Nat) (b : CSs) (args : List AV) (H : HM) (Q : AV → HM → Prop) (X : HM → Prop) : Prop :=
  entryW cell (args.map some ++ List.replicate (nm.length - args.length) none) H (swps C b (bodyR Q) (fun τ => X τ.H))
theorem bindL_skip {kindOf : Str → Option NameKind} {x : Str} : ∀ {binds : List (Str × Value)} {m : Str → Option Value}, (∀ q ∈ binds, q.1 ≠ x) → bindL kindOf binds m x = m x
  | [], m, _ => rfl
  | (n, v) :: r, m, h => by
    unfold bindL
    rw [bindL_skip (fun q hq => h q (.tail _ hq))]
    split
    · exact if_neg (fun z : x = n => h (n, v) (.head _) z.symm)
    · rfl
theorem bindC_skip {kindOf : Str → Option NameKind} {x : Str} : ∀ {binds : List (Str × Value)} {m : Str → Option Value}, (∀ q ∈ binds, q.1 ≠ x) → bindC kindOf binds m x = m x
  | [], m, _ => rfl
  | (n, v) :: r, m, h => by
    unfold bindC
    rw [bindC_skip (fun q hq => h q (.tail _ hq))]
    split
    · rfl
    · exact if_neg (fun z : x = n => h (n, v) (.head _) z.symm)
theorem zip_keys : ∀ {ns : List Str} {vs : List Value} {q : Str × Value}, q ∈ ns.zip vs → q.1 ∈ ns
  | n :: ns, v :: vs, q, m => by
    simp only [List.zip_cons_cons] at m
    rcases List.mem_cons.mp m with rfl | m
    · exact .head _
    · exact .tail _ (zip_keys m)
  | [], _, q, m => by simp at m
  | _ :: _, [], q, m => by simp at m
theorem bindL_zip {kindOf : Str → Option NameKind} {x : Str} {u : Value} (hk : kindOf x = some .local) : ∀ {ns : List Str} {vs : List Value} {m : Str → Option Value} {j : Nat}, ns.Nodup → ns[j]? = some x → vs[j]? = some u → bindL kindOf (ns.zip vs) m x = some u
  | [], _, m, j, _, e, _ => by simp at e
  | _ :: _, [], m, j, _, _, e => by simp at e
  | n :: ns, v :: vs, m, 0, nd, e1, e2 => by
    simp at e1 e2; subst e1; subst e2
    simp only [List.zip_cons_cons]
    unfold bindL
    rw [bindL_skip (x := n) (fun q hq z => (List.nodup_cons.mp nd).1 (by rw [← z]; exact zip_keys hq)), if_pos hk, if_pos rfl]
  | n :: ns, v :: vs, m, j + 1, nd, e1, e2 => by
    simp only [List.zip_cons_cons]
    unfold bindL
    exact bindL_zip hk (List.nodup_cons.mp nd).2 (by simpa using e1) (by simpa using e2)
theorem bindC_zip {kindOf : Str → Option NameKind} {x : Str} {u : Value} (hk : kindOf x = some .cell) : ∀ {ns : List Str} {vs : List Value} {m : Str → Option Value} {j : Nat}, ns.Nodup → ns[j]? = some x → vs[j]? = some u → bindC kindOf (ns.zip vs) m x = some u
  | [], _, m, j, _, e, _ => by simp at e
  | _ :: _, [], m, j, _, _, e => by simp at e
  | n :: ns, v :: vs, m, 0, nd, e1, e2 => by
    simp at e1 e2; subst e1; subst e2
    simp only [List.zip_cons_cons]
    unfold bindC
    rw [bindC_skip (x := n) (fun q hq z => (List.nodup_cons.mp nd).1 (by rw [← z]; exact zip_keys hq)), if_neg (by rw [hk]; simp), if_pos rfl]
  | n :: ns, v :: vs, m, j + 1, nd, e1, e2 => by
    simp only [List.zip_cons_cons]
    unfold bindC
    exact bindC_zip hk (List.nodup_cons.mp nd).2 (by simpa using e1) (by simpa using e2)
theorem cells_one {y : Str} : ∀ {names : List (Str × NameKind)} {n : Nat} {acc : List (Str × Addr)}, (names.filter (fun x => x.2 == .cell)).map (·.1) = [y] → cellsFrom n names acc = (y, n) :: acc := by
  have none : ∀ {names : List (Str × NameKind)} {n : Nat} {acc : List (Str × Addr)}, (names.filter (fun x => x.2 == .cell)) = [] → cellsFrom n names acc = acc := by
    intro names
    induction names with
    | nil => intro n acc _; rfl
    | cons q r ih =>
      obtain ⟨a, k⟩ := q
      intro n acc h
      unfold cellsFrom
      by_cases hk : (k == NameKind.cell) = true
      · simp only [List.filter_cons, hk, if_true] at h; cases h
      · simp only [List.filter_cons, hk, if_false, Bool.false_eq_true] at h
        rw [if_neg hk]; exact ih h
  intro names
  induction names with
  | nil => intro n acc h; simp at h
  | cons q r ih =>
    obtain ⟨a, k⟩ := q
    intro n acc h
    unfold cellsFrom
    by_cases hk : (k == NameKind.cell) = true
    · simp only [List.filter_cons, hk, if_true, List.map_cons] at h
      injection h with h1 h2
      subst h1
      rw [if_pos hk, none (List.map_eq_nil_iff.mp h2)]
    · simp only [List.filter_cons, hk, if_false, Bool.false_eq_true] at h
      rw [if_neg hk]; exact ih h
theorem loc_arg {args : List AV} {n j : Nat} {v : AV} (h : (args.map some ++ List.replicate n none)[j]? = some (some v)) : args[j]? = some v := by
  by_cases z : j < args.length
  · rw [List.getElem?_append_left (by simpa using z)] at h
    simpa using h
  · rw [List.getElem?_append_right (by simpa using Nat.not_lt.mp z), List.getElem?_replicate] at h
    split at h <;> simp at h
end Mine
end
section
open PySem PySem.W PyProof.Rows PySem.Calls PyProof.V PySem.Spec PySem.SeqAt
namespace Mine
section
variable {prog : Program} {w : World} {K : Frag} {p : Program} {loose : List Str} {mg mb : Str → Option Value} {G : Heap} {d : Nat} {GT BT : List (Str × Value)}
theorem Ok.deep {A : Around} {fr : List Addr} {env : Env} {L : Addr} (o : Ok (d + 1) A fr) (hk : env.scope.kind = .function) (hf : env.frame = some L) : Ok d (A.deeper env) (L :: fr) := by
  obtain ⟨a, b, c, st, e1, e2⟩ := o
  refine ⟨a, ?_, ?_, env :: st, Around.frames_deeper e1, fun e m => ?_⟩
  · show A.depth + 1 + d ≤ 990; omega
  · show A.units + 3 + 8 * d ≤ 9800; omega
  · rcases List.mem_cons.mp m with rfl | m
    · exact ⟨by rw [hk]; simp, L, .head _, hf⟩
    · obtain ⟨h1, L', m', h2⟩ := e2 e m
      exact ⟨h1, L', .tail _ m', h2⟩
theorem cel_none {nm : List Str} {np : Nat} {sc : Scope} (h : celOk nm np sc none = true) : ∀ y ∈ nm.take np, sc.names.lookup y = some .local := fun y m => beq_iff_eq.mp (List.all_eq_true.mp (and2 h).2 y m)
theorem cel_some {nm : List Str} {np i : Nat} {sc : Scope} (h : celOk nm np sc (some i) = true) : ∃ y0, nm[i]? = some y0 ∧ (sc.names.filter (fun x => x.2 == .cell)).map (·.1) = [y0] ∧ sc.names.lookup y0 = some .cell ∧ ∀ y ∈ nm.take np, y = y0 ∨ sc.names.lookup y = some .local := by
  unfold celOk at h
  dsimp only at h
  cases e : nm[i]? with
  | none => rw [e] at h; cases h
  | some y0 =>
    rw [e] at h
    exact ⟨y0, rfl, beq_iff_eq.mp (and2 (and2 h).1).1, beq_iff_eq.mp (and2 (and2 h).1).2, fun y m => (Bool.or_eq_true_iff.mp (List.all_eq_true.mp (and2 h).2 y m)).imp beq_iff_eq.mp beq_iff_eq.mp⟩
theorem fn_fin (g : Glo K p loose mg mb G) (ge : GloE K) (T : Tabs K GT BT) (Dm : DieS prog w G d) {sc : Scope} {nm : List Str} {b : CSs} {body : List Stmt} {env : Env} {c : Cx} {P : PM} {s s' : Shared} {l : List (Option AV)} {H0 : HM} {Q : AV → HM → Prop} {X : HM → Prop}
    (hA : Ok (d + 1) c.A (c.ns.map (·.1))) (hm : mSs GT BT sc nm b body = true) (eo : EnvOk sc env env.locals) (hfr : env.frame = some env.locals) (nd : nm.Nodup) (same : Rest s s') (J : FInv G ⟨c.A.deeper env, c.ns, c.pins⟩ env.locals ⟨nm, env⟩ P ⟨l, H0⟩ s'.heap) (hw : swps (CPs prog w K G d) b (bodyR Q) (fun τ => X τ.H) ⟨l, H0⟩) :
    wpAny (model prog w) (c.A.deeper env) (execs body env) (fun f s'' => CPost G c P s Q X (.ok (.ret (match f with | .ret v => v | _ => .none))) s'')
      (fun e s'' => wpAny (model prog w) (c.A.deeper env) (leaving env e) (fun _ s3 => CPost G c P s Q X (.error e) s3) (fun e' s3 => CPost G c P s Q X (.error e') s3) s'') s' := by
  have back : ∀ {P' : PM} {σ' : St} {h' : Heap}, FInv G ⟨c.A.deeper env, c.ns, c.pins⟩ env.locals ⟨nm, env⟩ P' σ' h' → SInv G c P' σ'.H h' := fun J => ⟨J.s.g, J.s.k, J.s.ns, J.s.pins, J.s.np, J.s.led⟩
  have okd := hA.deep (env := env) (L := env.locals) (by rw [eo.se]; exact eo.k) hfr
  obtain ⟨st, e1, e2⟩ := hA.st
  have htop : (c.A.deeper env).frames = some (env :: st) := Around.frames_deeper e1
  refine wpAny_mono (swps_sound g ge T Dm b (c := ⟨c.A.deeper env, c.ns, c.pins⟩) hm ⟨⟨eo, nd, okd, J⟩, ⟨st, htop⟩, hfr⟩ hw) (fun f s2 z => ?_) fun e s2 z => ?_
  · obtain ⟨P2, σ2, k2, J2, r2, q2⟩ := z
    cases f with
    | next => exact ⟨P2, σ2.H, k2, back J2, same.trans r2, .none, .none, q2⟩
    | brk => exact q2.elim
    | cont => exact q2.elim
    | ret v => exact ⟨P2, σ2.H, k2, back J2, same.trans r2, q2⟩
  · obtain ⟨P2, σ2, k2, J2, r2, x2, q2⟩ := z
    refine leaving_sound (c := ⟨c.A.deeper env, c.ns, c.pins⟩) J2 x2 htop hfr (by
      obtain ⟨st2, e3, e4⟩ := okd.st
      rw [htop] at e3; cases e3
      exact e4) fun h3 J3 x3 => ⟨P2, σ2.H, k2, back J3, same.trans (r2.trans ⟨rfl, rfl, rfl⟩), x3.at, q2⟩
theorem fn_core (g : Glo K p loose mg mb G) (ge : GloE K) (T : Tabs K GT BT) (nl : G.NoLimit) (Dm : DieS prog w G d) {fa : Addr} {nm : List Str} {np : Nat} {cell : Option Nat} {b : CSs} {fd : FuncData} {o : Obj}
    (hK : K.lookup fa = some o ∧ o.data = .func fd) (F : FdP K GT BT fa nm np cell b fd) {avs : List AV} {H : HM} {Q : AV → HM → Prop} {X : HM → Prop} (hl : avs.length = np) (h : fnW (CPs prog w K G d) nm cell b avs H Q X)
    {c : Cx} {P : PM} {s : Shared} {vs us : List Value} (hA : Ok (d + 1) c.A (c.ns.map (·.1))) (I : SInv G c P H s.heap) (ru : VRs P avs us) (hbind : BindsTo s fd ⟨vs, []⟩ ((nm.take np).zip us)) :
    codeAny (model prog w) c.A (.call (.ref fa) ⟨vs, []⟩) (CPost G c P s Q X) s := by
  obtain ⟨⟨body, hb, hm⟩, pn, cl, gl, bu, co, ge', k, code, nd, keep', cel⟩ := F
  have X1 := I.kin g
  have ndp : (nm.take np).Nodup := nd.sublist (List.take_sublist _ _)
  refine codeAny_call_function (Nat.lt_of_le_of_lt (Nat.le_of_add_right_le hA.dep) (by decide)) (X1 _ _ hK.1) hK.2 co ge' hb (codeRec_of X1 code) (hbind _ _ _ _ ?_)
  rw [cl]
  refine wpAny_newFunctionEnv_cells k (fun x m => ?_) fun env he s' x => ?_
  · have mx := zip_keys m
    cases cell with
    | none => exact .inl (cel_none cel _ mx)
    | some i =>
      obtain ⟨y0, _, p1, p2, p3⟩ := cel_some cel
      rcases p3 _ mx with e | e
      · refine .inr ⟨by rw [e]; exact p2, ?_⟩
        rw [cells_one p1, e, List.lookup_cons_self]; rfl
      · exact .inl e
  have hLf : env.locals = s.heap.objs.size := by subst he; rfl
  have hfr : env.frame = some env.locals := by subst he; rfl
  have eo : EnvOk fd.scope env env.locals := by subst he; exact ⟨rfl, k, rfl, gl, bu⟩
  have hcells : env.cells = cellsFrom (s.heap.objs.size + 1) fd.scope.names [] := by subst he; rfl
  clear he
  have keep := x.toInCall.keep
  refine ⟨nl.keeps fun b o e => keep _ _ (I.k _ _ (I.g _ _ e)), codeAny_func ?_⟩
  obtain ⟨f1, f2, f3, f4⟩ := I.free (a := env.locals) (by rw [hLf]; exact size_none _)
  have I1 := I.keeps keep
  have same : Rest s s' := by
    obtain ⟨h', tk, rfl⟩ := x.toInCall.same
    exact ⟨rfl, rfl, rfl⟩
  have J0 : ∀ l : List (Option AV), LocR P ⟨nm, env⟩ l (bindL env.kindOf ((nm.take np).zip us) fun _ => none) → FInv G ⟨c.A.deeper env, c.ns, c.pins⟩ env.locals ⟨nm, env⟩ P ⟨l, H⟩ s'.heap := fun l lr =>
    ⟨⟨I1.g, I1.k, I1.ns, I1.pins, I1.np, I1.led⟩, ⟨_, x.toInCall.ns, lr⟩, f1, f2, f4, f3⟩
  have getA : ∀ {j : Nat} {y : Str} {v : AV}, nm[j]? = some y → avs[j]? = some v → (nm.take np)[j]? = some y ∧ ∃ u, us[j]? = some u ∧ VR P v u := fun {j y v} e1 e2 =>
    ⟨by rw [List.getElem?_take_of_lt (hl ▸ (List.getElem?_eq_some_iff.mp e2).1)]; exact e1, ru.get e2⟩
  have loc : ∀ {j : Nat} {y : Str} {v : AV}, nm[j]? = some y → avs[j]? = some v → fd.scope.names.lookup y = some .local → (env.kindOf y = some .local → ∃ u, bindL env.kindOf ((nm.take np).zip us) (fun _ => none) y = some u ∧ VR P v u) ∧ (env.kindOf y = some .cell → ∃ ca, v = .ref ca ∧ env.cells.lookup y = some ca) := fun {j y v} e1 e2 hy => by
    obtain ⟨e3, u, e4, r⟩ := getA e1 e2
    refine ⟨fun _ => ⟨u, bindL_zip (eo.local hy) ndp e3 e4, r⟩, fun z => ?_⟩
    rw [eo.local hy] at z; cases z
  cases cell with
  | none =>
    exact fn_fin g ge T Dm hA hm eo hfr nd same (J0 _ fun j y v e1 e2 => loc e1 (loc_arg e2) (cel_none cel y (List.mem_of_getElem? (getA e1 (loc_arg e2)).1))) h
  | some i =>
    obtain ⟨y0, hy0, p1, p2, p3⟩ := cel_some cel
    rw [cells_one (n := s.heap.objs.size + 1) (acc := []) p1] at hcells
    have hlk : env.cells.lookup y0 = some (s.heap.objs.size + 1) := by rw [hcells]; exact List.lookup_cons_self
    obtain ⟨oc', g1, g2⟩ := x.cell y0 (s.heap.objs.size + 1) hlk
    obtain ⟨c1, c2, c3, c4⟩ := I.free (a := s.heap.objs.size + 1) (Heap.get?_none_of_le (Nat.le_succ _))
    refine fn_fin g ge T Dm hA hm eo hfr nd same ?_ (h (s.heap.objs.size + 1) c2)
    have J := J0 ((avs.map some ++ List.replicate (nm.length - avs.length) none).set i (some (.ref (s.heap.objs.size + 1)))) fun j y v e1 e2 => by
      by_cases z : j = i
      · subst z
        cases hy0.symm.trans e1
        have ev : v = .ref (s.heap.objs.size + 1) := by
          rw [List.getElem?_set_self'] at e2
          cases q : (avs.map some ++ List.replicate (nm.length - avs.length) none)[j]? with
          | none => rw [q] at e2; cases e2
          | some w' => rw [q] at e2; exact (Option.some.inj (Option.some.inj e2)).symm
        refine ⟨fun z => ?_, fun _ => ⟨_, ev, hlk⟩⟩
        rw [eo.local p2] at z; cases z
      · rw [List.getElem?_set_ne (Ne.symm z)] at e2
        have ea := loc_arg e2
        refine loc e1 ea ((p3 y (List.mem_of_getElem? (getA e1 ea).1)).resolve_left fun e => z ?_)
        subst e
        exact (List.getElem?_inj (List.getElem?_eq_some_iff.mp e1).1 nd).mp (e1.trans hy0.symm)
    refine J.setH (x := .cell (((avs.map some ++ List.replicate (nm.length - avs.length) none)[i]?).join)) (fun _ _ _ e => e) g1 ⟨_, g2, ?_⟩ c1 c3 c4 (by rw [hLf]; exact Nat.succ_ne_self _)
    cases q : ((avs.map some ++ List.replicate (nm.length - avs.length) none)[i]?).join with
    | none => trivial
    | some v =>
      have e2 : (avs.map some ++ List.replicate (nm.length - avs.length) none)[i]? = some (some v) := Option.join_eq_some_iff.mp q
      obtain ⟨e3, u, e4, r⟩ := getA hy0 (loc_arg e2)
      exact ⟨u, bindC_zip (eo.local p2) ndp e3 e4, r⟩
theorem fn_call (g : Glo K p loose mg mb G) (ge : GloE K) (T : Tabs K GT BT) (nl : G.NoLimit) (Dm : DieS prog w G d) {fa : Addr} {nm : List Str} {np : Nat} {cell : Option Nat} {b : CSs}
    (ok : fnOk K GT BT fa nm np cell b = true) (hb : ∀ vs, vs.length = np → ∀ S, bindAt K fa vs S = some ((nm.take np).zip vs)) {args : List AV} {H : HM} {Q : AV → HM → Prop} {X : HM → Prop} (hl : args.length = np) (h : fnW (CPs prog w K G d) nm cell b args H Q X) : CallS prog w K G (d + 1) (.glob (.ref fa)) args H Q X := by
  obtain ⟨fd, o, hK, at', ok⟩ := fdAt_inv ok
  have F := fd_of ok
  exact ⟨fa, rfl, F.keep, fun c P s vs hA I rv => fn_core g ge T nl Dm hK F hl h hA I rv (kp_binds (I.kin g) fun S => (at' _ _).symm.trans (hb vs (rv.length.symm.trans hl) S))⟩
end
end Mine
end
section
open PySem PySem.W PyProof.Rows PySem.Calls PyProof.V PySem.Spec PySem.SeqAt
namespace Mine
section
variable {prog : Program} {w : World} {K : Frag} {p : Program} {loose : List Str} {mg mb : Str → Option Value} {G : Heap} {d : Nat} {GT BT : List (Str × Value)}
theorem Ok.made {A : Around} {fr : List Addr} {C : Addr} {vs : List Value} (o : Ok (d + 1) A fr) : Ok d (A.under (.builtin "type.__call__" ⟨.ref C :: vs, []⟩)) fr := by
  obtain ⟨a, b, c, st, e1, e2⟩ := o
  refine ⟨a, ?_, ?_, st, e1, e2⟩
  · show A.depth + 1 + d ≤ 990; omega
  · show A.units + 1 + 8 * d ≤ 9800; omega
theorem cls_call (g : Glo K p loose mg mb G) {C fI : Addr} (hC : C ∈ gcs) (hm : makesIn K C = true) (hi : findIn K (.ref C) "__init__" = some (some (.ref fI))) (hf : typeIn K (.ref fI) = some (.type "function")) (hk : keepIn K (.ref C) = true)
    {args : List AV} {H : HM} {Q : AV → HM → Prop} {X : HM → Prop}
    (h : ∀ x dx, x ≠ dx → H x = none → H dx = none → CallS prog w K G d (.glob (.ref fI)) (.ref x :: args) ((H.set dx (.dict [])).set x (.inst C dx)) (fun v H' => v = .none ∧ Q (.ref x) H') X) :
    CallS prog w K G (d + 1) (.glob (.ref C)) args H Q X := by
  refine ⟨C, rfl, hk, fun c P s vs hA I rv => ?_⟩
  obtain ⟨hh, gg, dd, tt, os⟩ := s
  have X1 := I.kin g
  simp only at X1 I
  refine make_core (makes_of X1 hm) (looks_findIn X1 hi) (fun self => bind_fn X1 self hf) (.inl rfl) ?_
  have n1 := size_none hh
  have k1 := Kp.push hh emptyDict
  have n2 := size_none (hh.push emptyDict)
  have k2 := Kp.push (hh.push emptyDict) (instObj C hh.objs.size)
  have e0 : (hh.push emptyDict).objs.size = hh.objs.size + 1 := Heap.size_push ..
  rw [e0] at n2
  obtain ⟨a1, a2, a3, a4⟩ := I.free n1
  have n2' : hh.get? (hh.objs.size + 1) = none := by
    cases q : hh.get? (hh.objs.size + 1) with
    | none => rfl
    | some o => rw [k1 _ _ q] at n2; cases n2
  obtain ⟨b1, b2, b3, b4⟩ := I.free n2'
  have g1 : (hh.push emptyDict).get? hh.objs.size = some emptyDict := Heap.get?_push_size _ rfl
  have g2 : ((hh.push emptyDict).push (instObj C hh.objs.size)).get? (hh.objs.size + 1) = some (instObj C hh.objs.size) := by
    have := Heap.get?_push_size (hh.push emptyDict) (o := instObj C hh.objs.size) rfl
    rwa [e0] at this
  have J1 : SInv G c P (H.set hh.objs.size (.dict [])) (hh.push emptyDict) := I.setH (fun b y _ e => k1 _ _ e) g1 ⟨[], 0, rfl, trivial, by simp, fun f m => nomatch m⟩ a1 a3 a4
  have J2 : SInv G c P ((H.set hh.objs.size (.dict [])).set (hh.objs.size + 1) (.inst C hh.objs.size)) ((hh.push emptyDict).push (instObj C hh.objs.size)) := J1.setH (fun b y _ e => k2 _ _ e) g2 ⟨rfl, hC⟩ b1 b3 b4
  obtain ⟨fa, e, hk', run⟩ := h (hh.objs.size + 1) hh.objs.size (Nat.succ_ne_self _) b2 a2
  cases e
  have J3 : SInv G ⟨c.A.under (.builtin "type.__call__" ⟨.ref C :: vs, []⟩), c.ns, c.pins⟩ P ((H.set hh.objs.size (.dict [])).set (hh.objs.size + 1) (.inst C hh.objs.size)) ((hh.push emptyDict).push (instObj C hh.objs.size)) := ⟨J2.g, J2.k, J2.ns, J2.pins, J2.np, J2.led⟩
  refine codeAny_mono (run ⟨c.A.under (.builtin "type.__call__" ⟨.ref C :: vs, []⟩), c.ns, c.pins⟩ P ⟨(hh.push emptyDict).push (instObj C hh.objs.size), gg, dd, tt, os⟩ (.ref (hh.objs.size + 1) :: vs) hA.made J3 (.cons _ _ _ _ (.ref _) rv)) fun r s' z => ?_
  obtain ⟨P', H', z1, z2, z3, z4⟩ := z
  have z2' : SInv G c P' H' s'.heap := ⟨z2.g, z2.k, z2.ns, z2.pins, z2.np, z2.led⟩
  rcases r with e | (_ | _ | _ | v)
  · exact ⟨P', H', z1, z2', z3, z4⟩
  · exact z4
  · exact z4
  · exact z4
  · obtain ⟨av, r1, rfl, q⟩ := z4
    obtain rfl := r1.none_inv
    exact ⟨rfl, P', H', z1, z2', z3, _, .ref _, q⟩
end
end Mine
end
section
open PySem PySem.W PyProof.Rows PySem.Calls PyProof.V PySem.Spec PySem.SeqAt
set_option maxRecDepth 1000000
namespace Mine
noncomputable def GT : List (Str × Value) := [(("BANGED" : Str), Value.str "sSiIlLnNvVxX@." 803), (("BLANKS" : Str), Value.str " \t\n\r\x0c" 807), (("DEEPEST" : Str), Value.int (20) 811), (("Die" : Str), Value.ref 233), (("FIGURES_packtemplate" : Str), Value.str "0123456789" 809), (("GREATEST_CODE" : Str), Value.int (2147483647) 556), (("LETTERS" : Str), Value.str "cCsSlLqQiIjJnNvVwUaAZbBhHuxX@." 799), (("Limits" : Str), Value.ref 695), (("MOST_FIGURES" : Str), Value.int (9) 813), (("NO_COUNT" : Str), Value.int (-2) 748), (("ORDERED" : Str), Value.str "sSlLqQiIjJ" 801), (("Packer" : Str), Value.ref 716), (("Ref" : Str), Value.ref 157), (("STAR" : Str), Value.int (-1) 745), (("TemplateReader" : Str), Value.ref 445), (("Unpacker" : Str), Value.ref 551), (("_law_closed" : Str), Value.ref 935), (("_law_code" : Str), Value.ref 885), (("_law_eight" : Str), Value.ref 907), (("_law_lines" : Str), Value.ref 902), (("_law_moved" : Str), Value.ref 914), (("_law_packed" : Str), Value.ref 868), (("_law_pick" : Str), Value.ref 863), (("_law_pointed" : Str), Value.ref 928), (("_law_read_codes" : Str), Value.ref 897), (("_law_read_sevens" : Str), Value.ref 890), (("_law_sevens" : Str), Value.ref 880), (("_law_unpacked" : Str), Value.ref 873), (("_law_walk" : Str), Value.ref 921), (("count_of_item" : Str), Value.ref 774), (("count_step" : Str), Value.ref 837), (("fixed_size" : Str), Value.ref 400), (("go_to_place" : Str), Value.ref 767), (("in_order" : Str), Value.ref 484), (("is_big_first" : Str), Value.ref 414), (("is_uu" : Str), Value.ref 371), (("lay_noughts" : Str), Value.ref 760), (("lay_octets" : Str), Value.ref 753), (("moved" : Str), Value.ref 526), (("next_codes" : Str), Value.ref 746), (("next_number" : Str), Value.ref 741), (("next_value" : Str), Value.ref 734), (("note_step" : Str), Value.ref 576), (("note_value" : Str), Value.ref 569), (("number_text" : Str), Value.ref 42), (("numeric_text" : Str), Value.ref 35), (("octets_left" : Str), Value.ref 562), (("pack_counted" : Str), Value.ref 830), (("pack_digits" : Str), Value.ref 788), (("pack_dot" : Str), Value.ref 809), (("pack_group" : Str), Value.ref 823), (("pack_item" : Str), Value.ref 844), (("pack_items" : Str), Value.ref 851), (("pack_move" : Str), Value.ref 816), (("pack_numbers" : Str), Value.ref 802), (("pack_text" : Str), Value.ref 781), (("pack_values" : Str), Value.ref 856), (("parse_template" : Str), Value.ref 512), (("read_ber" : Str), Value.ref 294), (("read_code" : Str), Value.ref 308), (("read_counted" : Str), Value.ref 498), (("read_figures" : Str), Value.ref 456), (("read_items" : Str), Value.ref 505), (("read_length" : Str), Value.ref 463), (("read_marks" : Str), Value.ref 477), (("read_one" : Str), Value.ref 491), (("read_repeat" : Str), Value.ref 470), (("read_uu" : Str), Value.ref 392), (("read_uu_line" : Str), Value.ref 385), (("ref_text" : Str), Value.ref 182), (("repeat_of" : Str), Value.ref 583), (("row_of_ber" : Str), Value.ref 287), (("row_of_code" : Str), Value.ref 301), (("row_of_number" : Str), Value.ref 273), (("row_of_uu" : Str), Value.ref 364), (("row_of_value" : Str), Value.ref 795), (("text_of_row" : Str), Value.ref 595), (("to_number" : Str), Value.ref 196), (("to_text" : Str), Value.ref 189), (("unpack_counted" : Str), Value.ref 651), (("unpack_digits" : Str), Value.ref 609), (("unpack_dot" : Str), Value.ref 637), (("unpack_fixed" : Str), Value.ref 616), (("unpack_group" : Str), Value.ref 644), (("unpack_item" : Str), Value.ref 665), (("unpack_items" : Str), Value.ref 672), (("unpack_move" : Str), Value.ref 630), (("unpack_running" : Str), Value.ref 623), (("unpack_text" : Str), Value.ref 602), (("unpack_uu" : Str), Value.ref 658), (("unpack_values" : Str), Value.ref 677), (("uu_line" : Str), Value.ref 357), (("uu_sign" : Str), Value.ref 350), (("uu_six" : Str), Value.ref 378), (("values_left" : Str), Value.ref 727), (("wrap_number" : Str), Value.ref 21)]
noncomputable def BT : List (Str × Value) := [("abs", .builtin "abs"), ("chr", .builtin "chr"), ("int", .type "int"), ("isinstance", .builtin "isinstance"), ("len", .builtin "len"), ("list", .type "list"), ("max", .builtin "max"), ("min", .builtin "min"), ("ord", .builtin "ord"), ("range", .type "range"), ("str", .type "str")]
noncomputable def f_wrap_number_t0 : CSs := (.cons (.aug 0 .Sub (.bin .LShift (.int 1) (.loc 1))) .nil)
noncomputable def f_wrap_number_t1 : CSs := (.cons (.ret (.loc 0)) .nil)
noncomputable def f_wrap_number_t2 : CSs := (.cons (.ite (.bin .RShift (.loc 0) (.bin .Sub (.loc 1) (.int 1))) f_wrap_number_t0 .nil) f_wrap_number_t1)
noncomputable def f_wrap_number : CSs := (.cons (.aug 0 .Mod (.bin .LShift (.int 1) (.loc 1))) f_wrap_number_t2)
noncomputable def f_to_text_t0 : CSs := (.cons (.ret (.str [])) .nil)
noncomputable def f_to_text_t1 : CSs := (.cons (.ret (.call (.glob "number_text" (.ref 42)) (.cons (.loc 0) .nil))) .nil)
noncomputable def f_to_text_t2 : CSs := (.cons (.ret (.call (.glob "ref_text" (.ref 182)) (.cons (.loc 0) .nil))) .nil)
noncomputable def f_to_text_t3 : CSs := (.cons (.ite (.bi .isinst (.cons (.loc 0) (.cons (.glob "Ref" (.ref 157)) .nil))) f_to_text_t2 .nil) f_wrap_number_t1)
noncomputable def f_to_text_t4 : CSs := (.cons (.ite (.bi .isinst (.cons (.loc 0) (.cons (.glob "int" (.type "int")) .nil))) f_to_text_t1 .nil) f_to_text_t3)
noncomputable def f_to_text : CSs := (.cons (.ite (.cmp .Is (.loc 0) .none) f_to_text_t0 .nil) f_to_text_t4)
noncomputable def f_to_number_t0 : CSs := (.cons (.ret (.int 0)) .nil)
noncomputable def f_to_number_t1 : CSs := (.cons (.ret (.attr (.attr (.loc 0) "target") "number")) .nil)
noncomputable def f_to_number_t2 : CSs := (.cons (.ret (.call (.glob "numeric_text" (.ref 35)) (.cons (.loc 0) (.cons (.attr (.loc 1) "width") .nil)))) .nil)
noncomputable def f_to_number_t3 : CSs := (.cons (.ite (.bi .isinst (.cons (.loc 0) (.cons (.glob "Ref" (.ref 157)) .nil))) f_to_number_t1 .nil) f_to_number_t2)
noncomputable def f_to_number_t4 : CSs := (.cons (.ite (.bi .isinst (.cons (.loc 0) (.cons (.glob "int" (.type "int")) .nil))) f_wrap_number_t1 .nil) f_to_number_t3)
noncomputable def f_to_number : CSs := (.cons (.ite (.cmp .Is (.loc 0) .none) f_to_number_t0 .nil) f_to_number_t4)
noncomputable def f_row_of_ber_t0 : CSs := (.cons (.raise (.str [67, 97, 110, 110, 111, 116, 32, 99, 111, 109, 112, 114, 101, 115, 115, 32, 110, 101, 103, 97, 116, 105, 118, 101, 32, 110, 117, 109, 98, 101, 114, 115, 32, 105, 110, 32, 112, 97, 99, 107])) .nil)
noncomputable def f_row_of_ber_t1 : CSs := (.cons (.aug 0 .RShift (.int 7)) .nil)
noncomputable def f_row_of_ber_t2 : CSs := (.cons (.expr (.me .append (.loc 1) (.cons (.bin .BitOr (.bin .BitAnd (.loc 0) (.int 127)) (.int 128)) .nil))) f_row_of_ber_t1)
noncomputable def f_row_of_ber_t3 : CSs := (.cons (.ret (.frz (.loc 1))) .nil)
noncomputable def f_row_of_ber_t4 : CSs := (.cons (.expr (.me .reverse (.loc 1) .nil)) f_row_of_ber_t3)
noncomputable def f_row_of_ber_t5 : CSs := (.cons (.wh (.cmp .Gt (.loc 0) (.int 0)) f_row_of_ber_t2) f_row_of_ber_t4)
noncomputable def f_row_of_ber_t6 : CSs := (.cons (.aug 0 .RShift (.int 7)) f_row_of_ber_t5)
noncomputable def f_row_of_ber_t7 : CSs := (.cons (.asg 1 (.lstM (.cons (.bin .BitAnd (.loc 0) (.int 127)) .nil))) f_row_of_ber_t6)
noncomputable def f_row_of_ber : CSs := (.cons (.ite (.cmp .Lt (.loc 0) (.int 0)) f_row_of_ber_t0 .nil) f_row_of_ber_t7)
noncomputable def f_read_ber_1_t0 : CSs := (.cons (.ret (.tup (.cons (.loc 2) (.cons (.loc 1) .nil)))) .nil)
noncomputable def f_read_ber_1_t1 : CSs := (.cons (.ite (.cmp .Lt (.sub (.loc 0) (.bin .Sub (.loc 1) (.int 1))) (.int 128)) f_read_ber_1_t0 .nil) .nil)
noncomputable def f_read_ber_1_t2 : CSs := (.cons (.aug 1 .Add (.int 1)) f_read_ber_1_t1)
noncomputable def f_read_ber_1 : CSs := (.cons (.asg 2 (.bin .BitOr (.bin .LShift (.loc 2) (.int 7)) (.bin .BitAnd (.sub (.loc 0) (.loc 1)) (.int 127)))) f_read_ber_1_t2)
noncomputable def f_read_ber_2 : CSs := (.cons (.raise (.str [85, 110, 116, 101, 114, 109, 105, 110, 97, 116, 101, 100, 32, 99, 111, 109, 112, 114, 101, 115, 115, 101, 100, 32, 105, 110, 116, 101, 103, 101, 114, 32, 105, 110, 32, 117, 110, 112, 97, 99, 107])) .nil)
noncomputable def f_read_ber_t0 : CSs := (.cons (.wh (.cmp .Lt (.loc 1) (.bi .len (.cons (.loc 0) .nil))) f_read_ber_1) f_read_ber_2)
noncomputable def f_read_ber : CSs := (.cons (.asg 2 (.int 0)) f_read_ber_t0)
noncomputable def f_row_of_code_t0 : CSs := (.cons (.raise (.str [110, 111, 32, 115, 117, 99, 104, 32, 99, 104, 97, 114, 97, 99, 116, 101, 114, 32, 105, 110, 32, 112, 97, 99, 107])) .nil)
noncomputable def f_row_of_code_t1 : CSs := (.cons (.ret (.lst (.cons (.loc 0) .nil))) .nil)
noncomputable def f_row_of_code_t2 : CSs := (.cons (.asg 2 (.ite (.cmp .Eq (.loc 2) (.int 64)) (.int 32) (.bin .RShift (.loc 2) (.int 1)))) .nil)
noncomputable def f_row_of_code_t3 : CSs := (.cons (.aug 0 .RShift (.int 6)) f_row_of_code_t2)
noncomputable def f_row_of_code_t4 : CSs := (.cons (.expr (.me .append (.loc 1) (.cons (.bin .BitOr (.bin .BitAnd (.loc 0) (.int 63)) (.int 128)) .nil))) f_row_of_code_t3)
noncomputable def f_row_of_code_t5 : CSs := (.cons (.expr (.me .append (.loc 1) (.cons (.bin .BitOr (.bin .BitAnd (.bin .RShift (.int 65280) (.loc 3)) (.int 255)) (.loc 0)) .nil))) f_row_of_ber_t4)
noncomputable def f_row_of_code_t6 : CSs := (.cons (.asg 3 (.bin .Add (.bi .len (.cons (.loc 1) .nil)) (.int 1))) f_row_of_code_t5)
noncomputable def f_row_of_code_t7 : CSs := (.cons (.wh (.cmp .GtE (.loc 0) (.loc 2)) f_row_of_code_t4) f_row_of_code_t6)
noncomputable def f_row_of_code_t8 : CSs := (.cons (.asg 2 (.int 64)) f_row_of_code_t7)
noncomputable def f_row_of_code_t9 : CSs := (.cons (.asg 1 (.lstM .nil)) f_row_of_code_t8)
noncomputable def f_row_of_code_t10 : CSs := (.cons (.ite (.cmp .Lt (.loc 0) (.int 128)) f_row_of_code_t1 .nil) f_row_of_code_t9)
noncomputable def f_row_of_code : CSs := (.cons (.ite (.or (.cons (.cmp .Lt (.loc 0) (.int 0)) (.cons (.cmp .Gt (.loc 0) (.gint "GREATEST_CODE" (2147483647))) .nil))) f_row_of_code_t0 .nil) f_row_of_code_t10)
noncomputable def f_read_code_t0 : CSs := (.cons (.ret (.tup (.cons (.loc 2) (.cons (.bin .Add (.loc 1) (.int 1)) .nil)))) .nil)
noncomputable def f_read_code_t1 : CSs := (.cons (.aug 3 .Add (.int 1)) .nil)
noncomputable def f_read_code_t2 : CSs := (.cons (.raise (.str [77, 97, 108, 102, 111, 114, 109, 101, 100, 32, 85, 84, 70, 45, 56, 32, 99, 104, 97, 114, 97, 99, 116, 101, 114, 32, 105, 110, 32, 117, 110, 112, 97, 99, 107])) .nil)
noncomputable def f_read_code_t3 : CSs := (.cons (.asg 4 (.bin .BitOr (.bin .LShift (.loc 4) (.int 6)) (.bin .BitAnd (.loc 5) (.int 63)))) .nil)
noncomputable def f_read_code_t4 : CSs := (.cons (.ite (.cmp .NotEq (.bin .RShift (.loc 5) (.int 6)) (.int 2)) f_read_code_t2 .nil) f_read_code_t3)
noncomputable def f_read_code_t5 : CSs := (.cons (.ret (.tup (.cons (.loc 4) (.cons (.bin .Add (.loc 1) (.loc 3)) .nil)))) .nil)
noncomputable def f_read_code_t6 : CSs := (.cons (.ite (.cmp .NotEq (.call (.glob "row_of_code" (.ref 301)) (.cons (.loc 4) .nil)) (.slice (.loc 0) (.loc 1) (.bin .Add (.loc 1) (.loc 3)))) f_read_code_t2 .nil) f_read_code_t5)
noncomputable def f_read_code_t7 : CSs := (.cons (.forr [5] (.slice (.loc 0) (.bin .Add (.loc 1) (.int 1)) (.bin .Add (.loc 1) (.loc 3))) f_read_code_t4) f_read_code_t6)
noncomputable def f_read_code_t8 : CSs := (.cons (.asg 4 (.bin .BitAnd (.loc 2) (.bin .Sub (.bin .LShift (.int 1) (.bin .Sub (.int 7) (.loc 3))) (.int 1)))) f_read_code_t7)
noncomputable def f_read_code_t9 : CSs := (.cons (.ite (.or (.cons (.cmp .Lt (.loc 2) (.int 192)) (.cons (.cmp .Gt (.loc 3) (.int 6)) (.cons (.cmp .Gt (.bin .Add (.loc 1) (.loc 3)) (.bi .len (.cons (.loc 0) .nil))) .nil)))) f_read_code_t2 .nil) f_read_code_t8)
noncomputable def f_read_code_t10 : CSs := (.cons (.wh (.and (.cons (.cmp .Lt (.loc 3) (.int 7)) (.cons (.bin .BitAnd (.bin .RShift (.loc 2) (.bin .Sub (.int 7) (.loc 3))) (.int 1)) .nil))) f_read_code_t1) f_read_code_t9)
noncomputable def f_read_code_t11 : CSs := (.cons (.asg 3 (.int 2)) f_read_code_t10)
noncomputable def f_read_code_t12 : CSs := (.cons (.ite (.cmp .Lt (.loc 2) (.int 128)) f_read_code_t0 .nil) f_read_code_t11)
noncomputable def f_read_code : CSs := (.cons (.asg 2 (.sub (.loc 0) (.loc 1))) f_read_code_t12)
noncomputable def f_uu_sign : CSs := (.cons (.ret (.ite (.loc 0) (.bin .Add (.int 32) (.loc 0)) (.int 96))) .nil)
noncomputable def f_uu_line_1 : CSs := (.cons (.expr (.me .append (.loc 1) (.cons (.call (.glob "uu_sign" (.ref 350)) (.cons (.bin .BitAnd (.bin .RShift (.loc 4) (.loc 5)) (.int 63)) .nil)) .nil))) .nil)
noncomputable def f_uu_line_2_t0 : CSs := (.cons (.forr [5] (.lst (.cons (.int 18) (.cons (.int 12) (.cons (.int 6) (.cons (.int 0) .nil))))) f_uu_line_1) .nil)
noncomputable def f_uu_line_2_t1 : CSs := (.cons (.asg 4 (.bin .BitOr (.bin .BitOr (.bin .LShift (.sub (.loc 3) (.int 0)) (.int 16)) (.bin .LShift (.sub (.loc 3) (.int 1)) (.int 8))) (.sub (.loc 3) (.int 2)))) f_uu_line_2_t0)
noncomputable def f_uu_line_2 : CSs := (.cons (.asg 3 (.slice (.bin .Add (.slice (.loc 0) (.loc 2) (.bin .Add (.loc 2) (.int 3))) (.lst (.cons (.int 0) (.cons (.int 0) .nil)))) .nopart (.int 3))) f_uu_line_2_t1)
noncomputable def f_uu_line_3 : CSs := (.cons (.expr (.me .append (.loc 1) (.cons (.int 10) .nil))) f_row_of_ber_t3)
noncomputable def f_uu_line_t0 : CSs := (.cons (.forr [2] (.bi .range (.cons (.int 0) (.cons (.bi .len (.cons (.loc 0) .nil)) (.cons (.int 3) .nil)))) f_uu_line_2) f_uu_line_3)
noncomputable def f_uu_line : CSs := (.cons (.asg 1 (.lstM (.cons (.call (.glob "uu_sign" (.ref 350)) (.cons (.bi .len (.cons (.loc 0) .nil)) .nil)) .nil))) f_uu_line_t0)
noncomputable def f_row_of_uu_1 : CSs := (.cons (.expr (.me .extend (.loc 3) (.cons (.call (.glob "uu_line" (.ref 357)) (.cons (.slice (.loc 0) (.loc 4) (.bin .Add (.loc 4) (.loc 2))) .nil)) .nil))) .nil)
noncomputable def f_row_of_uu_2 : CSs := (.cons (.ret (.frz (.loc 3))) .nil)
noncomputable def f_row_of_uu_t0 : CSs := (.cons (.forr [4] (.bi .range (.cons (.int 0) (.cons (.bi .len (.cons (.loc 0) .nil)) (.cons (.loc 2) .nil)))) f_row_of_uu_1) f_row_of_uu_2)
noncomputable def f_row_of_uu_t1 : CSs := (.cons (.asg 3 (.lstM .nil)) f_row_of_uu_t0)
noncomputable def f_row_of_uu : CSs := (.cons (.asg 2 (.ite (.cmp .LtE (.loc 1) (.int 2)) (.int 45) (.bi .min (.cons (.bin .Mult (.bin .FloorDiv (.loc 1) (.int 3)) (.int 3)) (.cons (.int 63) .nil))))) f_row_of_uu_t1)
noncomputable def f_is_uu : CSs := (.cons (.ret (.and (.cons (.cmp .Lt (.loc 1) (.bi .len (.cons (.loc 0) .nil))) (.cons (.chain .LtE .Lt (.int 32) (.sub (.loc 0) (.loc 1)) (.int 97)) .nil)))) .nil)
noncomputable def f_uu_six : CSs := (.cons (.ret (.ite (.call (.glob "is_uu" (.ref 371)) (.cons (.loc 0) (.cons (.loc 1) .nil))) (.bin .BitAnd (.bin .Sub (.sub (.loc 0) (.loc 1)) (.int 32)) (.int 63)) (.int 0))) .nil)
noncomputable def f_read_uu_line_1_t0 : CSs := (.cons (.aug 1 .Add (.int 1)) .nil)
noncomputable def f_read_uu_line_1_t1 : CSs := (.cons (.ite (.call (.glob "is_uu" (.ref 371)) (.cons (.loc 0) (.cons (.loc 1) .nil))) f_read_uu_line_1_t0 .nil) .nil)
noncomputable def f_read_uu_line_1 : CSs := (.cons (.asg 4 (.bin .BitOr (.bin .LShift (.loc 4) (.int 6)) (.call (.glob "uu_six" (.ref 378)) (.cons (.loc 0) (.cons (.loc 1) .nil))))) f_read_uu_line_1_t1)
noncomputable def f_read_uu_line_2 : CSs := (.cons (.expr (.me .extend (.loc 3) (.cons (.lst (.cons (.bin .BitAnd (.bin .RShift (.loc 4) (.int 16)) (.int 255)) (.cons (.bin .BitAnd (.bin .RShift (.loc 4) (.int 8)) (.int 255)) (.cons (.bin .BitAnd (.loc 4) (.int 255)) .nil)))) .nil))) .nil)
noncomputable def f_read_uu_line_3_t0 : CSs := (.cons (.forr [5] (.bi .range (.cons (.int 4) .nil)) f_read_uu_line_1) f_read_uu_line_2)
noncomputable def f_read_uu_line_3 : CSs := (.cons (.asg 4 (.int 0)) f_read_uu_line_3_t0)
noncomputable def f_read_uu_line_4_t0 : CSs := (.cons (.ret (.tup (.cons (.loc 3) (.cons (.bin .Add (.loc 1) (.int 1)) .nil)))) .nil)
noncomputable def f_read_uu_line_4_t1 : CSs := (.cons (.ret (.tup (.cons (.loc 3) (.cons (.bin .Add (.loc 1) (.int 2)) .nil)))) .nil)
noncomputable def f_read_uu_line_4_t2 : CSs := (.cons (.ret (.tup (.cons (.loc 3) (.cons (.loc 1) .nil)))) .nil)
noncomputable def f_read_uu_line_4_t3 : CSs := (.cons (.ite (.cmp .Eq (.slice (.loc 0) (.bin .Add (.loc 1) (.int 1)) (.bin .Add (.loc 1) (.int 2))) (.lst (.cons (.int 10) .nil))) f_read_uu_line_4_t1 .nil) f_read_uu_line_4_t2)
noncomputable def f_read_uu_line_4_t4 : CSs := (.cons (.ite (.cmp .Eq (.slice (.loc 0) (.loc 1) (.bin .Add (.loc 1) (.int 1))) (.lst (.cons (.int 10) .nil))) f_read_uu_line_4_t0 .nil) f_read_uu_line_4_t3)
noncomputable def f_read_uu_line_4 : CSs := (.cons (.asg 3 (.slice (.frz (.loc 3)) .nopart (.loc 2))) f_read_uu_line_4_t4)
noncomputable def f_read_uu_line_t0 : CSs := (.cons (.wh (.and (.cons (.cmp .Gt (.loc 2) (.bi .len (.cons (.loc 3) .nil))) (.cons (.cmp .Lt (.loc 1) (.bi .len (.cons (.loc 0) .nil))) .nil))) f_read_uu_line_3) f_read_uu_line_4)
noncomputable def f_read_uu_line_t1 : CSs := (.cons (.asg 3 (.lstM .nil)) f_read_uu_line_t0)
noncomputable def f_read_uu_line_t2 : CSs := (.cons (.aug 1 .Add (.int 1)) f_read_uu_line_t1)
noncomputable def f_read_uu_line : CSs := (.cons (.asg 2 (.bin .BitAnd (.bin .Sub (.sub (.loc 0) (.loc 1)) (.int 32)) (.int 63))) f_read_uu_line_t2)
noncomputable def f_read_uu_1_t0 : CSs := (.cons (.expr (.me .extend (.loc 2) (.cons (.loc 3) .nil))) .nil)
noncomputable def f_read_uu_1 : CSs := (.cons (.asgT [.loc 3, .loc 1] (.call (.glob "read_uu_line" (.ref 385)) (.cons (.loc 0) (.cons (.loc 1) .nil)))) f_read_uu_1_t0)
noncomputable def f_read_uu_2 : CSs := (.cons (.ret (.tup (.cons (.frz (.loc 2)) (.cons (.loc 1) .nil)))) .nil)
noncomputable def f_read_uu_t0 : CSs := (.cons (.wh (.and (.cons (.call (.glob "is_uu" (.ref 371)) (.cons (.loc 0) (.cons (.loc 1) .nil))) (.cons (.cmp .NotEq (.sub (.loc 0) (.loc 1)) (.int 32)) .nil))) f_read_uu_1) f_read_uu_2)
noncomputable def f_read_uu : CSs := (.cons (.asg 2 (.lstM .nil)) f_read_uu_t0)
noncomputable def f_TemplateReader_init_t0 : CSs := (.cons (.seta (.loc 0) "at" (.int 0)) .nil)
noncomputable def f_TemplateReader_init : CSs := (.cons (.seta (.loc 0) "text" (.loc 1)) f_TemplateReader_init_t0)
noncomputable def f_TemplateReader_peek : CSs := (.cons (.ret (.slice (.attr (.loc 0) "text") (.attr (.loc 0) "at") (.bin .Add (.attr (.loc 0) "at") (.int 1)))) .nil)
noncomputable def f_TemplateReader_skip_1 : CSs := (.cons (.auga (.loc 0) "at" .Add (.int 1)) .nil)
noncomputable def f_TemplateReader_skip_2_t0 : CSs := (.cons (.auga (.loc 0) "at" .Add (.int 1)) (.cons .cont .nil))
noncomputable def f_TemplateReader_skip_2_t1 : CSs := (.cons (.wh (.and (.cons (.cmp .NotEq (.ume (.loc 0) "peek" .nil) (.str [])) (.cons (.cmp .NotEq (.ume (.loc 0) "peek" .nil) (.str [10])) .nil))) f_TemplateReader_skip_1) .nil)
noncomputable def f_TemplateReader_skip_2 : CSs := (.cons (.ite (.cmp .NotEq (.ume (.loc 0) "peek" .nil) (.str [35])) f_TemplateReader_skip_2_t0 .nil) f_TemplateReader_skip_2_t1)
noncomputable def f_TemplateReader_skip : CSs := (.cons (.wh (.and (.cons (.cmp .NotEq (.ume (.loc 0) "peek" .nil) (.str [])) (.cons (.cmp .In (.ume (.loc 0) "peek" .nil) (.bin .Add (.gstr "BLANKS" [32, 9, 10, 13, 12]) (.str [35]))) .nil))) f_TemplateReader_skip_2) .nil)
noncomputable def f_read_figures_1 : CSs := (.cons (.auga (.loc 0) "at" .Add (.int 1)) .nil)
noncomputable def f_read_figures_2_t0 : CSs := (.cons (.ret (.bi .int (.cons (.loc 2) .nil))) .nil)
noncomputable def f_read_figures_2_t1 : CSs := (.cons (.ite (.cmp .Gt (.bi .len (.cons (.loc 2) .nil)) (.gint "MOST_FIGURES" (9))) (.cons .dead .nil) .nil) f_read_figures_2_t0)
noncomputable def f_read_figures_2 : CSs := (.cons (.asg 2 (.slice (.attr (.loc 0) "text") (.loc 1) (.attr (.loc 0) "at"))) f_read_figures_2_t1)
noncomputable def f_read_figures_t0 : CSs := (.cons (.wh (.and (.cons (.cmp .NotEq (.ume (.loc 0) "peek" .nil) (.str [])) (.cons (.cmp .In (.ume (.loc 0) "peek" .nil) (.gstr "FIGURES_packtemplate" [48, 49, 50, 51, 52, 53, 54, 55, 56, 57])) .nil))) f_read_figures_1) f_read_figures_2)
noncomputable def f_read_figures : CSs := (.cons (.asg 1 (.attr (.loc 0) "at")) f_read_figures_t0)
noncomputable def f_read_repeat_t0 : CSs := (.cons (.ret (.gint "STAR" (-1))) .nil)
noncomputable def f_read_repeat_t1 : CSs := (.cons (.auga (.loc 0) "at" .Add (.int 1)) f_read_repeat_t0)
noncomputable def f_read_repeat_t2 : CSs := (.cons (.ret (.call (.glob "read_length" (.ref 463)) (.cons (.loc 0) .nil))) .nil)
noncomputable def f_read_repeat_t3 : CSs := (.cons (.ret (.call (.glob "read_figures" (.ref 456)) (.cons (.loc 0) .nil))) .nil)
noncomputable def f_read_repeat_t4 : CSs := (.cons (.ret (.gint "NO_COUNT" (-2))) .nil)
noncomputable def f_read_repeat_t5 : CSs := (.cons (.ite (.and (.cons (.cmp .NotEq (.loc 1) (.str [])) (.cons (.cmp .In (.loc 1) (.gstr "FIGURES_packtemplate" [48, 49, 50, 51, 52, 53, 54, 55, 56, 57])) .nil))) f_read_repeat_t3 .nil) f_read_repeat_t4)
noncomputable def f_read_repeat_t6 : CSs := (.cons (.ite (.cmp .Eq (.loc 1) (.str [91])) f_read_repeat_t2 .nil) f_read_repeat_t5)
noncomputable def f_read_repeat_t7 : CSs := (.cons (.ite (.cmp .Eq (.loc 1) (.str [42])) f_read_repeat_t1 .nil) f_read_repeat_t6)
noncomputable def f_read_repeat : CSs := (.cons (.asg 1 (.ume (.loc 0) "peek" .nil)) f_read_repeat_t7)
noncomputable def f_read_marks_1_t0 : CSs := (.cons (.asg 3 (.bool true)) .nil)
noncomputable def f_read_marks_1_t1 : CSs := (.cons (.ite (.cmp .NotIn (.loc 1) (.gstr "BANGED" [115, 83, 105, 73, 108, 76, 110, 78, 118, 86, 120, 88, 64, 46])) (.cons .dead .nil) .nil) f_read_marks_1_t0)
noncomputable def f_read_marks_1_t2 : CSs := (.cons (.asg 2 (.loc 4)) .nil)
noncomputable def f_read_marks_1_t3 : CSs := (.cons (.ite (.cmp .NotIn (.loc 2) (.tup (.cons (.str []) (.cons (.loc 4) .nil)))) (.cons .dead .nil) f_read_marks_1_t2) .nil)
noncomputable def f_read_marks_1_t4 : CSs := (.cons (.ite (.and (.cons (.cmp .NotEq (.loc 1) (.str [40])) (.cons (.cmp .NotIn (.loc 1) (.gstr "ORDERED" [115, 83, 108, 76, 113, 81, 105, 73, 106, 74])) .nil))) (.cons .dead .nil) f_read_marks_1_t3) .nil)
noncomputable def f_read_marks_1_t5 : CSs := (.cons (.ite (.cmp .Eq (.loc 4) (.str [33])) f_read_marks_1_t1 f_read_marks_1_t4) .nil)
noncomputable def f_read_marks_1_t6 : CSs := (.cons (.auga (.loc 0) "at" .Add (.int 1)) f_read_marks_1_t5)
noncomputable def f_read_marks_1 : CSs := (.cons (.asg 4 (.ume (.loc 0) "peek" .nil)) f_read_marks_1_t6)
noncomputable def f_read_marks_2 : CSs := (.cons (.ret (.tup (.cons (.loc 2) (.cons (.loc 3) .nil)))) .nil)
noncomputable def f_read_marks_t0 : CSs := (.cons (.wh (.and (.cons (.cmp .NotEq (.ume (.loc 0) "peek" .nil) (.str [])) (.cons (.cmp .In (.ume (.loc 0) "peek" .nil) (.str [33, 60, 62])) .nil))) f_read_marks_1) f_read_marks_2)
noncomputable def f_read_marks_t1 : CSs := (.cons (.asg 3 (.bool false)) f_read_marks_t0)
noncomputable def f_read_marks : CSs := (.cons (.asg 2 (.str [])) f_read_marks_t1)
noncomputable def f_in_order_1_t0 : CSs := (.cons (.asg 7 (.call (.glob "in_order" (.ref 484)) (.cons (.loc 7) (.cons (.loc 1) .nil)))) .nil)
noncomputable def f_in_order_1_t1 : CSs := (.cons (.asg 4 (.loc 1)) .nil)
noncomputable def f_in_order_1_t2 : CSs := (.cons (.ite (.cmp .NotIn (.loc 4) (.tup (.cons (.str []) (.cons (.loc 1) .nil)))) (.cons .dead .nil) .nil) f_in_order_1_t1)
noncomputable def f_in_order_1_t3 : CSs := (.cons (.ite (.cmp .In (.loc 3) (.gstr "ORDERED" [115, 83, 108, 76, 113, 81, 105, 73, 106, 74])) f_in_order_1_t2 .nil) .nil)
noncomputable def f_in_order_1_t4 : CSs := (.cons (.expr (.me .append (.loc 2) (.cons (.tup (.cons (.loc 3) (.cons (.loc 4) (.cons (.loc 5) (.cons (.loc 6) (.cons (.loc 7) .nil)))))) .nil))) .nil)
noncomputable def f_in_order_1 : CSs := (.cons (.ite (.cmp .In (.loc 3) (.str [40, 47])) f_in_order_1_t0 f_in_order_1_t3) f_in_order_1_t4)
noncomputable def f_in_order_2 : CSs := (.cons (.ret (.loc 2)) .nil)
noncomputable def f_in_order_t0 : CSs := (.cons (.forr [3, 4, 5, 6, 7] (.loc 0) f_in_order_1) f_in_order_2)
noncomputable def f_in_order_t1 : CSs := (.cons (.asg 2 (.lst .nil)) f_in_order_t0)
noncomputable def f_in_order : CSs := (.cons (.ite (.cmp .Eq (.loc 1) (.str [])) f_wrap_number_t1 .nil) f_in_order_t1)
noncomputable def f_read_one_t0 : CSs := (.cons (.asg 3 (.call (.glob "read_items" (.ref 505)) (.cons (.loc 0) (.cons (.bin .Add (.loc 1) (.int 1)) .nil)))) .nil)
noncomputable def f_read_one_t1 : CSs := (.cons (.ite (.cmp .GtE (.loc 1) (.gint "DEEPEST" (20))) (.cons .dead .nil) .nil) f_read_one_t0)
noncomputable def f_read_one_t2 : CSs := (.cons (.ite (.cmp .NotIn (.loc 2) (.gstr "LETTERS" [99, 67, 115, 83, 108, 76, 113, 81, 105, 73, 106, 74, 110, 78, 118, 86, 119, 85, 97, 65, 90, 98, 66, 104, 72, 117, 120, 88, 64, 46])) (.cons .dead .nil) .nil) .nil)
noncomputable def f_read_one_t3 : CSs := (.cons (.ret (.tup (.cons (.str [40]) (.cons (.str []) (.cons (.bool false) (.cons (.loc 6) (.cons (.call (.glob "in_order" (.ref 484)) (.cons (.loc 3) (.cons (.loc 4) .nil))) .nil))))))) .nil)
noncomputable def f_read_one_t4 : CSs := (.cons (.ret (.tup (.cons (.loc 2) (.cons (.loc 4) (.cons (.loc 5) (.cons (.loc 6) (.cons .none .nil))))))) .nil)
noncomputable def f_read_one_t5 : CSs := (.cons (.ite (.cmp .Eq (.loc 2) (.str [40])) f_read_one_t3 .nil) f_read_one_t4)
noncomputable def f_read_one_t6 : CSs := (.cons (.ite (.and (.cons (.cmp .Eq (.loc 6) (.gint "STAR" (-1))) (.cons (.cmp .In (.loc 2) (.str [120, 88, 64])) .nil))) (.cons .dead .nil) .nil) f_read_one_t5)
noncomputable def f_read_one_t7 : CSs := (.cons (.asg 6 (.call (.glob "read_repeat" (.ref 470)) (.cons (.loc 0) .nil))) f_read_one_t6)
noncomputable def f_read_one_t8 : CSs := (.cons (.asgT [.loc 4, .loc 5] (.call (.glob "read_marks" (.ref 477)) (.cons (.loc 0) (.cons (.loc 2) .nil)))) f_read_one_t7)
noncomputable def f_read_one_t9 : CSs := (.cons (.ite (.cmp .Eq (.loc 2) (.str [40])) f_read_one_t1 f_read_one_t2) f_read_one_t8)
noncomputable def f_read_one_t10 : CSs := (.cons (.asg 3 .none) f_read_one_t9)
noncomputable def f_read_one_t11 : CSs := (.cons (.auga (.loc 0) "at" .Add (.int 1)) f_read_one_t10)
noncomputable def f_read_one : CSs := (.cons (.asg 2 (.ume (.loc 0) "peek" .nil)) f_read_one_t11)
noncomputable def f_read_items_1_t0 : CSs := (.cons (.expr (.ume (.loc 0) "skip" .nil)) .nil)
noncomputable def f_read_items_1_t1 : CSs := (.cons (.asg 3 (.call (.glob "read_counted" (.ref 498)) (.cons (.loc 0) (.cons (.loc 1) (.cons (.loc 3) .nil))))) f_read_items_1_t0)
noncomputable def f_read_items_1_t2 : CSs := (.cons (.expr (.me .append (.loc 2) (.cons (.loc 3) .nil))) .nil)
noncomputable def f_read_items_1_t3 : CSs := (.cons (.ite (.cmp .Eq (.ume (.loc 0) "peek" .nil) (.str [47])) f_read_items_1_t1 .nil) f_read_items_1_t2)
noncomputable def f_read_items_1_t4 : CSs := (.cons (.expr (.ume (.loc 0) "skip" .nil)) f_read_items_1_t3)
noncomputable def f_read_items_1 : CSs := (.cons (.asg 3 (.call (.glob "read_one" (.ref 491)) (.cons (.loc 0) (.cons (.loc 1) .nil)))) f_read_items_1_t4)
noncomputable def f_read_items_2_t0 : CSs := (.cons (.auga (.loc 0) "at" .Add (.int 1)) .nil)
noncomputable def f_read_items_2_t1 : CSs := (.cons (.ret (.frz (.loc 2))) .nil)
noncomputable def f_read_items_2_t2 : CSs := (.cons (.ite (.cmp .Gt (.loc 1) (.int 0)) f_read_items_2_t0 .nil) f_read_items_2_t1)
noncomputable def f_read_items_2 : CSs := (.cons (.ite (.cmp .NotEq (.cmp .Eq (.ume (.loc 0) "peek" .nil) (.str [41])) (.cmp .Gt (.loc 1) (.int 0))) (.cons .dead .nil) .nil) f_read_items_2_t2)
noncomputable def f_read_items_t0 : CSs := (.cons (.wh (.cmp .NotIn (.ume (.loc 0) "peek" .nil) (.tup (.cons (.str []) (.cons (.str [41]) .nil)))) f_read_items_1) f_read_items_2)
noncomputable def f_read_items_t1 : CSs := (.cons (.expr (.ume (.loc 0) "skip" .nil)) f_read_items_t0)
noncomputable def f_read_items : CSs := (.cons (.asg 2 (.lstM .nil)) f_read_items_t1)
noncomputable def f_parse_template : CSs := (.cons (.ret (.call (.glob "read_items" (.ref 505)) (.cons (.call (.glob "TemplateReader" (.ref 445)) (.cons (.loc 0) .nil)) (.cons (.int 0) .nil)))) .nil)
noncomputable def f_moved_t0 : CSs := (.cons (.ret (.ite (.cmp .Eq (.loc 1) (.str [120])) (.bin .Add (.loc 0) (.loc 3)) (.bin .Sub (.loc 0) (.loc 3)))) .nil)
noncomputable def f_moved_t1 : CSs := (.cons (.ret (.bin .Add (.loc 0) (.bin .Mod (.neg (.loc 0)) (.loc 3)))) .nil)
noncomputable def f_moved_t2 : CSs := (.cons (.ret (.bin .Sub (.loc 0) (.bin .Mod (.loc 0) (.loc 3)))) .nil)
noncomputable def f_moved_t3 : CSs := (.cons (.ite (.cmp .Eq (.loc 1) (.str [120])) f_moved_t1 .nil) f_moved_t2)
noncomputable def f_moved_t4 : CSs := (.cons (.ite (.cmp .Eq (.loc 3) (.int 0)) f_wrap_number_t1 .nil) f_moved_t3)
noncomputable def f_moved : CSs := (.cons (.ite (.not (.loc 2)) f_moved_t0 .nil) f_moved_t4)
noncomputable def f_Unpacker_init_t0 : CSs := (.cons (.seta (.loc 0) "steps" (.int 0)) .nil)
noncomputable def f_Unpacker_init_t1 : CSs := (.cons (.seta (.loc 0) "limits" (.loc 2)) f_Unpacker_init_t0)
noncomputable def f_Unpacker_init_t2 : CSs := (.cons (.seta (.loc 0) "starts" (.lstM (.cons (.int 0) .nil))) f_Unpacker_init_t1)
noncomputable def f_Unpacker_init_t3 : CSs := (.cons (.seta (.loc 0) "found" (.lstM .nil)) f_Unpacker_init_t2)
noncomputable def f_Unpacker_init_t4 : CSs := (.cons (.seta (.loc 0) "at" (.int 0)) f_Unpacker_init_t3)
noncomputable def f_Unpacker_init : CSs := (.cons (.seta (.loc 0) "data" (.loc 1)) f_Unpacker_init_t4)
noncomputable def f_octets_left : CSs := (.cons (.ret (.bin .Sub (.bi .len (.cons (.attr (.loc 0) "data") .nil)) (.attr (.loc 0) "at"))) .nil)
noncomputable def f_note_value_t0 : CSs := (.cons (.raise (.str [79, 117, 116, 32, 111, 102, 32, 109, 101, 109, 111, 114, 121, 32, 100, 117, 114, 105, 110, 103, 32, 117, 110, 112, 97, 99, 107])) .nil)
noncomputable def f_note_value_t1 : CSs := (.cons (.expr (.me .append (.attr (.loc 0) "found") (.cons (.loc 1) .nil))) .nil)
noncomputable def f_note_value : CSs := (.cons (.ite (.cmp .GtE (.bi .len (.cons (.attr (.loc 0) "found") .nil)) (.attr (.attr (.loc 0) "limits") "items")) f_note_value_t0 .nil) f_note_value_t1)
noncomputable def f_note_step_t0 : CSs := (.cons (.ite (.cmp .Gt (.attr (.loc 0) "steps") (.attr (.attr (.loc 0) "limits") "steps")) (.cons .dead .nil) .nil) .nil)
noncomputable def f_note_step : CSs := (.cons (.auga (.loc 0) "steps" .Add (.int 1)) f_note_step_t0)
noncomputable def f_repeat_of_t0 : CSs := (.cons (.ret (.loc 1)) .nil)
noncomputable def f_repeat_of_t1 : CSs := (.cons (.ret (.bi .min (.cons (.ite (.cmp .Eq (.sub (.loc 0) (.int 3)) (.gint "NO_COUNT" (-2))) (.int 1) (.sub (.loc 0) (.int 3))) (.cons (.loc 1) .nil)))) .nil)
noncomputable def f_repeat_of : CSs := (.cons (.ite (.cmp .Eq (.sub (.loc 0) (.int 3)) (.gint "STAR" (-1))) f_repeat_of_t0 .nil) f_repeat_of_t1)
noncomputable def f_text_of_row : CSs := (.cons (.ret (.me .join (.str []) (.cons (.comp (.bi .chr (.cons (.loc 0) .nil)) (.loc 0) []) .nil))) .nil)
noncomputable def f_unpack_running_1_t0 : CSs := (.cons (.asgT [.loc 3, .attr (.loc 0) "at"] (.call (.glob "read_ber" (.ref 294)) (.cons (.attr (.loc 0) "data") (.cons (.attr (.loc 0) "at") .nil)))) .nil)
noncomputable def f_unpack_running_1_t1 : CSs := (.cons (.asgT [.loc 3, .attr (.loc 0) "at"] (.call (.glob "read_code" (.ref 308)) (.cons (.attr (.loc 0) "data") (.cons (.attr (.loc 0) "at") .nil)))) .nil)
noncomputable def f_unpack_running_1_t2 : CSs := (.cons (.expr (.call (.glob "note_value" (.ref 569)) (.cons (.loc 0) (.cons (.call (.glob "wrap_number" (.ref 21)) (.cons (.loc 3) (.cons (.attr (.attr (.loc 0) "limits") "width") .nil))) .nil)))) .nil)
noncomputable def f_unpack_running_1_t3 : CSs := (.cons (.ite (.cmp .Eq (.sub (.loc 1) (.int 0)) (.str [119])) f_unpack_running_1_t0 f_unpack_running_1_t1) f_unpack_running_1_t2)
noncomputable def f_unpack_running_1_t4 : CSs := (.cons (.expr (.call (.glob "note_step" (.ref 576)) (.cons (.loc 0) .nil))) f_unpack_running_1_t3)
noncomputable def f_unpack_running_1 : CSs := (.cons (.ite (.cmp .Eq (.call (.glob "octets_left" (.ref 562)) (.cons (.loc 0) .nil)) (.int 0)) (.cons .retNone .nil) .nil) f_unpack_running_1_t4)
noncomputable def f_unpack_running : CSs := (.cons (.forr [2] (.bi .range (.cons (.call (.glob "repeat_of" (.ref 583)) (.cons (.loc 1) (.cons (.call (.glob "octets_left" (.ref 562)) (.cons (.loc 0) .nil)) .nil))) .nil)) f_unpack_running_1) .nil)
noncomputable def f_unpack_move_t0 : CSs := (.cons (.asg 8 (.bin .Add (.sub (.attr (.loc 0) "starts") (.neg (.int 1))) (.loc 7))) .nil)
noncomputable def f_unpack_move_t1 : CSs := (.cons (.asg 8 (.call (.glob "moved" (.ref 526)) (.cons (.attr (.loc 0) "at") (.cons (.loc 2) (.cons (.loc 4) (.cons (.loc 7) .nil)))))) .nil)
noncomputable def f_unpack_move_t2 : CSs := (.cons (.raise (.bin .Add (.bin .Add (.str [39]) (.loc 2)) (.str [39, 32, 111, 117, 116, 115, 105, 100, 101, 32, 111, 102, 32, 115, 116, 114, 105, 110, 103, 32, 105, 110, 32, 117, 110, 112, 97, 99, 107]))) .nil)
noncomputable def f_unpack_move_t3 : CSs := (.cons (.seta (.loc 0) "at" (.loc 8)) .nil)
noncomputable def f_unpack_move_t4 : CSs := (.cons (.ite (.or (.cons (.cmp .Lt (.loc 8) (.int 0)) (.cons (.cmp .Gt (.loc 8) (.bi .len (.cons (.attr (.loc 0) "data") .nil))) .nil))) f_unpack_move_t2 .nil) f_unpack_move_t3)
noncomputable def f_unpack_move_t5 : CSs := (.cons (.ite (.cmp .Eq (.loc 2) (.str [64])) f_unpack_move_t0 f_unpack_move_t1) f_unpack_move_t4)
noncomputable def f_unpack_move_t6 : CSs := (.cons (.asg 7 (.ite (.cmp .Eq (.loc 5) (.gint "NO_COUNT" (-2))) (.int 1) (.loc 5))) f_unpack_move_t5)
noncomputable def f_unpack_move : CSs := (.cons (.asgT [.loc 2, .loc 3, .loc 4, .loc 5, .loc 6] (.loc 1)) f_unpack_move_t6)
noncomputable def f_unpack_dot_t0 : CSs := (.cons (.asg 2 (.attr (.loc 0) "at")) .nil)
noncomputable def f_unpack_dot_t1 : CSs := (.cons (.asg 2 (.sub (.attr (.loc 0) "starts") (.neg (.loc 3)))) .nil)
noncomputable def f_unpack_dot_t2 : CSs := (.cons (.ite (.cmp .LtE (.loc 3) (.bi .len (.cons (.attr (.loc 0) "starts") .nil))) f_unpack_dot_t1 .nil) .nil)
noncomputable def f_unpack_dot_t3 : CSs := (.cons (.asg 3 (.ite (.cmp .Eq (.sub (.loc 1) (.int 3)) (.gint "NO_COUNT" (-2))) (.int 1) (.sub (.loc 1) (.int 3)))) f_unpack_dot_t2)
noncomputable def f_unpack_dot_t4 : CSs := (.cons (.ite (.cmp .NotEq (.sub (.loc 1) (.int 3)) (.gint "STAR" (-1))) f_unpack_dot_t3 .nil) .nil)
noncomputable def f_unpack_dot_t5 : CSs := (.cons (.expr (.call (.glob "note_value" (.ref 569)) (.cons (.loc 0) (.cons (.bin .Sub (.attr (.loc 0) "at") (.loc 2)) .nil)))) .nil)
noncomputable def f_unpack_dot_t6 : CSs := (.cons (.ite (.cmp .Eq (.sub (.loc 1) (.int 3)) (.int 0)) f_unpack_dot_t0 f_unpack_dot_t4) f_unpack_dot_t5)
noncomputable def f_unpack_dot : CSs := (.cons (.asg 2 (.int 0)) f_unpack_dot_t6)
noncomputable def f_unpack_group_1_t0 : CSs := (.cons (.expr (.me .pop (.attr (.loc 0) "starts") .nil)) .nil)
noncomputable def f_unpack_group_1_t1 : CSs := (.cons (.expr (.call (.glob "unpack_items" (.ref 672)) (.cons (.loc 0) (.cons (.loc 6) .nil)))) f_unpack_group_1_t0)
noncomputable def f_unpack_group_1_t2 : CSs := (.cons (.expr (.me .append (.attr (.loc 0) "starts") (.cons (.attr (.loc 0) "at") .nil))) f_unpack_group_1_t1)
noncomputable def f_unpack_group_1_t3 : CSs := (.cons (.expr (.call (.glob "note_step" (.ref 576)) (.cons (.loc 0) .nil))) f_unpack_group_1_t2)
noncomputable def f_unpack_group_1 : CSs := (.cons (.ite (.and (.cons (.cmp .Eq (.loc 5) (.gint "STAR" (-1))) (.cons (.cmp .Eq (.call (.glob "octets_left" (.ref 562)) (.cons (.loc 0) .nil)) (.int 0)) .nil))) (.cons .retNone .nil) .nil) f_unpack_group_1_t3)
noncomputable def f_unpack_group_t0 : CSs := (.cons (.forr [8] (.bi .range (.cons (.loc 7) .nil)) f_unpack_group_1) .nil)
noncomputable def f_unpack_group_t1 : CSs := (.cons (.asg 7 (.ite (.cmp .Eq (.loc 5) (.gint "STAR" (-1))) (.bi .len (.cons (.attr (.loc 0) "data") .nil)) (.ite (.cmp .Eq (.loc 5) (.gint "NO_COUNT" (-2))) (.int 1) (.loc 5)))) f_unpack_group_t0)
noncomputable def f_unpack_group : CSs := (.cons (.asgT [.loc 2, .loc 3, .loc 4, .loc 5, .loc 6] (.loc 1)) f_unpack_group_t1)
noncomputable def f_unpack_uu_t0 : CSs := (.cons (.expr (.call (.glob "note_value" (.ref 569)) (.cons (.loc 0) (.cons (.call (.glob "text_of_row" (.ref 595)) (.cons (.loc 1) .nil)) .nil)))) .nil)
noncomputable def f_unpack_uu : CSs := (.cons (.asgT [.loc 1, .attr (.loc 0) "at"] (.call (.glob "read_uu" (.ref 392)) (.cons (.attr (.loc 0) "data") (.cons (.attr (.loc 0) "at") .nil)))) f_unpack_uu_t0)
noncomputable def f_unpack_item_t0 : CSs := (.cons (.expr (.call (.glob "unpack_group" (.ref 644)) (.cons (.loc 0) (.cons (.loc 1) .nil)))) .nil)
noncomputable def f_unpack_item_t1 : CSs := (.cons (.expr (.call (.glob "unpack_counted" (.ref 651)) (.cons (.loc 0) (.cons (.loc 1) .nil)))) .nil)
noncomputable def f_unpack_item_t2 : CSs := (.cons (.expr (.call (.glob "unpack_text" (.ref 602)) (.cons (.loc 0) (.cons (.loc 1) .nil)))) .nil)
noncomputable def f_unpack_item_t3 : CSs := (.cons (.expr (.call (.glob "unpack_digits" (.ref 609)) (.cons (.loc 0) (.cons (.loc 1) .nil)))) .nil)
noncomputable def f_unpack_item_t4 : CSs := (.cons (.expr (.call (.glob "unpack_move" (.ref 630)) (.cons (.loc 0) (.cons (.loc 1) .nil)))) .nil)
noncomputable def f_unpack_item_t5 : CSs := (.cons (.expr (.call (.glob "unpack_dot" (.ref 637)) (.cons (.loc 0) (.cons (.loc 1) .nil)))) .nil)
noncomputable def f_unpack_item_t6 : CSs := (.cons (.expr (.call (.glob "unpack_uu" (.ref 658)) (.cons (.loc 0) .nil))) .nil)
noncomputable def f_unpack_item_t7 : CSs := (.cons (.expr (.call (.glob "unpack_running" (.ref 623)) (.cons (.loc 0) (.cons (.loc 1) .nil)))) .nil)
noncomputable def f_unpack_item_t8 : CSs := (.cons (.expr (.call (.glob "unpack_fixed" (.ref 616)) (.cons (.loc 0) (.cons (.loc 1) .nil)))) .nil)
noncomputable def f_unpack_item_t9 : CSs := (.cons (.ite (.cmp .In (.loc 2) (.str [119, 85])) f_unpack_item_t7 f_unpack_item_t8) .nil)
noncomputable def f_unpack_item_t10 : CSs := (.cons (.ite (.cmp .Eq (.loc 2) (.str [117])) f_unpack_item_t6 f_unpack_item_t9) .nil)
noncomputable def f_unpack_item_t11 : CSs := (.cons (.ite (.cmp .Eq (.loc 2) (.str [46])) f_unpack_item_t5 f_unpack_item_t10) .nil)
noncomputable def f_unpack_item_t12 : CSs := (.cons (.ite (.cmp .In (.loc 2) (.str [120, 88, 64])) f_unpack_item_t4 f_unpack_item_t11) .nil)
noncomputable def f_unpack_item_t13 : CSs := (.cons (.ite (.cmp .In (.loc 2) (.str [98, 66, 104, 72])) f_unpack_item_t3 f_unpack_item_t12) .nil)
noncomputable def f_unpack_item_t14 : CSs := (.cons (.ite (.cmp .In (.loc 2) (.str [97, 65, 90])) f_unpack_item_t2 f_unpack_item_t13) .nil)
noncomputable def f_unpack_item_t15 : CSs := (.cons (.ite (.cmp .Eq (.loc 2) (.str [47])) f_unpack_item_t1 f_unpack_item_t14) .nil)
noncomputable def f_unpack_item_t16 : CSs := (.cons (.ite (.cmp .Eq (.loc 2) (.str [40])) f_unpack_item_t0 f_unpack_item_t15) .nil)
noncomputable def f_unpack_item_t17 : CSs := (.cons (.asg 2 (.sub (.loc 1) (.int 0))) f_unpack_item_t16)
noncomputable def f_unpack_item : CSs := (.cons (.expr (.call (.glob "note_step" (.ref 576)) (.cons (.loc 0) .nil))) f_unpack_item_t17)
noncomputable def f_unpack_items_1 : CSs := (.cons (.expr (.call (.glob "unpack_item" (.ref 665)) (.cons (.loc 0) (.cons (.loc 2) .nil)))) .nil)
noncomputable def f_unpack_items : CSs := (.cons (.forr [2] (.loc 1) f_unpack_items_1) .nil)
noncomputable def f_unpack_values_t0 : CSs := (.cons (.ret (.frz (.attr (.loc 3) "found"))) .nil)
noncomputable def f_unpack_values_t1 : CSs := (.cons (.expr (.call (.glob "unpack_items" (.ref 672)) (.cons (.loc 3) (.cons (.call (.glob "parse_template" (.ref 512)) (.cons (.loc 0) .nil)) .nil)))) f_unpack_values_t0)
noncomputable def f_unpack_values : CSs := (.cons (.asg 3 (.call (.glob "Unpacker" (.ref 551)) (.cons (.comp (.bin .BitAnd (.bi .ord (.cons (.loc 0) .nil)) (.int 255)) (.loc 1) []) (.cons (.loc 2) .nil)))) f_unpack_values_t1)
noncomputable def f_Packer_init_t0 : CSs := (.cons (.seta (.loc 0) "length" .none) .nil)
noncomputable def f_Packer_init_t1 : CSs := (.cons (.seta (.loc 0) "steps" (.int 0)) f_Packer_init_t0)
noncomputable def f_Packer_init_t2 : CSs := (.cons (.seta (.loc 0) "limits" (.loc 2)) f_Packer_init_t1)
noncomputable def f_Packer_init_t3 : CSs := (.cons (.seta (.loc 0) "starts" (.lstM (.cons (.int 0) .nil))) f_Packer_init_t2)
noncomputable def f_Packer_init_t4 : CSs := (.cons (.seta (.loc 0) "at" (.int 0)) f_Packer_init_t3)
noncomputable def f_Packer_init_t5 : CSs := (.cons (.seta (.loc 0) "values" (.bi .list (.cons (.loc 1) .nil))) f_Packer_init_t4)
noncomputable def f_Packer_init : CSs := (.cons (.seta (.loc 0) "out" (.lstM .nil)) f_Packer_init_t5)
noncomputable def f_values_left : CSs := (.cons (.ret (.bin .Sub (.bi .len (.cons (.attr (.loc 0) "values") .nil)) (.attr (.loc 0) "at"))) .nil)
noncomputable def f_next_value_t0 : CSs := (.cons (.ret (.attr (.loc 0) "length")) .nil)
noncomputable def f_next_value_t1 : CSs := (.cons (.ret (.sub (.attr (.loc 0) "values") (.bin .Sub (.attr (.loc 0) "at") (.int 1)))) .nil)
noncomputable def f_next_value_t2 : CSs := (.cons (.auga (.loc 0) "at" .Add (.int 1)) f_next_value_t1)
noncomputable def f_next_value_t3 : CSs := (.cons (.ite (.cmp .GtE (.attr (.loc 0) "at") (.bi .len (.cons (.attr (.loc 0) "values") .nil))) f_to_text_t0 .nil) f_next_value_t2)
noncomputable def f_next_value : CSs := (.cons (.ite (.cmp .IsNot (.attr (.loc 0) "length") .none) f_next_value_t0 .nil) f_next_value_t3)
noncomputable def f_next_number : CSs := (.cons (.ret (.call (.glob "to_number" (.ref 196)) (.cons (.call (.glob "next_value" (.ref 734)) (.cons (.loc 0) .nil)) (.cons (.attr (.loc 0) "limits") .nil)))) .nil)
noncomputable def f_next_codes : CSs := (.cons (.ret (.comp (.bin .BitAnd (.bi .ord (.cons (.loc 0) .nil)) (.int 255)) (.call (.glob "to_text" (.ref 189)) (.cons (.call (.glob "next_value" (.ref 734)) (.cons (.loc 0) .nil)) .nil)) [])) .nil)
noncomputable def f_lay_octets_t0 : CSs := (.cons (.raise (.str [79, 117, 116, 32, 111, 102, 32, 109, 101, 109, 111, 114, 121, 32, 100, 117, 114, 105, 110, 103, 32, 112, 97, 99, 107])) .nil)
noncomputable def f_lay_octets_t1 : CSs := (.cons (.expr (.me .extend (.attr (.loc 0) "out") (.cons (.loc 1) .nil))) .nil)
noncomputable def f_lay_octets : CSs := (.cons (.ite (.cmp .Gt (.bin .Add (.bi .len (.cons (.attr (.loc 0) "out") .nil)) (.bi .len (.cons (.loc 1) .nil))) (.attr (.attr (.loc 0) "limits") "text")) f_lay_octets_t0 .nil) f_lay_octets_t1)
noncomputable def f_lay_noughts_t0 : CSs := (.cons (.expr (.call (.glob "lay_octets" (.ref 753)) (.cons (.loc 0) (.cons (.rep (.int 0) (.loc 1)) .nil)))) .nil)
noncomputable def f_lay_noughts : CSs := (.cons (.ite (.cmp .Gt (.loc 1) (.attr (.attr (.loc 0) "limits") "text")) f_lay_octets_t0 .nil) f_lay_noughts_t0)
noncomputable def f_go_to_place_t0 : CSs := (.cons (.raise (.bin .Add (.bin .Add (.str [39]) (.loc 2)) (.str [39, 32, 111, 117, 116, 115, 105, 100, 101, 32, 111, 102, 32, 115, 116, 114, 105, 110, 103, 32, 105, 110, 32, 112, 97, 99, 107]))) .nil)
noncomputable def f_go_to_place_t1 : CSs := (.cons (.seta (.loc 0) "out" (.sliceM (.attr (.loc 0) "out") .nopart (.loc 1))) .nil)
noncomputable def f_go_to_place_t2 : CSs := (.cons (.expr (.call (.glob "lay_noughts" (.ref 760)) (.cons (.loc 0) (.cons (.bin .Sub (.loc 1) (.bi .len (.cons (.attr (.loc 0) "out") .nil))) .nil)))) .nil)
noncomputable def f_go_to_place_t3 : CSs := (.cons (.ite (.cmp .Lt (.loc 1) (.bi .len (.cons (.attr (.loc 0) "out") .nil))) f_go_to_place_t1 f_go_to_place_t2) .nil)
noncomputable def f_go_to_place : CSs := (.cons (.ite (.cmp .Lt (.loc 1) (.int 0)) f_go_to_place_t0 .nil) f_go_to_place_t3)
noncomputable def f_count_of_item_t0 : CSs := (.cons (.ret (.ite (.cmp .Eq (.sub (.loc 0) (.int 3)) (.gint "NO_COUNT" (-2))) (.int 1) (.sub (.loc 0) (.int 3)))) .nil)
noncomputable def f_count_of_item : CSs := (.cons (.ite (.cmp .Eq (.sub (.loc 0) (.int 3)) (.gint "STAR" (-1))) f_repeat_of_t0 .nil) f_count_of_item_t0)
noncomputable def f_pack_text_t0 : CSs := (.cons (.asg 4 (.slice (.loc 2) .nopart (.bi .max (.cons (.bin .Sub (.loc 3) (.int 1)) (.cons (.int 0) .nil))))) .nil)
noncomputable def f_pack_text_t1 : CSs := (.cons (.expr (.call (.glob "lay_octets" (.ref 753)) (.cons (.loc 0) (.cons (.bin .Add (.loc 4) (.rep (.ite (.cmp .Eq (.sub (.loc 1) (.int 0)) (.str [65])) (.int 32) (.int 0)) (.bin .Sub (.loc 3) (.bi .len (.cons (.loc 4) .nil))))) .nil)))) .nil)
noncomputable def f_pack_text_t2 : CSs := (.cons (.ite (.cmp .Eq (.sub (.loc 1) (.int 0)) (.str [90])) f_pack_text_t0 .nil) f_pack_text_t1)
noncomputable def f_pack_text_t3 : CSs := (.cons (.asg 4 (.slice (.loc 2) .nopart (.loc 3))) f_pack_text_t2)
noncomputable def f_pack_text_t4 : CSs := (.cons (.ite (.cmp .Gt (.loc 3) (.attr (.attr (.loc 0) "limits") "text")) f_lay_octets_t0 .nil) f_pack_text_t3)
noncomputable def f_pack_text_t5 : CSs := (.cons (.asg 3 (.call (.glob "count_of_item" (.ref 774)) (.cons (.loc 1) (.cons (.bin .Add (.bi .len (.cons (.loc 2) .nil)) (.cmp .Eq (.sub (.loc 1) (.int 0)) (.str [90]))) .nil)))) f_pack_text_t4)
noncomputable def f_pack_text : CSs := (.cons (.asg 2 (.call (.glob "next_codes" (.ref 746)) (.cons (.loc 0) .nil))) f_pack_text_t5)
noncomputable def f_row_of_value_t0 : CSs := (.cons (.ret (.call (.glob "row_of_ber" (.ref 287)) (.cons (.loc 7) .nil))) .nil)
noncomputable def f_row_of_value_t1 : CSs := (.cons (.ret (.call (.glob "row_of_code" (.ref 301)) (.cons (.loc 7) .nil))) .nil)
noncomputable def f_row_of_value_t2 : CSs := (.cons (.ret (.call (.glob "row_of_number" (.ref 273)) (.cons (.loc 7) (.cons (.call (.glob "fixed_size" (.ref 400)) (.cons (.loc 2) (.cons (.loc 4) .nil))) (.cons (.call (.glob "is_big_first" (.ref 414)) (.cons (.loc 2) (.cons (.loc 3) .nil))) .nil))))) .nil)
noncomputable def f_row_of_value_t3 : CSs := (.cons (.ite (.cmp .Eq (.loc 2) (.str [85])) f_row_of_value_t1 .nil) f_row_of_value_t2)
noncomputable def f_row_of_value_t4 : CSs := (.cons (.ite (.cmp .Eq (.loc 2) (.str [119])) f_row_of_value_t0 .nil) f_row_of_value_t3)
noncomputable def f_row_of_value_t5 : CSs := (.cons (.asg 7 (.call (.glob "next_number" (.ref 741)) (.cons (.loc 0) .nil))) f_row_of_value_t4)
noncomputable def f_row_of_value : CSs := (.cons (.asgT [.loc 2, .loc 3, .loc 4, .loc 5, .loc 6] (.loc 1)) f_row_of_value_t5)
noncomputable def f_pack_numbers_1_t0 : CSs := (.cons (.expr (.call (.glob "lay_octets" (.ref 753)) (.cons (.loc 0) (.cons (.call (.glob "row_of_value" (.ref 795)) (.cons (.loc 0) (.cons (.loc 1) .nil))) .nil)))) .nil)
noncomputable def f_pack_numbers_1 : CSs := (.cons (.expr (.call (.glob "count_step" (.ref 837)) (.cons (.loc 0) .nil))) f_pack_numbers_1_t0)
noncomputable def f_pack_numbers : CSs := (.cons (.forr [2] (.bi .range (.cons (.call (.glob "count_of_item" (.ref 774)) (.cons (.loc 1) (.cons (.call (.glob "values_left" (.ref 727)) (.cons (.loc 0) .nil)) .nil))) .nil)) f_pack_numbers_1) .nil)
noncomputable def f_pack_dot_t0 : CSs := (.cons (.asg 3 (.bi .len (.cons (.attr (.loc 0) "out") .nil))) .nil)
noncomputable def f_pack_dot_t1 : CSs := (.cons (.asg 3 (.sub (.attr (.loc 0) "starts") (.neg (.loc 4)))) .nil)
noncomputable def f_pack_dot_t2 : CSs := (.cons (.ite (.cmp .LtE (.loc 4) (.bi .len (.cons (.attr (.loc 0) "starts") .nil))) f_pack_dot_t1 .nil) .nil)
noncomputable def f_pack_dot_t3 : CSs := (.cons (.asg 4 (.call (.glob "count_of_item" (.ref 774)) (.cons (.loc 1) (.cons (.int 0) .nil)))) f_pack_dot_t2)
noncomputable def f_pack_dot_t4 : CSs := (.cons (.ite (.cmp .NotEq (.sub (.loc 1) (.int 3)) (.gint "STAR" (-1))) f_pack_dot_t3 .nil) .nil)
noncomputable def f_pack_dot_t5 : CSs := (.cons (.expr (.call (.glob "go_to_place" (.ref 767)) (.cons (.loc 0) (.cons (.bin .Add (.loc 3) (.loc 2)) (.cons (.str [46]) .nil))))) .nil)
noncomputable def f_pack_dot_t6 : CSs := (.cons (.ite (.cmp .Eq (.sub (.loc 1) (.int 3)) (.int 0)) f_pack_dot_t0 f_pack_dot_t4) f_pack_dot_t5)
noncomputable def f_pack_dot_t7 : CSs := (.cons (.asg 3 (.int 0)) f_pack_dot_t6)
noncomputable def f_pack_dot : CSs := (.cons (.asg 2 (.call (.glob "next_number" (.ref 741)) (.cons (.loc 0) .nil))) f_pack_dot_t7)
noncomputable def f_pack_move_t0 : CSs := (.cons (.expr (.call (.glob "go_to_place" (.ref 767)) (.cons (.loc 0) (.cons (.bin .Add (.sub (.attr (.loc 0) "starts") (.neg (.int 1))) (.loc 7)) (.cons (.loc 2) .nil))))) .nil)
noncomputable def f_pack_move_t1 : CSs := (.cons (.expr (.call (.glob "go_to_place" (.ref 767)) (.cons (.loc 0) (.cons (.call (.glob "moved" (.ref 526)) (.cons (.bi .len (.cons (.attr (.loc 0) "out") .nil)) (.cons (.loc 2) (.cons (.loc 4) (.cons (.loc 7) .nil))))) (.cons (.loc 2) .nil))))) .nil)
noncomputable def f_pack_move_t2 : CSs := (.cons (.ite (.cmp .Eq (.loc 2) (.str [64])) f_pack_move_t0 f_pack_move_t1) .nil)
noncomputable def f_pack_move_t3 : CSs := (.cons (.asg 7 (.call (.glob "count_of_item" (.ref 774)) (.cons (.loc 1) (.cons (.int 0) .nil)))) f_pack_move_t2)
noncomputable def f_pack_move : CSs := (.cons (.asgT [.loc 2, .loc 3, .loc 4, .loc 5, .loc 6] (.loc 1)) f_pack_move_t3)
noncomputable def f_pack_group_1_t0 : CSs := (.cons (.ite (.and (.cons (.cmp .Eq (.sub (.loc 1) (.int 3)) (.gint "STAR" (-1))) (.cons (.cmp .Eq (.call (.glob "values_left" (.ref 727)) (.cons (.loc 0) .nil)) (.int 0)) .nil))) (.cons .retNone .nil) .nil) .nil)
noncomputable def f_pack_group_1_t1 : CSs := (.cons (.expr (.me .pop (.attr (.loc 0) "starts") .nil)) f_pack_group_1_t0)
noncomputable def f_pack_group_1_t2 : CSs := (.cons (.expr (.call (.glob "pack_items" (.ref 851)) (.cons (.loc 0) (.cons (.sub (.loc 1) (.int 4)) .nil)))) f_pack_group_1_t1)
noncomputable def f_pack_group_1_t3 : CSs := (.cons (.expr (.me .append (.attr (.loc 0) "starts") (.cons (.bi .len (.cons (.attr (.loc 0) "out") .nil)) .nil))) f_pack_group_1_t2)
noncomputable def f_pack_group_1 : CSs := (.cons (.expr (.call (.glob "count_step" (.ref 837)) (.cons (.loc 0) .nil))) f_pack_group_1_t3)
noncomputable def f_pack_group : CSs := (.cons (.forr [2] (.bi .range (.cons (.call (.glob "count_of_item" (.ref 774)) (.cons (.loc 1) (.cons (.call (.glob "values_left" (.ref 727)) (.cons (.loc 0) .nil)) .nil))) .nil)) f_pack_group_1) .nil)
noncomputable def f_count_step : CSs := (.cons (.auga (.loc 0) "steps" .Add (.int 1)) f_note_step_t0)
noncomputable def f_pack_item_t0 : CSs := (.cons (.expr (.call (.glob "pack_group" (.ref 823)) (.cons (.loc 0) (.cons (.loc 1) .nil)))) .nil)
noncomputable def f_pack_item_t1 : CSs := (.cons (.expr (.call (.glob "pack_counted" (.ref 830)) (.cons (.loc 0) (.cons (.loc 1) .nil)))) .nil)
noncomputable def f_pack_item_t2 : CSs := (.cons (.expr (.call (.glob "pack_text" (.ref 781)) (.cons (.loc 0) (.cons (.loc 1) .nil)))) .nil)
noncomputable def f_pack_item_t3 : CSs := (.cons (.expr (.call (.glob "pack_digits" (.ref 788)) (.cons (.loc 0) (.cons (.loc 1) .nil)))) .nil)
noncomputable def f_pack_item_t4 : CSs := (.cons (.expr (.call (.glob "pack_move" (.ref 816)) (.cons (.loc 0) (.cons (.loc 1) .nil)))) .nil)
noncomputable def f_pack_item_t5 : CSs := (.cons (.expr (.call (.glob "pack_dot" (.ref 809)) (.cons (.loc 0) (.cons (.loc 1) .nil)))) .nil)
noncomputable def f_pack_item_t6 : CSs := (.cons (.expr (.call (.glob "lay_octets" (.ref 753)) (.cons (.loc 0) (.cons (.call (.glob "row_of_uu" (.ref 364)) (.cons (.call (.glob "next_codes" (.ref 746)) (.cons (.loc 0) .nil)) (.cons (.call (.glob "count_of_item" (.ref 774)) (.cons (.loc 1) (.cons (.int 45) .nil))) .nil))) .nil)))) .nil)
noncomputable def f_pack_item_t7 : CSs := (.cons (.expr (.call (.glob "pack_numbers" (.ref 802)) (.cons (.loc 0) (.cons (.loc 1) .nil)))) .nil)
noncomputable def f_pack_item_t8 : CSs := (.cons (.ite (.cmp .Eq (.loc 2) (.str [117])) f_pack_item_t6 f_pack_item_t7) .nil)
noncomputable def f_pack_item_t9 : CSs := (.cons (.ite (.cmp .Eq (.loc 2) (.str [46])) f_pack_item_t5 f_pack_item_t8) .nil)
noncomputable def f_pack_item_t10 : CSs := (.cons (.ite (.cmp .In (.loc 2) (.str [120, 88, 64])) f_pack_item_t4 f_pack_item_t9) .nil)
noncomputable def f_pack_item_t11 : CSs := (.cons (.ite (.cmp .In (.loc 2) (.str [98, 66, 104, 72])) f_pack_item_t3 f_pack_item_t10) .nil)
noncomputable def f_pack_item_t12 : CSs := (.cons (.ite (.cmp .In (.loc 2) (.str [97, 65, 90])) f_pack_item_t2 f_pack_item_t11) .nil)
noncomputable def f_pack_item_t13 : CSs := (.cons (.ite (.cmp .Eq (.loc 2) (.str [47])) f_pack_item_t1 f_pack_item_t12) .nil)
noncomputable def f_pack_item_t14 : CSs := (.cons (.ite (.cmp .Eq (.loc 2) (.str [40])) f_pack_item_t0 f_pack_item_t13) .nil)
noncomputable def f_pack_item_t15 : CSs := (.cons (.asg 2 (.sub (.loc 1) (.int 0))) f_pack_item_t14)
noncomputable def f_pack_item : CSs := (.cons (.expr (.call (.glob "count_step" (.ref 837)) (.cons (.loc 0) .nil))) f_pack_item_t15)
noncomputable def f_pack_items_1 : CSs := (.cons (.expr (.call (.glob "pack_item" (.ref 844)) (.cons (.loc 0) (.cons (.loc 2) .nil)))) .nil)
noncomputable def f_pack_items : CSs := (.cons (.forr [2] (.loc 1) f_pack_items_1) .nil)
noncomputable def f_pack_values_t0 : CSs := (.cons (.ret (.me .join (.str []) (.cons (.comp (.bi .chr (.cons (.loc 0) .nil)) (.frz (.attr (.loc 3) "out")) []) .nil))) .nil)
noncomputable def f_pack_values_t1 : CSs := (.cons (.expr (.call (.glob "pack_items" (.ref 851)) (.cons (.loc 3) (.cons (.call (.glob "parse_template" (.ref 512)) (.cons (.loc 0) .nil)) .nil)))) f_pack_values_t0)
noncomputable def f_pack_values : CSs := (.cons (.asg 3 (.call (.glob "Packer" (.ref 716)) (.cons (.loc 1) (.cons (.loc 2) .nil)))) f_pack_values_t1)
noncomputable def f_law_pick_t0 : CSs := (.cons (.ret (.sub (.loc 0) (.loc 1))) .nil)
noncomputable def f_law_pick_t1 : CSs := (.cons (.ret (.bin .Add (.bin .Mult (.int 5) (.loc 1)) (.int 2))) .nil)
noncomputable def f_law_pick : CSs := (.cons (.ite (.cmp .Lt (.loc 1) (.bi .len (.cons (.loc 0) .nil))) f_law_pick_t0 .nil) f_law_pick_t1)
noncomputable def f_law_packed_t0 : CSs := (.cons (.asg 2 (.comp (.bi .ord (.cons (.loc 0) .nil)) (.call (.glob "pack_values" (.ref 856)) (.cons (.loc 0) (.cons (.loc 1) (.cons (.call (.glob "Limits" (.ref 695)) .nil) .nil)))) [])) .nil)
noncomputable def f_law_packed_t1 : CSs := (.cons (.ret (.loc 2)) .nil)
noncomputable def f_law_packed_t2 : CSs := (.cons (.tryx f_law_packed_t0 "Die") f_law_packed_t1)
noncomputable def f_law_packed : CSs := (.cons (.asg 2 .none) f_law_packed_t2)
noncomputable def f_law_unpacked_t0 : CSs := (.cons (.asg 2 (.call (.glob "unpack_values" (.ref 677)) (.cons (.loc 0) (.cons (.me .join (.str []) (.cons (.comp (.bi .chr (.cons (.loc 0) .nil)) (.loc 1) []) .nil)) (.cons (.call (.glob "Limits" (.ref 695)) .nil) .nil))))) .nil)
noncomputable def f_law_unpacked_t1 : CSs := (.cons (.tryx f_law_unpacked_t0 "Die") f_law_packed_t1)
noncomputable def f_law_unpacked : CSs := (.cons (.asg 2 .none) f_law_unpacked_t1)
noncomputable def f_law_sevens_t0 : CSs := (.cons (.asg 1 (.bin .Add (.lst (.cons (.bin .Add (.bin .Mod (.loc 0) (.int 128)) (.int 128)) .nil)) (.loc 1))) .nil)
noncomputable def f_law_sevens_t1 : CSs := (.cons (.asg 0 (.bin .FloorDiv (.loc 0) (.int 128))) f_law_sevens_t0)
noncomputable def f_law_sevens_t2 : CSs := (.cons (.wh (.cmp .GtE (.loc 0) (.int 128)) f_law_sevens_t1) f_repeat_of_t0)
noncomputable def f_law_sevens : CSs := (.cons (.asg 1 (.lst (.cons (.bin .Mod (.loc 0) (.int 128)) .nil))) f_law_sevens_t2)
noncomputable def f_law_code_t0 : CSs := (.cons (.ret (.lst (.cons (.cell 0) .nil))) .nil)
noncomputable def f_law_code_t1 : CSs := (.cons (.ret (.bin .Add (.lst (.cons (.bin .Add (.bin .Sub (.int 256) (.bin .Pow (.int 2) (.bin .Sub (.int 8) (.loc 1)))) (.bin .FloorDiv (.cell 0) (.bin .Pow (.int 64) (.bin .Sub (.loc 1) (.int 1))))) .nil)) (.rev (.loc 2)))) .nil)
noncomputable def f_law_code_t2 : CSs := (.cons (.asg 2 (.comp (.bin .Add (.int 128) (.bin .Mod (.bin .FloorDiv (.cell 1) (.bin .Pow (.int 64) (.loc 0))) (.int 64))) (.bi .range (.cons (.bin .Sub (.loc 1) (.int 1)) .nil)) [0])) f_law_code_t1)
noncomputable def f_law_code_t3 : CSs := (.cons (.wh (.cmp .GtE (.cell 0) (.bin .Pow (.int 2) (.bin .Add (.bin .Mult (.int 5) (.loc 1)) (.int 1)))) f_read_uu_line_1_t0) f_law_code_t2)
noncomputable def f_law_code_t4 : CSs := (.cons (.asg 1 (.int 2)) f_law_code_t3)
noncomputable def f_law_code : CSs := (.cons (.ite (.cmp .Lt (.cell 0) (.int 128)) f_law_code_t0 .nil) f_law_code_t4)
noncomputable def f_law_read_sevens_1_t0 : CSs := (.cons (.asg 2 (.int 0)) .nil)
noncomputable def f_law_read_sevens_1_t1 : CSs := (.cons (.expr (.me .append (.loc 1) (.cons (.loc 2) .nil))) f_law_read_sevens_1_t0)
noncomputable def f_law_read_sevens_1_t2 : CSs := (.cons (.ite (.cmp .Eq (.loc 3) (.bin .Sub (.bi .len (.cons (.loc 0) .nil)) (.int 1))) (.cons (.ret .none) .nil) .nil) .nil)
noncomputable def f_law_read_sevens_1_t3 : CSs := (.cons (.ite (.cmp .Lt (.sub (.loc 0) (.loc 3)) (.int 128)) f_law_read_sevens_1_t1 f_law_read_sevens_1_t2) .nil)
noncomputable def f_law_read_sevens_1 : CSs := (.cons (.asg 2 (.bin .Add (.bin .Mult (.loc 2) (.int 128)) (.bin .Mod (.sub (.loc 0) (.loc 3)) (.int 128)))) f_law_read_sevens_1_t3)
noncomputable def f_law_read_sevens_2 : CSs := (.cons (.ret (.comp (.bin .Sub (.bin .Mod (.bin .Add (.loc 0) (.bin .Pow (.int 2) (.int 63))) (.bin .Pow (.int 2) (.int 64))) (.bin .Pow (.int 2) (.int 63))) (.frz (.loc 1)) [])) .nil)
noncomputable def f_law_read_sevens_t0 : CSs := (.cons (.forr [3] (.bi .range (.cons (.bi .len (.cons (.loc 0) .nil)) .nil)) f_law_read_sevens_1) f_law_read_sevens_2)
noncomputable def f_law_read_sevens_t1 : CSs := (.cons (.asg 2 (.int 0)) f_law_read_sevens_t0)
noncomputable def f_law_read_sevens : CSs := (.cons (.asg 1 (.lstM .nil)) f_law_read_sevens_t1)
noncomputable def f_law_read_codes_1 : CSs := (.cons (.aug 3 .Add (.int 1)) .nil)
noncomputable def f_law_read_codes_2_t0 : CSs := (.cons (.asg 4 (.bin .Add (.bin .Mult (.loc 4) (.int 64)) (.bin .Mod (.loc 5) (.int 64)))) .nil)
noncomputable def f_law_read_codes_2 : CSs := (.cons (.ite (.cmp .NotEq (.bin .FloorDiv (.loc 5) (.int 64)) (.int 2)) (.cons (.ret .none) .nil) .nil) f_law_read_codes_2_t0)
noncomputable def f_law_read_codes_3_t0 : CSs := (.cons (.aug 2 .Add (.loc 3)) .nil)
noncomputable def f_law_read_codes_3_t1 : CSs := (.cons (.expr (.me .append (.loc 1) (.cons (.loc 4) .nil))) f_law_read_codes_3_t0)
noncomputable def f_law_read_codes_3 : CSs := (.cons (.ite (.or (.cons (.cmp .Gt (.loc 3) (.int 6)) (.cons (.cmp .Gt (.bin .Add (.loc 2) (.loc 3)) (.bi .len (.cons (.loc 0) .nil))) (.cons (.and (.cons (.cmp .Eq (.loc 3) (.int 1)) (.cons (.cmp .GtE (.sub (.loc 0) (.loc 2)) (.int 128)) .nil))) (.cons (.cmp .NotEq (.call (.glob "_law_code" (.ref 885)) (.cons (.loc 4) .nil)) (.slice (.loc 0) (.loc 2) (.bin .Add (.loc 2) (.loc 3)))) .nil))))) (.cons (.ret .none) .nil) .nil) f_law_read_codes_3_t1)
noncomputable def f_law_read_codes_4_t0 : CSs := (.cons (.forr [5] (.slice (.loc 0) (.bin .Add (.loc 2) (.int 1)) (.bin .Add (.loc 2) (.loc 3))) f_law_read_codes_2) f_law_read_codes_3)
noncomputable def f_law_read_codes_4 : CSs := (.cons (.asg 4 (.ite (.and (.cons (.cmp .Eq (.loc 3) (.int 1)) (.cons (.cmp .Lt (.sub (.loc 0) (.loc 2)) (.int 128)) .nil))) (.sub (.loc 0) (.loc 2)) (.bin .Mod (.sub (.loc 0) (.loc 2)) (.bin .Pow (.int 2) (.bin .Sub (.int 7) (.loc 3)))))) f_law_read_codes_4_t0)
noncomputable def f_law_read_codes_5_t0 : CSs := (.cons (.wh (.and (.cons (.cmp .Eq (.bin .Mod (.bin .FloorDiv (.sub (.loc 0) (.loc 2)) (.bin .Pow (.int 2) (.bin .Sub (.int 7) (.loc 3)))) (.int 2)) (.int 1)) (.cons (.cmp .Lt (.loc 3) (.int 7)) .nil))) f_law_read_codes_1) .nil)
noncomputable def f_law_read_codes_5_t1 : CSs := (.cons (.asg 3 (.int 0)) f_law_read_codes_5_t0)
noncomputable def f_law_read_codes_5_t2 : CSs := (.cons (.ite (.cmp .GtE (.sub (.loc 0) (.loc 2)) (.int 128)) f_law_read_codes_5_t1 .nil) f_law_read_codes_4)
noncomputable def f_law_read_codes_5 : CSs := (.cons (.asg 3 (.int 1)) f_law_read_codes_5_t2)
noncomputable def f_law_read_codes_6 : CSs := (.cons (.ret (.frz (.loc 1))) .nil)
noncomputable def f_law_read_codes_t0 : CSs := (.cons (.wh (.cmp .Lt (.loc 2) (.bi .len (.cons (.loc 0) .nil))) f_law_read_codes_5) f_law_read_codes_6)
noncomputable def f_law_read_codes_t1 : CSs := (.cons (.asg 2 (.int 0)) f_law_read_codes_t0)
noncomputable def f_law_read_codes : CSs := (.cons (.asg 1 (.lstM .nil)) f_law_read_codes_t1)
noncomputable def f_law_lines_1_t0 : CSs := (.cons (.aug 2 .Add (.bin .Add (.comp (.ite (.cmp .Gt (.loc 0) (.int 0)) (.bin .Add (.int 32) (.loc 0)) (.int 96)) (.loc 6) []) (.lst (.cons (.int 10) .nil)))) .nil)
noncomputable def f_law_lines_1_t1 : CSs := (.cons (.asg 6 (.bin .Add (.lst (.cons (.bi .len (.cons (.loc 4) .nil)) .nil)) (.comp (.bi .int (.cons (.slice (.cell 1) (.loc 0) (.bin .Add (.loc 0) (.int 6))) (.cons (.int 2) .nil))) (.bi .range (.cons (.int 0) (.cons (.bi .len (.cons (.cell 5) .nil)) (.cons (.int 6) .nil)))) [5]))) f_law_lines_1_t0)
noncomputable def f_law_lines_1_t2 : CSs := (.cons (.augC 5 .Add (.bin .Mult (.str [48]) (.bin .Mod (.neg (.bi .len (.cons (.cell 5) .nil))) (.int 24)))) f_law_lines_1_t1)
noncomputable def f_law_lines_1_t3 : CSs := (.cons (.asgC 5 (.me .join (.str []) (.cons (.comp2 (.loc 1) (.loc 4) (.call (.glob "_law_eight" (.ref 907)) (.cons (.loc 0) .nil))) .nil))) f_law_lines_1_t2)
noncomputable def f_law_lines_1 : CSs := (.cons (.asg 4 (.slice (.loc 0) (.loc 3) (.bin .Add (.loc 3) (.loc 1)))) f_law_lines_1_t3)
noncomputable def f_law_lines_2 : CSs := (.cons (.ret (.frz (.loc 2))) .nil)
noncomputable def f_law_lines_t0 : CSs := (.cons (.forr [3] (.bi .range (.cons (.int 0) (.cons (.bi .len (.cons (.loc 0) .nil)) (.cons (.loc 1) .nil)))) f_law_lines_1) f_law_lines_2)
noncomputable def f_law_lines : CSs := (.cons (.asg 2 (.lstM .nil)) f_law_lines_t0)
noncomputable def f_law_eight : CSs := (.cons (.ret (.comp (.bi .str (.cons (.bin .Mod (.bin .FloorDiv (.cell 1) (.bin .Pow (.int 2) (.loc 0))) (.int 2)) .nil)) (.bi .range (.cons (.int 7) (.cons (.neg (.int 1)) (.cons (.neg (.int 1)) .nil)))) [0])) .nil)
noncomputable def f_law_moved_t0 : CSs := (.cons (.ret (.bin .Add (.loc 4) (.loc 2))) .nil)
noncomputable def f_law_moved_t1 : CSs := (.cons (.ret (.ite (.not (.loc 3)) (.bin .Add (.loc 1) (.loc 2)) (.ite (.cmp .Eq (.loc 2) (.int 0)) (.loc 1) (.bin .Mult (.bin .FloorDiv (.bin .Sub (.bin .Add (.loc 1) (.loc 2)) (.int 1)) (.loc 2)) (.loc 2))))) .nil)
noncomputable def f_law_moved_t2 : CSs := (.cons (.ret (.ite (.not (.loc 3)) (.bin .Sub (.loc 1) (.loc 2)) (.ite (.cmp .Eq (.loc 2) (.int 0)) (.loc 1) (.bin .Mult (.bin .FloorDiv (.loc 1) (.loc 2)) (.loc 2))))) .nil)
noncomputable def f_law_moved_t3 : CSs := (.cons (.ite (.cmp .Eq (.loc 0) (.str [120])) f_law_moved_t1 .nil) f_law_moved_t2)
noncomputable def f_law_moved : CSs := (.cons (.ite (.cmp .Eq (.loc 0) (.str [64])) f_law_moved_t0 .nil) f_law_moved_t3)
noncomputable def f_law_walk_1_t0 : CSs := (.cons (.expr (.me .append (.loc 6) (.cons (.sub (.lst (.cons (.bin .Sub (.loc 4) (.loc 7)) (.cons (.loc 4) (.cons (.int 0) (.cons (.loc 4) .nil))))) (.bin .Mod (.loc 11) (.int 4))) .nil))) (.cons .cont .nil))
noncomputable def f_law_walk_1_t1 : CSs := (.cons (.aug 5 .Add (.sub (.lst (.cons (.str [46]) (.cons (.str [46, 42]) (.cons (.str [46, 48]) (.cons (.str [46, 50]) .nil))))) (.bin .Mod (.loc 11) (.int 4)))) f_law_walk_1_t0)
noncomputable def f_law_walk_1_t2 : CSs := (.cons (.asg 10 (.str [120])) .nil)
noncomputable def f_law_walk_1_t3 : CSs := (.cons (.ret (.tup (.cons (.loc 5) (.cons .none .nil)))) .nil)
noncomputable def f_law_walk_1_t4 : CSs := (.cons (.asg 3 (.bin .Add (.slice (.loc 3) .nopart (.loc 13)) (.rep (.int 0) (.bi .max (.cons (.int 0) (.cons (.bin .Sub (.loc 13) (.bi .len (.cons (.loc 3) .nil))) .nil)))))) .nil)
noncomputable def f_law_walk_1_t5 : CSs := (.cons (.asg 4 (.loc 13)) .nil)
noncomputable def f_law_walk_1_t6 : CSs := (.cons (.ite (.loc 1) f_law_walk_1_t4 .nil) f_law_walk_1_t5)
noncomputable def f_law_walk_1_t7 : CSs := (.cons (.ite (.or (.cons (.cmp .Lt (.loc 13) (.int 0)) (.cons (.and (.cons (.cmp .Gt (.loc 13) (.bi .len (.cons (.loc 3) .nil))) (.cons (.not (.loc 1)) .nil))) .nil))) f_law_walk_1_t3 .nil) f_law_walk_1_t6)
noncomputable def f_law_walk_1_t8 : CSs := (.cons (.asg 13 (.call (.glob "_law_moved" (.ref 914)) (.cons (.loc 10) (.cons (.loc 4) (.cons (.loc 11) (.cons (.loc 12) (.cons (.loc 7) .nil))))))) f_law_walk_1_t7)
noncomputable def f_law_walk_1_t9 : CSs := (.cons (.aug 5 .Add (.bin .Add (.bin .Add (.loc 10) (.ite (.loc 12) (.str [33]) (.str []))) (.bi .str (.cons (.loc 11) .nil)))) f_law_walk_1_t8)
noncomputable def f_law_walk_1_t10 : CSs := (.cons (.ite (.cmp .Eq (.loc 10) (.str [46])) f_law_walk_1_t2 .nil) f_law_walk_1_t9)
noncomputable def f_law_walk_1_t11 : CSs := (.cons (.ite (.and (.cons (.cmp .Eq (.loc 10) (.str [46])) (.cons (.not (.loc 1)) .nil))) f_law_walk_1_t1 .nil) f_law_walk_1_t10)
noncomputable def f_law_walk_1_t12 : CSs := (.cons (.asg 12 (.cmp .Eq (.bin .Mod (.bin .FloorDiv (.loc 9) (.int 30)) (.int 3)) (.int 0))) f_law_walk_1_t11)
noncomputable def f_law_walk_1_t13 : CSs := (.cons (.asg 11 (.bin .Mod (.bin .FloorDiv (.loc 9) (.int 6)) (.int 5))) f_law_walk_1_t12)
noncomputable def f_law_walk_1_t14 : CSs := (.cons (.asg 10 (.sub (.str [120, 88, 64, 120, 88, 46]) (.bin .Mod (.loc 9) (.int 6)))) f_law_walk_1_t13)
noncomputable def f_law_walk_1 : CSs := (.cons (.asg 9 (.call (.glob "_law_pick" (.ref 863)) (.cons (.loc 0) (.cons (.bin .Add (.int 2) (.loc 8)) .nil)))) f_law_walk_1_t14)
noncomputable def f_law_walk_2 : CSs := (.cons (.ret (.tup (.cons (.loc 5) (.cons (.ite (.loc 1) (.loc 3) (.frz (.loc 6))) .nil)))) .nil)
noncomputable def f_law_walk_t0 : CSs := (.cons (.asg 7 (.loc 4)) .nil)
noncomputable def f_law_walk_t1 : CSs := (.cons (.asg 4 (.bi .max (.cons (.loc 4) (.cons (.int 1) .nil)))) f_law_walk_t0)
noncomputable def f_law_walk_t2 : CSs := (.cons (.aug 5 .Add (.ite (.loc 1) (.str [40]) (.str [120, 40]))) f_law_walk_t1)
noncomputable def f_law_walk_t3 : CSs := (.cons (.forr [8] (.bi .range (.cons (.int 4) .nil)) f_law_walk_1) f_law_walk_2)
noncomputable def f_law_walk_t4 : CSs := (.cons (.ite (.and (.cons (.cmp .Eq (.bin .Mod (.call (.glob "_law_pick" (.ref 863)) (.cons (.loc 0) (.cons (.int 1) .nil))) (.int 2)) (.int 1)) (.cons (.or (.cons (.loc 1) (.cons (.cmp .NotEq (.loc 2) (.lst .nil)) .nil))) .nil))) f_law_walk_t2 .nil) f_law_walk_t3)
noncomputable def f_law_walk_t5 : CSs := (.cons (.asg 7 (.int 0)) f_law_walk_t4)
noncomputable def f_law_walk_t6 : CSs := (.cons (.asg 6 (.lstM .nil)) f_law_walk_t5)
noncomputable def f_law_walk_t7 : CSs := (.cons (.asg 5 (.ite (.not (.loc 1)) (.str []) (.str [97, 50]))) f_law_walk_t6)
noncomputable def f_law_walk_t8 : CSs := (.cons (.asg 4 (.ite (.not (.loc 1)) (.int 0) (.int 2))) f_law_walk_t7)
noncomputable def f_law_walk : CSs := (.cons (.asg 3 (.bi .list (.cons (.loc 2) .nil))) f_law_walk_t8)
noncomputable def f_law_pointed_1_t0 : CSs := (.cons (.ret (.bool false)) .nil)
noncomputable def f_law_pointed_1_t1 : CSs := (.cons (.ite (.cmp .NotEq (.call (.glob "_law_packed" (.ref 868)) (.cons (.loc 2) (.cons (.lst (.cons (.slice (.str [65, 66, 67]) .nopart (.int 1)) (.cons (.str [66, 67]) (.cons (.loc 1) .nil)))) .nil))) (.ite (.cmp .GtE (.bin .Add (.loc 3) (.loc 1)) (.int 0)) (.loc 4) .none)) f_law_pointed_1_t0 .nil) .nil)
noncomputable def f_law_pointed_1 : CSs := (.cons (.asg 4 (.slice (.lst (.cons (.int 65) (.cons (.int 66) (.cons (.int 67) (.cons (.int 0) (.cons (.int 0) (.cons (.int 0) (.cons (.int 0) (.cons (.int 0) (.cons (.int 0) (.cons (.int 0) .nil))))))))))) .nopart (.bi .max (.cons (.int 0) (.cons (.bin .Add (.loc 3) (.loc 1)) .nil))))) f_law_pointed_1_t1)
noncomputable def f_law_pointed_2 : CSs := (.cons (.ret (.bool true)) .nil)
noncomputable def f_law_pointed_t0 : CSs := (.cons (.forr [2, 3] (.lst (.cons (.tup (.cons (.str [97, 49, 40, 97, 50, 46, 41]) (.cons (.int 1) .nil))) (.cons (.tup (.cons (.str [97, 49, 40, 97, 50, 46, 48, 41]) (.cons (.int 3) .nil))) (.cons (.tup (.cons (.str [97, 49, 40, 97, 50, 46, 42, 41]) (.cons (.int 0) .nil))) (.cons (.tup (.cons (.str [97, 49, 40, 97, 50, 46, 50, 41]) (.cons (.int 0) .nil))) (.cons (.tup (.cons (.str [97, 49, 40, 97, 50, 46, 51, 41]) (.cons (.int 0) .nil))) (.cons (.tup (.cons (.str [97, 49, 97, 50, 46]) (.cons (.int 0) .nil))) .nil))))))) f_law_pointed_1) f_law_pointed_2)
noncomputable def f_law_pointed : CSs := (.cons (.asg 1 (.bin .Sub (.bin .Mod (.call (.glob "_law_pick" (.ref 863)) (.cons (.loc 0) (.cons (.int 2) .nil))) (.int 9)) (.int 3))) f_law_pointed_t0)
noncomputable def f_law_closed : CSs := (.cons (.ret (.ite (.cmp .In (.str [40]) (.loc 0)) (.bin .Add (.loc 0) (.str [41])) (.loc 0))) .nil)
noncomputable def f_law_t0 : CSs := (.cons (.ret (.cmp .Eq (.call (.glob "_law_unpacked" (.ref 873)) (.cons (.call (.glob "_law_closed" (.ref 935)) (.cons (.loc 8) .nil)) (.cons (.loc 1) .nil))) (.loc 10))) .nil)
noncomputable def f_law_t1 : CSs := (.cons (.asgT [.loc 8, .loc 10] (.call (.glob "_law_walk" (.ref 921)) (.cons (.loc 0) (.cons (.bool false) (.cons (.loc 1) .nil))))) f_law_t0)
noncomputable def f_law_t2 : CSs := (.cons (.ite (.not (.call (.glob "_law_pointed" (.ref 928)) (.cons (.loc 0) .nil))) f_law_pointed_1_t0 .nil) f_law_t1)
noncomputable def f_law_t3 : CSs := (.cons (.ite (.cmp .NotEq (.call (.glob "_law_packed" (.ref 868)) (.cons (.call (.glob "_law_closed" (.ref 935)) (.cons (.loc 8) .nil)) (.cons (.lst (.cons (.str [65, 66]) .nil)) .nil))) (.loc 9)) f_law_pointed_1_t0 .nil) f_law_t2)
noncomputable def f_law_t4 : CSs := (.cons (.asgT [.loc 8, .loc 9] (.call (.glob "_law_walk" (.ref 921)) (.cons (.loc 0) (.cons (.bool true) (.cons (.lst (.cons (.int 65) (.cons (.int 66) .nil))) .nil))))) f_law_t3)
noncomputable def f_law_t5 : CSs := (.cons (.ite (.or (.cons (.cmp .NotEq (.call (.glob "_law_packed" (.ref 868)) (.cons (.bin .Add (.str [117]) (.bi .str (.cons (.loc 4) .nil))) (.cons (.lst (.cons (.loc 6) .nil)) .nil))) (.loc 7)) (.cons (.cmp .NotEq (.call (.glob "_law_unpacked" (.ref 873)) (.cons (.str [117]) (.cons (.loc 7) .nil))) (.lst (.cons (.loc 6) .nil))) .nil))) f_law_pointed_1_t0 .nil) f_law_t4)
noncomputable def f_law_t6 : CSs := (.cons (.asg 7 (.call (.glob "_law_lines" (.ref 902)) (.cons (.loc 1) (.cons (.loc 5) .nil)))) f_law_t5)
noncomputable def f_law_t7 : CSs := (.cons (.asg 6 (.me .join (.str []) (.cons (.comp (.bi .chr (.cons (.loc 0) .nil)) (.loc 1) []) .nil))) f_law_t6)
noncomputable def f_law_t8 : CSs := (.cons (.asg 5 (.ite (.cmp .Lt (.loc 4) (.int 3)) (.int 45) (.bi .min (.cons (.bin .Mult (.bin .FloorDiv (.loc 4) (.int 3)) (.int 3)) (.cons (.int 63) .nil))))) f_law_t7)
noncomputable def f_law_t9 : CSs := (.cons (.asg 4 (.bin .Mod (.call (.glob "_law_pick" (.ref 863)) (.cons (.loc 0) (.cons (.int 0) .nil))) (.int 70))) f_law_t8)
noncomputable def f_law_t10 : CSs := (.cons (.ite (.or (.cons (.cmp .NotEq (.call (.glob "_law_unpacked" (.ref 873)) (.cons (.str [119, 42]) (.cons (.loc 1) .nil))) (.call (.glob "_law_read_sevens" (.ref 890)) (.cons (.loc 1) .nil))) (.cons (.cmp .NotEq (.call (.glob "_law_unpacked" (.ref 873)) (.cons (.str [85, 42]) (.cons (.loc 1) .nil))) (.call (.glob "_law_read_codes" (.ref 897)) (.cons (.loc 1) .nil))) .nil))) f_law_pointed_1_t0 .nil) f_law_t9)
noncomputable def f_law_t11 : CSs := (.cons (.ite (.or (.cons (.cmp .NotEq (.call (.glob "_law_unpacked" (.ref 873)) (.cons (.str [85, 42]) (.cons (.call (.glob "_law_packed" (.ref 868)) (.cons (.str [85, 42]) (.cons (.loc 3) .nil))) .nil))) (.loc 3)) (.cons (.cmp .IsNot (.call (.glob "_law_packed" (.ref 868)) (.cons (.str [85]) (.cons (.lst (.cons (.bin .Pow (.int 2) (.int 31)) .nil)) .nil))) .none) .nil))) f_law_pointed_1_t0 .nil) f_law_t10)
noncomputable def f_law_t12 : CSs := (.cons (.ite (.cmp .NotEq (.call (.glob "_law_packed" (.ref 868)) (.cons (.str [85, 42]) (.cons (.loc 3) .nil))) (.comp2 (.loc 1) (.loc 3) (.call (.glob "_law_code" (.ref 885)) (.cons (.loc 0) .nil)))) f_law_pointed_1_t0 .nil) f_law_t11)
noncomputable def f_law_t13 : CSs := (.cons (.ite (.or (.cons (.cmp .NotEq (.call (.glob "_law_unpacked" (.ref 873)) (.cons (.str [119, 42]) (.cons (.call (.glob "_law_packed" (.ref 868)) (.cons (.str [119, 42]) (.cons (.loc 2) .nil))) .nil))) (.loc 2)) (.cons (.cmp .IsNot (.call (.glob "_law_packed" (.ref 868)) (.cons (.str [119]) (.cons (.lst (.cons (.bin .Sub (.neg (.int 1)) (.sub (.bin .Add (.loc 2) (.lst (.cons (.int 0) .nil))) (.int 0))) .nil)) .nil))) .none) .nil))) f_law_pointed_1_t0 .nil) f_law_t12)
noncomputable def f_law_t14 : CSs := (.cons (.ite (.cmp .NotEq (.call (.glob "_law_packed" (.ref 868)) (.cons (.str [119, 42]) (.cons (.loc 2) .nil))) (.comp2 (.loc 1) (.loc 2) (.call (.glob "_law_sevens" (.ref 880)) (.cons (.loc 0) .nil)))) f_law_pointed_1_t0 .nil) f_law_t13)
noncomputable def f_law_t15 : CSs := (.cons (.asg 3 (.comp (.bin .Mod (.bi .abs (.cons (.loc 0) .nil)) (.bin .Pow (.int 2) (.sub (.lst (.cons (.int 7) (.cons (.int 11) (.cons (.int 16) (.cons (.int 21) (.cons (.int 26) (.cons (.int 31) .nil))))))) (.bin .Mod (.bi .abs (.cons (.loc 0) .nil)) (.int 6))))) (.slice (.loc 0) .nopart (.int 8)) [])) f_law_t14)
noncomputable def f_law_t16 : CSs := (.cons (.asg 2 (.comp (.bin .Mod (.bi .abs (.cons (.loc 0) .nil)) (.bin .Pow (.int 2) (.int 63))) (.slice (.loc 0) .nopart (.int 6)) [])) f_law_t15)
noncomputable def f_law : CSs := (.cons (.asg 1 (.comp (.bin .Mod (.loc 0) (.int 256)) (.slice (.loc 0) .nopart (.int 16)) [])) f_law_t16)
end Mine
end
section
open PySem PySem.W PyProof.Rows PySem.Calls PyProof.V PySem.Spec PySem.SeqAt
namespace Mine
theorem CallS_up {prog : Program} {w : World} {K : Frag} {G : Heap} {d d' : Nat} {f : AV} {args : List AV} {H : HM} {Q : AV → HM → Prop} {X : HM → Prop} (h : CallS prog w K G d f args H Q X) (k : d ≤ d') : CallS prog w K G d' f args H Q X := by
  obtain ⟨fa, e, hk, run⟩ := h
  exact ⟨fa, e, hk, fun c P s vs ok I rv => run c P s vs ⟨ok.hd, by have := ok.dep; omega, by have := ok.un; omega, ok.st⟩ I rv⟩
@[simp] theorem HM.del_set (H : HM) (a : Addr) (x : AO) : (H.set a x).del a = H.del a := by
  funext b; unfold HM.del HM.set; split <;> simp_all
@[simp] theorem HM.set_set (H : HM) (a : Addr) (x y : AO) : (H.set a x).set a y = H.set a y := by
  funext b; unfold HM.set; split <;> simp_all
theorem HM.del_none {H : HM} {a : Addr} (h : H a = none) : H.del a = H := by
  funext b; unfold HM.del; split
  · rename_i e; rw [e, h]
  · rfl
theorem HM.set_comm (H : HM) {a b : Addr} (x y : AO) (h : a ≠ b) : (H.set a x).set b y = (H.set b y).set a x := by
  funext q; unfold HM.set
  by_cases h1 : q = a <;> by_cases h2 : q = b <;> simp_all
abbrev nums (l : List Int) : List AV := l.map AV.int
theorem ints?_ints : ∀ l : List Int, ints? (nums l) = some l
  | [] => rfl
  | a :: l => by simp only [nums, List.map_cons, ints?]; rw [show ints? (l.map AV.int) = some l from ints?_ints l]; rfl
theorem eqL_ints (a b : List Int) : eqL (nums a) (nums b) = some (decide (a = b)) := by
  unfold eqL; rw [ints?_ints, ints?_ints]
@[simp] theorem ints_len (a : List Int) : (nums a).length = a.length := by simp [nums]
@[simp] theorem ints_get (a : List Int) (i : Nat) : (nums a)[i]? = (a[i]?).map AV.int := by simp [nums]
theorem fmod_pos {a b : Int} (h : 0 ≤ b) : Int.fmod a b = a % b := Int.fmod_eq_emod_of_nonneg _ h
theorem or_nat (a b : Nat) : Builtin.bitOr (a : Int) (b : Int) = ((a ||| b : Nat) : Int) := by
  unfold Builtin.bitOr Builtin.bitAnd
  have h1 : decide ((0 : Int) ≤ Builtin.bitNot a) = false := by unfold Builtin.bitNot; simp; omega
  have h2 : decide ((0 : Int) ≤ Builtin.bitNot b) = false := by unfold Builtin.bitNot; simp; omega
  rw [h1, h2]
  have e : ∀ x : Int, Builtin.bitNot (Builtin.bitNot x) = x := fun x => by unfold Builtin.bitNot; omega
  simp only [e, Int.toNat_natCast]
theorem or_comm (a b : Int) : Builtin.bitOr a b = Builtin.bitOr b a := by
  unfold Builtin.bitOr; rw [PyProof.Rows.bitAnd_comm]
end Mine
end
section
open PySem PySem.W PyProof.Rows PySem.Calls PyProof.V PySem.Spec PySem.SeqAt
namespace Mine
theorem brT {t : Option Bool} {A B : Prop} (e : t = some true) (h : A) : br t A B := by rw [e]; exact h
theorem brF {t : Option Bool} {A B : Prop} (e : t = some false) (h : B) : br t A B := by rw [e]; exact h
theorem br_dec {p : Prop} [Decidable p] {A B : Prop} (h1 : p → A) (h2 : ¬p → B) : br (some (decide p)) A B := by
  by_cases h : p
  · exact brT (congrArg some (decide_eq_true h)) (h1 h)
  · exact brF (congrArg some (decide_eq_false h)) (h2 h)
theorem br_not {p : Prop} [Decidable p] {A B : Prop} (h1 : ¬p → A) (h2 : p → B) : br (some (!decide p)) A B := by
  by_cases h : p
  · exact brF (by rw [decide_eq_true h]; rfl) (h2 h)
  · exact brT (by rw [decide_eq_false h]; rfl) (h1 h)
theorem br_yes {p : Prop} [Decidable p] {A B : Prop} (e : p) (h : A) : br (some (decide p)) A B := brT (congrArg some (decide_eq_true e)) h
theorem br_no {p : Prop} [Decidable p] {A B : Prop} (e : ¬p) (h : B) : br (some (decide p)) A B := brF (congrArg some (decide_eq_false e)) h
theorem brn_yes {p : Prop} [Decidable p] {A B : Prop} (e : ¬p) (h : A) : br (some (!decide p)) A B := brT (by rw [decide_eq_false e]; rfl) h
theorem brn_no {p : Prop} [Decidable p] {A B : Prop} (e : p) (h : B) : br (some (!decide p)) A B := brF (by rw [decide_eq_true e]; rfl) h
theorem get_of {H : HM} {a d C : Addr} {fs : List (Str × AV)} {n : Str} {v : AV} {Q : AV → Prop} (ha : H a = some (.inst C d)) (hd : H d = some (.dict fs)) (hl : fs.lookup n = some v) (hp : plainA v = true) (h : Q v) : getaW (.ref a) n H Q :=
  ⟨a, C, d, fs, v, rfl, ha, hd, hl, hp, h⟩
theorem set_of {H : HM} {a d C : Addr} {fs : List (Str × AV)} {n : Str} {v : AV} {Q : HM → Prop} (ha : H a = some (.inst C d)) (hd : H d = some (.dict fs)) (hz : fs.length ≤ 20) (hp : plainA v = true) (hn : n ∈ goodNames) (h : Q (H.set d (.dict (setF n v fs)))) : setaW (.ref a) n v H Q :=
  ⟨a, C, d, fs, rfl, ha, hd, hz, hp, hn, h⟩
noncomputable def HExt (H H' : HM) : Prop := ∀ a x, H a = some x → H' a = some x
theorem HExt.refl (H : HM) : HExt H H := fun _ _ e => e
theorem HExt.trans {H H' H'' : HM} (a : HExt H H') (b : HExt H' H'') : HExt H H'' := fun x o e => b x o (a x o e)
theorem HExt.up {H H' : HM} {a : Addr} {x : AO} (h : HExt H H') (n : H a = none) : HExt H (H'.set a x) := fun b o e => by
  unfold HM.set; split
  · rename_i z; rw [z, n] at e; cases e
  · exact h b o e
theorem HExt.set {H : HM} {a : Addr} (x : AO) (h : H a = none) : HExt H (H.set a x) := (HExt.refl H).up h
theorem HExt.del {H H' : HM} {a : Addr} (h : HExt H H') (n : H a = none) : HExt H (H'.del a) := fun b o e => by
  unfold HM.del; split
  · rename_i z; rw [z, n] at e; cases e
  · exact h b o e
theorem compW_map {W : AV → HM → (AV → HM → Prop) → Prop} {α : Type} {i g : α → AV} : ∀ {l : List α} {H : HM} {Q : List AV → HM → Prop}, (∀ n ∈ l, ∀ H1 k, HExt H H1 → (∀ H2, HExt H1 H2 → k (g n) H2) → W (i n) H1 k) → (∀ H', HExt H H' → Q (l.map g) H') → compW W (l.map i) H Q
  | [], H, Q, hw, hq => hq H (.refl H)
  | n :: l, H, Q, hw, hq => hw n (.head _) H _ (.refl H) fun H1 e1 =>
    compW_map (l := l) (fun u m H1' k e h => hw u (.tail _ m) H1' k (e1.trans e) h) fun H2 e2 => hq H2 (e1.trans e2)
noncomputable def wrap64 (n : Int) : Int := (n + 2 ^ 63) % 2 ^ 64 - 2 ^ 63
theorem mulL {a b : Int} (h : a.natAbs < 2 ^ 64) : IntMulOk a b := .of_left (intBits_le h)
theorem mulR {a b : Int} (h : b.natAbs < 2 ^ 64) : IntMulOk a b := .of_right (intBits_le h)
theorem idx_nat {n i : Nat} (h : i < n) : pyIdx n (i : Int) = some i := by
  unfold pyIdx
  rw [if_pos (Int.natCast_nonneg i), if_pos (Int.ofNat_lt.mpr h)]; rfl
end Mine
end
section
open PySem PySem.W PyProof.Rows PySem.Calls PyProof.V PySem.Spec PySem.SeqAt
namespace Mine
structure Row where
  fa : Addr
  nm : List Str
  np : Nat
  cell : Option Nat
  b : CSs
noncomputable def r_wrap_number : Row := ⟨21, ["n", "width"], 2, none, f_wrap_number⟩
noncomputable def r_to_text : Row := ⟨189, ["value"], 1, none, f_to_text⟩
noncomputable def r_to_number : Row := ⟨196, ["value", "limits"], 2, none, f_to_number⟩
noncomputable def r_row_of_ber : Row := ⟨287, ["n", "row"], 1, none, f_row_of_ber⟩
noncomputable def r_read_ber : Row := ⟨294, ["data", "at", "found"], 2, none, f_read_ber⟩
noncomputable def r_row_of_code : Row := ⟨301, ["code", "row", "room", "size"], 1, none, f_row_of_code⟩
noncomputable def r_read_code : Row := ⟨308, ["data", "at", "first", "size", "code", "octet"], 2, none, f_read_code⟩
noncomputable def r_uu_sign : Row := ⟨350, ["six"], 1, none, f_uu_sign⟩
noncomputable def r_uu_line : Row := ⟨357, ["part", "row", "at", "three", "bits", "shift"], 1, none, f_uu_line⟩
noncomputable def r_row_of_uu : Row := ⟨364, ["data", "count", "wide", "row", "at"], 2, none, f_row_of_uu⟩
noncomputable def r_is_uu : Row := ⟨371, ["data", "at"], 2, none, f_is_uu⟩
noncomputable def r_uu_six : Row := ⟨378, ["data", "at"], 2, none, f_uu_six⟩
noncomputable def r_read_uu_line : Row := ⟨385, ["data", "at", "size", "row", "bits", "k"], 2, none, f_read_uu_line⟩
noncomputable def r_read_uu : Row := ⟨392, ["data", "at", "row", "part"], 2, none, f_read_uu⟩
noncomputable def r_TemplateReader_init : Row := ⟨428, ["self", "text"], 2, none, f_TemplateReader_init⟩
noncomputable def r_TemplateReader_peek : Row := ⟨435, ["self"], 1, none, f_TemplateReader_peek⟩
noncomputable def r_TemplateReader_skip : Row := ⟨442, ["self"], 1, none, f_TemplateReader_skip⟩
noncomputable def r_read_figures : Row := ⟨456, ["reader", "begun", "figures"], 1, none, f_read_figures⟩
noncomputable def r_read_repeat : Row := ⟨470, ["reader", "sign"], 1, none, f_read_repeat⟩
noncomputable def r_read_marks : Row := ⟨477, ["reader", "letter", "order", "has_bang", "sign"], 2, none, f_read_marks⟩
noncomputable def r_in_order : Row := ⟨484, ["items", "order", "found", "letter", "own", "has_bang", "count", "inner"], 2, none, f_in_order⟩
noncomputable def r_read_one : Row := ⟨491, ["reader", "depth", "letter", "inner", "order", "has_bang", "count"], 2, none, f_read_one⟩
noncomputable def r_read_items : Row := ⟨505, ["reader", "depth", "items", "item"], 2, none, f_read_items⟩
noncomputable def r_parse_template : Row := ⟨512, ["text"], 1, none, f_parse_template⟩
noncomputable def r_moved : Row := ⟨526, ["at", "letter", "has_bang", "many"], 4, none, f_moved⟩
noncomputable def r_Unpacker_init : Row := ⟨548, ["self", "data", "limits"], 3, none, f_Unpacker_init⟩
noncomputable def r_octets_left : Row := ⟨562, ["unpacker"], 1, none, f_octets_left⟩
noncomputable def r_note_value : Row := ⟨569, ["unpacker", "value"], 2, none, f_note_value⟩
noncomputable def r_note_step : Row := ⟨576, ["unpacker"], 1, none, f_note_step⟩
noncomputable def r_repeat_of : Row := ⟨583, ["item", "most"], 2, none, f_repeat_of⟩
noncomputable def r_text_of_row : Row := ⟨595, ["row"], 1, none, f_text_of_row⟩
noncomputable def r_unpack_running : Row := ⟨623, ["unpacker", "item", "turn", "number"], 2, none, f_unpack_running⟩
noncomputable def r_unpack_move : Row := ⟨630, ["unpacker", "item", "letter", "order", "has_bang", "count", "inner", "many", "place"], 2, none, f_unpack_move⟩
noncomputable def r_unpack_dot : Row := ⟨637, ["unpacker", "item", "base", "back"], 2, none, f_unpack_dot⟩
noncomputable def r_unpack_group : Row := ⟨644, ["unpacker", "item", "letter", "order", "has_bang", "count", "inner", "turns", "turn"], 2, none, f_unpack_group⟩
noncomputable def r_unpack_uu : Row := ⟨658, ["unpacker", "row"], 1, none, f_unpack_uu⟩
noncomputable def r_unpack_item : Row := ⟨665, ["unpacker", "item", "letter"], 2, none, f_unpack_item⟩
noncomputable def r_unpack_items : Row := ⟨672, ["unpacker", "items", "item"], 2, none, f_unpack_items⟩
noncomputable def r_unpack_values : Row := ⟨677, ["template", "text", "limits", "unpacker"], 3, none, f_unpack_values⟩
noncomputable def r_Packer_init : Row := ⟨713, ["self", "values", "limits"], 3, none, f_Packer_init⟩
noncomputable def r_values_left : Row := ⟨727, ["packer"], 1, none, f_values_left⟩
noncomputable def r_next_value : Row := ⟨734, ["packer"], 1, none, f_next_value⟩
noncomputable def r_next_number : Row := ⟨741, ["packer"], 1, none, f_next_number⟩
noncomputable def r_next_codes : Row := ⟨746, ["packer"], 1, none, f_next_codes⟩
noncomputable def r_lay_octets : Row := ⟨753, ["packer", "row"], 2, none, f_lay_octets⟩
noncomputable def r_lay_noughts : Row := ⟨760, ["packer", "many"], 2, none, f_lay_noughts⟩
noncomputable def r_go_to_place : Row := ⟨767, ["packer", "place", "letter"], 3, none, f_go_to_place⟩
noncomputable def r_count_of_item : Row := ⟨774, ["item", "star"], 2, none, f_count_of_item⟩
noncomputable def r_pack_text : Row := ⟨781, ["packer", "item", "codes", "size", "kept"], 2, none, f_pack_text⟩
noncomputable def r_row_of_value : Row := ⟨795, ["packer", "item", "letter", "order", "has_bang", "count", "inner", "number"], 2, none, f_row_of_value⟩
noncomputable def r_pack_numbers : Row := ⟨802, ["packer", "item", "turn"], 2, none, f_pack_numbers⟩
noncomputable def r_pack_dot : Row := ⟨809, ["packer", "item", "offset", "base", "back"], 2, none, f_pack_dot⟩
noncomputable def r_pack_move : Row := ⟨816, ["packer", "item", "letter", "order", "has_bang", "count", "inner", "many"], 2, none, f_pack_move⟩
noncomputable def r_pack_group : Row := ⟨823, ["packer", "item", "turn"], 2, none, f_pack_group⟩
noncomputable def r_count_step : Row := ⟨837, ["packer"], 1, none, f_count_step⟩
noncomputable def r_pack_item : Row := ⟨844, ["packer", "item", "letter"], 2, none, f_pack_item⟩
noncomputable def r_pack_items : Row := ⟨851, ["packer", "items", "item"], 2, none, f_pack_items⟩
noncomputable def r_pack_values : Row := ⟨856, ["template", "values", "limits", "packer"], 3, none, f_pack_values⟩
noncomputable def r_law_pick : Row := ⟨863, ["script", "place"], 2, none, f_law_pick⟩
noncomputable def r_law_packed : Row := ⟨868, ["template", "values", "found"], 2, none, f_law_packed⟩
noncomputable def r_law_unpacked : Row := ⟨873, ["template", "octets", "found"], 2, none, f_law_unpacked⟩
noncomputable def r_law_sevens : Row := ⟨880, ["number", "row"], 1, none, f_law_sevens⟩
noncomputable def r_law_code : Row := ⟨885, ["code", "size", "row"], 1, (some 0), f_law_code⟩
noncomputable def r_law_read_sevens : Row := ⟨890, ["data", "found", "number", "at"], 1, none, f_law_read_sevens⟩
noncomputable def r_law_read_codes : Row := ⟨897, ["data", "found", "at", "size", "code", "octet"], 1, none, f_law_read_codes⟩
noncomputable def r_law_lines : Row := ⟨902, ["octets", "wide", "row", "at", "part", "bits", "sixes"], 2, (some 5), f_law_lines⟩
noncomputable def r_law_eight : Row := ⟨907, ["octet"], 1, (some 0), f_law_eight⟩
noncomputable def r_law_moved : Row := ⟨914, ["letter", "at", "many", "bang", "begun"], 5, none, f_law_moved⟩
noncomputable def r_law_walk : Row := ⟨921, ["script", "is_packed", "data", "row", "at", "text", "told", "begun", "turn", "code", "letter", "many", "bang", "place"], 3, none, f_law_walk⟩
noncomputable def r_law_pointed : Row := ⟨928, ["script", "n", "template", "base", "row"], 1, none, f_law_pointed⟩
noncomputable def r_law_closed : Row := ⟨935, ["text"], 1, none, f_law_closed⟩
noncomputable def tab : List Row := [r_wrap_number, r_to_text, r_to_number, r_row_of_ber, r_read_ber, r_row_of_code, r_read_code, r_uu_sign, r_uu_line, r_row_of_uu, r_is_uu, r_uu_six, r_read_uu_line, r_read_uu, r_TemplateReader_init, r_TemplateReader_peek, r_TemplateReader_skip, r_read_figures, r_read_repeat, r_read_marks, r_in_order, r_read_one, r_read_items, r_parse_template, r_moved, r_Unpacker_init, r_octets_left, r_note_value, r_note_step, r_repeat_of, r_text_of_row, r_unpack_running, r_unpack_move, r_unpack_dot, r_unpack_group, r_unpack_uu, r_unpack_item, r_unpack_items, r_unpack_values, r_Packer_init, r_values_left, r_next_value, r_next_number, r_next_codes, r_lay_octets, r_lay_noughts, r_go_to_place, r_count_of_item, r_pack_text, r_row_of_value, r_pack_numbers, r_pack_dot, r_pack_move, r_pack_group, r_count_step, r_pack_item, r_pack_items, r_pack_values, r_law_pick, r_law_packed, r_law_unpacked, r_law_sevens, r_law_code, r_law_read_sevens, r_law_read_codes, r_law_lines, r_law_eight, r_law_moved, r_law_walk, r_law_pointed, r_law_closed]
structure Wd (prog : Program) (w : World) (K : Frag) (G : Heap) : Prop where
  run : ∀ {d : Nat} {n : Nat} {r : Row} {args : List AV} {H : HM} {Q : AV → HM → Prop} {X : HM → Prop}, tab[n]? = some r → args.length = r.np →
    fnW (CPs prog w K G d) r.nm r.cell r.b args H Q X → CallS prog w K G (d + 1) (.glob (.ref r.fa)) args H Q X
  cls : ∀ {d : Nat} {C fI : Addr} {args : List AV} {H : HM} {Q : AV → HM → Prop} {X : HM → Prop}, (C, fI) ∈ [((445 : Nat), (428 : Nat)), (551, 548), (716, 713)] →
    (∀ x dx, x ≠ dx → H x = none → H dx = none → CallS prog w K G d (.glob (.ref fI)) (.ref x :: args) ((H.set dx (.dict [])).set x (.inst C dx)) (fun v H' => v = .none ∧ Q (.ref x) H') X) → CallS prog w K G (d + 1) (.glob (.ref C)) args H Q X
  lim : ∀ {H : HM} {Q : AV → HM → Prop} {X : HM → Prop}, (∀ x dx, x ≠ dx → H x = none → H dx = none → Q (.ref x) ((H.set dx (.dict [("width", .int 64), ("depth", .int 50), ("steps", .int 1000000), ("text", .int 100000), ("items", .int 10000)])).set x (.inst 695 dx))) →
    CallS prog w K G 5 (.glob (.ref 695)) [] H Q X
  meth : methIn K 445 "peek" = some (.glob (.ref 435)) ∧ methIn K 445 "skip" = some (.glob (.ref 442))
  ni : KNi K 157 = true
section
variable {prog : Program} {w : World} {K : Frag} {G : Heap} {H : HM} {Q : AV → HM → Prop} {X : HM → Prop}
theorem s_wrap_number (V : Wd prog w K G) {n : Int} (h : Q (.int (wrap64 n)) H) : CallS prog w K G 1 (.glob (.ref 21)) [.int n, .int 64] H Q X := by
  refine V.run (n := 0) (r := r_wrap_number) rfl rfl ⟨by decide, by decide, by decide, by decide, by decide, ?_⟩
  have e1 : n.fmod (1 * 2 ^ (64 : Int).toNat) = n % 18446744073709551616 := Int.fmod_eq_emod_of_nonneg _ (by decide)
  have e2 : ∀ m : Int, m.fdiv (2 ^ ((64 : Int) - 1).toNat) = m / 9223372036854775808 := fun m => Int.fdiv_eq_ediv_of_nonneg _ (by decide)
  have e3 : wrap64 n = (n + 9223372036854775808) % 18446744073709551616 - 9223372036854775808 := rfl
  rw [e3] at h
  refine br_not (fun z => ⟨by decide, by decide, by decide, ?_⟩) fun z => ?_
  · show Q (.int (n.fmod (1 * 2 ^ (64 : Int).toNat) - 18446744073709551616)) H
    rw [e1] at z ⊢
    rw [e2] at z
    rw [show n % 18446744073709551616 - 18446744073709551616 = (n + 9223372036854775808) % 18446744073709551616 - 9223372036854775808 from by omega]; exact h
  · show Q (.int (n.fmod (1 * 2 ^ (64 : Int).toNat))) H
    rw [e1] at z ⊢
    rw [e2] at z
    rw [show n % 18446744073709551616 = (n + 9223372036854775808) % 18446744073709551616 - 9223372036854775808 from by omega]; exact h
end
end Mine
end
section
open PySem PySem.W PyProof.Rows PySem.Calls PyProof.V PySem.Spec PySem.SeqAt
namespace Mine
abbrev nn (l : List Nat) : List AV := l.map fun (n : Nat) => AV.int (n : Int)
theorem nn_len (l : List Nat) : (nn l).length = l.length := List.length_map _
theorem nn_get (l : List Nat) (i : Nat) : (nn l)[i]? = (l[i]?).map fun (n : Nat) => AV.int (n : Int) := List.getElem?_map
theorem nn_app (a b : List Nat) : nn (a ++ b) = nn a ++ nn b := List.map_append
theorem nn_rev (a : List Nat) : (nn a).reverse = nn a.reverse := List.map_reverse.symm
theorem nn_nums (l : List Nat) : nn l = nums (l.map Int.ofNat) := List.map_map.symm
theorem cast_inj {a b : List Nat} : a.map Int.ofNat = b.map Int.ofNat ↔ a = b := List.map_inj_right fun _ _ h => Int.ofNat.inj h
theorem eqL_nn (a b : List Nat) : eqL (nn a) (nn b) = some (decide (a = b)) := by
  rw [nn_nums, nn_nums, eqL_ints, decide_eq_decide.mpr cast_inj]
noncomputable def hi (m : Nat) : List Nat := if h : m = 0 then [] else hi (m / 128) ++ [m % 128 + 128]
termination_by m
decreasing_by exact Nat.div_lt_self (Nat.pos_of_ne_zero h) (by decide)
noncomputable def sev (m : Nat) : List Nat := hi (m / 128) ++ [m % 128]
theorem hi_zero : hi 0 = [] := by rw [hi]; rfl
theorem hi_pos {m : Nat} (h : m ≠ 0) : hi m = hi (m / 128) ++ [m % 128 + 128] := by rw [hi, dif_neg h]
theorem pow128 {m k : Nat} (h : m < 128 ^ (k + 1)) : m / 128 < 128 ^ k := Nat.div_lt_of_lt_mul (by rw [Nat.mul_comm]; exact h)
theorem fdivN (m k : Nat) : ((m : Int)).fdiv (k : Int) = ((m / k : Nat) : Int) := Int.fdiv_eq_ediv_of_nonneg _ (Int.natCast_nonneg k)
theorem fmodN (m k : Nat) : ((m : Int)).fmod (k : Int) = ((m % k : Nat) : Int) := Int.fmod_eq_emod_of_nonneg _ (Int.natCast_nonneg k)
theorem sl_of {n : Nat} (h : n ≤ 10000) : n ≤ sizeLine := Nat.le_trans h (by decide)
section
variable {prog : Program} {w : World} {K : Frag} {G : Heap} {H : HM} {Q : AV → HM → Prop} {X : HM → Prop}
theorem s_law_sevens (V : Wd prog w K G) {m : Nat} (hm : m < 2 ^ 64) (h : Q (.lst (nn (sev m))) H) : CallS prog w K G 1 (.glob (.ref 880)) [.int m] H Q X := by
  refine V.run (n := 61) (r := r_law_sevens) rfl rfl ⟨by decide, ?_⟩
  intro I hI
  have key : ∀ (k m : Nat) (row : List Nat), m < 128 ^ k → row.length + k ≤ 100 → Q (.lst (nn (hi (m / 128) ++ row))) H → I ⟨[some (.int m), some (.lst (nn row))], H⟩ := by
    intro k
    induction k with
    | zero =>
      intro m row h1 h2 h
      refine hI _ (br_dec (fun z => absurd h1 (Nat.not_lt.mpr (Nat.le_trans (by decide) (Int.ofNat_le.mp z)))) fun z => ?_)
      rw [Nat.div_eq_of_lt (Int.ofNat_lt.mp (Int.not_le.mp z)), hi_zero] at h
      exact h
    | succ k ih =>
      intro m row h1 h2 h
      refine hI _ (br_dec (fun z => ?_) fun z => ?_)
      · have hm := Int.ofNat_le.mp z
        rw [hi_pos (Nat.ne_of_gt (Nat.div_pos hm (by decide))), List.append_assoc] at h
        refine ⟨by decide, by decide, by decide, ?_, ?_⟩
        · show 1 + (nn row).length ≤ sizeLine
          rw [nn_len]; exact sl_of (by omega)
        · show I ⟨[some (.int ((m : Int).fdiv 128)), some (.lst (.int (((m : Int).fdiv 128).fmod 128 + 128) :: nn row))], H⟩
          rw [show (m : Int).fdiv 128 = _ from fdivN m 128, show ((m / 128 : Nat) : Int).fmod 128 = _ from fmodN (m / 128) 128]
          exact ih (m / 128) ((m / 128 % 128 + 128) :: row) (pow128 h1) (Nat.le_trans (Nat.le_of_eq (Nat.add_right_comm _ _ _)) h2) h
      · rw [Nat.div_eq_of_lt (Int.ofNat_lt.mp (Int.not_le.mp z)), hi_zero] at h
        exact h
  show I ⟨[some (.int m), some (.lst [.int ((m : Int).fmod 128)])], H⟩
  rw [show (m : Int).fmod 128 = _ from fmodN m 128]
  exact key 20 m [m % 128] (Nat.lt_of_lt_of_le hm (by decide)) (by exact (by decide : 1 + 20 ≤ 100)) h
end
end Mine
end
section
open PySem PySem.W PyProof.Rows PySem.Calls PyProof.V PySem.Spec PySem.SeqAt
namespace Mine
theorem gone1 {H : HM} {b : Addr} {x : AO} (h : H b = none) : (H.set b x).del b = H := by rw [HM.del_set, HM.del_none h]
theorem gone2 {H : HM} {b : Addr} {x y : AO} (h : H b = none) : ((H.set b x).set b y).del b = H := by rw [HM.set_set, gone1 h]
theorem same {H : HM} {a : Addr} {x : AO} : (H.set a x) a = some x := HM.set_same H a x
theorem bitor_add {a : Nat} (k b : Nat) (h : b < 2 ^ k) : Builtin.bitOr ((a * 2 ^ k : Nat) : Int) (b : Int) = ((a * 2 ^ k + b : Nat) : Int) := by
  have h3 := Nat.shiftLeft_add_eq_or_of_lt h a
  rw [Nat.shiftLeft_eq] at h3
  rw [or_nat, ← h3]
theorem or128 {m : Nat} (h : m < 128) : Builtin.bitOr (m : Int) 128 = ((m + 128 : Nat) : Int) := by
  rw [or_comm, Nat.add_comm]; exact bitor_add (a := 1) 7 m h
theorem shrN {m k : Nat} : (m : Int).fdiv (2 ^ ((k : Nat) : Int).toNat) = ((m / 2 ^ k : Nat) : Int) := by
  rw [show ((2 : Int) ^ ((k : Nat) : Int).toNat) = ((2 ^ k : Nat) : Int) from (Int.natCast_pow 2 k).symm, fdivN]
theorem and127 {m : Nat} : Builtin.bitAnd (m : Int) 127 = ((m % 128 : Nat) : Int) := bitAnd_m7 (m : Int)
theorem and63 {m : Nat} : Builtin.bitAnd (m : Int) 63 = ((m % 64 : Nat) : Int) := bitAnd_m6 (m : Int)
theorem and255 {m : Nat} : Builtin.bitAnd (m : Int) 255 = ((m % 256 : Nat) : Int) := bitAnd_m8 (m : Int)
theorem and1 {m : Nat} : Builtin.bitAnd (m : Int) 1 = ((m % 2 : Nat) : Int) := bitAnd_m1 (m : Int)
section
variable {prog : Program} {w : World} {K : Frag} {G : Heap} {H : HM} {Q : AV → HM → Prop} {X : HM → Prop}
theorem s_row_of_ber_neg (V : Wd prog w K G) {n : Int} (hn : n < 0) (h : X H) : CallS prog w K G 1 (.glob (.ref 287)) [.int n] H Q X :=
  V.run (n := 3) (r := r_row_of_ber) rfl rfl (br_yes hn h)
theorem s_row_of_ber (V : Wd prog w K G) {m : Nat} (hm : m < 2 ^ 64) (h : Q (.lst (nn (sev m))) H) : CallS prog w K G 1 (.glob (.ref 287)) [.int m] H Q X := by
  have hn := Int.not_lt.mpr (Int.natCast_nonneg m)
  generalize he : (m : Int) = n at hn
  refine V.run (n := 3) (r := r_row_of_ber) rfl rfl (br_no hn fun b hb => ⟨by decide, ?_⟩)
  subst he
  intro I hI
  have sh : ∀ m : Nat, (m : Int).fdiv (2 ^ (7 : Int).toNat) = ((m / 128 : Nat) : Int) := fun m => fdivN m 128
  have key : ∀ (k m : Nat) (row : List Nat), m < 128 ^ k → row.length + k ≤ 100 → Q (.lst (nn (hi m ++ row.reverse))) H → I ⟨[some (.int m), some (.ref b)], H.set b (.list (nn row))⟩ := by
    intro k
    induction k using Nat.strongRecOn with
    | _ k ih =>
      intro m row h1 h2 h
      refine hI _ (br_dec (fun z => ?_) fun z => ?_)
      · have hm := Int.ofNat_lt.mp z
        cases k with
        | zero => exact absurd h1 (Nat.not_lt.mpr hm)
        | succ k =>
        rw [hi_pos (Nat.ne_of_gt hm), List.append_assoc] at h
        refine ⟨⟨b, _, rfl, same⟩, b, _, rfl, same, ?_, by decide, ?_⟩
        · rw [nn_len]; exact sl_of (by omega)
        · show I ⟨[some (.int ((m : Int).fdiv (2 ^ (7 : Int).toNat))), some (.ref b)], (H.set b (.list (nn row))).set b (.list (nn row ++ [.int (Builtin.bitOr (Builtin.bitAnd m 127) 128)]))⟩
          rw [sh, and127, or128 (Nat.mod_lt _ (by decide)), HM.set_set]
          have := ih k (Nat.lt_succ_self k) (m / 128) (row ++ [m % 128 + 128]) (pow128 h1) (by rw [List.length_append]; exact Nat.le_trans (Nat.le_of_eq (Nat.add_right_comm _ _ _)) h2) (by rw [List.reverse_append]; exact h)
          rw [nn_app] at this; exact this
      · rw [Nat.eq_zero_of_not_pos fun q => z (Int.ofNat_lt.mpr q), hi_zero] at h
        refine ⟨⟨b, _, rfl, same⟩, b, _, rfl, same, b, _, rfl, same, ?_⟩
        show Q (.lst (nn row).reverse) (((H.set b (.list (nn row))).set b (.list (nn row).reverse)).del b)
        rw [gone2 hb, nn_rev]; exact h
  show I ⟨[some (.int ((m : Int).fdiv (2 ^ (7 : Int).toNat))), some (.ref b)], H.set b (.list [.int (Builtin.bitAnd m 127)])⟩
  rw [sh, and127]
  exact key 20 (m / 128) [m % 128] (Nat.lt_of_le_of_lt (Nat.div_le_self _ _) (Nat.lt_of_lt_of_le hm (by decide))) (by exact (by decide : 1 + 20 ≤ 100)) h
end
end Mine
end
section
open PySem PySem.W PyProof.Rows PySem.Calls PyProof.V PySem.Spec PySem.SeqAt
namespace Mine
noncomputable def limD : List (Str × AV) := [("width", .int 64), ("depth", .int 50), ("steps", .int 1000000), ("text", .int 100000), ("items", .int 10000)]
structure Ad where
  a : Addr
  d : Addr
  s : Addr
  lm : Addr
  ld : Addr
structure Ob (H0 H : HM) (C : Addr) (A : Ad) (f : Addr) (fs : List (Str × AV)) (fl : List AV) (starts : List Nat) : Prop where
  base : HExt H0 H
  nd : H0 A.d = none
  nf : H0 f = none
  ns : H0 A.s = none
  ha : H A.a = some (.inst C A.d)
  hd : H A.d = some (.dict fs)
  hf : H f = some (.list fl)
  hs : H A.s = some (.list (nn starts))
  hl : H A.lm = some (.inst 695 A.ld)
  hld : H A.ld = some (.dict limD)
  fs : f ≠ A.s
  dl : A.d ≠ A.ld
theorem ne_of {H : HM} {a b : Addr} {x y : AO} (h1 : H a = some x) (h2 : H b = some y) (h : x ≠ y) : a ≠ b := fun e => h (by rw [e, h2] at h1; exact (Option.some.inj h1).symm)
theorem keep {H : HM} {a b : Addr} {x y z : AO} (h1 : H a = some x) (h2 : H b = some y) (h : x ≠ y) : (H.set b z) a = some x := by rw [HM.set_ne _ _ (ne_of h1 h2 h)]; exact h1
section
variable {H0 H : HM} {C : Addr} {A : Ad} {f : Addr} {fs : List (Str × AV)} {fl : List AV} {starts : List Nat}
theorem Ob.setD (u : Ob H0 H C A f fs fl starts) (fs' : List (Str × AV)) : Ob H0 (H.set A.d (.dict fs')) C A f fs' fl starts :=
  ⟨u.base.up u.nd, u.nd, u.nf, u.ns, keep u.ha u.hd nofun, HM.set_same _ _ _, keep u.hf u.hd nofun, keep u.hs u.hd nofun, keep u.hl u.hd nofun, by rw [HM.set_ne _ _ u.dl.symm]; exact u.hld, u.fs, u.dl⟩
theorem Ob.setL (u : Ob H0 H C A f fs fl starts) (fl' : List AV) : Ob H0 (H.set f (.list fl')) C A f fs fl' starts :=
  ⟨u.base.up u.nf, u.nd, u.nf, u.ns, keep u.ha u.hf nofun, keep u.hd u.hf nofun, HM.set_same _ _ _, by rw [HM.set_ne _ _ u.fs.symm]; exact u.hs, keep u.hl u.hf nofun, keep u.hld u.hf nofun, u.fs, u.dl⟩
theorem Ob.setS (u : Ob H0 H C A f fs fl starts) (starts' : List Nat) : Ob H0 (H.set A.s (.list (nn starts'))) C A f fs fl starts' :=
  ⟨u.base.up u.ns, u.nd, u.nf, u.ns, keep u.ha u.hs nofun, keep u.hd u.hs nofun, by rw [HM.set_ne _ _ u.fs]; exact u.hf, HM.set_same _ _ _, keep u.hl u.hs nofun, keep u.hld u.hs nofun, u.fs, u.dl⟩
theorem Ob.ext (u : Ob H0 H C A f fs fl starts) {H' : HM} (e : HExt H H') : Ob H0 H' C A f fs fl starts :=
  ⟨u.base.trans e, u.nd, u.nf, u.ns, e _ _ u.ha, e _ _ u.hd, e _ _ u.hf, e _ _ u.hs, e _ _ u.hl, e _ _ u.hld, u.fs, u.dl⟩
theorem Ob.get (u : Ob H0 H C A f fs fl starts) {n : Str} {v : AV} {Q : AV → Prop} (hl : fs.lookup n = some v) (hp : plainA v = true) (h : Q v) : getaW (.ref A.a) n H Q := get_of u.ha u.hd hl hp h
theorem Ob.put (u : Ob H0 H C A f fs fl starts) {n : Str} {v : AV} {Q : HM → Prop} (hz : fs.length ≤ 20) (hp : plainA v = true) (hn : n ∈ goodNames) (h : Q (H.set A.d (.dict (setF n v fs)))) : setaW (.ref A.a) n v H Q := set_of u.ha u.hd hz hp hn h
theorem Ob.lim (u : Ob H0 H C A f fs fl starts) {n : Str} {v : AV} {Q : AV → Prop} (hl : limD.lookup n = some v) (hp : plainA v = true) (h : Q v) : getaW (.ref A.lm) n H Q := get_of u.hl u.hld hl hp h
end
theorem lim_steps : List.lookup ("steps" : Str) limD = some (AV.int 1000000) := by rfl
theorem lim_items : List.lookup ("items" : Str) limD = some (AV.int 10000) := by rfl
theorem lim_text : List.lookup ("text" : Str) limD = some (AV.int 100000) := by rfl
theorem lim_width : List.lookup ("width" : Str) limD = some (AV.int 64) := by rfl
theorem gn_at : ("at" : Str) ∈ goodNames := by decide
theorem gn_steps : ("steps" : Str) ∈ goodNames := by decide
theorem gn_out : ("out" : Str) ∈ goodNames := by decide
noncomputable def unD (data : List Nat) (f : Addr) (A : Ad) (pos steps : Nat) : List (Str × AV) := [("data", .lst (nn data)), ("at", .int pos), ("found", .ref f), ("starts", .ref A.s), ("limits", .ref A.lm), ("steps", .int steps)]
noncomputable def pkD (o : Addr) (vals : List AV) (A : Ad) (pos steps : Nat) : List (Str × AV) := [("out", .ref o), ("values", .lst vals), ("at", .int pos), ("starts", .ref A.s), ("limits", .ref A.lm), ("steps", .int steps), ("length", .none)]
abbrev Un (H0 H : HM) (A : Ad) (f : Addr) (data : List Nat) (pos : Nat) (found : List AV) (starts : List Nat) (steps : Nat) : Prop := Ob H0 H 551 A f (unD data f A pos steps) found starts
abbrev Pk (H0 H : HM) (A : Ad) (o : Addr) (vals : List AV) (out : List Nat) (pos : Nat) (starts : List Nat) (steps : Nat) : Prop := Ob H0 H 716 A o (pkD o vals A pos steps) (nn out) starts
theorem unD_data {data f A pos steps} : List.lookup ("data" : Str) (unD data f A pos steps) = some (AV.lst (nn data)) := by rfl
theorem unD_at {data f A pos steps} : List.lookup ("at" : Str) (unD data f A pos steps) = some (AV.int pos) := by rfl
theorem unD_found {data f A pos steps} : List.lookup ("found" : Str) (unD data f A pos steps) = some (AV.ref f) := by rfl
theorem unD_starts {data f A pos steps} : List.lookup ("starts" : Str) (unD data f A pos steps) = some (AV.ref A.s) := by rfl
theorem unD_limits {data f A pos steps} : List.lookup ("limits" : Str) (unD data f A pos steps) = some (AV.ref A.lm) := by rfl
theorem unD_steps {data f A pos steps} : List.lookup ("steps" : Str) (unD data f A pos steps) = some (AV.int steps) := by rfl
theorem pkD_out {o vals A pos steps} : List.lookup ("out" : Str) (pkD o vals A pos steps) = some (AV.ref o) := by rfl
theorem pkD_values {o vals A pos steps} : List.lookup ("values" : Str) (pkD o vals A pos steps) = some (AV.lst vals) := by rfl
theorem pkD_at {o vals A pos steps} : List.lookup ("at" : Str) (pkD o vals A pos steps) = some (AV.int pos) := by rfl
theorem pkD_starts {o vals A pos steps} : List.lookup ("starts" : Str) (pkD o vals A pos steps) = some (AV.ref A.s) := by rfl
theorem pkD_limits {o vals A pos steps} : List.lookup ("limits" : Str) (pkD o vals A pos steps) = some (AV.ref A.lm) := by rfl
theorem pkD_steps {o vals A pos steps} : List.lookup ("steps" : Str) (pkD o vals A pos steps) = some (AV.int steps) := by rfl
theorem pkD_length {o vals A pos steps} : List.lookup ("length" : Str) (pkD o vals A pos steps) = some (AV.none) := by rfl
section
variable {prog : Program} {w : World} {K : Frag} {G : Heap} {H : HM} {Q : AV → HM → Prop} {X : HM → Prop}
variable {H0 : HM} {A : Ad} {f : Addr} {data : List Nat} {pos : Nat} {found : List AV} {starts : List Nat} {steps : Nat}
theorem s_octets_left (V : Wd prog w K G) (u : Un H0 H A f data pos found starts steps) (hp : pos ≤ data.length) (h : Q (.int ((data.length - pos : Nat) : Int)) H) : CallS prog w K G 1 (.glob (.ref 562)) [.ref A.a] H Q X :=
  V.run (n := 26) (r := r_octets_left) rfl rfl (u.get unD_data rfl (u.get unD_at rfl (by
    show Q (.int ((nn data).length - pos)) H
    rw [nn_len, ← Int.ofNat_sub hp]; exact h)))
theorem s_note_step (V : Wd prog w K G) (u : Un H0 H A f data pos found starts steps) (hs : steps < 1000000) (h : ∀ H', Un H0 H' A f data pos found starts (steps + 1) → Q .none H') : CallS prog w K G 1 (.glob (.ref 576)) [.ref A.a] H Q X := by
  have u' := u.setD (unD data f A pos (steps + 1))
  refine V.run (n := 28) (r := r_note_step) rfl rfl (u.get unD_steps rfl ?_)
  refine ⟨A.a, 551, A.d, _, rfl, u.ha, u.hd, (by exact (by decide : 6 ≤ 20)), rfl, gn_steps, ?_⟩
  show getaW (.ref A.a) "steps" (H.set A.d (.dict (unD data f A pos (steps + 1)))) _
  exact u'.get unD_steps rfl (u'.get unD_limits rfl (u'.lim lim_steps rfl (br_no (Int.not_lt.mpr (Int.ofNat_le.mpr hs)) (h _ u'))))
theorem s_note_value (V : Wd prog w K G) (u : Un H0 H A f data pos found starts steps) {v : AV} (hl : found.length < 10000) (h : ∀ H', Un H0 H' A f data pos (found ++ [v]) starts steps → Q .none H') : CallS prog w K G 1 (.glob (.ref 569)) [.ref A.a, v] H Q X :=
  V.run (n := 27) (r := r_note_value) rfl rfl (u.get unD_found rfl ⟨_, u.hf, u.get unD_limits rfl (u.lim lim_items rfl (br_no (Int.not_le.mpr (Int.ofNat_lt.mpr hl)) (u.get unD_found rfl ⟨⟨f, _, rfl, u.hf⟩, f, _, rfl, u.hf, Nat.lt_of_lt_of_le hl (by decide), h _ (u.setL _)⟩)))⟩)
end
end Mine
end
section
open PySem PySem.W PyProof.Rows PySem.Calls PyProof.V PySem.Spec PySem.SeqAt
namespace Mine
theorem compW_pure {W : AV → HM → (AV → HM → Prop) → Prop} {α : Type} {i g : α → AV} {H : HM} : ∀ {l : List α} {Q : List AV → HM → Prop}, (∀ n ∈ l, ∀ k : AV → HM → Prop, k (g n) H → W (i n) H k) → Q (l.map g) H → compW W (l.map i) H Q
  | [], Q, hw, hq => hq
  | n :: l, Q, hw, hq => hw n (.head _) _ (compW_pure (l := l) (fun u m => hw u (.tail _ m)) hq)
theorem rngL_nat (n : Nat) : rngL 0 (n : Int) 1 = (List.range n).map Int.ofNat := by
  have e : Builtin.Range.rangeSize 0 (n : Int) 1 = n := by
    unfold Builtin.Range.rangeSize
    rw [if_pos (by decide)]
    by_cases h : n = 0
    · subst h; rfl
    · rw [if_pos (by omega)]; omega
  unfold rngL
  rw [e, Int.toNat_natCast]
  exact List.map_congr_left fun k _ => by rw [Int.mul_one, Int.zero_add]; rfl
theorem rng_nn (n : Nat) : (rngL 0 (n : Int) 1).map AV.int = nn (List.range n) := by rw [rngL_nat, nn_nums]
noncomputable def kg (c : Nat) : Nat → Nat → Nat
  | 0, k => k
  | n + 1, k => if c < 2 ^ (5 * k + 6) then k else kg c n (k + 1)
noncomputable def kk (c : Nat) : Nat := kg c 4 1
noncomputable def tl (k c : Nat) : List Nat := ((List.range k).map fun j => 128 + c / 64 ^ j % 64).reverse
noncomputable def enc (k c : Nat) : List Nat := (256 - 2 ^ (7 - k) + c / 64 ^ k) :: tl k c
noncomputable def utf (c : Nat) : List Nat := if c < 128 then [c] else enc (kk c) c
theorem tl_succ (k c : Nat) : tl (k + 1) c = (128 + c / 64 ^ k % 64) :: tl k c := by
  unfold tl; rw [List.range_succ, List.map_append, List.reverse_append]; rfl
theorem tl_len (k c : Nat) : (tl k c).length = k := by unfold tl; rw [List.length_reverse, List.length_map, List.length_range]
theorem kg_stop {c n k : Nat} (h : c < 2 ^ (5 * k + 6)) : kg c n k = k := by
  cases n with
  | zero => rfl
  | succ n => unfold kg; rw [if_pos h]
theorem kg_go {c n k : Nat} (h : ¬ c < 2 ^ (5 * k + 6)) : kg c (n + 1) k = kg c n (k + 1) := by
  conv => lhs; unfold kg
  rw [if_neg h]
theorem div64 (c k : Nat) : c / 64 ^ k / 64 = c / 64 ^ (k + 1) := by rw [Nat.div_div_eq_div_mul, ← Nat.pow_succ]
theorem room {c k n : Nat} (e : k + n = 5) : c / 64 ^ k < 2 ^ (n + 1) ↔ c < 2 ^ (5 * k + 6) := by
  rw [Nat.div_lt_iff_lt_mul (Nat.pow_pos (by decide)), show (64 : Nat) = 2 ^ 6 from rfl, ← Nat.pow_mul, ← Nat.pow_add]
  have : n + 1 + 6 * k = 5 * k + 6 := by omega
  rw [this]
theorem lead_or {k n x : Nat} (e : k + n = 5) (h : x < 2 ^ (n + 1)) : Builtin.bitOr (Builtin.bitAnd ((65280 : Int).fdiv (2 ^ ((k + 1 : Nat) : Int).toNat)) 255) (x : Int) = ((256 - 2 ^ (7 - k) + x : Nat) : Int) := by
  obtain rfl : n = 5 - k := (Nat.sub_eq_of_eq_add' e.symm).symm
  have hk : k ≤ 5 := Nat.le.intro e
  clear e
  rcases k with _ | _ | _ | _ | _ | _ | k
  · exact bitor_add (a := 2) 6 x h
  · exact bitor_add (a := 6) 5 x h
  · exact bitor_add (a := 14) 4 x h
  · exact bitor_add (a := 30) 3 x h
  · exact bitor_add (a := 62) 2 x h
  · exact bitor_add (a := 126) 1 x h
  · exact absurd (Nat.le_trans (Nat.le_add_left 6 k) hk) (by decide)
end Mine
end
section
open PySem PySem.W PyProof.Rows PySem.Calls PyProof.V PySem.Spec PySem.SeqAt
namespace Mine
theorem k_le {k n m : Nat} (e : k + n = 5) (h : 5 ≤ m) : k ≤ m := Nat.le_trans (Nat.le.intro e) h
section
variable {prog : Program} {w : World} {K : Frag} {G : Heap} {H : HM} {Q : AV → HM → Prop} {X : HM → Prop}
theorem s_row_of_code_bad (V : Wd prog w K G) {c : Int} (hc : 2147483647 < c) (h : X H) : CallS prog w K G 1 (.glob (.ref 301)) [.int c] H Q X :=
  V.run (n := 5) (r := r_row_of_code) rfl rfl (br_dec (fun z => br_yes z h) fun _ => br_yes hc h)
theorem s_row_of_code (V : Wd prog w K G) {c : Nat} (h1 : c < 2 ^ 31) (h : Q (.lst (nn (utf c))) H) : CallS prog w K G 1 (.glob (.ref 301)) [.int c] H Q X := by
  have hn := Int.not_lt.mpr (Int.natCast_nonneg c)
  have hc := Int.not_lt.mpr (show (c : Int) ≤ 2147483647 from Int.ofNat_le.mpr (Nat.le_of_lt_succ h1))
  generalize he : (c : Int) = x at hn hc
  refine V.run (n := 5) (r := r_row_of_code) rfl rfl (br_no hn (br_no hc ?_))
  subst he
  refine br_dec (fun z => ?_) fun z b hb => ?_
  · rw [utf, if_pos (Int.ofNat_lt.mp z)] at h
    exact h
  have z := fun q => z (Int.ofNat_lt.mpr q)
  rw [utf, if_neg z] at h
  intro I hI
  have key : ∀ (n k : Nat), k + n = 5 → (k = 0 ∨ kk c = kg c n k) → I ⟨[some (.int ((c / 64 ^ k : Nat) : Int)), some (.ref b), some (.int ((2 ^ (n + 1) : Nat) : Int)), none], H.set b (.list (nn (tl k c).reverse))⟩ := by
    intro n
    induction n using Nat.strongRecOn with
    | _ n ih =>
    intro k e hk
    have hl : (nn (tl k c).reverse).length = k := by rw [nn_len, List.length_reverse, tl_len]
    refine hI _ (br_dec (fun q => ⟨⟨b, _, rfl, same⟩, b, _, rfl, same, ?_, ?_⟩) fun q => ⟨_, same, ⟨b, _, rfl, same⟩, ?_⟩)
    · rw [hl]; exact Nat.lt_of_le_of_lt (k_le e (Nat.le_refl 5)) (by decide)
    · have q' : ¬ c < 2 ^ (5 * k + 6) := fun z => Nat.not_lt.mpr (Int.ofNat_le.mp q) ((room e).mpr z)
      cases n with
      | zero => cases e; exact absurd h1 q'
      | succ n =>
      have i := ih n (Nat.lt_succ_self n) (k + 1) (by rw [← e, Nat.add_assoc, Nat.add_comm 1]) (.inr ?_)
      · rw [tl_succ, List.reverse_cons, nn_app, ← div64] at i
        rw [HM.set_set, and63, or128 (Nat.lt_trans (Nat.mod_lt _ (by decide)) (by decide)), Nat.add_comm (c / 64 ^ k % 64)]
        have e6 : ((c / 64 ^ k : Nat) : Int).fdiv (2 ^ (6 : Int).toNat) = _ := fdivN _ 64
        refine ⟨by decide, br_dec (fun y => ?_) fun y => ⟨by decide, ?_⟩⟩
        · have y : (2 : Nat) ^ (n + 1) * 2 = 64 := Int.ofNat.inj y
          rw [show (2 : Nat) ^ (n + 1) = 32 by omega] at i
          show I ⟨[some (.int (((c / 64 ^ k : Nat) : Int).fdiv (2 ^ (6 : Int).toNat))), _, some (.int 32), _], _⟩
          rw [e6]; exact i
        · show I ⟨[some (.int (((c / 64 ^ k : Nat) : Int).fdiv (2 ^ (6 : Int).toNat))), _, some (.int (((2 ^ (n + 2) : Nat) : Int).fdiv (2 ^ (1 : Int).toNat))), _], _⟩
          rw [e6, show ((2 ^ (n + 2) : Nat) : Int).fdiv (2 ^ (1 : Int).toNat) = _ from fdivN _ 2, Nat.pow_succ, Nat.mul_div_cancel _ (by decide)]; exact i
      · cases k with
        | zero => rw [show n = 4 from Nat.succ.inj ((Nat.zero_add _).symm.trans e)]; rfl
        | succ k => rw [hk.resolve_left nofun, kg_go q']
    · have q := Int.ofNat_lt.mp (Int.not_le.mp q)
      have q' := (room e).mp q
      have hk : kk c = k := by
        cases hk with
        | inl hk => rw [hk] at q'; exact absurd (Nat.lt_trans q' (by decide)) z
        | inr hk => rw [hk, kg_stop q']
      rw [hk, enc] at h
      rw [hl]
      refine ⟨Int.natCast_nonneg (k + 1), b, _, rfl, same, ?_, ⟨b, _, rfl, same⟩, b, _, rfl, same, b, _, rfl, same, ?_⟩
      · rw [hl]; exact Nat.lt_of_le_of_lt (k_le e (Nat.le_refl 5)) (by decide)
      · show Q (.lst (nn (tl k c).reverse ++ [AV.int (Builtin.bitOr (Builtin.bitAnd ((65280 : Int).fdiv (2 ^ ((k + 1 : Nat) : Int).toNat)) 255) ((c / 64 ^ k : Nat) : Int))]).reverse) _
        rw [lead_or e q, List.reverse_append, nn_rev, List.reverse_reverse]
        show Q _ ((((H.set b (.list (nn (tl k c).reverse))).set b _).set b _).del b)
        rw [HM.set_set, gone2 hb]; exact h
  have i := key 5 0 rfl (.inl rfl)
  rw [Nat.pow_zero, Nat.div_one] at i
  exact i
end
end Mine
end
section
open PySem PySem.W PyProof.Rows PySem.Calls PyProof.V PySem.Spec PySem.SeqAt
namespace Mine
theorem powN {a k : Nat} : ((a : Int) ^ (k : Int).toNat) = ((a ^ k : Nat) : Int) := (Int.natCast_pow a k).symm
theorem pow_size {k : Nat} (h : k ≤ 5) : ((64 : Nat) ^ k) < 2 ^ 64 := by
  rw [show (64 : Nat) = 2 ^ 6 from rfl, ← Nat.pow_mul]
  exact Nat.pow_lt_pow_right (by decide) (Nat.lt_of_le_of_lt (Nat.mul_le_mul_left 6 h) (by decide))
theorem sub_cast {a b : Nat} (h : b ≤ a) : (a : Int) - (b : Int) = ((a - b : Nat) : Int) := (Int.ofNat_sub h).symm
theorem k_lt {k n m : Nat} (e : k + n = 5) (h : 5 < m) : k < m := Nat.lt_of_le_of_lt (Nat.le.intro e) h
theorem pow64_ne (j : Nat) : (64 : Int) ^ (j : Int).toNat ≠ 0 := Int.ne_of_gt (Int.pow_pos (by decide))
theorem pow64_lt {j : Nat} (h : j ≤ 5) : ((64 : Int) ^ (j : Int).toNat).natAbs < 2 ^ 64 := by
  rw [show ((64 : Int) ^ (j : Int).toNat) = _ from powN (a := 64)]
  exact pow_size h
theorem digit (c j : Nat) : 128 + ((c : Int).fdiv ((64 : Int) ^ (j : Int).toNat)).fmod 64 = ((128 + c / 64 ^ j % 64 : Nat) : Int) := by
  rw [show ((64 : Int) ^ (j : Int).toNat) = _ from powN (a := 64), fdivN, show ((c / 64 ^ j : Nat) : Int).fmod 64 = _ from fmodN _ 64]; rfl
section
variable {prog : Program} {w : World} {K : Frag} {G : Heap} {H : HM} {Q : AV → HM → Prop} {X : HM → Prop}
theorem s_law_code (V : Wd prog w K G) {c : Nat} (h1 : c < 2 ^ 31) (h : ∀ H', HExt H H' → Q (.lst (nn (utf c))) H') : CallS prog w K G 1 (.glob (.ref 885)) [.int c] H Q X := by
  refine V.run (n := 62) (r := r_law_code) rfl rfl fun ca hca => ?_
  have hx : HExt H (H.set ca (.cell (some (.int c)))) := HExt.set _ hca
  have h := h _ hx
  refine ⟨ca, _, rfl, same, br_dec (fun z => ?_) fun z => ?_⟩
  · rw [utf, if_pos (Int.ofNat_lt.mp z)] at h
    exact ⟨ca, _, rfl, same, h⟩
  have z := fun q => z (Int.ofNat_lt.mpr q)
  rw [utf, if_neg z] at h
  intro I hI
  have key : ∀ (n k : Nat), k + n = 5 → kk c = kg c n k → I ⟨[some (.ref ca), some (.int ((k + 1 : Nat) : Int)), none], H.set ca (.cell (some (.int c)))⟩ := by
    intro n
    induction n using Nat.strongRecOn with
    | _ n ih =>
    intro k e hk
    have hk5 := k_le e (Nat.le_refl 5)
    refine hI _ ⟨ca, _, rfl, same, mulL (by exact (by decide : 5 < 2 ^ 64)), Int.natCast_nonneg (5 * (k + 1) + 1), Int.ofNat_le.mpr (show 5 * (k + 1) + 1 ≤ 1000 from ?_), by decide, br_dec (fun q => ?_) fun q => ?_⟩
    · omega
    · have q : ((2 : Nat) : Int) ^ ((5 * (k + 1) + 1 : Nat) : Int).toNat ≤ (c : Int) := q
      rw [powN] at q
      have q' := Nat.not_lt.mpr (Int.ofNat_le.mp q)
      cases n with
      | zero => cases e; exact absurd h1 q'
      | succ n => exact ih n (Nat.lt_succ_self n) (k + 1) (by rw [← e, Nat.add_assoc, Nat.add_comm 1]) (by rw [hk, kg_go q'])
    · have q : ¬ ((2 : Nat) : Int) ^ ((5 * (k + 1) + 1 : Nat) : Int).toNat ≤ (c : Int) := q
      rw [powN] at q
      have q' := Int.ofNat_lt.mp (Int.not_le.mp q)
      rw [show kk c = k by rw [hk]; exact kg_stop q', enc] at h
      refine ⟨fun i hi => ?_, ?_⟩
      · cases hi with
        | head => exact ⟨ca, rfl⟩
        | tail _ hi => cases hi
      have ek : ((k + 1 : Nat) : Int) - 1 = (k : Int) := (show (k : Int) + 1 - 1 = k from Int.add_sub_cancel _ 1)
      show -(2 ^ 40) < ((k + 1 : Nat) : Int) - 1 ∧ ((k + 1 : Nat) : Int) - 1 < 2 ^ 40 ∧ ((rngL 0 (((k + 1 : Nat) : Int) - 1) 1).map AV.int).length ≤ 1000000 ∧ compW _ ((rngL 0 (((k + 1 : Nat) : Int) - 1) 1).map AV.int) _ _
      rw [ek, rng_nn, nn_len, List.length_range]
      refine ⟨Int.lt_of_lt_of_le (by decide) (Int.natCast_nonneg k), Int.ofNat_lt.mpr (k_lt e (m := 2 ^ 40) (by decide)), k_le e (by decide), compW_pure (g := fun j : Nat => .int (128 + ((c : Int).fdiv ((64 : Int) ^ (j : Int).toNat)).fmod 64)) (fun j hj f hf => ?_) ?_⟩
      · have hj := Nat.lt_of_lt_of_le (List.mem_range.mp hj) hk5
        exact ⟨ca, _, rfl, same, Int.natCast_nonneg j, Int.ofNat_le.mpr (Nat.le_trans (Nat.le_of_lt hj) (by decide)), by decide, pow64_ne j, pow64_lt (Nat.le_of_lt hj), by decide, hf⟩
      · have eg : (List.range k).map (fun j : Nat => AV.int (128 + ((c : Int).fdiv ((64 : Int) ^ (j : Int).toNat)).fmod 64)) = nn (tl k c).reverse := by
          rw [tl, List.reverse_reverse, nn, List.map_map]
          exact List.map_congr_left fun j _ => congrArg AV.int (digit c j)
        rw [eg]
        show 0 ≤ (8 : Int) - ((k + 1 : Nat) : Int) ∧ (8 : Int) - ((k + 1 : Nat) : Int) ≤ 1000 ∧ (2 : Int).natAbs ≤ 1000 ∧ CellR (.ref ca) (H.set ca (.cell (some (.int c)))) fun _ v' => 0 ≤ ((k + 1 : Nat) : Int) - 1 ∧ ((k + 1 : Nat) : Int) - 1 ≤ 1000 ∧ (64 : Int).natAbs ≤ 1000 ∧ _
        rw [ek, show (8 : Int) - ((k + 1 : Nat) : Int) = ((8 - (k + 1) : Nat) : Int) from sub_cast (a := 8) (Nat.succ_le_succ (k_le e (by decide)))]
        refine ⟨Int.natCast_nonneg _, Int.ofNat_le.mpr (Nat.le_trans (Nat.sub_le _ _) (by decide)), by decide, ca, _, rfl, same, Int.natCast_nonneg k, Int.ofNat_le.mpr (k_le e (by decide)), by decide, pow64_ne k, pow64_lt hk5, _, rfl, ?_, ?_⟩
        · show 1 + (nn (tl k c).reverse).reverse.length ≤ sizeLine
          rw [nn_rev, List.reverse_reverse, nn_len, tl_len]; exact sl_of (Nat.le_trans (Nat.add_le_add_left hk5 1) (by decide))
        · show Q (.lst (.int ((256 : Int) - (2 : Int) ^ ((8 - (k + 1) : Nat) : Int).toNat + (c : Int).fdiv ((64 : Int) ^ (k : Int).toNat)) :: (nn (tl k c).reverse).reverse)) _
          rw [nn_rev, List.reverse_reverse, show ((64 : Int) ^ (k : Int).toNat) = _ from powN (a := 64), fdivN, show ((2 : Int) ^ ((8 - (k + 1) : Nat) : Int).toNat) = _ from powN (a := 2), Nat.add_sub_add_right 7 1 k,
            show (256 : Int) - ((2 ^ (7 - k) : Nat) : Int) = ((256 - 2 ^ (7 - k) : Nat) : Int) from sub_cast (a := 256) (Nat.le_trans (Nat.pow_le_pow_right (by decide) (Nat.sub_le 7 k)) (by decide))]
          exact h
  exact key 4 1 rfl rfl
end
end Mine
end
section
open PySem PySem.W PyProof.Rows PySem.Calls PyProof.V PySem.Spec PySem.SeqAt
namespace Mine
set_option exponentiation.threshold 2000
noncomputable def opt {α : Type} (o : Option α) (d : Prop) (k : α → Prop) : Prop := match o with | none => d | some a => k a
theorem opt_map {α β : Type} {f : α → β} {d : Prop} {k : β → Prop} : ∀ {o : Option α}, opt (o.map f) d k = opt o d (fun a => k (f a))
  | none => rfl
  | some _ => rfl
theorem drop_nil {l : List Nat} {p : Nat} (h : l.drop p = []) : l.length ≤ p := List.drop_eq_nil_iff.mp h
theorem drop_cons {l r : List Nat} {p o : Nat} (h : l.drop p = o :: r) : p < l.length ∧ l[p]? = some o ∧ l.drop (p + 1) = r := by
  have hp : p < l.length := Nat.lt_of_not_le fun z => by rw [List.drop_eq_nil_of_le z] at h; cases h
  rw [List.drop_eq_getElem_cons hp] at h
  injection h with h1 h2
  exact ⟨hp, by rw [List.getElem?_eq_getElem hp, h1], h2⟩
theorem subN {l : List Nat} {p o : Nat} {H : HM} {Q : AV → Prop} (hp : p < l.length) (e : l[p]? = some o) (h : Q (.int (o : Int))) {i : Int} (hi : i = p) : subW (.lst (nn l)) (.int i) H Q := by
  subst hi; exact ⟨p, .int o, idx_nat (by rw [nn_len]; exact hp), by rw [nn_get, e]; rfl, h⟩
theorem or7 (a o : Nat) : Builtin.bitOr ((a : Int) * 2 ^ (7 : Int).toNat) (Builtin.bitAnd (o : Int) 127) = ((a * 128 + o % 128 : Nat) : Int) := by
  rw [and127]; exact bitor_add 7 (o % 128) (Nat.mod_lt _ (by decide))
theorem pow_room {a p m : Nat} (b : Nat) (hb : b < 2 ^ 10) (h : a < b ^ p) (hp : p ≤ m) (hm : m ≤ 100) : (a : Int).natAbs < 2 ^ 1000 := by
  refine Nat.lt_of_lt_of_le h (Nat.le_trans (Nat.pow_le_pow_left (Nat.le_of_lt hb) p) ?_)
  rw [← Nat.pow_mul]
  exact Nat.pow_le_pow_right (by decide) (Nat.mul_le_mul_left 10 (Nat.le_trans hp hm))
noncomputable def ber (acc : Nat) : List Nat → Option (Nat × Nat)
  | [] => none
  | o :: r => if o < 128 then some (acc * 128 + o % 128, 1) else (ber (acc * 128 + o % 128) r).map fun x => (x.1, x.2 + 1)
theorem ber_cons {acc o : Nat} {r : List Nat} : ber acc (o :: r) = if o < 128 then some (acc * 128 + o % 128, 1) else (ber (acc * 128 + o % 128) r).map fun x => (x.1, x.2 + 1) := rfl
noncomputable def bers (acc : Nat) : List Nat → Option (List Nat)
  | [] => some []
  | o :: r => if o < 128 then (bers 0 r).map ((acc * 128 + o % 128) :: ·) else if r = [] then none else bers (acc * 128 + o % 128) r
theorem bers_cons {acc o : Nat} {r : List Nat} : bers acc (o :: r) = if o < 128 then (bers 0 r).map ((acc * 128 + o % 128) :: ·) else if r = [] then none else bers (acc * 128 + o % 128) r := rfl
theorem digit_lt {a b x P : Nat} (ha : a < P) (hx : x < b) : a * b + x < P * b :=
  Nat.lt_of_lt_of_le (Nat.add_lt_add_left hx _) (by rw [← Nat.succ_mul]; exact Nat.mul_le_mul_right b ha)
theorem sev_step {a x : Nat} : (a : Int) * 128 + (x : Int).fmod 128 = ((a * 128 + x % 128 : Nat) : Int) := by rw [show (x : Int).fmod 128 = _ from fmodN x 128]; rfl
abbrev fb (C : CP) (ts : List Nat) (b : CSs) (X : St → Prop) : AV → (Fl → St → Prop) → St → Prop := fun v k τ1 => bindT ts v τ1 fun τ2 => swps C b k X τ2
abbrev aft (C : CP) (b : CSs) (Q : AV → HM → Prop) (X : HM → Prop) : Fl → St → Prop := nextR (swps C b (bodyR Q) fun τ => X τ.H) (bodyR Q)
section
variable {prog : Program} {w : World} {K : Frag} {G : Heap} {H : HM} {Q : AV → HM → Prop} {X : HM → Prop}
theorem s_read_ber (V : Wd prog w K G) {l : List Nat} {p : Nat} (hz : l.length ≤ 100) (h : opt (ber 0 (l.drop p)) (X H) fun x => Q (.tup [.int x.1, .int ((p + x.2 : Nat) : Int)]) H) : CallS prog w K G 1 (.glob (.ref 294)) [.lst (nn l), .int (p : Int)] H Q X := by
  refine V.run (n := 4) (r := r_read_ber) rfl rfl fun I hI => ?_
  have key : ∀ (r : List Nat) (p acc : Nat), l.drop p = r → acc < 128 ^ p → opt (ber acc r) (X H) (fun x => Q (.tup [.int x.1, .int ((p + x.2 : Nat) : Int)]) H) → I ⟨[some (.lst (nn l)), some (.int (p : Int)), some (.int (acc : Int))], H⟩ := by
    intro r
    induction r with
    | nil =>
      intro p acc hr ha h
      have e := drop_nil hr
      rw [← nn_len] at e
      exact hI _ (br_no (Int.not_lt.mpr (Int.ofNat_le.mpr e)) h)
    | cons o r ih =>
      intro p acc hr ha h
      obtain ⟨hp, ho, hr⟩ := drop_cons hr
      have e := hp
      rw [← nn_len] at e
      rw [ber_cons] at h
      refine hI _ (br_yes (Int.ofNat_lt.mpr e) ⟨by decide, by decide, pow_room 128 (by decide) ha (Nat.le_of_lt hp) hz, subN (H := H) hp ho (subN (H := H) hp ho (br_dec (fun z => ?_) fun z => ?_) (show (p : Int) + 1 - 1 = p from Int.add_sub_cancel _ 1)) rfl⟩)
      · rw [if_pos (Int.ofNat_lt.mp z)] at h
        show Q (.tup [.int (Builtin.bitOr ((acc : Int) * 2 ^ (7 : Int).toNat) (Builtin.bitAnd (o : Int) 127)), .int ((p + 1 : Nat) : Int)]) H
        rw [or7]; exact h
      · rw [if_neg (fun q => z (Int.ofNat_lt.mpr q)), opt_map] at h
        show I ⟨[some (.lst (nn l)), some (.int ((p + 1 : Nat) : Int)), some (.int (Builtin.bitOr ((acc : Int) * 2 ^ (7 : Int).toNat) (Builtin.bitAnd (o : Int) 127)))], H⟩
        rw [or7]
        refine ih (p + 1) _ hr ?_ ?_
        · rw [Nat.pow_succ]
          exact digit_lt ha (Nat.mod_lt o (by decide))
        · cases hb : ber (acc * 128 + o % 128) r with
          | none => rw [hb] at h; exact h
          | some x => rw [hb] at h; show Q _ H; rw [Nat.add_assoc, Nat.add_comm 1]; exact h
  exact key (l.drop p) p 0 rfl (Nat.pow_pos (by decide)) h
theorem s_law_read_sevens (V : Wd prog w K G) {l : List Nat} (hz : l.length ≤ 100) (h : opt (bers 0 l) (∀ H', HExt H H' → Q .none H') fun r => Q (.lst (nums (r.map fun n : Nat => wrap64 n))) H) : CallS prog w K G 1 (.glob (.ref 890)) [.lst (nn l)] H Q X := by
  refine V.run (n := 63) (r := r_law_read_sevens) rfl rfl fun b hb => ?_
  show -(2 ^ 40) < ((nn l).length : Int) ∧ ((nn l).length : Int) < 2 ^ 40 ∧ ((rngL 0 ((nn l).length : Int) 1).map AV.int).length ≤ 1000000 ∧ forW _ _ ((rngL 0 ((nn l).length : Int) 1).map AV.int) _
  rw [nn_len, rng_nn, nn_len, List.length_range]
  refine ⟨Int.lt_of_lt_of_le (by decide) (Int.natCast_nonneg _), Int.ofNat_lt.mpr (Nat.lt_of_le_of_lt hz (m := 100) (by decide)), Nat.le_trans hz (by decide), ?_⟩
  have key : ∀ (r : List Nat) (q acc : Nat) (fo : List Nat) (o : Option AV), l.drop q = r → fo.length + r.length ≤ l.length → (r = [] → acc = 0) → opt (bers acc r) (∀ H', HExt H H' → Q .none H') (fun r => Q (.lst (nums ((fo ++ r).map fun n : Nat => wrap64 n))) H) →
      forW (fb (CPs prog w K G 0) [3] f_law_read_sevens_1 (fun τ => X τ.H)) (aft (CPs prog w K G 0) f_law_read_sevens_2 Q X) (nn (List.range' q r.length)) ⟨[some (.lst (nn l)), some (.ref b), some (.int (acc : Int)), o], H.set b (.list (nn fo))⟩ := by
    intro r
    induction r with
    | nil =>
      intro q acc fo o hr hf ha h
      refine ⟨nofun, b, _, rfl, same, ?_⟩
      show (nn fo).length ≤ 1000000 ∧ compW _ (nn fo) ((H.set b (.list (nn fo))).del b) _
      rw [gone1 hb, nn_len]
      refine ⟨Nat.le_trans hf (Nat.le_trans hz (by decide)), compW_pure (g := fun n : Nat => .int (((n : Int) + 2 ^ (63 : Int).toNat).fmod (2 ^ (64 : Int).toNat) - 2 ^ (63 : Int).toNat)) (fun n hn k hk => ⟨by decide, by decide, by decide, by decide, by decide, by decide, by decide, by decide, by decide, by decide, hk⟩) ?_⟩
      have h : Q (.lst (nums ((fo ++ []).map fun n : Nat => wrap64 n))) H := h
      rw [List.append_nil, nums, List.map_map, show (AV.int ∘ fun n : Nat => wrap64 n) = (fun n : Nat => AV.int (((n : Int) + 2 ^ (63 : Int).toNat).fmod (2 ^ (64 : Int).toNat) - 2 ^ (63 : Int).toNat)) from funext fun n => congrArg (fun z : Int => AV.int (z - 2 ^ 63)) (fmod_pos (by decide)).symm] at h
      exact h
    | cons x r ih =>
      intro q acc fo o hr hf ha h
      obtain ⟨hp, ho, hr⟩ := drop_cons hr
      refine ⟨mulR (by decide), subN (H := H) hp ho ⟨by decide, subN (H := H) hp ho (br_dec (fun z => ?_) fun z => ?_) rfl⟩ rfl⟩
      · rw [bers_cons, if_pos (Int.ofNat_lt.mp z), opt_map] at h
        refine ⟨⟨b, _, rfl, same⟩, b, _, rfl, same, ?_, ?_⟩
        · rw [nn_len]; exact Nat.lt_of_lt_of_le (Nat.lt_add_of_pos_right (Nat.succ_pos _)) (Nat.le_trans hf (Nat.le_trans hz (by decide)))
        · show forW (fb (CPs prog w K G 0) [3] f_law_read_sevens_1 (fun τ => X τ.H)) (aft (CPs prog w K G 0) f_law_read_sevens_2 Q X) (nn (List.range' (q + 1) r.length)) ⟨[some (.lst (nn l)), some (.ref b), some (.int 0), some (.int (q : Int))], (H.set b (.list (nn fo))).set b (.list (nn fo ++ [AV.int ((acc : Int) * 128 + (x : Int).fmod 128)]))⟩
          rw [HM.set_set, sev_step]
          have i := ih (q + 1) 0 (fo ++ [acc * 128 + x % 128]) (some (.int (q : Int))) hr (by rw [List.length_append]; exact Nat.le_trans (Nat.le_of_eq (Nat.add_right_comm _ 1 _)) hf) (fun _ => rfl) ?_
          · rw [nn_app] at i; exact i
          · simp only [List.append_assoc]; exact h
      · rw [bers_cons, if_neg (fun q => z (Int.ofNat_lt.mpr q))] at h
        refine br_dec (fun e => ?_) fun e => ?_
        · have hr : r = [] := by
            rw [← hr]; refine List.drop_eq_nil_of_le (Nat.le_of_eq ?_)
            have e : (q : Int) = ((nn l).length : Int) - 1 := e
            rw [nn_len] at e; omega
          rw [if_pos hr] at h
          exact h _ (HExt.set _ hb)
        · have hr' : r ≠ [] := fun n => e (by
            rw [n] at hr
            have := Nat.le_antisymm (drop_nil hr) hp
            show (q : Int) = ((nn l).length : Int) - 1
            rw [nn_len, this]; exact (show (q : Int) = q + 1 - 1 from (Int.add_sub_cancel _ 1).symm))
          rw [if_neg hr'] at h
          show forW (fb (CPs prog w K G 0) [3] f_law_read_sevens_1 (fun τ => X τ.H)) (aft (CPs prog w K G 0) f_law_read_sevens_2 Q X) (nn (List.range' (q + 1) r.length)) ⟨[some (.lst (nn l)), some (.ref b), some (.int ((acc : Int) * 128 + (x : Int).fmod 128)), some (.int (q : Int))], H.set b (.list (nn fo))⟩
          rw [sev_step]
          exact ih (q + 1) _ fo _ hr (Nat.le_of_succ_le hf) (fun z => absurd z hr') h
  have := key l 0 0 [] none rfl (Nat.le_of_eq (Nat.zero_add _)) (fun _ => rfl) h
  rw [← List.range_eq_range'] at this
  exact this
end
end Mine
end
section
open PySem PySem.W PyProof.Rows PySem.Calls PyProof.V PySem.Spec PySem.SeqAt
namespace Mine
theorem sl_nat {α : Type} (l : List α) (a b : Nat) : pySlice l (some (a : Int)) (some (b : Int)) = (l.drop a).take (b - a) := by
  show (l.drop (clampI l.length (a : Int))).take (clampI l.length (b : Int) - clampI l.length (a : Int)) = _
  have e : ∀ x : Nat, clampI l.length (x : Int) = min x l.length := fun x => if_neg (Int.not_lt.mpr (Int.natCast_nonneg x))
  rw [e, e]
  by_cases h : a ≤ l.length
  · rw [Nat.min_eq_left h]
    by_cases g : b ≤ l.length
    · rw [Nat.min_eq_left g]
    · have g := Nat.le_of_not_le g
      rw [Nat.min_eq_right g, List.take_of_length_le (Nat.le_of_eq (List.length_drop)), List.take_of_length_le (by rw [List.length_drop]; exact Nat.sub_le_sub_right g a)]
  · rw [List.drop_eq_nil_of_le (Nat.le_of_not_le h), Nat.min_eq_right (Nat.le_of_not_le h), List.drop_eq_nil_of_le (Nat.le_refl _), List.take_nil, List.take_nil]
theorem slN (l : List Nat) (a b : Nat) : pySlice (nn l) (some (a : Int)) (some (b : Int)) = nn ((l.drop a).take (b - a)) := by
  rw [sl_nat, nn, nn, List.map_take, List.map_drop]
set_option exponentiation.threshold 2000
noncomputable def lg (f : Nat) : Nat → Nat → Nat
  | 0, s => s
  | n + 1, s => if f / 2 ^ (7 - s) % 2 = 1 then lg f n (s + 1) else s
noncomputable def lead (f : Nat) : Nat := lg f 5 2
noncomputable def cont (c : Nat) : List Nat → Option Nat
  | [] => some c
  | o :: r => if o / 64 = 2 then cont (c * 64 + o % 64) r else none
noncomputable def dec1 : List Nat → Option (Nat × Nat)
  | [] => none
  | f :: r => if f < 128 then some (f, 1) else if f < 192 then none else if 6 < lead f then none else if r.length + 1 < lead f then none else
    (cont (f % 2 ^ (7 - lead f)) (r.take (lead f - 1))).bind fun c => if utf c = f :: r.take (lead f - 1) then some (c, lead f) else none
theorem lg_succ {f n s : Nat} : lg f (n + 1) s = if f / 2 ^ (7 - s) % 2 = 1 then lg f n (s + 1) else s := rfl
theorem cont_cons {c o : Nat} {r : List Nat} : cont c (o :: r) = if o / 64 = 2 then cont (c * 64 + o % 64) r else none := rfl
theorem dec1_cons {f : Nat} {r : List Nat} : dec1 (f :: r) = if f < 128 then some (f, 1) else if f < 192 then none else if 6 < lead f then none else if r.length + 1 < lead f then none else
    (cont (f % 2 ^ (7 - lead f)) (r.take (lead f - 1))).bind fun c => if utf c = f :: r.take (lead f - 1) then some (c, lead f) else none := rfl
theorem lg_le {f : Nat} : ∀ {n s : Nat}, s ≤ lg f n s ∧ lg f n s ≤ s + n
  | 0, s => ⟨Nat.le_refl _, Nat.le_refl _⟩
  | n + 1, s => by
    rw [lg_succ]; split
    · exact ⟨Nat.le_of_succ_le lg_le.1, Nat.le_trans lg_le.2 (Nat.le_of_eq (Nat.add_right_comm _ _ _))⟩
    · exact ⟨Nat.le_refl _, Nat.le_add_right _ _⟩
theorem or6 (a o : Nat) : Builtin.bitOr ((a : Int) * 2 ^ (6 : Int).toNat) (Builtin.bitAnd (o : Int) 63) = ((a * 64 + o % 64 : Nat) : Int) := by
  rw [and63]; exact bitor_add 6 (o % 64) (Nat.mod_lt _ (by decide))
theorem opt_bind {α β : Type} {f : α → Option β} {d : Prop} {k : β → Prop} : ∀ {o : Option α}, opt (o.bind f) d k = opt o d (fun a => opt (f a) d k)
  | none => rfl
  | some _ => rfl
theorem opt_if {α : Type} {p : Prop} [Decidable p] {a b : Option α} {d : Prop} {k : α → Prop} : opt (if p then a else b) d k = if p then opt a d k else opt b d k := by
  split <;> rfl
theorem nat6 {o : Nat} : (o : Int).fdiv (2 ^ (6 : Int).toNat) = ((o / 64 : Nat) : Int) := fdivN o 64
theorem le1000 {c n : Nat} (h : c < 2 ^ n) (hn : n ≤ 1000) : (c : Int).natAbs < 2 ^ 1000 := Nat.lt_of_lt_of_le h (Nat.pow_le_pow_right (by decide) hn)
section
variable {prog : Program} {w : World} {K : Frag} {G : Heap} {H : HM} {Q : AV → HM → Prop} {X : HM → Prop}
theorem rc_loop {C : CP} {a b c d : Option AV} : ∀ (r : List Nat) (code n : Nat) (o : Option AV), code < 2 ^ n → n + 6 * r.length ≤ 31 →
    opt (cont code r) (X H) (fun x => x < 2 ^ 31 → ∀ o, swps C f_read_code_t6 (bodyR Q) (fun τ => X τ.H) ⟨[a, b, c, d, some (.int (x : Int)), o], H⟩) →
    forW (fb C [5] f_read_code_t4 (fun τ => X τ.H)) (aft C f_read_code_t6 Q X) (nn r) ⟨[a, b, c, d, some (.int (code : Int)), o], H⟩
  | [], code, n, o, h1, h2, h => h (Nat.lt_of_lt_of_le h1 (Nat.pow_le_pow_right (by decide) h2)) o
  | x :: r, code, n, o, h1, h2, h => by
    rw [cont_cons, opt_if] at h
    refine ⟨by decide, ?_⟩
    show br (some (!decide ((x : Int).fdiv (2 ^ (6 : Int).toNat) = 2))) _ _
    rw [nat6]
    refine br_not (fun z => ?_) fun z => ⟨by decide, by decide, le1000 h1 (Nat.le_trans (Nat.le_of_add_right_le h2) (by decide)), ?_⟩
    · rw [if_neg (fun q => z (congrArg Int.ofNat q))] at h; exact h
    · rw [if_pos (Int.ofNat.inj z)] at h
      show forW (fb C [5] f_read_code_t4 (fun τ => X τ.H)) (aft C f_read_code_t6 Q X) (nn r) ⟨[a, b, c, d, some (.int (Builtin.bitOr ((code : Int) * 2 ^ (6 : Int).toNat) (Builtin.bitAnd (x : Int) 63))), some (.int (x : Int))], H⟩
      rw [or6]
      exact rc_loop r _ (n + 6) _ (by rw [Nat.pow_add]; exact digit_lt h1 (Nat.mod_lt _ (by decide))) (Nat.le_trans (Nat.le_of_eq (by rw [List.length_cons, Nat.mul_succ, Nat.add_assoc, Nat.add_comm 6])) h2) h
end
theorem mask (f k : Nat) : Builtin.bitAnd (f : Int) (1 * 2 ^ ((k : Nat) : Int).toNat - 1) = ((f % 2 ^ k : Nat) : Int) := by
  rw [Int.one_mul]
  exact (kbt_mask (f : Int) k).trans (by rw [show ((2 : Int) ^ k) = ((2 ^ k : Nat) : Int) from (Int.natCast_pow 2 k).symm]; rfl)
section
variable {prog : Program} {w : World} {K : Frag} {G : Heap} {H : HM} {Q : AV → HM → Prop} {X : HM → Prop}
theorem s_read_code (V : Wd prog w K G) {l : List Nat} {p : Nat} (hp : p < l.length) (hz : l.length ≤ 100)
    (h : opt (dec1 (l.drop p)) (X H) fun x => Q (.tup [.int x.1, .int ((p + x.2 : Nat) : Int)]) H) : CallS prog w K G 2 (.glob (.ref 308)) [.lst (nn l), .int (p : Int)] H Q X := by
  cases hd : l.drop p with
  | nil => exact absurd hp (Nat.not_lt.mpr (drop_nil hd))
  | cons f r =>
  obtain ⟨_, hf, hr⟩ := drop_cons hd
  rw [hd, dec1_cons, opt_if, opt_if, opt_if, opt_if] at h
  refine V.run (n := 6) (r := r_read_code) rfl rfl (subN (H := H) hp hf (br_dec (fun z => ?_) fun z => ?_) rfl)
  · rw [if_pos (Int.ofNat_lt.mp z)] at h
    exact h
  rw [if_neg (fun q => z (Int.ofNat_lt.mpr q))] at h
  have hrl : r.length + 1 + p = l.length := by rw [← hr, List.length_drop, Nat.add_assoc, Nat.add_comm 1]; exact Nat.sub_add_cancel hp
  intro I hI
  have after : swps (CPs prog w K G 1) f_read_code_t9 (bodyR Q) (fun τ => X τ.H) ⟨[some (.lst (nn l)), some (.int (p : Int)), some (.int (f : Int)), some (.int (lead f : Int)), none, none], H⟩ := by
    refine br_dec (fun z => br_yes z ?_) fun z => br_dec (fun z6 => br_yes z6 ?_) fun z6 => br_dec (fun zl => ?_) fun zl => ?_
    · rw [if_pos (Int.ofNat_lt.mp z)] at h; exact h
    · rw [if_neg (fun q => z (Int.ofNat_lt.mpr q)), if_pos (Int.ofNat_lt.mp z6)] at h; exact h
    · have zl := Int.ofNat_lt.mp zl
      rw [nn_len, ← hrl, Nat.add_comm] at zl
      rw [if_neg (fun q => z (Int.ofNat_lt.mpr q)), if_neg (fun q => z6 (Int.ofNat_lt.mpr q)), if_pos (Nat.lt_of_add_lt_add_left zl)] at h; exact h
    · have zl := fun q => zl (Int.ofNat_lt.mpr q)
      rw [nn_len, ← hrl, Nat.add_comm _ p] at zl
      rw [if_neg (fun q => z (Int.ofNat_lt.mpr q)), if_neg (fun q => z6 (Int.ofNat_lt.mpr q)), if_neg (fun q => zl (Nat.add_lt_add_left q p)), opt_bind] at h
      have hl : 2 ≤ lead f ∧ lead f ≤ 2 + 5 := lg_le
      have hl6 : lead f ≤ 6 := Nat.le_of_not_lt fun q => z6 (Int.ofNat_lt.mpr q)
      have e7 : (7 : Int) - (lead f : Int) = ((7 - lead f : Nat) : Int) := sub_cast (a := 7) hl.2
      show 0 ≤ (7 : Int) - (lead f : Int) ∧ (7 : Int) - (lead f : Int) ≤ 1000000 ∧ (1 : Int).natAbs < 2 ^ 1000 ∧ (pySlice (nn l) (some ((p + 1 : Nat) : Int)) (some ((p + lead f : Nat) : Int))).length ≤ 1000000 ∧ forW _ _ (pySlice (nn l) (some ((p + 1 : Nat) : Int)) (some ((p + lead f : Nat) : Int))) ⟨[_, _, _, _, some (.int (Builtin.bitAnd (f : Int) (1 * 2 ^ ((7 : Int) - (lead f : Int)).toNat - 1))), _], _⟩
      rw [e7, slN, hr, Nat.add_sub_add_left, nn_len, mask]
      refine ⟨Int.natCast_nonneg _, Int.ofNat_le.mpr (Nat.le_trans (Nat.sub_le _ _) (by decide)), by decide, ?_, ?_⟩
      · rw [List.length_take]; exact Nat.le_trans (Nat.min_le_left _ _) (Nat.le_trans (Nat.sub_le _ _) (Nat.le_trans hl6 (by decide)))
      · refine rc_loop _ _ (7 - lead f) _ (Nat.mod_lt _ (Nat.pow_pos (by decide))) ?_ ?_
        · rw [List.length_take]; exact Nat.le_trans (Nat.add_le_add_left (Nat.mul_le_mul_left 6 (Nat.min_le_left _ _)) _) ((by decide : ∀ L < 7, 7 - L + 6 * (L - 1) ≤ 31) _ (Nat.lt_succ_of_le hl6))
        · cases hc : cont (f % 2 ^ (7 - lead f)) (r.take (lead f - 1)) with
          | none => rw [hc] at h; exact h
          | some x =>
            rw [hc] at h
            intro hx o
            refine CallS_up (s_row_of_code V hx ?_) (by decide)
            have h : opt (if utf x = f :: r.take (lead f - 1) then some (x, lead f) else none) (X H) _ := h
            show withO ((eqL (nn (utf x)) (pySlice (nn l) (some (p : Int)) (some ((p + lead f : Nat) : Int)))).map (!·)) _
            rw [slN, eqL_nn, hd, Nat.add_sub_cancel_left, List.take_cons (Nat.lt_of_lt_of_le (by decide) hl.1)]
            rw [opt_if] at h
            refine br_not (fun q => ?_) fun q => ?_
            · rw [if_neg q] at h; exact h
            · rw [if_pos q] at h; exact h
  have key : ∀ (n s : Nat), s + n = 7 → lead f = lg f n s → I ⟨[some (.lst (nn l)), some (.int (p : Int)), some (.int (f : Int)), some (.int (s : Int)), none, none], H⟩ := by
    intro n
    induction n with
    | zero =>
      intro s e hs
      have e : s = 7 := e
      have hs : lead f = s := hs
      rw [hs] at after
      exact hI _ (br_no (Int.not_lt.mpr (Int.ofNat_le.mpr (Nat.le_of_eq e.symm))) (br_no (Int.not_lt.mpr (Int.ofNat_le.mpr (Nat.le_of_eq e.symm))) after))
    | succ n ih =>
      intro s e hs
      rw [lg_succ] at hs
      have hs7 : s < 7 := Nat.lt_of_lt_of_le (Nat.lt_add_of_pos_right (Nat.succ_pos n)) (Nat.le_of_eq e)
      have e7 : (7 : Int) - (s : Int) = ((7 - s : Nat) : Int) := sub_cast (a := 7) (Nat.le_of_lt hs7)
      refine hI _ (br_yes (Int.ofNat_lt.mpr hs7) ⟨e7 ▸ Int.natCast_nonneg _, ?_⟩)
      show br (some (!decide (Builtin.bitAnd ((f : Int).fdiv (2 ^ ((7 : Int) - (s : Int)).toNat)) 1 = 0))) _ _
      rw [e7, shrN, and1]
      refine br_not (fun z => ?_) fun z => ?_
      · rw [if_pos ((Nat.mod_two_eq_zero_or_one _).resolve_left fun q => z (congrArg Int.ofNat q))] at hs
        exact ih (s + 1) (by rw [Nat.succ_add]; exact e) hs
      · rw [if_neg (fun q => by rw [Int.ofNat.inj z] at q; cases q)] at hs
        rw [hs] at after
        exact after
  exact key 5 2 rfl rfl
end
end Mine
end
section
open PySem PySem.W PyProof.Rows PySem.Calls PyProof.V PySem.Spec PySem.SeqAt
namespace Mine
set_option exponentiation.threshold 2000
noncomputable def all (rd : List Nat → Option (Nat × Nat)) : Nat → List Nat → Option (List Nat)
  | 0, _ => some []
  | n + 1, l => if l = [] then some [] else (rd l).bind fun x => (all rd n (l.drop x.2)).map (x.1 :: ·)
theorem all_nil {rd : List Nat → Option (Nat × Nat)} : ∀ {n : Nat}, all rd n [] = some []
  | 0 => rfl
  | n + 1 => if_pos rfl
theorem all_cons {rd : List Nat → Option (Nat × Nat)} {n f : Nat} {r : List Nat} : all rd (n + 1) (f :: r) = (rd (f :: r)).bind fun x => (all rd n ((f :: r).drop x.2)).map (x.1 :: ·) := if_neg nofun
noncomputable def dcl (s c f : Nat) (r : List Nat) : Option (Nat × Nat) := (cont c (r.take (s - 1))).bind fun x =>
  if 6 < s then none else if r.length + 1 < s then none else if s = 1 ∧ 128 ≤ f then none else if utf x = f :: r.take (s - 1) then some (x, s) else none
theorem cont_bound : ∀ {r : List Nat} {c n x : Nat}, c < 2 ^ n → cont c r = some x → x < 2 ^ (n + 6 * r.length)
  | [], c, n, x, h1, e => by cases e; exact h1
  | o :: r, c, n, x, h1, e => by
    rw [cont_cons] at e
    split at e
    · have := cont_bound (r := r) (n := n + 6) (by rw [Nat.pow_add]; exact digit_lt h1 (Nat.mod_lt _ (by decide))) e
      rw [List.length_cons, Nat.mul_succ, Nat.add_comm (6 * r.length), ← Nat.add_assoc]; exact this
    · cases e
theorem rest_lt {l r : List Nat} {q : Nat} (hr : l.drop (q + 1) = r) (hp : q < l.length) : r.length < l.length := by
  rw [← hr, List.length_drop]; exact Nat.sub_lt (Nat.lt_of_le_of_lt (Nat.zero_le _) hp) (Nat.succ_pos q)
theorem dcl_one {f : Nat} {r : List Nat} (z : f < 128) : dcl 1 f f r = dec1 (f :: r) := by
  rw [dec1_cons, if_pos z]
  show (if 6 < 1 then none else if r.length + 1 < 1 then none else if 1 = 1 ∧ 128 ≤ f then none else if utf f = f :: r.take 0 then some (f, 1) else none) = _
  rw [if_neg (by decide), if_neg (Nat.not_lt.mpr (Nat.le_add_left 1 _)), if_neg (fun q => Nat.not_le.mpr z q.2), if_pos (by rw [utf, if_pos z]; rfl)]
theorem bind_no {α β : Type} : ∀ {o : Option α}, (o.bind fun _ => (none : Option β)) = none
  | none => rfl
  | some _ => rfl
theorem dcl_lead {f : Nat} {r : List Nat} (z : 128 ≤ f) (hf : f < 256) : 1 ≤ lg f 7 0 ∧ dcl (lg f 7 0) (f % 2 ^ (7 - lg f 7 0)) f r = dec1 (f :: r) := by
  have e7 : f / 2 ^ (7 - 0) % 2 = 1 := (by decide +kernel : ∀ f < 256, 128 ≤ f → f / 2 ^ (7 - 0) % 2 = 1) f hf z
  have e6 : f / 2 ^ (7 - 1) % 2 = 1 ↔ ¬ f < 192 := (by decide +kernel : ∀ f < 256, 128 ≤ f → (f / 2 ^ (7 - 1) % 2 = 1 ↔ ¬ f < 192)) f hf z
  rw [lg_succ, if_pos e7, lg_succ, dec1_cons, if_neg (Nat.not_lt.mpr z)]
  by_cases h : f < 192
  · rw [if_neg (fun q => e6.mp q h), if_pos h]
    refine ⟨Nat.le_refl 1, ?_⟩
    show (if 6 < 1 then none else if r.length + 1 < 1 then none else if 1 = 1 ∧ 128 ≤ f then none else _) = none
    rw [if_neg (by decide), if_neg (Nat.not_lt.mpr (Nat.le_add_left 1 _)), if_pos ⟨rfl, z⟩]
  · rw [if_pos (e6.mpr h), if_neg h]
    have hl : 2 ≤ lead f := lg_le.1
    refine ⟨Nat.le_of_succ_le hl, ?_⟩
    show (cont (f % 2 ^ (7 - lead f)) (r.take (lead f - 1))).bind (fun x => if 6 < lead f then none else if r.length + 1 < lead f then none else if lead f = 1 ∧ 128 ≤ f then none else if utf x = f :: r.take (lead f - 1) then some (x, lead f) else none) = _
    by_cases h1 : 6 < lead f
    · simp only [if_pos h1]; exact bind_no
    by_cases h2 : r.length + 1 < lead f
    · simp only [if_neg h1, if_pos h2]; exact bind_no
    simp only [if_neg h1, if_neg h2, if_neg (fun q : lead f = 1 ∧ 128 ≤ f => Nat.not_le.mpr hl (Nat.le_of_eq q.1))]
section
variable {prog : Program} {w : World} {K : Frag} {G : Heap} {H : HM} {Q : AV → HM → Prop} {X : HM → Prop}
theorem lc_loop {C : CP} {a b c d : Option AV} {R : Fl → St → Prop} : ∀ (r : List Nat) (code : Nat) (o : Option AV),
    opt (cont code r) (∀ σ : St, σ.H = H → R (.ret .none) σ) (fun x => ∀ o, swps C f_law_read_codes_3 R (fun τ => X τ.H) ⟨[a, b, c, d, some (.int (x : Int)), o], H⟩) →
    forW (fb C [5] f_law_read_codes_2 (fun τ => X τ.H)) (nextR (swps C f_law_read_codes_3 R (fun τ => X τ.H)) R) (nn r) ⟨[a, b, c, d, some (.int (code : Int)), o], H⟩
  | [], code, o, h => h o
  | x :: r, code, o, h => by
    rw [cont_cons, opt_if] at h
    refine ⟨by decide, by decide, ?_⟩
    show br (some (!decide ((x : Int).fdiv (64 : Nat) = 2))) _ _
    rw [fdivN]
    refine br_not (fun z => ?_) fun z => ⟨mulR (by decide), by decide, ?_⟩
    · rw [if_neg (fun q => z (congrArg Int.ofNat q))] at h; exact h _ rfl
    · rw [if_pos (Int.ofNat.inj z)] at h
      show forW (fb C [5] f_law_read_codes_2 (fun τ => X τ.H)) (nextR (swps C f_law_read_codes_3 R (fun τ => X τ.H)) R) (nn r) ⟨[a, b, c, d, some (.int ((code : Int) * 64 + (x : Int).fmod (64 : Nat))), some (.int (x : Int))], H⟩
      rw [fmodN]
      exact lc_loop r _ _ h
theorem s_law_read_codes (V : Wd prog w K G) {l : List Nat} (hz : l.length ≤ 100) (ho : ∀ o ∈ l, o < 256)
    (h : opt (all dec1 l.length l) (∀ H', HExt H H' → Q .none H') fun r => ∀ H', HExt H H' → Q (.lst (nn r)) H') : CallS prog w K G 2 (.glob (.ref 897)) [.lst (nn l)] H Q X := by
  refine V.run (n := 64) (r := r_law_read_codes) rfl rfl fun b hb I hI => ?_
  have key : ∀ (n q : Nat) (fo : List Nat) (H1 : HM) (o3 o4 o5 : Option AV), (l.drop q).length ≤ n → fo.length ≤ q → HExt H H1 → H1 b = some (.list (nn fo)) →
      opt (all dec1 n (l.drop q)) (∀ H', HExt H H' → Q .none H') (fun r => ∀ H', HExt H H' → Q (.lst (nn (fo ++ r))) H') → I ⟨[some (.lst (nn l)), some (.ref b), some (.int (q : Int)), o3, o4, o5], H1⟩ := by
    intro n
    induction n using Nat.strongRecOn with
    | _ n ih =>
    intro q fo H1 o3 o4 o5 hn hf hx h1 h
    cases hd : l.drop q with
    | nil =>
      rw [hd, all_nil] at h
      have e := drop_nil hd
      rw [← nn_len] at e
      have h : Q (.lst (nn (fo ++ []))) (H1.del b) := h _ (hx.del hb)
      rw [List.append_nil] at h
      exact hI _ (br_no (Int.not_lt.mpr (Int.ofNat_le.mpr e)) ⟨b, _, rfl, h1, h⟩)
    | cons f r =>
    obtain ⟨hp, hf', hr⟩ := drop_cons hd
    cases n with
    | zero => rw [hd] at hn; cases hn
    | succ n =>
    rw [hd, all_cons, opt_bind] at h
    have hf256 := ho f (List.mem_of_getElem? hf')
    have e := hp
    rw [← nn_len] at e
    have hrl : r.length + 1 + q = l.length := by rw [← hr, List.length_drop, Nat.add_assoc, Nat.add_comm 1]; exact Nat.sub_add_cancel hp
    have tail : ∀ (s c m : Nat), 1 ≤ s → c < 2 ^ m → (s ≤ 6 → m + 6 * (s - 1) ≤ 31) → dcl s c f r = dec1 (f :: r) →
        swps (CPs prog w K G 1) f_law_read_codes_4_t0 (loopR I (aft (CPs prog w K G 1) f_law_read_codes_6 Q X)) (fun τ => X τ.H) ⟨[some (.lst (nn l)), some (.ref b), some (.int (q : Int)), some (.int (s : Int)), some (.int (c : Int)), o5], H1⟩ := by
      intro s c m hs hc hm hdc
      show (pySlice (nn l) (some ((q + 1 : Nat) : Int)) (some ((q + s : Nat) : Int))).length ≤ 1000000 ∧ forW _ _ (pySlice (nn l) (some ((q + 1 : Nat) : Int)) (some ((q + s : Nat) : Int))) _
      rw [slN, hr, Nat.add_sub_add_left, nn_len, List.length_take]
      refine ⟨Nat.le_trans (Nat.min_le_right _ _) (Nat.le_trans (Nat.le_trans (Nat.le_of_lt (rest_lt hr hp)) hz) (by decide)), lc_loop _ _ _ ?_⟩
      rw [← hdc, dcl, opt_bind] at h
      have bad : Q .none H1 → ∀ σ : St, σ.H = H1 → loopR I (aft (CPs prog w K G 1) f_law_read_codes_6 Q X) (.ret .none) σ := fun h σ e => by
        show Q .none σ.H
        rw [e]; exact h
      cases hc' : cont c (r.take (s - 1)) with
      | none => rw [hc'] at h; exact bad (h _ hx)
      | some x =>
      rw [hc'] at h
      have h : opt (if 6 < s then none else if r.length + 1 < s then none else if s = 1 ∧ 128 ≤ f then none else if utf x = f :: r.take (s - 1) then some (x, s) else none) _ _ := h
      rw [opt_if, opt_if, opt_if, opt_if] at h
      intro o
      refine br_dec (fun z6 => br_yes z6 ?_) fun z6 => br_dec (fun zl => br_yes zl ?_) fun zl => ?_
      · rw [if_pos (Int.ofNat_lt.mp z6)] at h; exact h _ hx
      · have zl := Int.ofNat_lt.mp zl
        rw [nn_len, ← hrl, Nat.add_comm] at zl
        rw [if_neg (fun q => z6 (Int.ofNat_lt.mpr q)), if_pos (Nat.lt_of_add_lt_add_left zl)] at h; exact h _ hx
      have zl := fun q => zl (Int.ofNat_lt.mpr q)
      rw [nn_len, ← hrl, Nat.add_comm _ q] at zl
      have hs6 := Nat.le_of_not_lt fun q => z6 (Int.ofNat_lt.mpr q)
      rw [if_neg (Nat.not_lt.mpr hs6), if_neg (fun z => zl (Nat.add_lt_add_left z q))] at h
      have last : ∀ R : Fl → St → Prop, (R = loopR I (aft (CPs prog w K G 1) f_law_read_codes_6 Q X)) → ¬ (s = 1 ∧ 128 ≤ f) → ewp (CPs prog w K G 1) (.cmp .NotEq (.call (.glob "_law_code" (.ref 885)) (.cons (.loc 4) .nil)) (.slice (.loc 0) (.loc 2) (.bin .Add (.loc 2) (.loc 3))))
          (fun v τ => br (truthA v) (swps (CPs prog w K G 1) (.cons (.ret .none) .nil) (nextR (swps (CPs prog w K G 1) f_law_read_codes_3_t1 R (fun τ => X τ.H)) R) (fun τ => X τ.H) τ) (swps (CPs prog w K G 1) .nil (nextR (swps (CPs prog w K G 1) f_law_read_codes_3_t1 R (fun τ => X τ.H)) R) (fun τ => X τ.H) τ)) (fun τ => X τ.H) ⟨[some (.lst (nn l)), some (.ref b), some (.int (q : Int)), some (.int (s : Int)), some (.int (x : Int)), o], H1⟩ := fun R hR hs1 => by
        have hx31 : x < 2 ^ 31 := Nat.lt_of_lt_of_le (cont_bound hc hc') (Nat.pow_le_pow_right (by decide) (by
          rw [List.length_take]; exact Nat.le_trans (Nat.add_le_add_left (Nat.mul_le_mul_left 6 (Nat.min_le_left _ _)) _) (hm hs6)))
        refine s_law_code V hx31 fun H2 e2 => ?_
        show withO ((eqL (nn (utf x)) (pySlice (nn l) (some (q : Int)) (some ((q + s : Nat) : Int)))).map (!·)) _
        rw [slN, eqL_nn, hd, Nat.add_sub_cancel_left, List.take_cons hs]
        rw [if_neg hs1] at h
        subst hR
        refine br_not (fun z => ?_) fun z => ?_
        · rw [if_neg z] at h
          exact h _ (hx.trans e2)
        · rw [if_pos z] at h
          have h : opt ((all dec1 n ((f :: r).drop s)).map (x :: ·)) _ _ := h
          rw [opt_map, ← hd, List.drop_drop] at h
          refine ⟨⟨b, _, rfl, e2 _ _ h1⟩, b, _, rfl, e2 _ _ h1, ?_, ?_⟩
          · rw [nn_len]; exact Nat.lt_of_le_of_lt hf (Nat.lt_of_lt_of_le hp (Nat.le_trans hz (by decide)))
          · show I ⟨[some (.lst (nn l)), some (.ref b), some (.int ((q + s : Nat) : Int)), _, _, _], H2.set b (.list (nn fo ++ nn [x]))⟩
            rw [← nn_app]
            refine ih n (Nat.lt_succ_self n) (q + s) (fo ++ [x]) _ _ _ _ ?_ (by rw [List.length_append]; exact Nat.add_le_add hf hs) ((hx.trans e2).up hb) same ?_
            · rw [List.length_drop, Nat.sub_add_eq, ← List.length_drop]; exact Nat.le_trans (Nat.sub_le_sub_left hs _) (Nat.sub_le_of_le_add hn)
            · simp only [List.append_assoc]; exact h
      by_cases e1 : s = 1
      · refine br_yes (congrArg Int.ofNat e1) (subN (H := H) hp hf' (br_dec (fun zf => br_yes zf ?_) fun zf => last (loopR I (aft (CPs prog w K G 1) f_law_read_codes_6 Q X)) rfl fun q => zf (Int.ofNat_le.mpr q.2)) rfl)
        rw [if_pos ⟨e1, Int.ofNat_le.mp zf⟩] at h; exact h _ hx
      · have e1' : ¬ ((s : Int) = 1) := fun q => e1 (Int.ofNat.inj q)
        exact br_no e1' (br_no e1' (last (loopR I (aft (CPs prog w K G 1) f_law_read_codes_6 Q X)) rfl fun q => e1 q.1))
    refine hI _ (br_yes (Int.ofNat_lt.mpr e) (subN (H := H) hp hf' (br_dec (fun z => ?_) fun z => ?_) rfl))
    · have z := Int.ofNat_le.mp z
      intro I2 hI2
      have after : swps (CPs prog w K G 1) f_law_read_codes_4 (loopR I (aft (CPs prog w K G 1) f_law_read_codes_6 Q X)) (fun τ => X τ.H) ⟨[some (.lst (nn l)), some (.ref b), some (.int (q : Int)), some (.int (lg f 7 0 : Int)), o4, o5], H1⟩ := by
        obtain ⟨s1, s2⟩ := dcl_lead (r := r) z hf256
        have s7 : lg f 7 0 ≤ 7 := lg_le.2
        generalize lg f 7 0 = s at s1 s2 s7
        have e7 : (7 : Int) - (s : Int) = ((7 - s : Nat) : Int) := sub_cast (a := 7) s7
        have t := tail s _ (7 - s) s1 (Nat.mod_lt f (Nat.pow_pos (by decide))) (fun q => (by decide : ∀ L < 7, 7 - L + 6 * (L - 1) ≤ 31) _ (Nat.lt_succ_of_le q)) s2
        have other : ewp (CPs prog w K G 1) (.bin .Mod (.sub (.loc 0) (.loc 2)) (.bin .Pow (.int 2) (.bin .Sub (.int 7) (.loc 3)))) (fun v τ => swps (CPs prog w K G 1) f_law_read_codes_4_t0 (loopR I (aft (CPs prog w K G 1) f_law_read_codes_6 Q X)) (fun τ => X τ.H) (setL τ 4 v)) (fun τ => X τ.H) ⟨[some (.lst (nn l)), some (.ref b), some (.int (q : Int)), some (.int (s : Int)), o4, o5], H1⟩ := by
          refine subN (H := H1) hp hf' ⟨e7 ▸ Int.natCast_nonneg _, e7 ▸ Int.ofNat_le.mpr (Nat.le_trans (Nat.sub_le _ _) (by decide)), by decide, Int.ne_of_gt (Int.pow_pos (by decide)), ?_⟩ rfl
          show swps (CPs prog w K G 1) f_law_read_codes_4_t0 (loopR I (aft (CPs prog w K G 1) f_law_read_codes_6 Q X)) (fun τ => X τ.H) ⟨[_, _, _, _, some (.int ((f : Int).fmod ((2 : Int) ^ ((7 : Int) - (s : Int)).toNat))), _], _⟩
          rw [e7, show ((2 : Int) ^ ((7 - s : Nat) : Int).toNat) = _ from powN (a := 2), fmodN]
          exact t
        by_cases e1 : s = 1
        · exact br_yes (congrArg Int.ofNat e1) (subN (H := H1) hp hf' (br_no (Int.not_lt.mpr (Int.ofNat_le.mpr z)) other) rfl)
        · have e1' : ¬ ((s : Int) = 1) := fun q => e1 (Int.ofNat.inj q)
          exact br_no e1' (br_no e1' other)
      have key2 : ∀ (n s : Nat), s + n = 7 → lg f 7 0 = lg f n s → I2 ⟨[some (.lst (nn l)), some (.ref b), some (.int (q : Int)), some (.int (s : Int)), o4, o5], H1⟩ := by
        intro n
        induction n using Nat.strongRecOn with
        | _ n ih2 =>
        intro s e hs
        have s7 : s ≤ 7 := Nat.le.intro e
        have e7 : (7 : Int) - (s : Int) = ((7 - s : Nat) : Int) := sub_cast (a := 7) s7
        refine hI2 _ (subN (H := H1) hp hf' ?_ rfl)
        show 0 ≤ (7 : Int) - (s : Int) ∧ (7 : Int) - (s : Int) ≤ 1000 ∧ (2 : Int).natAbs ≤ 1000 ∧ (2 : Int) ^ ((7 : Int) - (s : Int)).toNat ≠ 0 ∧ ((2 : Int) ^ ((7 : Int) - (s : Int)).toNat).natAbs < 2 ^ 64 ∧ (2 : Int) ≠ 0 ∧ br (some (decide (((f : Int).fdiv ((2 : Int) ^ ((7 : Int) - (s : Int)).toNat)).fmod 2 = 1))) _ _
        rw [e7, show ((2 : Int) ^ ((7 - s : Nat) : Int).toNat) = _ from powN (a := 2), fdivN, show ((f / 2 ^ (7 - s) : Nat) : Int).fmod 2 = _ from fmodN _ 2]
        refine ⟨Int.natCast_nonneg _, Int.ofNat_le.mpr (Nat.le_trans (Nat.sub_le _ _) (by decide)), by decide, fun q => Nat.ne_of_gt (Nat.pow_pos (by decide)) (Int.ofNat.inj q), Nat.lt_of_le_of_lt (Nat.pow_le_pow_right (by decide) (Nat.sub_le 7 s)) (by decide), by decide, br_dec (fun y => ?_) fun y => br_no y ?_⟩
        · have y := Int.ofNat.inj y
          cases n with
          | zero =>
            have hs : lg f 7 0 = s := hs
            rw [hs] at after
            exact br_no (Int.not_lt.mpr (Int.ofNat_le.mpr (Nat.le_of_eq (Eq.symm e)))) after
          | succ n =>
            rw [@lg_succ f n s, if_pos y] at hs
            exact br_yes (Int.ofNat_lt.mpr (Nat.lt_of_lt_of_le (Nat.lt_add_of_pos_right (Nat.succ_pos n)) (Nat.le_of_eq e))) (ih2 n (Nat.lt_succ_self n) (s + 1) (by rw [Nat.succ_add]; exact e) hs)
        · have y := fun q => y (congrArg Int.ofNat q)
          have hs : lg f 7 0 = s := by
            cases n with
            | zero => exact hs
            | succ n => rw [@lg_succ f n s, if_neg y] at hs; exact hs
          rw [hs] at after
          exact after
      exact key2 7 0 rfl rfl
    · have z := Nat.lt_of_not_le fun q => z (Int.ofNat_le.mpr q)
      refine subN (H := H) hp hf' (br_yes (Int.ofNat_lt.mpr z) ?_) rfl
      refine subN (H := H) hp hf' (tail 1 f 7 (Nat.le_refl 1) z (fun _ => by decide) (dcl_one z)) rfl
  exact key l.length 0 [] _ none none none (Nat.le_refl _) (Nat.le_refl _) (HExt.set _ hb) same h
end
end Mine
end
section
open PySem PySem.W PyProof.Rows PySem.Calls PyProof.V PySem.Spec PySem.SeqAt
namespace Mine
abbrev itm (l : Nat) (bang : Bool) (cnt : Int) (inner : AV) : AV := .tup [.str [l], .str [], .bool bang, .int cnt, inner]
noncomputable def Rdn (l : Nat) (rd : List Nat → Option (Nat × Nat)) : Prop := (l = 119 ∧ rd = ber 0) ∨ (l = 85 ∧ rd = dec1)
theorem ber_pos : ∀ {l : List Nat} {acc : Nat} {x : Nat × Nat}, ber acc l = some x → 1 ≤ x.2 ∧ x.2 ≤ l.length
  | [], _, _, h => nomatch h
  | o :: r, acc, x, h => by
    rw [ber_cons] at h
    split at h
    · cases h; exact ⟨Nat.le_refl 1, Nat.succ_le_succ (Nat.zero_le _)⟩
    · cases hb : ber (acc * 128 + o % 128) r with
      | none => rw [hb] at h; cases h
      | some y =>
        rw [hb] at h; cases h
        exact ⟨Nat.succ_le_succ (Nat.zero_le _), Nat.succ_le_succ (ber_pos hb).2⟩
theorem dec1_pos {l : List Nat} {x : Nat × Nat} (h : dec1 l = some x) : 1 ≤ x.2 ∧ x.2 ≤ l.length := by
  cases l with
  | nil => cases h
  | cons f r =>
    rw [dec1_cons] at h
    split at h
    · cases h; exact ⟨Nat.le_refl 1, Nat.succ_le_succ (Nat.zero_le _)⟩
    split at h
    · cases h
    split at h
    · cases h
    split at h
    · cases h
    · rename_i hn
      cases hc : cont (f % 2 ^ (7 - lead f)) (r.take (lead f - 1)) with
      | none => rw [hc] at h; cases h
      | some c =>
        rw [hc, Option.bind_some] at h
        split at h
        · cases h; exact ⟨Nat.le_trans (by decide) lg_le.1, Nat.le_of_not_lt hn⟩
        · cases h
theorem Rdn.pos {l : Nat} {rd : List Nat → Option (Nat × Nat)} (h : Rdn l rd) {d : List Nat} {x : Nat × Nat} (e : rd d = some x) : 1 ≤ x.2 ∧ x.2 ≤ d.length := by
  rcases h with ⟨_, rfl⟩ | ⟨_, rfl⟩
  · exact ber_pos e
  · exact dec1_pos e
section
variable {prog : Program} {w : World} {K : Frag} {G : Heap} {H : HM} {Q : AV → HM → Prop} {X : HM → Prop}
variable {H0 : HM} {A : Ad} {f : Addr} {data : List Nat} {pos : Nat} {found : List AV} {starts : List Nat} {steps : Nat}
theorem s_repeat_star (V : Wd prog w K G) {l : Nat} {b : Bool} {i : AV} {m : Int} (h : Q (.int m) H) : CallS prog w K G 1 (.glob (.ref 583)) [itm l b (-1) i, .int m] H Q X :=
  V.run (n := 29) (r := r_repeat_of) rfl rfl ⟨_, by decide, by decide, rfl, h⟩
theorem s_running (V : Wd prog w K G) {lt : Nat} {rd : List Nat → Option (Nat × Nat)} (hl : Rdn lt rd) (u : Un H0 H A f data pos found starts steps) (hp : pos ≤ data.length) (hz : data.length ≤ 100) (hs : steps ≤ 1000) (hf : found.length ≤ 1000)
    (h : opt (all rd (data.length - pos) (data.drop pos)) (∀ H', HExt H0 H' → X H') (fun r => ∀ H' st', Un H0 H' A f data data.length (found ++ r.map fun n : Nat => .int (wrap64 n)) starts st' → Q .none H')) :
    CallS prog w K G 3 (.glob (.ref 623)) [.ref A.a, itm lt false (-1) .none] H Q X := by
  refine V.run (n := 31) (r := r_unpack_running) rfl rfl (CallS_up (s_octets_left V u hp (CallS_up (s_repeat_star V ?_) (by decide))) (by decide))
  show -(2 ^ 40) < ((data.length - pos : Nat) : Int) ∧ ((data.length - pos : Nat) : Int) < 2 ^ 40 ∧ ((rngL 0 ((data.length - pos : Nat) : Int) 1).map AV.int).length ≤ 1000000 ∧ forW _ _ ((rngL 0 ((data.length - pos : Nat) : Int) 1).map AV.int) _
  have hk : data.length - pos ≤ 100 := Nat.le_trans (Nat.sub_le _ _) hz
  rw [rng_nn, nn_len, List.length_range]
  refine ⟨Int.lt_of_lt_of_le (by decide) (Int.natCast_nonneg _), Int.ofNat_lt.mpr (Nat.lt_of_le_of_lt hk (m := 100) (by decide)), Nat.le_trans hk (by decide), ?_⟩
  have key : ∀ (vs : List AV) (q : Nat) (H1 : HM) (found1 : List AV) (steps1 : Nat) (o2 o3 : Option AV), Un H0 H1 A f data q found1 starts steps1 → q ≤ data.length → steps1 + vs.length ≤ 2000 → found1.length + vs.length ≤ 2000 → data.length - q ≤ vs.length →
      opt (all rd vs.length (data.drop q)) (∀ H', HExt H0 H' → X H') (fun r => ∀ H' st', Un H0 H' A f data data.length (found1 ++ r.map fun n : Nat => .int (wrap64 n)) starts st' → Q .none H') →
      forW (fb (CPs prog w K G 2) [2] f_unpack_running_1 (fun τ => X τ.H)) (aft (CPs prog w K G 2) .nil Q X) vs ⟨[some (.ref A.a), some (itm lt false (-1) .none), o2, o3], H1⟩ := by
    intro vs
    induction vs with
    | nil =>
      intro q H1 found1 steps1 o2 o3 u1 h1 h2 h3 h4 h
      have e : q = data.length := Nat.le_antisymm h1 (Nat.le_of_sub_eq_zero (Nat.eq_zero_of_le_zero h4))
      have h : ∀ H' st', Un H0 H' A f data data.length (found1 ++ []) starts st' → Q .none H' := h
      rw [List.append_nil, ← e] at h
      exact h _ _ u1
    | cons v vs ih =>
      intro q H1 found1 steps1 o2 o3 u1 h1 h2 h3 h4 h
      refine CallS_up (s_octets_left V u1 h1 (br_dec (fun z => ?_) fun z => CallS_up (s_note_step V u1 (Nat.lt_of_le_of_lt (Nat.le_of_add_right_le h2) (by decide)) fun H2 u2 => ⟨_, by decide, by decide, rfl, ?_⟩) (by decide))) (by decide)
      · have e : q = data.length := Nat.le_antisymm h1 (Nat.le_of_sub_eq_zero (Int.ofNat.inj z))
        rw [List.drop_eq_nil_of_le (Nat.le_of_eq e.symm), all_nil] at h
        have h : ∀ H' st', Un H0 H' A f data data.length (found1 ++ []) starts st' → Q .none H' := h
        rw [List.append_nil, ← e] at h
        exact h _ _ u1
      · have hq : q < data.length := Nat.lt_of_le_of_ne h1 fun e => z (by rw [e, Nat.sub_self]; rfl)
        have go : ∀ (x : Str) (fa : Addr), (∀ {Q : AV → HM → Prop} {X : HM → Prop}, opt (rd (data.drop q)) (X H2) (fun y => Q (.tup [.int y.1, .int ((q + y.2 : Nat) : Int)]) H2) → CallS prog w K G 2 (.glob (.ref fa)) [.lst (nn data), .int (q : Int)] H2 Q X) →
            swps (CPs prog w K G 2) (.cons (.asgT [.loc 3, .attr (.loc 0) "at"] (.call (.glob x (.ref fa)) (.cons (.attr (.loc 0) "data") (.cons (.attr (.loc 0) "at") .nil)))) .nil)
              (nextR (swps (CPs prog w K G 2) f_unpack_running_1_t2 (loopR (forW (fb (CPs prog w K G 2) [2] f_unpack_running_1 (fun τ => X τ.H)) (aft (CPs prog w K G 2) .nil Q X) vs) (aft (CPs prog w K G 2) .nil Q X)) (fun τ => X τ.H)) (loopR (forW (fb (CPs prog w K G 2) [2] f_unpack_running_1 (fun τ => X τ.H)) (aft (CPs prog w K G 2) .nil Q X) vs) (aft (CPs prog w K G 2) .nil Q X))) (fun τ => X τ.H)
              ⟨[some (.ref A.a), some (itm lt false (-1) .none), some v, o3], H2⟩ := by
          intro x fa hc
          refine u2.get unD_data rfl (u2.get unD_at rfl (hc ?_))
          obtain ⟨g, r, hd⟩ : ∃ g r, data.drop q = g :: r := ⟨_, _, List.drop_eq_getElem_cons hq⟩
          rw [hd, show (v :: vs).length = vs.length + 1 from rfl, all_cons, ← hd, opt_bind] at h
          cases hr : rd (data.drop q) with
          | none => rw [hr] at h; exact h _ u2.base
          | some y =>
            rw [hr] at h
            have hy := hl.pos hr
            rw [List.length_drop] at hy
            have u3 := u2.setD (unD data f A (q + y.2) (steps1 + 1))
            refine ⟨rfl, A.a, 551, A.d, _, rfl, u2.ha, u2.hd, (by exact (by decide : 6 ≤ 20)), rfl, gn_at, ?_⟩
            show getaW (.ref A.a) "limits" (H2.set A.d (.dict (unD data f A (q + y.2) (steps1 + 1)))) _
            refine u3.get unD_limits rfl (u3.lim lim_width rfl (CallS_up (s_wrap_number V (CallS_up (s_note_value V u3 (Nat.lt_of_le_of_lt (Nat.le_of_add_right_le h3) (by decide)) fun H4 u4 => ?_) (by decide))) (by decide)))
            have h : opt ((all rd vs.length ((data.drop q).drop y.2)).map (y.1 :: ·)) _ _ := h
            rw [opt_map, List.drop_drop] at h
            refine ih (q + y.2) H4 _ _ _ _ u4 (Nat.add_le_of_le_sub' h1 hy.2) (Nat.le_trans (Nat.le_of_eq (Nat.add_right_comm _ _ _)) h2) (by rw [List.length_append]; exact Nat.le_trans (Nat.le_of_eq (Nat.add_right_comm _ _ _)) h3) (by rw [Nat.sub_add_eq]; exact Nat.le_trans (Nat.sub_le_sub_left hy.1 _) (Nat.sub_le_of_le_add h4)) ?_
            simp only [List.append_assoc]; exact h
        rcases hl with ⟨rfl, rfl⟩ | ⟨rfl, rfl⟩
        · exact go "read_ber" 294 fun h => CallS_up (s_read_ber V hz h) (by decide)
        · exact go "read_code" 308 fun h => s_read_code V hq hz h
  have := key (nn (List.range (data.length - pos))) pos H found steps none none u hp
  rw [nn_len, List.length_range] at this
  exact this (Nat.le_trans (Nat.add_le_add hs hk) (by decide)) (Nat.le_trans (Nat.add_le_add hf hk) (by decide)) (Nat.le_refl _) h
end
end Mine
end
section
open PySem PySem.W PyProof.Rows PySem.Calls PyProof.V PySem.Spec PySem.SeqAt
namespace Mine
theorem all_flat {rd : List Nat → Option (Nat × Nat)} {enc : Nat → List Nat} : ∀ {cs : List Nat} {n : Nat}, (∀ c ∈ cs, 1 ≤ (enc c).length ∧ ∀ rest, rd (enc c ++ rest) = some (c, (enc c).length)) → (cs.map enc).flatten.length ≤ n → all rd n (cs.map enc).flatten = some cs
  | [], n, h, hn => all_nil
  | c :: cs, n, h, hn => by
    obtain ⟨h1, h2⟩ := h c (.head _)
    rw [List.map_cons, List.flatten_cons] at hn ⊢
    rw [List.length_append] at hn
    cases n with
    | zero => exact absurd (Nat.le_trans h1 (Nat.le_of_add_right_le hn)) (by decide)
    | succ n =>
    cases he : enc c with
    | nil => rw [he] at h1; cases h1
    | cons a t =>
    rw [List.cons_append, all_cons, ← List.cons_append, ← he, h2]
    show (all rd n ((enc c ++ (cs.map enc).flatten).drop (enc c).length)).map (c :: ·) = _
    rw [List.drop_left, all_flat (fun x hx => h x (.tail _ hx)) (Nat.le_of_succ_le_succ (Nat.le_trans (Nat.le_of_eq (Nat.add_comm _ 1)) (Nat.le_trans (Nat.add_le_add_right h1 _) hn)))]
    rfl
theorem ber_hi (t : List Nat) (m : Nat) : ber 0 (hi m ++ t) = (ber m t).map fun x => (x.1, x.2 + (hi m).length) := by
  induction m using Nat.strongRecOn generalizing t with
  | _ m ih =>
  by_cases h : m = 0
  · subst h; rw [hi_zero]; exact Option.map_id'.symm
  · rw [hi_pos h, List.append_assoc, ih _ (Nat.div_lt_self (Nat.pos_of_ne_zero h) (by decide)), List.singleton_append, ber_cons, if_neg (Nat.not_lt.mpr (Nat.le_add_left _ _)), Nat.add_mod_right, Nat.mod_mod, Nat.div_add_mod', Option.map_map, List.length_append]
    exact congrArg (fun g => (ber m t).map g) (funext fun x => Prod.ext rfl (by show x.2 + 1 + _ = x.2 + (_ + 1); rw [Nat.add_assoc, Nat.add_comm 1]))
theorem ber_sev (m : Nat) (t : List Nat) : ber 0 (sev m ++ t) = some (m, (sev m).length) := by
  rw [sev, List.append_assoc, ber_hi, List.singleton_append, ber_cons, if_pos (Nat.mod_lt _ (by decide)), Nat.mod_mod, Nat.div_add_mod', List.length_append]
  exact congrArg (fun z => some (m, z)) (Nat.add_comm 1 _)
theorem bers_ber : ∀ {l : List Nat} {acc : Nat}, l ≠ [] → bers acc l = (ber acc l).bind fun x => (bers 0 (l.drop x.2)).map (x.1 :: ·)
  | [], _, h => absurd rfl h
  | o :: r, acc, _ => by
    rw [bers_cons, ber_cons]
    by_cases h : o < 128
    · rw [if_pos h, if_pos h]; rfl
    rw [if_neg h, if_neg h]
    by_cases hr : r = []
    · subst hr; rfl
    rw [if_neg hr, bers_ber hr, Option.bind_map]
    rfl
theorem all_bers : ∀ {n : Nat} {l : List Nat}, l.length ≤ n → all (ber 0) n l = bers 0 l
  | 0, l, h => by rw [List.eq_nil_of_length_eq_zero (Nat.eq_zero_of_le_zero h)]; rfl
  | n + 1, [], h => rfl
  | n + 1, f :: r, h => by
    rw [all_cons, bers_ber (l := f :: r) nofun]
    cases hb : ber 0 (f :: r) with
    | none => rfl
    | some x =>
      show (all (ber 0) n ((f :: r).drop x.2)).map _ = _
      rw [all_bers (by rw [List.length_drop]; exact Nat.le_trans (Nat.sub_le_sub_left (ber_pos hb).1 _) (Nat.sub_le_of_le_add h))]; rfl
theorem kg_prop {c : Nat} (h : c < 2 ^ 31) : ∀ (n k : Nat), k + n = 5 → k ≤ kg c n k ∧ kg c n k ≤ 5 ∧ c < 2 ^ (5 * kg c n k + 6)
  | 0, k, e => by cases e; exact ⟨Nat.le_refl _, Nat.le_refl _, h⟩
  | n + 1, k, e => by
    by_cases q : c < 2 ^ (5 * k + 6)
    · rw [kg_stop q]; exact ⟨Nat.le_refl _, Nat.le.intro e, q⟩
    · rw [kg_go q]
      have i := kg_prop h n (k + 1) (by rw [← e, Nat.add_assoc, Nat.add_comm 1])
      exact ⟨Nat.le_of_succ_le i.1, i.2⟩
theorem dig64 (y : Nat) : (128 + y % 64) / 64 = 2 ∧ (128 + y % 64) % 64 = y % 64 := (by decide +kernel : ∀ d < 64, (128 + d) / 64 = 2 ∧ (128 + d) % 64 = d) _ (Nat.mod_lt y (by decide))
theorem cont_tl (c : Nat) : ∀ k, cont (c / 64 ^ k) (tl k c) = some c
  | 0 => by rw [Nat.pow_zero, Nat.div_one]; rfl
  | k + 1 => by rw [tl_succ, cont_cons, if_pos (dig64 _).1, (dig64 _).2, ← div64, Nat.div_add_mod']; exact cont_tl c k
theorem lead_enc {k x : Nat} (hk : k < 6) (h1 : 1 ≤ k) (hx : x < 2 ^ (6 - k)) : lead (256 - 2 ^ (7 - k) + x) = k + 1 ∧ (256 - 2 ^ (7 - k) + x) % 2 ^ (6 - k) = x :=
  (by decide +kernel : ∀ k < 6, 1 ≤ k → ∀ x < 2 ^ (6 - k), lead (256 - 2 ^ (7 - k) + x) = k + 1 ∧ (256 - 2 ^ (7 - k) + x) % 2 ^ (6 - k) = x) k hk h1 x hx
theorem dec_utf {c : Nat} (h : c < 2 ^ 31) (t : List Nat) : dec1 (utf c ++ t) = some (c, (utf c).length) := by
  by_cases z : c < 128
  · rw [utf, if_pos z]; exact if_pos z
  obtain ⟨k1, k5, kc⟩ := kg_prop h 4 1 rfl
  have hu : utf c = enc (kk c) c := if_neg z
  have hu' := hu
  change 1 ≤ kk c at k1; change kk c ≤ 5 at k5; change c < 2 ^ (5 * kk c + 6) at kc
  generalize kk c = k at *
  have e := Nat.add_sub_of_le k5
  have hx := (room e).mpr kc
  rw [show 5 - k + 1 = 6 - k from (Nat.succ_sub k5).symm] at hx
  obtain ⟨l1, l2⟩ := lead_enc (Nat.lt_succ_of_le k5) k1 hx
  have p := Nat.pow_le_pow_right (n := 2) (by decide) (show 7 - k ≤ 6 from Nat.sub_le_sub_left k1 7)
  have hf : 192 ≤ 256 - 2 ^ (7 - k) + c / 64 ^ k := Nat.le_add_right_of_le (Nat.sub_le_sub_left p 256)
  rw [hu, enc, List.cons_append, dec1_cons, if_neg (Nat.not_lt.mpr (Nat.le_trans (by decide) hf)), if_neg (Nat.not_lt.mpr hf), l1, if_neg (Nat.not_lt.mpr (Nat.succ_le_succ k5)), if_neg (Nat.not_lt.mpr (Nat.succ_le_succ (by rw [List.length_append, tl_len]; exact Nat.le_add_right _ _))),
    Nat.add_sub_cancel, List.take_left' (tl_len k c), Nat.add_sub_add_right 6 1 k, l2, cont_tl, Option.bind_some, if_pos (show utf c = (256 - 2 ^ (7 - k) + c / 64 ^ k) :: tl k c from hu'), List.length_cons, tl_len]
theorem wrap_id {m : Nat} (h : m < 2 ^ 63) : wrap64 m = m := by
  have e : ((m : Int) + 2 ^ 63) % 2 ^ 64 = m + 2 ^ 63 := Int.emod_eq_of_lt (Int.natCast_nonneg (m + 2 ^ 63)) (Int.ofNat_lt.mpr (show m + 2 ^ 63 < 2 ^ 64 from Nat.add_lt_add_right h _))
  rw [wrap64, e]; exact Int.add_sub_cancel _ _
end Mine
end
section
open PySem PySem.W PyProof.Rows PySem.Calls PyProof.V PySem.Spec PySem.SeqAt
namespace Mine
noncomputable def nch (st n : Nat) : Nat := if n = 0 then 0 else (n - 1) / st + 1
theorem nch_zero {st n : Nat} (h : nch st n = 0) : n = 0 := by
  unfold nch at h
  by_cases e : n = 0
  · exact e
  · rw [if_neg e] at h; cases h
theorem nch_succ {st n m : Nat} (hs : 0 < st) (h : nch st n = m + 1) : 0 < n ∧ nch st (n - st) = m := by
  unfold nch at h ⊢
  by_cases e : n = 0
  · rw [if_pos e] at h; cases h
  rw [if_neg e] at h
  have h := Nat.succ.inj h
  refine ⟨Nat.pos_of_ne_zero e, ?_⟩
  by_cases g : n - st = 0
  · rw [if_pos g, ← h]; exact (Nat.div_eq_of_lt (Nat.lt_of_lt_of_le (Nat.sub_lt (Nat.pos_of_ne_zero e) (by decide)) (Nat.le_of_sub_eq_zero g))).symm
  · have g' : st ≤ n - 1 := Nat.le_sub_one_of_lt (Nat.lt_of_sub_ne_zero g)
    rw [if_neg g, ← h, Nat.div_eq_sub_div hs g', Nat.sub_right_comm]
theorem range_st (st : Nat) : ∀ (m q : Nat), (List.range m).map (fun k => q + k * st) = List.range' q m st
  | 0, q => rfl
  | m + 1, q => by
    rw [List.range_succ_eq_map, List.map_cons, List.map_map, List.range'_succ, ← range_st st m (q + st), Nat.zero_mul, Nat.add_zero]
    exact congrArg (q :: ·) (List.map_congr_left fun k _ => by show q + (k + 1) * st = q + st + k * st; rw [Nat.succ_mul, Nat.add_comm (k * st), Nat.add_assoc])
theorem rng_st {st : Nat} (hs : 0 < st) (n : Nat) : (rngL 0 (n : Int) (st : Int)).map AV.int = nn (List.range' 0 (nch st n) st) := by
  have e : (Builtin.Range.rangeSize 0 (n : Int) (st : Int)).toNat = nch st n := by
    unfold Builtin.Range.rangeSize nch
    rw [if_pos (show (st : Int) > 0 from Int.ofNat_lt.mpr hs)]
    by_cases h : n = 0
    · subst h; rfl
    · rw [if_pos (show (0 : Int) < n from Int.ofNat_lt.mpr (Nat.pos_of_ne_zero h)), if_neg h, Int.sub_zero, show (n : Int) - 1 = ((n - 1 : Nat) : Int) from sub_cast (Nat.pos_of_ne_zero h)]; rfl
  unfold rngL
  rw [e, ← range_st, nn, List.map_map, List.map_map]
  exact List.map_congr_left fun k _ => rfl
noncomputable def sgn (s : Nat) : Nat := if s = 0 then 96 else 32 + s
noncomputable def at3 (l : List Nat) (i : Nat) : Nat := (l[i]?).getD 0
noncomputable def g3 (l : List Nat) : List Nat := [at3 l 0 / 4, at3 l 0 % 4 * 16 + at3 l 1 / 16, at3 l 1 % 16 * 4 + at3 l 2 / 64, at3 l 2 % 64]
noncomputable def grps : Nat → List Nat → List Nat
  | 0, _ => []
  | m + 1, l => g3 l ++ grps m (l.drop 3)
noncomputable def uuL (part : List Nat) : List Nat := ((part.length :: grps (nch 3 part.length) part).map sgn) ++ [10]
noncomputable def lns (w : Nat) : Nat → List Nat → List Nat
  | 0, _ => []
  | m + 1, l => uuL (l.take w) ++ lns w m (l.drop w)
section
variable {prog : Program} {w : World} {K : Frag} {G : Heap} {H : HM} {Q : AV → HM → Prop} {X : HM → Prop}
theorem s_uu_sign (V : Wd prog w K G) {s : Nat} (h : Q (.int (sgn s : Int)) H) : CallS prog w K G 1 (.glob (.ref 350)) [.int s] H Q X := by
  refine V.run (n := 7) (r := r_uu_sign) rfl rfl (br_not (fun z => ?_) fun z => ?_)
  · rw [sgn, if_neg (fun q => z (congrArg Int.ofNat q))] at h; exact h
  · rw [sgn, if_pos (Int.ofNat.inj z)] at h; exact h
end
end Mine
end
section
open PySem PySem.W PyProof.Rows PySem.Calls PyProof.V PySem.Spec PySem.SeqAt
namespace Mine
theorem dg {B y x : Nat} (h : x < B) : (y * B + x) / B = y ∧ (y * B + x) % B = x := by
  have hB : 0 < B := Nat.lt_of_le_of_lt (Nat.zero_le _) h
  rw [Nat.add_comm]
  exact ⟨by rw [Nat.add_mul_div_right _ _ hB, Nat.div_eq_of_lt h, Nat.zero_add], by rw [Nat.add_mul_mod_self_right, Nat.mod_eq_of_lt h]⟩
theorem g3_eq (a b c : Nat) : ((a / 4 * 64 + (a % 4 * 16 + b / 16)) * 64 + (b % 16 * 4 + c / 64)) * 64 + c % 64 = (a * 256 + b) * 256 + c := by
  have h1 := Nat.div_add_mod a 4
  have h2 := Nat.div_add_mod b 16
  have h3 := Nat.div_add_mod c 64
  generalize a / 4 = p, a % 4 = p', b / 16 = q, b % 16 = q', c / 64 = r, c % 64 = r' at *
  subst h1 h2 h3
  omega
theorem g3_lt {a b c : Nat} (ha : a < 256) (hb : b < 256) (hc : c < 256) : a / 4 < 64 ∧ a % 4 * 16 + b / 16 < 64 ∧ b % 16 * 4 + c / 64 < 64 ∧ c % 64 < 64 :=
  ⟨Nat.div_lt_of_lt_mul ha, digit_lt (P := 4) (Nat.mod_lt _ (by decide)) (Nat.div_lt_of_lt_mul hb), digit_lt (P := 16) (Nat.mod_lt _ (by decide)) (Nat.div_lt_of_lt_mul hc), Nat.mod_lt _ (by decide)⟩
theorem g3_bits {l : List Nat} (ha : at3 l 0 < 256) (hb : at3 l 1 < 256) (hc : at3 l 2 < 256) :
    [18, 12, 6, 0].map (fun k => ((at3 l 0 * 256 + at3 l 1) * 256 + at3 l 2) / 2 ^ k % 64) = g3 l := by
  obtain ⟨h0, h1, h2, h3⟩ := g3_lt ha hb hc
  rw [← g3_eq]
  unfold g3
  generalize at3 l 0 / 4 = x0, at3 l 0 % 4 * 16 + at3 l 1 / 16 = x1, at3 l 1 % 16 * 4 + at3 l 2 / 64 = x2, at3 l 2 % 64 = x3 at *
  show [(((x0 * 64 + x1) * 64 + x2) * 64 + x3) / (64 * (64 * 64)) % 64, (((x0 * 64 + x1) * 64 + x2) * 64 + x3) / (64 * 64) % 64, (((x0 * 64 + x1) * 64 + x2) * 64 + x3) / 64 % 64, (((x0 * 64 + x1) * 64 + x2) * 64 + x3) / 1 % 64] = _
  simp only [← Nat.div_div_eq_div_mul, (dg h3).1, (dg h3).2, (dg h2).1, (dg h2).2, (dg h1).1, (dg h1).2, Nat.div_one, Nat.mod_eq_of_lt h0]
theorem sl_N (l : List Nat) (b : Nat) : pySlice (nn l) none (some (b : Int)) = nn (l.take b) := by
  have := slN l 0 b
  rw [List.drop_zero, Nat.sub_zero] at this
  exact this
theorem three {l r : List Nat} {q : Nat} (h : l.drop q = r) (hr : r ≠ []) : pySlice (pySlice (nn l) (some (q : Int)) (some ((q : Int) + 3)) ++ [.int 0, .int 0]) none (some 3) = nn [at3 r 0, at3 r 1, at3 r 2] := by
  rw [show (q : Int) + 3 = ((q + 3 : Nat) : Int) from rfl, slN, h, Nat.add_sub_cancel_left, show nn (r.take 3) ++ [AV.int 0, AV.int 0] = nn (r.take 3 ++ [0, 0]) from (nn_app (r.take 3) [0, 0]).symm, show (3 : Int) = ((3 : Nat) : Int) from rfl, sl_N]
  match r, hr with
  | [a], _ => rfl
  | [a, b], _ => rfl
  | a :: b :: c :: t, _ => rfl
theorem or8 (a b : Nat) (k : Nat) (h : b < 2 ^ k) : Builtin.bitOr ((a : Int) * 2 ^ ((k : Nat) : Int).toNat) (b : Int) = ((a * 2 ^ k + b : Nat) : Int) := by
  rw [show ((a : Int) * 2 ^ ((k : Nat) : Int).toNat) = ((a * 2 ^ k : Nat) : Int) from by rw [Int.natCast_mul, Int.natCast_pow]; rfl, bitor_add k b h]
theorem at3_lt {l : List Nat} (h : ∀ o ∈ l, o < 256) (i : Nat) : at3 l i < 256 := by
  unfold at3
  cases e : l[i]? with
  | none => decide
  | some o => exact h o (List.mem_of_getElem? e)
theorem nch_le {st n : Nat} : nch st n ≤ n := by
  unfold nch
  split
  · exact Nat.zero_le _
  · rename_i h; exact Nat.add_le_of_le_sub (Nat.pos_of_ne_zero h) (Nat.div_le_self _ _)
theorem rc3 {P : Prop} {n st : Nat} (hn : n ≤ 1000) (hs : 0 < st) (h2 : st ≤ 1000) (h : P) :
    -(2 ^ 40) < (0 : Int) ∧ (0 : Int) < 2 ^ 40 ∧ -(2 ^ 40) < (n : Int) ∧ (n : Int) < 2 ^ 40 ∧ ([] : List AV) = [] ∧ -(2 ^ 20) < (st : Int) ∧ (st : Int) < 2 ^ 20 ∧ (st : Int) ≠ 0 ∧ ((rngL 0 (n : Int) (st : Int)).map AV.int).length ≤ 1000000 ∧ P :=
  ⟨by decide, by decide, Int.lt_of_lt_of_le (by decide) (Int.natCast_nonneg n), Int.ofNat_lt.mpr (Nat.lt_of_le_of_lt hn (m := 1000) (by decide)), rfl, Int.lt_of_lt_of_le (by decide) (Int.natCast_nonneg st), Int.ofNat_lt.mpr (Nat.lt_of_le_of_lt h2 (m := 1000) (by decide)), fun e => Nat.ne_of_gt hs (Int.ofNat.inj e),
    by rw [rng_st hs, nn_len, List.length_range']; exact Nat.le_trans nch_le (Nat.le_trans hn (by decide)), h⟩
theorem for3 {B : AV → (Fl → St → Prop) → St → Prop} {R : Fl → St → Prop} {i : Int} {n st : Nat} {σ : St} (hi : i = (n : Int)) (hn : n ≤ 1000) (hs : 0 < st) (h2 : st ≤ 1000) (h : forW B R (nn (List.range' 0 (nch st n) st)) σ) :
    -(2 ^ 40) < (0 : Int) ∧ (0 : Int) < 2 ^ 40 ∧ -(2 ^ 40) < i ∧ i < 2 ^ 40 ∧ ([] : List AV) = [] ∧ -(2 ^ 20) < (st : Int) ∧ (st : Int) < 2 ^ 20 ∧ (st : Int) ≠ 0 ∧ ((rngL 0 i (st : Int)).map AV.int).length ≤ 1000000 ∧ forW B R ((rngL 0 i (st : Int)).map AV.int) σ := by
  subst hi
  exact rc3 hn hs h2 (by rw [rng_st hs]; exact h)
theorem len_int (l : List Nat) : ((nn l).length : Int) = (l.length : Int) := congrArg Int.ofNat (nn_len l)
theorem sl_len (l : List Nat) (a b : Nat) : (pySlice (nn l) (some (a : Int)) (some (b : Int))).length ≤ l.length := by
  rw [slN, nn_len, List.length_take, List.length_drop]; exact Nat.le_trans (Nat.min_le_right _ _) (Nat.sub_le _ _)
theorem or16 {a b c : Nat} (hb : b < 256) (hc : c < 256) : Builtin.bitOr (Builtin.bitOr ((a : Int) * 2 ^ (16 : Int).toNat) ((b : Int) * 2 ^ (8 : Int).toNat)) (c : Int) = (((a * 256 + b) * 256 + c : Nat) : Int) := by
  have h1 : Builtin.bitOr ((a : Int) * 2 ^ (16 : Int).toNat) ((b : Int) * 2 ^ (8 : Int).toNat) = ((a * 2 ^ 16 + b * 256 : Nat) : Int) := bitor_add (a := a) 16 (b * 256) (Nat.mul_lt_mul_of_pos_right hb (by decide))
  rw [h1, show a * 2 ^ 16 = a * 256 * 256 from (Nat.mul_assoc a 256 256).symm, ← Nat.add_mul]
  exact bitor_add (a := a * 256 + b) 8 c hc
section
variable {prog : Program} {w : World} {K : Frag} {G : Heap} {H : HM} {Q : AV → HM → Prop} {X : HM → Prop}
theorem uu_signs (V : Wd prog w K G) {R : Fl → St → Prop} {p at' th : Option AV} {b : Addr} {bits : Nat} : ∀ (ks row : List Nat) (o : Option AV), row.length + ks.length ≤ 1000 →
    (∀ o, R .next ⟨[p, some (.ref b), at', th, some (.int (bits : Int)), o], H.set b (.list (nn (row ++ ks.map fun k => sgn (bits / 2 ^ k % 64))))⟩) →
    forW (fb (CPs prog w K G 1) [5] f_uu_line_1 (fun τ => X τ.H)) R (nn ks) ⟨[p, some (.ref b), at', th, some (.int (bits : Int)), o], H.set b (.list (nn row))⟩
  | [], row, o, hr, h => by
    have h := h o
    rw [List.map_nil, List.append_nil] at h
    exact h
  | k :: ks, row, o, hr, h => by
    refine ⟨⟨b, _, rfl, same⟩, Int.natCast_nonneg k, ?_⟩
    show CallS prog w K G 1 (.glob (.ref 350)) [.int (Builtin.bitAnd ((bits : Int).fdiv (2 ^ ((k : Nat) : Int).toNat)) 63)] (H.set b (.list (nn row))) _ _
    rw [shrN, and63]
    refine s_uu_sign V ⟨b, _, rfl, same, ?_, ?_⟩
    · rw [nn_len]; exact Nat.lt_of_lt_of_le (Nat.lt_of_lt_of_le (Nat.lt_add_of_pos_right (Nat.succ_pos _)) hr) (by decide)
    · show forW (fb (CPs prog w K G 1) [5] f_uu_line_1 (fun τ => X τ.H)) R (nn ks) ⟨[p, some (.ref b), at', th, some (.int (bits : Int)), some (.int (k : Int))], (H.set b (.list (nn row))).set b (.list (nn row ++ nn [sgn (bits / 2 ^ k % 64)]))⟩
      rw [HM.set_set, ← nn_app]
      refine uu_signs V ks (row ++ [sgn (bits / 2 ^ k % 64)]) _ (by rw [List.length_append]; exact Nat.le_trans (Nat.le_of_eq (Nat.add_right_comm _ 1 _)) hr) fun o => ?_
      rw [List.append_assoc]; exact h o
theorem s_uu_line (V : Wd prog w K G) {part : List Nat} (hz : part.length ≤ 63) (ho : ∀ o ∈ part, o < 256) (h : Q (.lst (nn (uuL part))) H) : CallS prog w K G 2 (.glob (.ref 357)) [.lst (nn part)] H Q X := by
  refine V.run (n := 8) (r := r_uu_line) rfl rfl ?_
  show CallS prog w K G 1 (.glob (.ref 350)) [.int ((nn part).length : Int)] H _ _
  rw [nn_len]
  refine s_uu_sign V fun b hb => ?_
  refine for3 (st := 3) (len_int part) (Nat.le_trans hz (by decide)) (by decide) (by decide) ?_
  have key : ∀ (m q : Nat) (row : List Nat) (o2 o3 o4 o5 : Option AV), nch 3 (part.length - q) = m → row.length + 4 * m ≤ 900 → Q (.lst (nn (row ++ (grps m (part.drop q)).map sgn ++ [10]))) H →
      forW (fb (CPs prog w K G 1) [2] f_uu_line_2 (fun τ => X τ.H)) (aft (CPs prog w K G 1) f_uu_line_3 Q X) (nn (List.range' q m 3)) ⟨[some (.lst (nn part)), some (.ref b), o2, o3, o4, o5], H.set b (.list (nn row))⟩ := by
    intro m
    induction m with
    | zero =>
      intro q row o2 o3 o4 o5 hm hr h
      refine ⟨⟨b, _, rfl, same⟩, b, _, rfl, same, ?_, b, _, rfl, same, ?_⟩
      · rw [nn_len]; exact Nat.lt_of_le_of_lt hr (by decide)
      · show Q _ (((H.set b (.list (nn row))).set b _).del b)
        rw [gone2 hb]
        have h : Q (.lst (nn (row ++ [] ++ [10]))) H := h
        rw [List.append_nil, nn_app] at h
        exact h
    | succ m ih =>
      intro q row o2 o3 o4 o5 hm hr h
      obtain ⟨hq, hm⟩ := nch_succ (by decide) hm
      have hr' : part.drop q ≠ [] := fun e => Nat.ne_of_gt hq (Nat.sub_eq_zero_of_le (drop_nil e))
      have ho' : ∀ o ∈ part.drop q, o < 256 := fun o m => ho o (List.mem_of_mem_drop m)
      have t := three (l := part) (q := q) rfl hr'
      have th : ∀ (i : Nat) {v : Nat}, [at3 (part.drop q) 0, at3 (part.drop q) 1, at3 (part.drop q) 2][i]? = some v → pyIdx (pySlice (pySlice (nn part) (some (q : Int)) (some ((q : Int) + 3)) ++ [.int 0, .int 0]) none (some 3)).length (i : Int) = some i ∧ (pySlice (pySlice (nn part) (some (q : Int)) (some ((q : Int) + 3)) ++ [.int 0, .int 0]) none (some 3))[i]? = some (.int (v : Int)) := fun i v e => by
        rw [t]
        exact ⟨idx_nat (by rw [nn_len]; exact (List.getElem?_eq_some_iff.mp e).1), by rw [nn_get, e]; rfl⟩
      refine ⟨?_, 0, .int (at3 (part.drop q) 0 : Int), (th 0 rfl).1, (th 0 rfl).2, by decide, by decide, ?_, 1, .int (at3 (part.drop q) 1 : Int), (th 1 rfl).1, (th 1 rfl).2, by decide, by decide, ?_, 2, .int (at3 (part.drop q) 2 : Int), (th 2 rfl).1, (th 2 rfl).2, ?_⟩
      · exact Nat.le_trans (Nat.add_le_add_right (sl_len part q (q + 3)) 2) (Nat.le_trans (Nat.add_le_add_right hz 2) (by decide))
      · exact le1000 (n := 8) (at3_lt ho' 0) (by decide)
      · exact le1000 (n := 8) (at3_lt ho' 1) (by decide)
      · show (nn [18, 12, 6, 0]).length ≤ 1000000 ∧ forW (fb (CPs prog w K G 1) [5] f_uu_line_1 (fun τ => X τ.H)) (nextR (swps (CPs prog w K G 1) .nil (loopR (forW (fb (CPs prog w K G 1) [2] f_uu_line_2 (fun τ => X τ.H)) (aft (CPs prog w K G 1) f_uu_line_3 Q X) (nn (List.range' (q + 3) m 3))) (aft (CPs prog w K G 1) f_uu_line_3 Q X)) (fun τ => X τ.H)) (loopR (forW (fb (CPs prog w K G 1) [2] f_uu_line_2 (fun τ => X τ.H)) (aft (CPs prog w K G 1) f_uu_line_3 Q X) (nn (List.range' (q + 3) m 3))) (aft (CPs prog w K G 1) f_uu_line_3 Q X))) (nn [18, 12, 6, 0])
          ⟨[_, _, _, _, some (.int (Builtin.bitOr (Builtin.bitOr ((at3 (part.drop q) 0 : Int) * 2 ^ (16 : Int).toNat) ((at3 (part.drop q) 1 : Int) * 2 ^ (8 : Int).toNat)) (at3 (part.drop q) 2 : Int))), _], _⟩
        rw [or16 (at3_lt ho' 1) (at3_lt ho' 2)]
        refine ⟨by decide, uu_signs V _ row _ (Nat.le_trans (Nat.add_le_add_left (Nat.le_mul_of_pos_right 4 (Nat.succ_pos m)) _) (Nat.le_trans hr (by decide))) fun o => ?_⟩
        refine ih (q + 3) _ _ _ _ _ (by rw [Nat.sub_add_eq]; exact hm) ?_ ?_
        · rw [List.length_append, List.length_map]; exact Nat.le_trans (Nat.le_of_eq (by rw [Nat.mul_succ, Nat.add_assoc, Nat.add_comm _ (4 * m)]; rfl)) hr
        · have h : Q (.lst (nn (row ++ (g3 (part.drop q) ++ grps m ((part.drop q).drop 3)).map sgn ++ [10]))) H := h
          rw [← g3_bits (at3_lt ho' 0) (at3_lt ho' 1) (at3_lt ho' 2), List.map_append, List.map_map, List.drop_drop, ← List.append_assoc] at h
          exact h
  have k := key (nch 3 part.length) 0 [sgn part.length] none none none none rfl (Nat.le_trans (Nat.add_le_add_left (Nat.mul_le_mul_left 4 (Nat.le_trans nch_le hz)) 1) (by decide)) h
  exact k
end
end Mine
end
section
open PySem PySem.W PyProof.Rows PySem.Calls PyProof.V PySem.Spec PySem.SeqAt
namespace Mine
noncomputable def wid (n : Nat) : Nat := if n ≤ 2 then 45 else if 63 < n / 3 * 3 then 63 else n / 3 * 3
theorem wid_pos {n : Nat} : 0 < wid n ∧ wid n ≤ 63 := by
  unfold wid
  split
  · exact ⟨by decide, by decide⟩
  · rename_i h
    split
    · exact ⟨by decide, Nat.le_refl _⟩
    · rename_i h2; exact ⟨Nat.mul_pos (Nat.div_pos (Nat.lt_of_not_le h) (by decide)) (by decide), Nat.le_of_not_lt h2⟩
theorem div3 (n : Nat) : (n : Int).fdiv 3 * 3 = ((n / 3 * 3 : Nat) : Int) := by rw [show (n : Int).fdiv 3 = _ from fdivN n 3]; rfl
theorem min63 (x : Nat) : (if (63 : Int) < (x : Int) then (63 : Int) else (x : Int)) = ((if 63 < x then 63 else x : Nat) : Int) := by
  by_cases g : 63 < x
  · rw [if_pos g, if_pos (show (63 : Int) < x from Int.ofNat_lt.mpr g)]; rfl
  · rw [if_neg g, if_neg (show ¬ (63 : Int) < x from fun q => g (Int.ofNat_lt.mp q))]
theorem sl_at (l : List Nat) (q w : Nat) : pySlice (nn l) (some (q : Int)) (some ((q : Int) + (w : Int))) = nn ((l.drop q).take w) := by
  rw [show (q : Int) + (w : Int) = ((q + w : Nat) : Int) from rfl, slN, Nat.add_sub_cancel_left]
theorem uuL_len (part : List Nat) : (uuL part).length = (grps (nch 3 part.length) part).length + 2 := by
  unfold uuL; rw [List.length_append, List.length_map, List.length_cons]; rfl
theorem grps_len : ∀ (m : Nat) (l : List Nat), (grps m l).length = 4 * m
  | 0, _ => rfl
  | m + 1, l => by show (g3 l ++ grps m (l.drop 3)).length = _; rw [List.length_append, grps_len m, Nat.mul_succ, Nat.add_comm]; rfl
theorem uuL_le (part : List Nat) (h : part.length ≤ 63) : (uuL part).length ≤ 300 := by
  rw [uuL_len, grps_len]; exact Nat.le_trans (Nat.add_le_add_right (Nat.mul_le_mul_left 4 (Nat.le_trans nch_le h)) 2) (by decide)
section
variable {prog : Program} {w : World} {K : Frag} {G : Heap} {H : HM} {Q : AV → HM → Prop} {X : HM → Prop}
theorem s_row_of_uu (V : Wd prog w K G) {l : List Nat} {n : Nat} (hz : l.length ≤ 100) (ho : ∀ o ∈ l, o < 256) (h : Q (.lst (nn (lns (wid n) (nch (wid n) l.length) l))) H) : CallS prog w K G 3 (.glob (.ref 364)) [.lst (nn l), .int n] H Q X := by
  have rest : swps (CPs prog w K G 2) f_row_of_uu_t1 (bodyR Q) (fun τ => X τ.H) ⟨[some (.lst (nn l)), some (.int n), some (.int (wid n)), none, none], H⟩ := by
    have hw := @wid_pos n
    generalize wid n = wd at *
    intro b hb
    refine for3 (st := wd) (len_int l) (Nat.le_trans hz (by decide)) hw.1 (Nat.le_trans hw.2 (by decide)) ?_
    have key : ∀ (m q : Nat) (row : List Nat) (o4 : Option AV), nch wd (l.length - q) = m → row.length + 300 * m ≤ 30000 → Q (.lst (nn (row ++ lns wd m (l.drop q)))) H →
        forW (fb (CPs prog w K G 2) [4] f_row_of_uu_1 (fun τ => X τ.H)) (aft (CPs prog w K G 2) f_row_of_uu_2 Q X) (nn (List.range' q m wd)) ⟨[some (.lst (nn l)), some (.int n), some (.int wd), some (.ref b), o4], H.set b (.list (nn row))⟩ := by
      intro m
      induction m with
      | zero =>
        intro q row o4 hm hr h
        have h : Q (.lst (nn (row ++ []))) H := h
        rw [List.append_nil] at h
        refine ⟨b, _, rfl, same, ?_⟩
        show Q _ ((H.set b (.list (nn row))).del b)
        rw [gone1 hb]
        exact h
      | succ m ih =>
        intro q row o4 hm hr h
        obtain ⟨hq, hm⟩ := nch_succ hw.1 hm
        have hr : row.length + 300 * m + 300 ≤ 30000 := hr
        have hp : ((l.drop q).take wd).length ≤ 63 := by rw [List.length_take]; exact Nat.le_trans (Nat.min_le_left _ _) hw.2
        have hu := uuL_le _ hp
        refine ⟨⟨b, _, rfl, same⟩, ?_⟩
        show CallS prog w K G 2 (.glob (.ref 357)) [.lst (pySlice (nn l) (some (q : Int)) (some ((q : Int) + (wd : Int))))] _ _ _
        rw [sl_at]
        refine s_uu_line V hp (fun o m => ho o (List.mem_of_mem_drop (List.mem_of_mem_take m))) ⟨b, _, rfl, same, _, rfl, ?_, ?_⟩
        · rw [nn_len, nn_len]; exact Nat.le_trans (Nat.add_le_add (Nat.le_trans (Nat.le_add_right _ _) (Nat.le_of_add_right_le hr)) hu) (by decide)
        · show forW (fb (CPs prog w K G 2) [4] f_row_of_uu_1 (fun τ => X τ.H)) (aft (CPs prog w K G 2) f_row_of_uu_2 Q X) (nn (List.range' (q + wd) m wd)) ⟨[_, _, _, _, _], (H.set b (.list (nn row))).set b (.list (nn row ++ nn (uuL ((l.drop q).take wd))))⟩
          rw [HM.set_set, ← nn_app]
          refine ih (q + wd) _ _ (by rw [Nat.sub_add_eq]; exact hm) ?_ ?_
          · rw [List.length_append]
            exact Nat.le_trans (Nat.add_le_add_right (Nat.add_le_add_left hu _) _) (Nat.le_trans (Nat.le_of_eq (Nat.add_right_comm _ _ _)) hr)
          · have h : Q (.lst (nn (row ++ (uuL ((l.drop q).take wd) ++ lns wd m ((l.drop q).drop wd))))) H := h
            rw [List.drop_drop, ← List.append_assoc] at h
            exact h
    exact key _ 0 [] none rfl (Nat.le_trans (Nat.le_of_eq (Nat.zero_add _)) (Nat.le_trans (Nat.mul_le_mul_left 300 (Nat.le_trans nch_le hz)) (by decide))) h
  refine V.run (n := 9) (r := r_row_of_uu) rfl rfl (br_dec (fun z => ?_) fun z => ⟨by decide, by decide, mulR (by decide), ?_⟩)
  · rw [wid, if_pos (Int.ofNat_le.mp z)] at rest
    exact rest
  · rw [wid, if_neg (fun q => z (Int.ofNat_le.mpr q))] at rest
    show swps (CPs prog w K G 2) f_row_of_uu_t1 (bodyR Q) (fun τ => X τ.H) ⟨[_, _, some (.int (if (63 : Int) < (n : Int).fdiv 3 * 3 then 63 else (n : Int).fdiv 3 * 3)), none, none], H⟩
    rw [div3, min63]; exact rest
theorem s_is_uu (V : Wd prog w K G) {l : List Nat} {p o : Nat} (hp : p < l.length) (e : l[p]? = some o) (ho : 32 ≤ o ∧ o < 97) (h : Q (.bool true) H) : CallS prog w K G 1 (.glob (.ref 371)) [.lst (nn l), .int p] H Q X := by
  have hp' := hp
  rw [← nn_len] at hp'
  refine V.run (n := 10) (r := r_is_uu) rfl rfl (br_yes (Int.ofNat_lt.mpr hp') (subN (H := H) hp e (br_yes (show (32 : Int) ≤ (o : Int) from Int.ofNat_le.mpr ho.1) ?_) rfl))
  show Q (.bool (decide ((o : Int) < 97))) H
  rw [decide_eq_true (show (o : Int) < 97 from Int.ofNat_lt.mpr ho.2)]; exact h
theorem s_is_uu_end (V : Wd prog w K G) {l : List Nat} {p : Nat} (hp : l.length ≤ p) (h : Q (.bool false) H) : CallS prog w K G 1 (.glob (.ref 371)) [.lst (nn l), .int p] H Q X := by
  have hp' := Nat.not_lt.mpr hp
  rw [← nn_len] at hp'
  have e : ¬ ((p : Int) < ((nn l).length : Int)) := fun q => hp' (Int.ofNat_lt.mp q)
  refine V.run (n := 10) (r := r_is_uu) rfl rfl (br_no e ?_)
  show Q (.bool (decide ((p : Int) < ((nn l).length : Int)))) H
  rw [decide_eq_false e]; exact h
end
end Mine
end
section
open PySem PySem.W PyProof.Rows PySem.Calls PyProof.V PySem.Spec PySem.SeqAt
namespace Mine
theorem sgn_ok {s : Nat} (h : s < 64) : (32 ≤ sgn s ∧ sgn s < 97) ∧ (sgn s - 32) % 64 = s := (by decide +kernel : ∀ s < 64, (32 ≤ sgn s ∧ sgn s < 97) ∧ (sgn s - 32) % 64 = s) s h
theorem sgn_six {s : Nat} (h : s < 64) : Builtin.bitAnd ((sgn s : Int) - 32) 63 = (s : Int) := by
  rw [show (sgn s : Int) - 32 = ((sgn s - 32 : Nat) : Int) from sub_cast (sgn_ok h).1.1, and63, (sgn_ok h).2]
noncomputable def pad : Nat → List Nat → List Nat
  | 0, _ => []
  | m + 1, l => [at3 l 0, at3 l 1, at3 l 2] ++ pad m (l.drop 3)
theorem pad_take : ∀ (m : Nat) (l : List Nat), nch 3 l.length = m → (pad m l).take l.length = l
  | 0, l, h => by rw [List.eq_nil_of_length_eq_zero (nch_zero h)]; rfl
  | m + 1, l, h => by
    obtain ⟨h0, h⟩ := nch_succ (by decide) h
    have e : ∀ x y z t, (pad (m + 1) (x :: y :: z :: t)) = x :: y :: z :: pad m t := fun _ _ _ _ => rfl
    match l with
    | [] => cases h0
    | [a] => rfl
    | [a, b] => rfl
    | a :: b :: c :: t =>
      rw [e]
      exact congrArg (fun u => a :: b :: c :: u) (pad_take m t h)
section
variable {prog : Program} {w : World} {K : Frag} {G : Heap} {H : HM} {Q : AV → HM → Prop} {X : HM → Prop}
theorem s_uu_six (V : Wd prog w K G) {l : List Nat} {p s : Nat} (hp : p < l.length) (e : l[p]? = some (sgn s)) (hs : s < 64) (h : Q (.int s) H) : CallS prog w K G 2 (.glob (.ref 378)) [.lst (nn l), .int p] H Q X := by
  refine V.run (n := 11) (r := r_uu_six) rfl rfl (s_is_uu V hp e (sgn_ok hs).1 (subN (H := H) hp e ?_ rfl))
  show Q (.int (Builtin.bitAnd ((sgn s : Int) - 32) 63)) H
  rw [sgn_six hs]; exact h
theorem uu_four (V : Wd prog w K G) {R : Fl → St → Prop} {l t : List Nat} {o2 o3 : Option AV} : ∀ (xs : List Nat) (vs : List AV) (acc p c : Nat) (o5 : Option AV), vs.length = xs.length → l.drop p = xs.map sgn ++ t → (∀ x ∈ xs, x < 64) → acc < 64 ^ c → c + xs.length ≤ 100 →
    (∀ o5, R .next ⟨[some (.lst (nn l)), some (.int ((p + xs.length : Nat) : Int)), o2, o3, some (.int (xs.foldl (fun a x => a * 64 + x) acc : Nat)), o5], H⟩) →
    forW (fb (CPs prog w K G 2) [5] f_read_uu_line_1 (fun τ => X τ.H)) R vs ⟨[some (.lst (nn l)), some (.int (p : Int)), o2, o3, some (.int (acc : Int)), o5], H⟩
  | [], [], acc, p, c, o5, hv, hd, hx, ha, hc, h => h o5
  | x :: xs, v :: vs, acc, p, c, o5, hv, hd, hx, ha, hc, h => by
    obtain ⟨hp, e, hd⟩ := drop_cons hd
    have hx6 := hx x (.head _)
    refine ⟨by decide, by decide, pow_room 64 (by decide) ha (Nat.le_of_add_right_le hc) (Nat.le_refl _), s_uu_six V hp e hx6 ?_⟩
    refine CallS_up (s_is_uu V hp e (sgn_ok hx6).1 ?_) (by decide)
    show forW (fb (CPs prog w K G 2) [5] f_read_uu_line_1 (fun τ => X τ.H)) R vs ⟨[_, some (.int ((p + 1 : Nat) : Int)), _, _, some (.int (Builtin.bitOr ((acc : Int) * 2 ^ ((6 : Nat) : Int).toNat) (x : Int))), _], _⟩
    rw [or8 acc x 6 hx6]
    refine uu_four V xs vs _ (p + 1) (c + 1) _ (Nat.succ.inj hv) hd (fun y m => hx y (.tail _ m)) (digit_lt ha hx6) (Nat.le_trans (Nat.le_of_eq (by rw [Nat.add_right_comm]; rfl)) hc) fun o => ?_
    rw [Nat.add_right_comm]; exact h o
end
end Mine
end
section
open PySem PySem.W PyProof.Rows PySem.Calls PyProof.V PySem.Spec PySem.SeqAt
namespace Mine
theorem octs {a b c : Nat} (ha : a < 256) (hb : b < 256) (hc : c < 256) : ((a * 256 + b) * 256 + c) / 2 ^ 16 % 256 = a ∧ ((a * 256 + b) * 256 + c) / 2 ^ 8 % 256 = b ∧ ((a * 256 + b) * 256 + c) % 256 = c := by
  show ((a * 256 + b) * 256 + c) / (256 * 256) % 256 = a ∧ ((a * 256 + b) * 256 + c) / 256 % 256 = b ∧ _
  rw [← Nat.div_div_eq_div_mul, (dg hc).1, (dg hc).2, (dg hb).1, (dg hb).2, Nat.mod_eq_of_lt ha]
  exact ⟨rfl, rfl, rfl⟩
section
variable {prog : Program} {w : World} {K : Frag} {G : Heap} {H : HM} {Q : AV → HM → Prop} {X : HM → Prop}
theorem s_read_uu_line (V : Wd prog w K G) {l part rest : List Nat} {p : Nat} (hz : l.length ≤ 100) (hd : l.drop p = uuL part ++ rest) (hn : part.length ≤ 63) (ho : ∀ o ∈ part, o < 256)
    (h : Q (.tup [.lst (nn part), .int ((p + (uuL part).length : Nat) : Int)]) H) : CallS prog w K G 3 (.glob (.ref 385)) [.lst (nn l), .int p] H Q X := by
  obtain ⟨hp, e, hd⟩ := drop_cons (show l.drop p = sgn part.length :: (((grps (nch 3 part.length) part).map sgn ++ [10]) ++ rest) from hd)
  refine V.run (n := 12) (r := r_read_uu_line) rfl rfl (subN (H := H) hp e (fun b (hb : H b = none) I hI => ?_) rfl)
  · have key : ∀ (m : Nat) (r row : List Nat) (q : Nat) (o4 o5 : Option AV), nch 3 r.length = m → l.drop q = (grps m r).map sgn ++ ([10] ++ rest) → r.length = part.length - row.length → (∀ o ∈ r, o < 256) → row.length + 3 * m ≤ 300 →
        Q (.tup [.lst (nn ((row ++ pad m r).take part.length)), .int ((q + 4 * m + 1 : Nat) : Int)]) H → I ⟨[some (.lst (nn l)), some (.int (q : Int)), some (.int (part.length : Int)), some (.ref b), o4, o5], H.set b (.list (nn row))⟩ := by
      intro m
      induction m with
      | zero =>
        intro r row q o4 o5 hm hd hr hor hl h
        have hr0 : part.length ≤ row.length := Nat.le_of_sub_eq_zero (hr.symm.trans (nch_zero hm))
        have e1 : ¬ (((nn row).length : Int) < (part.length : Int)) := fun q => Nat.not_lt.mpr hr0 (by rw [← nn_len row]; exact Int.ofNat_lt.mp q)
        refine hI _ ⟨_, same, br_no e1 (br_no e1 ⟨b, _, rfl, same, ?_⟩)⟩
        show withO ((eqL (pySlice (nn l) (some (q : Int)) (some ((q : Int) + (1 : Nat)))) (nn [10]))) _
        rw [sl_at, hd, eqL_nn]
        show Q (.tup [.lst (pySlice (nn row) none (some (part.length : Int))), .int ((q + 1 : Nat) : Int)]) ((H.set b (.list (nn row))).del b)
        rw [gone1 hb, sl_N]
        have h : Q (.tup [.lst (nn ((row ++ []).take part.length)), .int ((q + 1 : Nat) : Int)]) H := h
        rw [List.append_nil] at h
        exact h
      | succ m ih =>
        intro r row q o4 o5 hm hd hr hor hl h
        obtain ⟨h0, hm⟩ := nch_succ (by decide) hm
        have e1 : ((nn row).length : Int) < (part.length : Int) := Int.ofNat_lt.mpr (by rw [nn_len]; exact Nat.lt_of_sub_pos (hr ▸ h0))
        obtain ⟨hq, _, _⟩ := drop_cons (show l.drop q = sgn _ :: _ from hd)
        have hq' := hq
        rw [← nn_len] at hq'
        refine hI _ ⟨_, same, br_yes e1 (br_yes (Int.ofNat_lt.mpr hq') ?_)⟩
        obtain ⟨x0, x1, x2, x3⟩ := g3_lt (at3_lt hor 0) (at3_lt hor 1) (at3_lt hor 2)
        have hd' : l.drop q = (g3 r).map sgn ++ ((grps m (r.drop 3)).map sgn ++ ([10] ++ rest)) := by rw [hd]; show (g3 r ++ grps m (r.drop 3)).map sgn ++ _ = _; rw [List.map_append, List.append_assoc]
        have hd4 : l.drop (q + 4) = (grps m (r.drop 3)).map sgn ++ ([10] ++ rest) := by rw [← List.drop_drop, hd']; rfl
        obtain ⟨o0, o1, o2⟩ := octs (at3_lt hor 0) (at3_lt hor 1) (at3_lt hor 2)
        refine ⟨by decide, by decide, by decide, uu_four V (g3 r) _ 0 q 0 _ rfl hd' (List.forall_mem_cons.mpr ⟨x0, List.forall_mem_cons.mpr ⟨x1, List.forall_mem_cons.mpr ⟨x2, List.forall_mem_cons.mpr ⟨x3, fun _ h => nomatch h⟩⟩⟩⟩) (by decide) (by exact (by decide : 0 + 4 ≤ 100)) fun o => ⟨⟨b, _, rfl, same⟩, by decide, by decide, b, _, rfl, same, _, rfl, ?_, ?_⟩⟩
        · rw [nn_len]; exact Nat.le_trans (Nat.add_le_add (Nat.le_of_add_right_le hl) (Nat.le_refl 3)) (by decide)
        · show I ⟨[_, some (.int ((q + 4 : Nat) : Int)), _, _, _, _], (H.set b (.list (nn row))).set b (.list (nn row ++ [AV.int (Builtin.bitAnd (((((((0 * 64 + at3 r 0 / 4) * 64 + (at3 r 0 % 4 * 16 + at3 r 1 / 16)) * 64 + (at3 r 1 % 16 * 4 + at3 r 2 / 64)) * 64 + at3 r 2 % 64 : Nat) : Int)).fdiv (2 ^ ((16 : Nat) : Int).toNat)) 255), AV.int (Builtin.bitAnd (((((((0 * 64 + at3 r 0 / 4) * 64 + (at3 r 0 % 4 * 16 + at3 r 1 / 16)) * 64 + (at3 r 1 % 16 * 4 + at3 r 2 / 64)) * 64 + at3 r 2 % 64 : Nat) : Int)).fdiv (2 ^ ((8 : Nat) : Int).toNat)) 255), AV.int (Builtin.bitAnd ((((((0 * 64 + at3 r 0 / 4) * 64 + (at3 r 0 % 4 * 16 + at3 r 1 / 16)) * 64 + (at3 r 1 % 16 * 4 + at3 r 2 / 64)) * 64 + at3 r 2 % 64 : Nat) : Int)) 255)]))⟩
          rw [Nat.zero_mul, Nat.zero_add, g3_eq, shrN, shrN, and255, and255, and255, o0, o1, o2, HM.set_set, show nn row ++ [AV.int (at3 r 0 : Int), AV.int (at3 r 1 : Int), AV.int (at3 r 2 : Int)] = nn (row ++ [at3 r 0, at3 r 1, at3 r 2]) from (nn_app _ [_, _, _]).symm]
          refine ih (r.drop 3) _ (q + 4) _ _ (by rw [List.length_drop]; exact hm) hd4 ?_ (fun o m => hor o (List.mem_of_mem_drop m)) ?_ ?_
          · rw [List.length_drop, hr, List.length_append, Nat.sub_add_eq]; rfl
          · rw [List.length_append]; exact Nat.le_trans (Nat.le_of_eq (by rw [Nat.mul_succ, Nat.add_assoc, Nat.add_comm _ (3 * m)]; rfl)) hl
          · rw [List.append_assoc, Nat.add_assoc q 4, Nat.add_comm 4]; exact h
    show I ⟨[some (.lst (nn l)), some (.int ((p + 1 : Nat) : Int)), some (.int (Builtin.bitAnd ((sgn part.length : Int) - 32) 63)), some (.ref b), none, none], H.set b (.list (nn []))⟩
    rw [sgn_six (Nat.lt_succ_of_le hn)]
    refine key (nch 3 part.length) part [] (p + 1) _ _ rfl (hd.trans (List.append_assoc _ _ _)) rfl ho (Nat.le_trans (Nat.add_le_add_left (Nat.mul_le_mul_left 3 (Nat.le_trans nch_le hn)) 0) (by decide)) ?_
    rw [List.nil_append, pad_take _ _ rfl, show p + 1 + 4 * nch 3 part.length + 1 = p + (uuL part).length from ?_]
    · exact h
    · rw [uuL_len, grps_len, Nat.add_right_comm p 1]; rfl
end
end Mine
end
section
open PySem PySem.W PyProof.Rows PySem.Calls PyProof.V PySem.Spec PySem.SeqAt
namespace Mine
theorem chr_join (l : List Nat) : l.map (fun c : Nat => AV.str [c]) = (l.map fun c => [c]).map AV.str := List.map_map.symm
theorem flat_one : ∀ l : List Nat, (l.map fun c => [c]).flatten = l
  | [] => rfl
  | c :: l => congrArg (c :: ·) (flat_one l)
theorem sum_one : ∀ l : List Nat, ((l.map fun c => [c]).map List.length).sum = l.length
  | [] => rfl
  | c :: l => by rw [List.map_cons, List.map_cons, List.sum_cons, sum_one l]; exact Nat.add_comm 1 _
theorem chr_comp {C : CP} {l : List Nat} {H : HM} {Q : AV → HM → Prop} {X : HM → Prop} (hz : l.length ≤ 100000) (ho : ∀ o ∈ l, o < 256) (h : Q (.str l) H) :
    (nn l).length ≤ 1000000 ∧ compW (fun v H1 k => ewp C (.bi .chr (.cons (.loc 0) .nil)) (fun y τ => k y τ.H) (fun _ => False) ⟨[some v], H1⟩) (nn l) H fun ys H' =>
      (AV.str ([] : List Nat)) = .str [] ∧ ∃ ls : List (List Nat), AV.lst ys = .lst (ls.map .str) ∧ (ls.map List.length).sum ≤ 10000000 ∧ Q (.str ls.flatten) H' :=
  ⟨by rw [nn_len]; exact Nat.le_trans hz (by decide), compW_pure (g := fun c : Nat => .str [c]) (fun n hn k hk => ⟨Int.natCast_nonneg n, Int.ofNat_le.mpr (Nat.le_trans (Nat.le_of_lt (ho n hn)) (by decide)), hk⟩)
    ⟨rfl, _, congrArg AV.lst (chr_join l), by rw [sum_one]; exact Nat.le_trans hz (by decide), by rw [flat_one]; exact h⟩⟩
section
variable {prog : Program} {w : World} {K : Frag} {G : Heap} {H : HM} {Q : AV → HM → Prop} {X : HM → Prop}
theorem s_text_of_row (V : Wd prog w K G) {l : List Nat} (hz : l.length ≤ 100000) (ho : ∀ o ∈ l, o < 256) (h : Q (.str l) H) : CallS prog w K G 1 (.glob (.ref 595)) [.lst (nn l)] H Q X :=
  V.run (n := 30) (r := r_text_of_row) rfl rfl ⟨rfl, nofun, chr_comp (Q := Q) (X := X) hz ho h⟩
theorem s_read_uu (V : Wd prog w K G) {l part : List Nat} {wd : Nat} (hw : 0 < wd ∧ wd ≤ 63) (hz : l.length ≤ 100) (hp : part.length ≤ 100) (ho : ∀ o ∈ part, o < 256) (hl : l = lns wd (nch wd part.length) part)
    (h : Q (.tup [.lst (nn part), .int (l.length : Nat)]) H) : CallS prog w K G 4 (.glob (.ref 392)) [.lst (nn l), .int (0 : Nat)] H Q X := by
  refine V.run (n := 13) (r := r_read_uu) rfl rfl fun b (hb : H b = none) I hI => ?_
  have key : ∀ (m q : Nat) (r row : List Nat) (o3 : Option AV), nch wd r.length = m → q ≤ l.length → l.drop q = lns wd m r → row.length + r.length ≤ 100 → (∀ o ∈ r, o < 256) → Q (.tup [.lst (nn (row ++ r)), .int (l.length : Nat)]) H →
      I ⟨[some (.lst (nn l)), some (.int (q : Int)), some (.ref b), o3], H.set b (.list (nn row))⟩ := by
    intro m
    induction m with
    | zero =>
      intro q r row o3 hm hq hd hr ho h
      have hd : l.drop q = [] := hd
      refine hI _ (CallS_up (s_is_uu_end V (drop_nil hd) ⟨b, _, rfl, same, ?_⟩) (by decide))
      show Q (.tup [.lst (nn row), .int (q : Int)]) ((H.set b (.list (nn row))).del b)
      rw [List.eq_nil_of_length_eq_zero (nch_zero hm), List.append_nil, ← Nat.le_antisymm hq (drop_nil hd)] at h
      rw [gone1 hb]; exact h
    | succ m ih =>
      intro q r row o3 hm hq hd hr ho h
      obtain ⟨h0, hm⟩ := nch_succ hw.1 hm
      have hd : l.drop q = uuL (r.take wd) ++ lns wd m (r.drop wd) := hd
      obtain ⟨hp, e, _⟩ := drop_cons (show l.drop q = sgn (r.take wd).length :: (_ ++ _) from hd)
      have hn : (r.take wd).length ≤ 63 := by rw [List.length_take]; exact Nat.le_trans (Nat.min_le_left _ _) hw.2
      have hn0 : 0 < (r.take wd).length := by rw [List.length_take]; exact Nat.lt_min.mpr ⟨hw.1, h0⟩
      refine hI _ (CallS_up (s_is_uu V hp e (sgn_ok (Nat.lt_succ_of_le hn)).1 (subN (H := H) hp e (brn_yes ?_ ?_) rfl)) (by decide))
      · intro z
        have z : sgn (r.take wd).length = 32 := Int.ofNat.inj z
        rw [sgn, if_neg (Nat.ne_of_gt hn0)] at z
        exact Nat.ne_of_gt hn0 (Nat.add_left_cancel (n := 32) z)
      · refine s_read_uu_line V hz hd hn (fun o m => ho o (List.mem_of_mem_take m)) ⟨rfl, ⟨b, _, rfl, same⟩, b, _, rfl, same, _, rfl, ?_, ?_⟩
        · rw [nn_len, nn_len]; exact Nat.le_trans (Nat.add_le_add (Nat.le_of_add_right_le hr) hn) (by decide)
        · show I ⟨[_, some (.int ((q + (uuL (r.take wd)).length : Nat) : Int)), _, _], (H.set b (.list (nn row))).set b (.list (nn row ++ nn (r.take wd)))⟩
          rw [HM.set_set, ← nn_app]
          refine ih (q + (uuL (r.take wd)).length) (r.drop wd) _ _ (by rw [List.length_drop]; exact hm) ?_ ?_ ?_ (fun o m => ho o (List.mem_of_mem_drop m)) ?_
          · have := congrArg List.length hd
            rw [List.length_drop, List.length_append] at this
            exact Nat.add_le_of_le_sub' hq (this ▸ Nat.le_add_right _ _)
          · rw [← List.drop_drop, hd, List.drop_left]
          · rw [List.length_append, Nat.add_assoc, ← List.length_append, List.take_append_drop]; exact hr
          · rw [List.append_assoc, List.take_append_drop]; exact h
  exact key _ 0 part [] none rfl (Nat.zero_le _) hl (Nat.le_trans (Nat.le_of_eq (Nat.zero_add _)) hp) ho h
end
end Mine
end
section
open PySem PySem.W PyProof.Rows PySem.Calls PyProof.V PySem.Spec PySem.SeqAt
namespace Mine
section
variable {prog : Program} {w : World} {K : Frag} {G : Heap} {H : HM} {Q : AV → HM → Prop} {X : HM → Prop}
theorem s_unpack_uu (V : Wd prog w K G) {H0 : HM} {A : Ad} {f : Addr} {data part : List Nat} {found : List AV} {starts : List Nat} {steps wd : Nat} (u : Un H0 H A f data 0 found starts steps) (hw : 0 < wd ∧ wd ≤ 63) (hz : data.length ≤ 100) (hp : part.length ≤ 100) (ho : ∀ o ∈ part, o < 256)
    (hl : data = lns wd (nch wd part.length) part) (hf : found.length ≤ 1000) (h : ∀ H', Un H0 H' A f data data.length (found ++ [.str part]) starts steps → Q .none H') : CallS prog w K G 5 (.glob (.ref 658)) [.ref A.a] H Q X := by
  refine V.run (n := 35) (r := r_unpack_uu) rfl rfl (u.get unD_data rfl (u.get unD_at rfl (s_read_uu V hw hz hp ho hl ⟨rfl, A.a, 551, A.d, _, rfl, u.ha, u.hd, (by exact (by decide : 6 ≤ 20)), rfl, gn_at, ?_⟩)))
  exact CallS_up (s_text_of_row V (Nat.le_trans hp (by decide)) ho (CallS_up (s_note_value V (u.setD (unD data f A data.length steps)) (Nat.lt_of_le_of_lt hf (by decide)) h) (by decide))) (by decide)
end
noncomputable def eight (o : Nat) : List Nat := [48 + o / 128 % 2, 48 + o / 64 % 2, 48 + o / 32 % 2, 48 + o / 16 % 2, 48 + o / 8 % 2, 48 + o / 4 % 2, 48 + o / 2 % 2, 48 + o / 1 % 2]
noncomputable def padb : Nat → List Nat → List Nat
  | 0, _ => []
  | m + 1, l => eight (at3 l 0) ++ eight (at3 l 1) ++ eight (at3 l 2) ++ padb m (l.drop 3)
noncomputable def zz (n : Nat) : Nat := (24 - 8 * n % 24) % 24
theorem padb_eq : ∀ (m : Nat) (l : List Nat), nch 3 l.length = m → (l.map eight).flatten ++ List.replicate (zz l.length) 48 = padb m l
  | 0, l, h => by rw [List.eq_nil_of_length_eq_zero (nch_zero h)]; rfl
  | m + 1, l, h => by
    obtain ⟨h0, h⟩ := nch_succ (by decide) h
    match l with
    | [] => cases h0
    | [a] => have e : m = 0 := h.symm; subst e; show (eight a ++ []) ++ List.replicate 16 48 = eight a ++ eight 0 ++ eight 0 ++ []; rfl
    | [a, b] => have e : m = 0 := h.symm; subst e; show (eight a ++ (eight b ++ [])) ++ List.replicate 8 48 = eight a ++ eight b ++ eight 0 ++ []; rfl
    | a :: b :: c :: t =>
      have e : zz (t.length + 3) = zz t.length := by unfold zz; rw [Nat.mul_add, Nat.add_mod_right]
      show (eight a ++ (eight b ++ (eight c ++ (t.map eight).flatten))) ++ List.replicate (zz (t.length + 3)) 48 = eight a ++ eight b ++ eight c ++ padb m t
      rw [e, ← padb_eq m t h]
      simp only [List.append_assoc]
noncomputable def sx : Nat → List Nat → List Nat
  | 0, _ => []
  | n + 1, B => binVal (B.take 6) :: sx n (B.drop 6)
theorem sx_map : ∀ (n q : Nat) (B : List Nat), (List.range' q n 6).map (fun k => binVal ((B.drop k).take 6)) = sx n (B.drop q)
  | 0, q, B => rfl
  | n + 1, q, B => by
    rw [List.range'_succ, List.map_cons, sx_map n (q + 6) B, ← List.drop_drop]; rfl
theorem binVal_app (a b : List Nat) : binVal (a ++ b) = binVal a * 2 ^ b.length + binVal b := by
  have key : ∀ (b : List Nat) (n : Nat), b.foldl (fun n c => 2 * n + (c - 48)) n = n * 2 ^ b.length + binVal b := by
    intro b
    induction b with
    | nil => intro n; exact (Nat.mul_one n).symm
    | cons c b ih =>
      intro n
      have e := ih (2 * 0 + (c - 48))
      show b.foldl _ (2 * n + (c - 48)) = _ * 2 ^ (b.length + 1) + b.foldl _ (2 * 0 + (c - 48))
      rw [ih, e, Nat.mul_zero, Nat.zero_add, Nat.add_mul, Nat.pow_succ, Nat.mul_comm 2 n, Nat.mul_assoc n, Nat.mul_comm 2, Nat.add_assoc]
  show (a ++ b).foldl _ 0 = _
  rw [List.foldl_append]
  exact key b _
theorem eight_val {a : Nat} (h : a < 256) : binVal ((eight a).take 6) = a / 4 ∧ binVal ((eight a).drop 6) = a % 4 ∧ binVal ((eight a).take 4) = a / 16 ∧ binVal ((eight a).drop 4) = a % 16 ∧ binVal ((eight a).take 2) = a / 64 ∧ binVal ((eight a).drop 2) = a % 64 :=
  (by decide +kernel : ∀ a < 256, binVal ((eight a).take 6) = a / 4 ∧ binVal ((eight a).drop 6) = a % 4 ∧ binVal ((eight a).take 4) = a / 16 ∧ binVal ((eight a).drop 4) = a % 16 ∧ binVal ((eight a).take 2) = a / 64 ∧ binVal ((eight a).drop 2) = a % 64) a h
theorem sx_padb : ∀ (m : Nat) (l : List Nat), (∀ o ∈ l, o < 256) → sx (4 * m) (padb m l) = grps m l
  | 0, l, h => rfl
  | m + 1, l, h => by
    obtain ⟨a1, a2, _⟩ := eight_val (at3_lt h 0)
    obtain ⟨_, _, b1, b2, _⟩ := eight_val (at3_lt h 1)
    obtain ⟨_, _, _, _, c1, c2⟩ := eight_val (at3_lt h 2)
    show binVal ((eight (at3 l 0)).take 6) :: binVal ((eight (at3 l 0)).drop 6 ++ (eight (at3 l 1)).take 4) :: binVal ((eight (at3 l 1)).drop 4 ++ (eight (at3 l 2)).take 2) :: binVal ((eight (at3 l 2)).drop 2) :: sx (4 * m) (padb m (l.drop 3)) = g3 l ++ grps m (l.drop 3)
    rw [binVal_app, binVal_app, a1, a2, b1, b2, c1, c2, sx_padb m _ fun o q => h o (List.mem_of_mem_drop q)]
    rfl
end Mine
end
section
open PySem PySem.W PyProof.Rows PySem.Calls PyProof.V PySem.Spec PySem.SeqAt
namespace Mine
theorem dec2 {x : Nat} (h : x < 2) : ((x : Int)).natAbs.log2 < 1920 ∧ decText (x : Int) = [48 + x] :=
  (by decide +kernel : ∀ x : Nat, x < 2 → ((x : Int)).natAbs.log2 < 1920 ∧ decText (x : Int) = [48 + x]) x h
theorem bit_i (o k : Nat) : ((o : Int).fdiv ((2 : Int) ^ (k : Int).toNat)).fmod 2 = ((o / 2 ^ k % 2 : Nat) : Int) := by
  rw [show ((2 : Int) ^ (k : Int).toNat) = _ from powN (a := 2), fdivN]; exact fmodN _ 2
section
variable {prog : Program} {w : World} {K : Frag} {G : Heap} {H : HM} {Q : AV → HM → Prop} {X : HM → Prop}
theorem s_law_eight (V : Wd prog w K G) {o : Nat} (h : ∀ H', HExt H H' → Q (.lst ((eight o).map fun c => .str [c])) H') : CallS prog w K G 1 (.glob (.ref 907)) [.int o] H Q X := by
  refine V.run (n := 66) (r := r_law_eight) rfl rfl fun ca (hca : H ca = none) => ⟨fun i hi => ?_, by decide, by decide, by decide, by decide, rfl, by decide, by decide, by decide, by decide, ?_⟩
  · cases hi with
    | head => exact ⟨ca, rfl⟩
    | tail _ hi => cases hi
  · show compW _ (nn [7, 6, 5, 4, 3, 2, 1, 0]) _ _
    refine compW_pure (g := fun k : Nat => .str (decText (((o : Int).fdiv ((2 : Int) ^ (k : Int).toNat)).fmod 2))) (fun k hk f hf => ?_) ?_
    · obtain ⟨d1, d2⟩ := dec2 (Nat.mod_lt (o / 2 ^ k) (y := 2) (by decide))
      rw [← bit_i] at d1 d2
      have hk7 : k ≤ 7 := (by decide : ∀ k ∈ [7, 6, 5, 4, 3, 2, 1, 0], k ≤ 7) k hk
      exact ⟨ca, _, rfl, same, Int.natCast_nonneg k, Int.ofNat_le.mpr (Nat.le_trans hk7 (by decide)), by decide, Int.ne_of_gt (Int.pow_pos (by decide)), powN (a := 2) (k := k) ▸ Nat.lt_of_le_of_lt (Nat.pow_le_pow_right (by decide) hk7) (by decide), by decide, d1, d2 ▸ (by exact (by decide : 1 ≤ sizeLine)), hf⟩
    · rw [show [7, 6, 5, 4, 3, 2, 1, 0].map (fun k : Nat => AV.str (decText (((o : Int).fdiv ((2 : Int) ^ (k : Int).toNat)).fmod 2))) = (eight o).map (fun c => .str [c]) from
        (List.map_congr_left fun k _ => by rw [bit_i, (dec2 (Nat.mod_lt (o / 2 ^ k) (y := 2) (by decide))).2] : _ = [7, 6, 5, 4, 3, 2, 1, 0].map fun k : Nat => AV.str [48 + o / 2 ^ k % 2])]
      exact h _ (HExt.set _ hca)
end
end Mine
end
section
open PySem PySem.W PyProof.Rows PySem.Calls PyProof.V PySem.Spec PySem.SeqAt
namespace Mine
theorem comp3 {W : AV → HM → (AV → HM → Prop) → Prop} {H : HM} {Q : List AV → HM → Prop} {i : Int} {n st : Nat} (hi : i = (n : Int)) (hn : n ≤ 1000) (hs : 0 < st) (h2 : st ≤ 1000) (h : compW W (nn (List.range' 0 (nch st n) st)) H Q) :
    -(2 ^ 40) < (0 : Int) ∧ (0 : Int) < 2 ^ 40 ∧ -(2 ^ 40) < i ∧ i < 2 ^ 40 ∧ ([] : List AV) = [] ∧ -(2 ^ 20) < (st : Int) ∧ (st : Int) < 2 ^ 20 ∧ (st : Int) ≠ 0 ∧ ((rngL 0 i (st : Int)).map AV.int).length ≤ 1000000 ∧ compW W ((rngL 0 i (st : Int)).map AV.int) H Q := by
  subst hi
  exact rc3 hn hs h2 (by rw [rng_st hs]; exact h)
theorem nch_mul {st : Nat} (hs : 0 < st) (k : Nat) : nch st (st * k) = k := by
  cases k with
  | zero => rfl
  | succ k =>
    unfold nch
    rw [if_neg (Nat.ne_of_gt (Nat.mul_pos hs (Nat.succ_pos k))), Nat.mul_succ, Nat.add_sub_assoc hs, Nat.mul_add_div hs, Nat.div_eq_of_lt (Nat.sub_lt hs (by decide))]
theorem eight_bit {o : Nat} : ∀ c ∈ eight o, c = 48 ∨ c = 49 := fun c h => by
  have e : ∀ x, 48 + x % 2 = 48 ∨ 48 + x % 2 = 49 := fun x => (Nat.mod_two_eq_zero_or_one x).imp (congrArg (48 + ·)) (congrArg (48 + ·))
  obtain ⟨x, _, rfl⟩ := List.mem_map.mp (show c ∈ [128, 64, 32, 16, 8, 4, 2, 1].map (fun d => 48 + o / d % 2) from h)
  exact e _
theorem padb_bit : ∀ (m : Nat) (l : List Nat), (padb m l).length = 6 * (4 * m) ∧ ∀ c ∈ padb m l, c = 48 ∨ c = 49
  | 0, l => ⟨rfl, nofun⟩
  | m + 1, l => by
    obtain ⟨i1, i2⟩ := padb_bit m (l.drop 3)
    refine ⟨?_, fun c h => ?_⟩
    · show (padb m (l.drop 3)).length + 24 = _
      rw [i1, Nat.mul_succ, Nat.mul_add]
    · rcases List.mem_append.mp (show c ∈ (eight (at3 l 0) ++ eight (at3 l 1) ++ eight (at3 l 2)) ++ padb m (l.drop 3) from h) with h | h
      · rcases List.mem_append.mp h with h | h
        · rcases List.mem_append.mp h with h | h <;> exact eight_bit c h
        · exact eight_bit c h
      · exact i2 c h
theorem zz_int (n : Nat) : Int.fmod (-((8 * n : Nat) : Int)) 24 = (zz n : Int) := by
  rw [fmod_pos (by decide)]; unfold zz; omega
theorem eights (p : List Nat) : ((p.map eight).flatten).length = 8 * p.length := by
  induction p with
  | nil => rfl
  | cons a p ih => rw [List.map_cons, List.flatten_cons, List.length_append, ih, List.length_cons, Nat.mul_succ, Nat.add_comm]; rfl
theorem nn_map (f : Nat → Nat) (l : List Nat) : nn (l.map f) = l.map fun s => AV.int (f s : Nat) := List.map_map
theorem eight_flat (p : List Nat) : (p.map fun o => (eight o).map fun c => AV.str [c]).flatten = ((p.map eight).flatten.map fun c => [c]).map AV.str := by
  rw [← chr_join, List.map_flatten, List.map_map]; rfl
section
variable {prog : Program} {w : World} {K : Frag} {G : Heap} {H : HM} {Q : AV → HM → Prop} {X : HM → Prop}
theorem s_law_lines (V : Wd prog w K G) {l : List Nat} {wd : Nat} (hw : 0 < wd ∧ wd ≤ 63) (hz : l.length ≤ 30) (ho : ∀ o ∈ l, o < 256) (h : ∀ H', HExt H H' → Q (.lst (nn (lns wd (nch wd l.length) l))) H') : CallS prog w K G 2 (.glob (.ref 902)) [.lst (nn l), .int wd] H Q X := by
  refine V.run (n := 65) (r := r_law_lines) rfl rfl fun ca (hca : H ca = none) b (hb : (H.set ca (.cell none)) b = none) => ?_
  have hbc : b ≠ ca := fun e => by rw [e, same] at hb; cases hb
  have hbn : H b = none := by rw [HM.set_ne _ _ hbc] at hb; exact hb
  refine for3 (st := wd) (len_int l) (Nat.le_trans hz (by decide)) hw.1 (Nat.le_trans hw.2 (by decide)) ?_
  have key : ∀ (m q : Nat) (row : List Nat) (H1 : HM) (o3 o4 o6 cv : Option AV), nch wd (l.length - q) = m → row.length + 300 * m ≤ 30000 → HExt H H1 → H1 b = some (.list (nn row)) → H1 ca = some (.cell cv) → (∀ H', HExt H H' → Q (.lst (nn (row ++ lns wd m (l.drop q)))) H') →
      forW (fb (CPs prog w K G 1) [3] f_law_lines_1 (fun τ => X τ.H)) (aft (CPs prog w K G 1) f_law_lines_2 Q X) (nn (List.range' q m wd)) ⟨[some (.lst (nn l)), some (.int wd), some (.ref b), o3, o4, some (.ref ca), o6], H1⟩ := by
    intro m
    induction m with
    | zero =>
      intro q row H1 o3 o4 o6 cv hm hr hx h1 h2 h
      have h : Q (.lst (nn (row ++ []))) (H1.del b) := h _ (hx.del hbn)
      rw [List.append_nil] at h
      exact ⟨b, _, rfl, h1, h⟩
    | succ m ih =>
      intro q row H1 o3 o4 o6 cv hm hr hx h1 h2 h
      obtain ⟨hq, hm⟩ := nch_succ hw.1 hm
      have hr : row.length + 300 * m + 300 ≤ 30000 := hr
      have hp : ((l.drop q).take wd).length ≤ 63 := by rw [List.length_take]; exact Nat.le_trans (Nat.min_le_left _ _) hw.2
      have hpo : ∀ o ∈ (l.drop q).take wd, o < 256 := fun o m => ho o (List.mem_of_mem_drop (List.mem_of_mem_take m))
      have hu := uuL_le _ hp
      have h : ∀ H', HExt H H' → Q (.lst (nn (row ++ (uuL ((l.drop q).take wd) ++ lns wd m ((l.drop q).drop wd))))) H' := h
      rw [List.drop_drop, ← List.append_assoc] at h
      have hs := sl_at l q wd
      have hp30 : ((l.drop q).take wd).length ≤ 30 := by rw [List.length_take, List.length_drop]; exact Nat.le_trans (Nat.min_le_right _ _) (Nat.le_trans (Nat.sub_le _ _) hz)
      generalize (l.drop q).take wd = p at *
      refine ⟨rfl, ?_⟩
      show (pySlice (nn l) (some (q : Int)) (some ((q : Int) + (wd : Int)))).length ≤ 1000 ∧ compW _ (pySlice (nn l) (some (q : Int)) (some ((q : Int) + (wd : Int)))) H1 _
      rw [hs, nn_len]
      have en : Int.fmod (-(((p.map eight).flatten.length : Nat) : Int)) 24 = (zz p.length : Int) := by rw [eights]; exact zz_int _
      have z24 : zz p.length < 24 := Nat.mod_lt _ (by decide)
      have eB : (p.map eight).flatten ++ (List.replicate (Int.fmod (-(((p.map eight).flatten.length : Nat) : Int)) 24).toNat [48]).flatten = padb (nch 3 p.length) p := by
        rw [en, Int.toNat_natCast, List.flatten_replicate_singleton]; exact padb_eq _ _ rfl
      obtain ⟨bl, bb⟩ := padb_bit (nch 3 p.length) p
      have e8 := eights p
      have hc3 : nch 3 p.length ≤ 30 := Nat.le_trans nch_le hp30
      refine ⟨Nat.le_trans hp (by decide), compW_map (i := fun n : Nat => .int n) (g := fun o => .lst ((eight o).map fun c => .str [c])) (fun o ho H2 k e2 hk => s_law_eight V fun H3 e3 => ⟨by exact (by decide : 8 ≤ 1000), compW_pure (i := fun c : Nat => .str [c]) (g := fun c => .str [c]) (fun c hc f hf => hf) (hk H3 e3)⟩) fun H2 e2 =>
        ⟨p.map (fun o => (eight o).map fun c => .str [c]), List.map_map.symm, rfl, _, congrArg AV.lst (eight_flat p), ?_, ca, cv, rfl, e2 _ _ h2, ca, _, rfl, same, ca, _, rfl, same, by decide, ?_, ?_, rfl, ?_, rfl, _, same, ?_⟩⟩
      · rw [sum_one, e8]; exact Nat.le_trans (Nat.mul_le_mul_left 8 hp) (by decide)
      · show 0 ≤ Int.fmod (-(((p.map eight).flatten.map fun c => [c]).flatten.length : Int)) 24
        rw [flat_one, en]; exact Int.natCast_nonneg _
      · show Int.fmod (-(((p.map eight).flatten.map fun c => [c]).flatten.length : Int)) 24 ≤ 1000
        rw [flat_one, en]; exact Int.ofNat_le.mpr (Nat.le_trans (Nat.le_of_lt z24) (by decide))
      · rw [flat_one]
        show (p.map eight).flatten.length + ((List.replicate (Int.fmod (-(((p.map eight).flatten.length : Nat) : Int)) 24).toNat [48]).flatten).length ≤ sizeLine
        rw [← List.length_append, eB, bl]; exact Nat.le_trans (Nat.mul_le_mul_left 6 (Nat.mul_le_mul_left 4 hc3)) (by decide)
      · rw [flat_one]
        show swps (CPs prog w K G 1) f_law_lines_1_t1 (loopR (forW (fb (CPs prog w K G 1) [3] f_law_lines_1 (fun τ => X τ.H)) (aft (CPs prog w K G 1) f_law_lines_2 Q X) (nn (List.range' (q + wd) m wd))) (aft (CPs prog w K G 1) f_law_lines_2 Q X)) (fun τ => X τ.H)
          ⟨[some (.lst (nn l)), some (.int wd), some (.ref b), some (.int q), some (.lst (nn p)), some (.ref ca), o6], (H2.set ca (.cell (some (.str (p.map eight).flatten)))).set ca (.cell (some (.str ((p.map eight).flatten ++ (List.replicate (Int.fmod (-(((p.map eight).flatten.length : Nat) : Int)) 24).toNat [48]).flatten))))⟩
        rw [eB, HM.set_set]
        have gs := sx_padb (nch 3 p.length) p hpo
        generalize hB : padb (nch 3 p.length) p = B at bl bb gs ⊢
        have hb2 : (H2.set ca (.cell (some (.str B)))) b = some (.list (nn row)) := by rw [HM.set_ne _ _ hbc]; exact e2 _ _ h1
        have hx2 : HExt H (H2.set ca (.cell (some (.str B)))) := (hx.trans e2).up hca
        have s6 : ∀ k : Nat, pySlice B (some (k : Int)) (some ((k : Int) + 6)) = (B.drop k).take 6 := fun k => (sl_nat B k (k + 6)).trans (by rw [Nat.add_sub_cancel_left])
        have eg : (List.range' 0 (nch 6 (6 * (4 * nch 3 p.length))) 6).map (fun k : Nat => AV.int (binVal (pySlice B (some (k : Int)) (some ((k : Int) + 6))) : Nat)) = nn (grps (nch 3 p.length) p) := by
          rw [nch_mul (by decide), ← gs, ← List.drop_zero (l := B), ← sx_map, nn, List.map_map]
          exact List.map_congr_left fun k _ => congrArg (fun z : List Nat => AV.int (binVal z : Nat)) (by rw [List.drop_zero]; exact s6 k)
        have g4 := grps_len (nch 3 p.length) p
        refine ⟨fun i hi => ?_, ca, _, rfl, same, comp3 (n := 6 * (4 * nch 3 p.length)) (st := 6) (congrArg Int.ofNat bl) (Nat.le_trans (Nat.mul_le_mul_left 6 (Nat.mul_le_mul_left 4 hc3)) (by decide)) (by decide) (by decide) (compW_pure (g := fun k : Nat => AV.int (binVal (pySlice B (some (k : Int)) (some ((k : Int) + 6))) : Nat)) (fun k hk f hf => ⟨ca, _, rfl, same, rfl, rfl, ?_, ?_, hf⟩) ?_)⟩
        · cases hi with
          | head => exact ⟨ca, rfl⟩
          | tail _ hi => cases hi
        · obtain ⟨i, hi, rfl⟩ := List.mem_range'.mp hk
          rw [nch_mul (by decide)] at hi
          rw [s6, List.length_take, List.length_drop, bl, Nat.zero_add]
          exact Nat.min_eq_left (Nat.le_sub_of_add_le (by rw [Nat.add_comm, ← Nat.mul_succ]; exact Nat.mul_le_mul_left 6 hi))
        · rw [s6]; exact fun c hc => bb c (List.mem_of_mem_drop (List.mem_of_mem_take hc))
        · rw [eg]
          refine ⟨?_, nofun, ?_, ?_⟩
          · show 1 + (nn (grps (nch 3 p.length) p)).length ≤ sizeLine
            rw [nn_len, g4]; exact Nat.le_trans (Nat.add_le_add_left (Nat.mul_le_mul_left 4 hc3) 1) (by decide)
          · show (nn (grps (nch 3 p.length) p)).length + 1 ≤ 1000000
            rw [nn_len, g4]; exact Nat.le_trans (Nat.add_le_add_right (Nat.mul_le_mul_left 4 hc3) 1) (by decide)
          · show compW _ (.int ((nn p).length : Int) :: nn (grps (nch 3 p.length) p)) _ _
            rw [nn_len]
            refine compW_pure (l := p.length :: grps (nch 3 p.length) p) (i := fun n : Nat => .int n) (g := fun s : Nat => .int (sgn s)) (fun s hs f hf => br_dec (fun z => ?_) fun z => ?_) ?_
            · rw [sgn, if_neg (Nat.ne_of_gt (Int.ofNat_lt.mp z))] at hf; exact hf
            · rw [sgn, if_pos (Nat.eq_zero_of_not_pos fun q => z (Int.ofNat_lt.mpr q))] at hf; exact hf
            · have el : (p.length :: grps (nch 3 p.length) p).map (fun s : Nat => AV.int (sgn s)) ++ nn [10] = nn (uuL p) := by rw [uuL, nn_app, nn_map]
              have ll : (nn (uuL p)).length ≤ 300 := by rw [nn_len]; exact hu
              rw [← el] at ll
              refine ⟨Nat.le_trans (Nat.le_of_eq (List.length_append).symm) (Nat.le_trans ll (by decide)), _, _, rfl, hb2, ?_, ?_⟩
              · rw [nn_len]; exact Nat.le_trans (Nat.add_le_add (Nat.le_trans (Nat.le_add_right _ _) (Nat.le_of_add_right_le hr)) ll) (by decide)
              · show forW (fb (CPs prog w K G 1) [3] f_law_lines_1 (fun τ => X τ.H)) (aft (CPs prog w K G 1) f_law_lines_2 Q X) (nn (List.range' (q + wd) m wd)) ⟨[_, _, some (.ref b), _, _, _, _], (H2.set ca (.cell (some (.str B)))).set b (.list (nn row ++ ((p.length :: grps (nch 3 p.length) p).map (fun s : Nat => AV.int (sgn s)) ++ nn [10])))⟩
                rw [el, ← nn_app]
                refine ih (q + wd) _ _ _ _ _ (some (.str B)) (by rw [Nat.sub_add_eq]; exact hm) ?_ (hx2.up hbn) same (by rw [HM.set_ne _ _ hbc.symm]; exact same) h
                rw [List.length_append]
                exact Nat.le_trans (Nat.add_le_add_right (Nat.add_le_add_left hu _) _) (Nat.le_trans (Nat.le_of_eq (Nat.add_right_comm _ _ _)) hr)
  exact key _ 0 [] ((H.set ca (.cell none)).set b (.list (nn []))) none none none none rfl (Nat.le_trans (Nat.le_of_eq (Nat.zero_add _)) (Nat.le_trans (Nat.mul_le_mul_left 300 (Nat.le_trans nch_le hz)) (by decide))) ((HExt.set _ hca).up hbn) same (by rw [HM.set_ne _ _ hbc.symm]; exact same) h
end
end Mine
end
section
open PySem PySem.W PyProof.Rows PySem.Calls PyProof.V PySem.Spec PySem.SeqAt
namespace Mine
noncomputable def rdD (tx : List Nat) (p : Nat) : List (Str × AV) := [("text", .str tx), ("at", .int p)]
structure Rdr (H0 H : HM) (r d : Addr) (tx : List Nat) (p : Nat) : Prop where
  base : HExt H0 H
  nd : H0 d = none
  hr : H r = some (.inst 445 d)
  hd : H d = some (.dict (rdD tx p))
section
variable {H0 H H' : HM} {r d : Addr} {tx : List Nat} {p : Nat}
theorem Rdr.move (u : Rdr H0 H r d tx p) (q : Nat) : Rdr H0 (H.set d (.dict (rdD tx q))) r d tx q :=
  ⟨u.base.up u.nd, u.nd, keep u.hr u.hd nofun, same⟩
theorem Rdr.own (u : Rdr H0 H r d tx p) : Rdr (H.del d) H r d tx p :=
  ⟨fun b o e => by unfold HM.del at e; split at e
                   · cases e
                   · exact e, HM.del_same _ _, u.hr, u.hd⟩
theorem Rdr.back (u : Rdr H0 H r d tx p) {q : Nat} (v : Rdr (H.del d) H' r d tx q) : Rdr H0 H' r d tx q :=
  ⟨(u.base.del u.nd).trans v.base, u.nd, v.hr, v.hd⟩
theorem Rdr.put (u : Rdr H0 H r d tx p) {b : Addr} {x : AO} (n : H0 b = none) (nr : b ≠ r) (nd : b ≠ d) : Rdr H0 (H.set b x) r d tx p :=
  ⟨u.base.up n, u.nd, by rw [HM.set_ne _ _ nr.symm]; exact u.hr, by rw [HM.set_ne _ _ nd.symm]; exact u.hd⟩
theorem Rdr.cut (u : Rdr H0 H r d tx p) {b : Addr} (n : H0 b = none) (nr : b ≠ r) (nd : b ≠ d) : Rdr H0 (H.del b) r d tx p :=
  ⟨u.base.del n, u.nd, by rw [HM.del_ne _ nr.symm]; exact u.hr, by rw [HM.del_ne _ nd.symm]; exact u.hd⟩
theorem Rdr.text (u : Rdr H0 H r d tx p) {Q : AV → Prop} (h : Q (.str tx)) : getaW (.ref r) "text" H Q := get_of u.hr u.hd (by rfl) rfl h
theorem Rdr.at (u : Rdr H0 H r d tx p) {Q : AV → Prop} (h : Q (.int p)) : getaW (.ref r) "at" H Q := get_of u.hr u.hd (by rfl) rfl h
theorem Rdr.pk (u : Rdr H0 H r d tx p) {C : CP} {k : AV → Addr → Prop} (hm : C.meth 445 "peek" = some (.glob (.ref 435))) (h : k (.glob (.ref 435)) r) : umeW C (.ref r) "peek" H k := ⟨r, 445, d, _, _, rfl, u.hr, u.hd, rfl, hm, h⟩
end
noncomputable def Nx (t : List Nat) : Prop := t = [] ∨ ∃ c t', t = c :: t' ∧ c ∈ [97, 119, 85, 117, 120, 88, 64, 46, 40, 41]
section
variable {prog : Program} {w : World} {K : Frag} {G : Heap} {H : HM} {Q : AV → HM → Prop} {X : HM → Prop}
variable {H0 : HM} {r d : Addr} {tx : List Nat} {p : Nat}
theorem s_peek (V : Wd prog w K G) (u : Rdr H0 H r d tx p) (h : Q (.str ((tx.drop p).take 1)) H) : CallS prog w K G 1 (.glob (.ref 435)) [.ref r] H Q X :=
  V.run (n := 15) (r := r_TemplateReader_peek) rfl rfl (u.text (u.at (u.at (by
    have e := sl_nat tx p (p + 1)
    rw [Nat.add_sub_cancel_left] at e
    show Q (.str (pySlice tx (some (p : Int)) (some ((p + 1 : Nat) : Int)))) H
    rw [e]; exact h))))
theorem s_skip (V : Wd prog w K G) (u : Rdr H0 H r d tx p) (hn : ∀ c t, tx.drop p = c :: t → c ∉ [32, 9, 10, 13, 12, 35]) (h : Q .none H) : CallS prog w K G 2 (.glob (.ref 442)) [.ref r] H Q X := by
  refine V.run (n := 16) (r := r_TemplateReader_skip) rfl rfl fun I hI => hI _ (u.pk V.meth.1 (s_peek V u ?_))
  cases e : tx.drop p with
  | nil => exact h
  | cons c t =>
    refine (u.pk V.meth.1 (s_peek V u ?_))
    rw [e]
    exact ⟨by decide, br_no (hn c t e) h⟩
end
end Mine
end
section
open PySem PySem.W PyProof.Rows PySem.Calls PyProof.V PySem.Spec PySem.SeqAt
namespace Mine
theorem refL_of {H : HM} {b : Addr} {vs : List AV} {k : Addr → List AV → Prop} (e : H b = some (.list vs)) (h : k b vs) : refL (.ref b) H k := ⟨b, vs, rfl, e, h⟩
theorem mok {H : HM} {b : Addr} {vs : List AV} (e : H b = some (.list vs)) : ∃ a vs, AV.ref b = .ref a ∧ H a = some (.list vs) := ⟨b, vs, rfl, e⟩
noncomputable def figs : List Nat := [48, 49, 50, 51, 52, 53, 54, 55, 56, 57]
theorem Rdr.inc {H0 H : HM} {r d : Addr} {tx : List Nat} {p : Nat} (u : Rdr H0 H r d tx p) {C : CP} {R : Fl → St → Prop} {X : St → Prop} {l : List (Option AV)} (h : R .next ⟨some (.ref r) :: l, H.set d (.dict (rdD tx (p + 1)))⟩) :
    swp C (.auga (.loc 0) "at" .Add (.int 1)) R X ⟨some (.ref r) :: l, H⟩ :=
  u.at ⟨r, 445, d, _, rfl, u.hr, u.hd, by exact (by decide : 2 ≤ 20), rfl, gn_at, h⟩
section
variable {prog : Program} {w : World} {K : Frag} {G : Heap} {H : HM} {Q : AV → HM → Prop} {X : HM → Prop}
variable {H0 : HM} {r d : Addr} {tx : List Nat} {p : Nat}
theorem s_figures (V : Wd prog w K G) (u : Rdr H0 H r d tx p) {ds t : List Nat} {n : Int} (hd : tx.drop p = ds ++ t) (hds : ∀ c ∈ ds, c ∈ figs) (ht : ∀ c t', t = c :: t' → c ∉ figs) (hl : ds.length ≤ 9) (hn : PySem.intText? ⟨ds.toArray⟩ = some n)
    (h : ∀ H', Rdr H0 H' r d tx (p + ds.length) → Q (.int n) H') : CallS prog w K G 2 (.glob (.ref 456)) [.ref r] H Q X := by
  refine V.run (n := 17) (r := r_read_figures) rfl rfl (u.at fun I hI => ?_)
  have key : ∀ (ds' : List Nat) (q : Nat) (H1 : HM) (o2 : Option AV), Rdr H0 H1 r d tx q → tx.drop q = ds' ++ t → (∀ c ∈ ds', c ∈ figs) → q + ds'.length = p + ds.length → I ⟨[some (.ref r), some (.int (p : Int)), o2], H1⟩ := by
    intro ds'
    induction ds' with
    | nil =>
      intro q H1 o2 u1 h1 h2 h3
      have fin : swps (CPs prog w K G 1) f_read_figures_2 (bodyR Q) (fun τ => X τ.H) ⟨[some (.ref r), some (.int (p : Int)), o2], H1⟩ := by
        have h3 : q = p + ds.length := h3
        subst h3
        have e := sl_nat tx p (p + ds.length)
        rw [Nat.add_sub_cancel_left, hd, List.take_left' rfl] at e
        refine u1.text (u1.at ?_)
        show br (some (decide ((9 : Int) < ((pySlice tx (some (p : Int)) (some ((p + ds.length : Nat) : Int))).length : Int)))) _ (∃ m : Int, PySem.intText? ⟨(pySlice tx (some (p : Int)) (some ((p + ds.length : Nat) : Int))).toArray⟩ = some m ∧ (pySlice tx (some (p : Int)) (some ((p + ds.length : Nat) : Int))).length ≤ 640 ∧ Q (.int m) H1)
        rw [e]
        exact br_no (Int.not_lt.mpr (Int.ofNat_le.mpr hl)) ⟨n, hn, Nat.le_trans hl (by decide), h _ u1⟩
      refine hI _ (u1.pk V.meth.1 (s_peek V u1 ?_))
      rw [h1]
      cases e : t with
      | nil => exact fin
      | cons c t' =>
        refine u1.pk V.meth.1 (s_peek V u1 ?_)
        rw [h1, e]
        exact br_no (ht c t' e) fin
    | cons c ds' ih =>
      intro q H1 o2 u1 h1 h2 h3
      refine hI _ (u1.pk V.meth.1 (s_peek V u1 ?_))
      rw [h1]
      refine u1.pk V.meth.1 (s_peek V u1 ?_)
      rw [h1]
      refine br_yes (h2 c (.head _)) (u1.inc (ih (q + 1) _ _ (u1.move (q + 1)) (drop_cons h1).2.2 (fun x m => h2 x (.tail _ m)) ?_))
      rw [Nat.add_right_comm]; exact h3
  exact key ds p H none u hd hds rfl
end
end Mine
end
section
open PySem PySem.W PyProof.Rows PySem.Calls PyProof.V PySem.Spec PySem.SeqAt
namespace Mine
noncomputable def nxs : List Nat := [97, 119, 85, 117, 120, 88, 64, 46, 40, 41]
noncomputable def Cn (w : List Nat) (n : Int) : Prop := (w = [] ∧ n = -2) ∨ (w = [42] ∧ n = -1) ∨ (w ≠ [] ∧ (∀ c ∈ w, c ∈ figs) ∧ w.length ≤ 9 ∧ PySem.intText? ⟨w.toArray⟩ = some n)
theorem fig_no : ∀ c ∈ figs, ¬ [c] = [42] ∧ ¬ [c] = [91] ∧ c ∉ [33, 60, 62] := by decide
theorem nx_no : ∀ c ∈ nxs, ¬ [c] = [42] ∧ ¬ [c] = [91] ∧ c ∉ [33, 60, 62] ∧ c ∉ figs ∧ c ∉ [32, 9, 10, 13, 12, 35] ∧ ¬ [c] = [47] := by decide
section
variable {prog : Program} {w : World} {K : Frag} {G : Heap} {H : HM} {Q : AV → HM → Prop} {X : HM → Prop}
variable {H0 : HM} {r d : Addr} {tx : List Nat} {p : Nat}
theorem s_read_repeat (V : Wd prog w K G) (u : Rdr H0 H r d tx p) {w' t : List Nat} {n : Int} (hd : tx.drop p = w' ++ t) (hw : Cn w' n) (ht : Nx t)
    (h : ∀ H', Rdr H0 H' r d tx (p + w'.length) → Q (.int n) H') : CallS prog w K G 3 (.glob (.ref 470)) [.ref r] H Q X := by
  refine V.run (n := 18) (r := r_read_repeat) rfl rfl (u.pk V.meth.1 (CallS_up (s_peek V u ?_) (by decide)))
  rw [hd]
  rcases hw with ⟨rfl, rfl⟩ | ⟨rfl, rfl⟩ | ⟨h0, hf, hl, hn⟩
  · rcases ht with rfl | ⟨c, t', rfl, hc⟩
    · exact h _ u
    · obtain ⟨n1, n2, _, n4, _⟩ := nx_no c hc
      exact br_no n1 (br_no n2 (br_no n4 (h _ u)))
  · exact u.inc (h _ (u.move _))
  · cases w' with
    | nil => exact absurd rfl h0
    | cons c w' =>
      obtain ⟨n1, n2, _⟩ := fig_no c (hf c (.head _))
      refine br_no n1 (br_no n2 (br_yes (hf c (.head _)) (s_figures V u hd hf (fun c t' e => ?_) hl hn h)))
      rcases ht with rfl | ⟨c', t'', rfl, hc⟩
      · cases e
      · cases e; exact (nx_no c hc).2.2.2.1
theorem s_read_marks (V : Wd prog w K G) (u : Rdr H0 H r d tx p) {l : Nat} {bang : Bool} {t : List Nat} (hd : tx.drop p = (if bang then [33] else []) ++ t) (hl : bang = true → l ∈ [115, 83, 105, 73, 108, 76, 110, 78, 118, 86, 120, 88, 64, 46]) (ht : ∀ c t', t = c :: t' → c ∉ [33, 60, 62])
    (h : ∀ H', Rdr H0 H' r d tx (p + (if bang then [33] else [] : List Nat).length) → Q (.tup [.str [], .bool bang]) H') : CallS prog w K G 2 (.glob (.ref 477)) [.ref r, .str [l]] H Q X := by
  refine V.run (n := 19) (r := r_read_marks) rfl rfl fun I hI => ?_
  have stop : ∀ (q : Nat) (b : Bool) (H1 : HM) (o4 : Option AV), Rdr H0 H1 r d tx q → tx.drop q = t → Q (.tup [.str [], .bool b]) H1 → I ⟨[some (.ref r), some (.str [l]), some (.str []), some (.bool b), o4], H1⟩ := by
    intro q b H1 o4 u1 h1 hq
    refine hI _ (u1.pk V.meth.1 (s_peek V u1 ?_))
    rw [h1]
    cases e : t with
    | nil => exact hq
    | cons c t' =>
      refine u1.pk V.meth.1 (s_peek V u1 ?_)
      rw [h1, e]
      exact br_no (ht c t' e) hq
  cases bang with
  | false => exact stop p false H none u hd (h _ u)
  | true =>
    have u1 := u.move (p + 1)
    refine hI _ (u.pk V.meth.1 (s_peek V u ?_))
    rw [hd]
    refine u.pk V.meth.1 (s_peek V u ?_)
    rw [hd]
    refine u.pk V.meth.1 (s_peek V u ?_)
    rw [hd]
    refine u.inc ?_
    refine brn_no (hl rfl) ?_
    exact stop (p + 1) true _ _ u1 (drop_cons hd).2.2 (h _ u1)
end
end Mine
end
section
open PySem PySem.W PyProof.Rows PySem.Calls PyProof.V PySem.Spec PySem.SeqAt
namespace Mine
theorem HExt.no {H H' : HM} (e : HExt H H') {b : Addr} (h : H' b = none) : H b = none := by
  cases q : H b with
  | none => rfl
  | some x => rw [e _ _ q] at h; cases h
noncomputable def One (prog : Program) (w : World) (K : Frag) (G : Heap) (N : Nat) (dep : Int) (w' : List Nat) (v : AV) : Prop :=
  (∃ c t, w' = c :: t ∧ c ∈ nxs ∧ c ≠ 41) ∧ ∀ {H0 H : HM} {r d : Addr} {tx t : List Nat} {p : Nat} {Q : AV → HM → Prop} {X : HM → Prop}, Rdr H0 H r d tx p → tx.drop p = w' ++ t → Nx t →
    (∀ H', Rdr H0 H' r d tx (p + w'.length) → Q v H') → CallS prog w K G N (.glob (.ref 491)) [.ref r, .int dep] H Q X
theorem mark_len {b : Bool} {m t : List Nat} {tx : List Nat} {p : Nat} (h : tx.drop p = m ++ t) : tx.drop (p + m.length) = t := by rw [← List.drop_drop, h, List.drop_left]
theorem let_no : ∀ l ∈ [97, 119, 85, 117, 120, 88, 64, 46], ¬ [l] = [40] ∧ l ∈ [99, 67, 115, 83, 108, 76, 113, 81, 105, 73, 106, 74, 110, 78, 118, 86, 119, 85, 97, 65, 90, 98, 66, 104, 72, 117, 120, 88, 64, 46] ∧ l ∈ nxs ∧ l ≠ 41 := by decide
theorem bang_ok : ∀ l ∈ [120, 88, 64], l ∈ [115, 83, 105, 73, 108, 76, 110, 78, 118, 86, 120, 88, 64, 46] := by decide
section
variable {prog : Program} {w : World} {K : Frag} {G : Heap} {H : HM} {Q : AV → HM → Prop} {X : HM → Prop}
theorem one_plain (V : Wd prog w K G) {l : Nat} {bang : Bool} {wc : List Nat} {n dep : Int} (hl : l ∈ [97, 119, 85, 117, 120, 88, 64, 46]) (hb : bang = true → l ∈ [120, 88, 64]) (hc : Cn wc n) (hs : n = -1 → l ∉ [120, 88, 64]) :
    One prog w K G 4 dep (l :: ((if bang then [33] else []) ++ wc)) (itm l bang n .none) := by
  obtain ⟨l1, l2, l3, l4⟩ := let_no l hl
  refine ⟨⟨l, _, rfl, l3, l4⟩, fun {H0 H r d tx t p Q X} u hd ht h => ?_⟩
  have u1 := u.move (p + 1)
  have hd1 := (drop_cons (show tx.drop p = l :: ((if bang then [33] else []) ++ wc ++ t) from hd)).2.2
  rw [List.append_assoc] at hd1
  refine V.run (n := 21) (r := r_read_one) rfl rfl (u.pk V.meth.1 (CallS_up (s_peek V u ?_) (by decide)))
  rw [hd]
  refine u.inc (br_no l1 (brn_no l2 (CallS_up (s_read_marks V u1 hd1 (fun e => bang_ok l (hb e)) (fun c t' e => ?_) fun H2 u2 => ⟨rfl, s_read_repeat V u2 (mark_len (b := bang) hd1) hc ht fun H3 u3 => ?_⟩) (by decide))))
  · rcases hc with ⟨rfl, _⟩ | ⟨rfl, _⟩ | ⟨h0, hf, _⟩
    · rcases ht with rfl | ⟨c', t'', rfl, hc⟩
      · cases e
      · cases e; exact (nx_no c hc).2.2.1
    · cases e; decide
    · cases wc with
      | nil => exact absurd rfl h0
      | cons c' wc => cases e; exact (fig_no c (hf c (.head _))).2.2
  · have hq : Q (itm l bang n .none) H3 := h H3 (by
      rw [List.length_cons, List.length_append, Nat.add_comm _ 1, ← Nat.add_assoc, ← Nat.add_assoc]; exact u3)
    have fin : swps (CPs prog w K G 3) f_read_one_t5 (bodyR Q) (fun τ => X τ.H) ⟨[some (.ref r), some (.int dep), some (.str [l]), some .none, some (.str []), some (.bool bang), some (.int n)], H3⟩ := br_no l1 hq
    exact br_dec (fun z => br_no (hs z) fin) fun z => br_no z fin
end
end Mine
end
section
open PySem PySem.W PyProof.Rows PySem.Calls PyProof.V PySem.Spec PySem.SeqAt
namespace Mine
noncomputable def Fin (dep : Int) (e : List Nat) (k : Nat) : Prop := (dep = 0 ∧ e = [] ∧ k = 0) ∨ (0 < dep ∧ (∃ t, e = 41 :: t) ∧ k = 1)
theorem Rdr.sk {H0 H : HM} {r d : Addr} {tx : List Nat} {p : Nat} (u : Rdr H0 H r d tx p) {C : CP} {k : AV → Addr → Prop} (hm : C.meth 445 "skip" = some (.glob (.ref 442))) (h : k (.glob (.ref 442)) r) : umeW C (.ref r) "skip" H k := ⟨r, 445, d, _, _, rfl, u.hr, u.hd, rfl, hm, h⟩
section
variable {prog : Program} {w : World} {K : Frag} {G : Heap} {H : HM} {Q : AV → HM → Prop} {X : HM → Prop}
variable {H0 : HM} {r d : Addr} {tx : List Nat} {p : Nat}
theorem s_items (V : Wd prog w K G) {N k : Nat} {items : List (List Nat × AV)} {dep : Int} {e : List Nat} (hN : 2 ≤ N) (u : Rdr H0 H r d tx p) (hi : ∀ x ∈ items, One prog w K G N dep x.1 x.2) (hd : tx.drop p = (items.map Prod.fst).flatten ++ e) (he : Fin dep e k) (hz : items.length ≤ 1000)
    (h : ∀ H', Rdr H0 H' r d tx (p + (items.map Prod.fst).flatten.length + k) → Q (.lst (items.map Prod.snd)) H') : CallS prog w K G (N + 1) (.glob (.ref 505)) [.ref r, .int dep] H Q X := by
  refine V.run (n := 22) (r := r_read_items) rfl rfl fun b (hb : H b = none) => ?_
  have hbr : b ≠ r := fun z => by rw [z, u.hr] at hb; cases hb
  have hbd : b ≠ d := fun z => by rw [z, u.hd] at hb; cases hb
  have h0 := u.base.no hb
  have noblank : ∀ (l : List (List Nat × AV)) (q : Nat), (∀ x ∈ l, One prog w K G N dep x.1 x.2) → tx.drop q = (l.map Prod.fst).flatten ++ e → ∀ c t, tx.drop q = c :: t → c ∈ nxs := by
    intro l q hl hq c t hc
    rw [hc] at hq
    cases l with
    | nil =>
      rcases he with ⟨_, rfl, _⟩ | ⟨_, ⟨t', rfl⟩, _⟩
      · cases hq
      · cases hq; decide
    | cons x l =>
      obtain ⟨c', t', e', hc', _⟩ := (hl x (.head _)).1
      rw [List.map_cons, List.flatten_cons, e'] at hq
      cases hq; exact hc'
  have u0 := u.put (b := b) (x := .list []) h0 hbr hbd
  refine u0.sk V.meth.2 (CallS_up (s_skip V u0 (fun c t h => (nx_no c (noblank items p hi hd c t h)).2.2.2.2.1) fun I hI => ?_) hN)
  have key : ∀ (l : List (List Nat × AV)) (q : Nat) (fo : List AV) (H1 : HM) (o3 : Option AV), Rdr H0 H1 r d tx q → H1 b = some (.list fo) → (∀ x ∈ l, One prog w K G N dep x.1 x.2) → tx.drop q = (l.map Prod.fst).flatten ++ e → fo.length + l.length ≤ 1000 →
      (∀ H', Rdr H0 H' r d tx (q + (l.map Prod.fst).flatten.length + k) → Q (.lst (fo ++ l.map Prod.snd)) H') → I ⟨[some (.ref r), some (.int dep), some (.ref b), o3], H1⟩ := by
    intro l
    induction l with
    | nil =>
      intro q fo H1 o3 u1 h1 hl hq hf h
      have hq : tx.drop q = e := hq
      have h : ∀ H', Rdr H0 H' r d tx (q + 0 + k) → Q (.lst (fo ++ [])) H' := h
      rw [List.append_nil] at h
      refine hI _ (u1.pk V.meth.1 (CallS_up (s_peek V u1 ?_) (Nat.le_trans (by decide) hN)))
      rw [hq]
      have u2 : Rdr H0 (H1.del b) r d tx q := u1.cut h0 hbr hbd
      rcases he with ⟨rfl, rfl, rfl⟩ | ⟨hd0, ⟨t, rfl⟩, rfl⟩
      · refine u1.pk V.meth.1 (CallS_up (s_peek V u1 ?_) (Nat.le_trans (by decide) hN))
        rw [hq]
        exact refL_of h1 (h _ u2)
      · refine u1.pk V.meth.1 (CallS_up (s_peek V u1 ?_) (Nat.le_trans (by decide) hN))
        rw [hq]
        refine brn_no (show true = decide ((0 : Int) < dep) from (decide_eq_true hd0).symm) (br_yes hd0 (u1.inc (refL_of (vs := fo) ?_ (h _ ((u1.move (q + 1)).cut h0 hbr hbd)))))
        show (H1.set d _) b = _
        rw [HM.set_ne _ _ hbd]; exact h1
    | cons x l ih =>
      intro q fo H1 o3 u1 h1 hl hq hf h
      obtain ⟨⟨c, t', hc, hcn, hc41⟩, one⟩ := hl x (.head _)
      have hl' : ∀ x ∈ l, One prog w K G N dep x.1 x.2 := fun y m => hl y (.tail _ m)
      have hq' : tx.drop q = x.1 ++ ((l.map Prod.fst).flatten ++ e) := by rw [hq, List.map_cons, List.flatten_cons, List.append_assoc]
      have hq2 := mark_len (b := true) hq'
      have nx : Nx ((l.map Prod.fst).flatten ++ e) := by
        have nb := noblank l _ hl' hq2
        rw [hq2] at nb
        cases ht : (l.map Prod.fst).flatten ++ e with
        | nil => exact .inl rfl
        | cons c t => exact .inr ⟨c, t, rfl, nb c t ht⟩
      refine hI _ (u1.pk V.meth.1 (CallS_up (s_peek V u1 ?_) (Nat.le_trans (by decide) hN)))
      rw [hq', hc]
      refine brn_yes (fun z => z.elim nofun fun z => hc41 (List.cons.inj z).1) (one u1.own hq' nx fun H2 u2 => ?_)
      have u3 := u1.back u2
      have h2 : H2 b = some (.list fo) := u2.base b _ ((HM.del_ne _ hbd).trans h1)
      refine u3.sk V.meth.2 (CallS_up (s_skip V u3 (fun c t h => (nx_no c (noblank l _ hl' hq2 c t h)).2.2.2.2.1) (u3.pk V.meth.1 (CallS_up (s_peek V u3 ?_) (Nat.le_trans (by decide) hN)))) hN)
      have app : swps (CPs prog w K G N) f_read_items_1_t2 (loopR I (nextR (swps (CPs prog w K G N) f_read_items_2 (bodyR Q) fun τ => X τ.H) (bodyR Q))) (fun τ => X τ.H) ⟨[some (.ref r), some (.int dep), some (.ref b), some x.2], H2⟩ := by
        refine ⟨mok h2, refL_of h2 ⟨Nat.lt_of_le_of_lt (Nat.le_of_add_right_le hf) (by decide), ih (q + x.1.length) (fo ++ [x.2]) _ _ (u3.put h0 hbr hbd) same hl' hq2 ?_ fun H' u' => ?_⟩⟩
        · rw [List.length_append]; exact Nat.le_trans (Nat.le_of_eq (Nat.add_right_comm _ 1 _)) hf
        · rw [List.append_assoc]
          refine h H' ?_
          rw [List.map_cons, List.flatten_cons, List.length_append, ← Nat.add_assoc]; exact u'
      rw [hq2]
      rcases nx with hn | ⟨c', t'', hn, hc'⟩
      · rw [hn]; exact app
      · rw [hn]; exact br_no (nx_no c' hc').2.2.2.2.2 app
  exact key items p [] _ none u0 same hi hd (Nat.le_trans (Nat.le_of_eq (Nat.zero_add _)) hz) h
end
end Mine
end
section
open PySem PySem.W PyProof.Rows PySem.Calls PyProof.V PySem.Spec PySem.SeqAt
namespace Mine
section
variable {prog : Program} {w : World} {K : Frag} {G : Heap} {H : HM} {Q : AV → HM → Prop} {X : HM → Prop}
theorem s_in_order (V : Wd prog w K G) {v : AV} (h : Q v H) : CallS prog w K G 1 (.glob (.ref 484)) [v, .str []] H Q X :=
  V.run (n := 20) (r := r_in_order) rfl rfl h
theorem one_group (V : Wd prog w K G) {N : Nat} {items : List (List Nat × AV)} {dep : Int} (hN : 2 ≤ N) (h0 : 0 ≤ dep) (h20 : dep < 20) (hi : ∀ x ∈ items, One prog w K G N (dep + 1) x.1 x.2) (hz : items.length ≤ 1000) :
    One prog w K G (N + 2) dep (40 :: ((items.map Prod.fst).flatten ++ [41])) (itm 40 false (-2) (.lst (items.map Prod.snd))) := by
  refine ⟨⟨40, _, rfl, by decide, by decide⟩, fun {H0 H r d tx t p Q X} u hd ht h => ?_⟩
  have u1 := u.move (p + 1)
  have hd1 := (drop_cons (show tx.drop p = 40 :: ((items.map Prod.fst).flatten ++ [41] ++ t) from hd)).2.2
  rw [List.append_assoc] at hd1
  refine V.run (n := 21) (r := r_read_one) rfl rfl (u.pk V.meth.1 (CallS_up (s_peek V u ?_) (Nat.le_add_left 1 N)))
  rw [hd]
  refine u.inc (br_no (Int.not_le.mpr h20) (s_items V (k := 1) hN u1 hi hd1 (.inr ⟨Int.lt_add_one_of_le h0, ⟨t, rfl⟩, rfl⟩) hz fun H2 u2 => ?_))
  have hd2 : tx.drop (p + 1 + (items.map Prod.fst).flatten.length + 1) = t := by rw [← List.drop_drop, mark_len (b := true) hd1]; rfl
  have hq : ∀ c t', t = c :: t' → c ∉ [33, 60, 62] := fun c t' e => by
    rcases ht with rfl | ⟨c', t'', rfl, hc⟩
    · cases e
    · cases e; exact (nx_no c hc).2.2.1
  refine CallS_up (s_read_marks V (bang := false) (l := 40) u2 hd2 nofun hq fun H3 u3 => ⟨rfl, CallS_up (s_read_repeat V u3 (w' := []) hd2 (.inl ⟨rfl, rfl⟩) ht fun H4 u4 => CallS_up (s_in_order V (h H4 ?_)) (Nat.le_add_left 1 N)) (Nat.le_trans (by decide : 3 ≤ 2 + 1) (Nat.add_le_add_right hN 1))⟩) (Nat.le_trans hN (Nat.le_add_right N 1))
  rw [List.length_cons, List.length_append, ← Nat.add_assoc, ← Nat.add_assoc]
  have e : p + (items.map Prod.fst).flatten.length + [41].length + 1 = p + 1 + (items.map Prod.fst).flatten.length + 1 := by rw [Nat.add_right_comm p 1]; rfl
  rw [e]; exact u4
theorem s_reader (V : Wd prog w K G) {tx : List Nat} (h : ∀ x d H', Rdr H H' x d tx 0 → Q (.ref x) H') : CallS prog w K G 2 (.glob (.ref 445)) [.str tx] H Q X := by
  refine V.cls (d := 1) (C := 445) (fI := 428) (by decide) fun x dx hxd hx hdx => V.run (n := 14) (r := r_TemplateReader_init) rfl rfl ?_
  have k1 : ((H.set dx (.dict [])).set x (.inst 445 dx)) dx = some (.dict []) := by rw [HM.set_ne _ _ hxd.symm]; exact same
  refine ⟨x, 445, dx, [], rfl, same, k1, by decide, rfl, by decide, x, 445, dx, _, rfl, keep same k1 nofun, same, by exact (by decide : 1 ≤ 20), rfl, gn_at, rfl, h x dx _ ?_⟩
  exact ⟨((((HExt.set _ hdx).up hx).up hdx).up hdx), hdx, keep (keep same k1 nofun) same nofun, same⟩
theorem s_parse (V : Wd prog w K G) {N : Nat} {items : List (List Nat × AV)} (hN : 2 ≤ N) (hi : ∀ x ∈ items, One prog w K G N 0 x.1 x.2) (hz : items.length ≤ 1000) (h : ∀ H', HExt H H' → Q (.lst (items.map Prod.snd)) H') :
    CallS prog w K G (N + 2) (.glob (.ref 512)) [.str (items.map Prod.fst).flatten] H Q X :=
  V.run (n := 23) (r := r_parse_template) rfl rfl (CallS_up (s_reader V fun x d H' u => s_items V (k := 0) (e := []) hN u hi (List.append_nil _).symm (.inl ⟨rfl, rfl, rfl⟩) hz fun H'' u' => h _ u'.base) (Nat.le_trans hN (Nat.le_add_right N 1)))
end
end Mine
end
section
open PySem PySem.W PyProof.Rows PySem.Calls PyProof.V PySem.Spec PySem.SeqAt
namespace Mine
noncomputable def mv (l : Nat) (bang : Bool) (at' many : Nat) : Int :=
  if bang then (if many = 0 then at' else if l = 120 then (at' : Int) + Int.fmod (-at') many else (at' : Int) - Int.fmod at' many) else if l = 120 then (at' : Int) + many else (at' : Int) - many
noncomputable def plc (l : Nat) (bang : Bool) (at' many begun : Nat) : Int := if l = 64 then (begun : Int) + many else mv l bang at' many
theorem sng {a b : Nat} (h : [a] = [b]) : a = b := (List.cons.inj h).1
theorem last_idx {n : Nat} : pyIdx (n + 1) (-1) = some n := by
  have e : -1 + ((n + 1 : Nat) : Int) = n := (Int.add_comm _ _).trans (show (n : Int) + 1 + -1 = n from Int.add_neg_cancel_right _ 1)
  unfold pyIdx
  rw [if_neg (by decide), e, if_pos (Int.natCast_nonneg n)]; rfl
theorem last_of {pre : List Nat} {b : Nat} {H : HM} {s : Addr} {Q : AV → Prop} (hs : H s = some (.list (nn (pre ++ [b])))) (h : Q (.int (b : Int))) : subW (.ref s) (.int (-1)) H Q :=
  ⟨_, pre.length, .int b, hs, by rw [nn_len, List.length_append]; exact last_idx, by rw [nn_get, List.getElem?_concat_length]; rfl, h⟩
theorem div_moves {a m : Nat} (ha : a < 64) (hm : m < 5) (h : m ≠ 0) : ((a : Int) + m - 1).fdiv m * m = a + Int.fmod (-(a : Int)) m ∧ (a : Int).fdiv m * m = a - Int.fmod a m :=
  (by decide +kernel : ∀ a : Nat, a < 64 → ∀ m : Nat, m < 5 → m ≠ 0 → ((a : Int) + m - 1).fdiv m * m = a + Int.fmod (-(a : Int)) m ∧ (a : Int).fdiv m * m = a - Int.fmod a m) a ha m hm h
section
variable {prog : Program} {w : World} {K : Frag} {G : Heap} {H : HM} {Q : AV → HM → Prop} {X : HM → Prop}
theorem s_moved (V : Wd prog w K G) {l a m : Nat} {bang : Bool} (h : Q (.int (mv l bang a m)) H) : CallS prog w K G 1 (.glob (.ref 526)) [.int a, .str [l], .bool bang, .int m] H Q X := by
  unfold mv at h
  cases bang with
  | false =>
    refine V.run (n := 24) (r := r_moved) rfl rfl (br_dec (fun z => ?_) fun z => ?_)
    · rw [if_neg nofun, if_pos (sng z)] at h; exact h
    · rw [if_neg nofun, if_neg (fun e => z (congrArg (fun x => [x]) e))] at h; exact h
  | true =>
    rw [if_pos rfl] at h
    refine V.run (n := 24) (r := r_moved) rfl rfl (br_dec (fun z => ?_) fun z => ?_)
    · rw [if_pos (Int.ofNat.inj z)] at h; exact h
    · have hm : (m : Int) ≠ 0 := z
      rw [if_neg (fun e => z (congrArg Int.ofNat e))] at h
      refine br_dec (fun y => ⟨hm, ?_⟩) fun y => ⟨hm, ?_⟩
      · rw [if_pos (sng y)] at h; exact h
      · rw [if_neg (fun e => y (congrArg (fun x => [x]) e))] at h; exact h
theorem s_law_moved (V : Wd prog w K G) {l a m begun : Nat} {bang : Bool} (hl : l ∈ [120, 88, 64]) (ha : a < 64) (hm : m < 5) (h : Q (.int (plc l bang a m begun)) H) : CallS prog w K G 1 (.glob (.ref 914)) [.str [l], .int a, .int m, .bool bang, .int begun] H Q X := by
  unfold plc mv at h
  refine V.run (n := 67) (r := r_law_moved) rfl rfl (br_dec (fun z => ?_) fun z => ?_)
  · rw [if_pos (sng z)] at h; exact h
  have ne : ∀ {b}, ¬ [l] = [b] → ¬ l = b := fun z e => z (congrArg (fun x => [x]) e)
  rw [if_neg (ne z)] at h
  have big : ∀ {P : Prop}, (m : Int) ≠ 0 → P → (m : Int) ≠ 0 ∧ (m : Int).natAbs < 2 ^ 64 ∧ P := fun h0 p => ⟨h0, Nat.lt_trans hm (by decide), p⟩
  have mo : ∀ {x : Int}, IntMulOk x m := mulR (Nat.lt_trans hm (by decide))
  refine br_dec (fun y => ?_) fun y => ?_
  · rw [if_pos (sng y), if_pos (sng y)] at h
    cases bang with
    | false => exact h
    | true =>
      rw [if_pos rfl] at h
      refine br_dec (fun x => ?_) fun x => big x ⟨mo, ?_⟩
      · rw [if_pos (Int.ofNat.inj x)] at h; exact h
      · have hm0 : m ≠ 0 := fun e => x (congrArg Int.ofNat e)
        rw [if_neg hm0, ← (div_moves ha hm hm0).1] at h; exact h
  · rw [if_neg (ne y), if_neg (ne y)] at h
    cases bang with
    | false => exact h
    | true =>
      rw [if_pos rfl] at h
      refine br_dec (fun x => ?_) fun x => big x ⟨mo, ?_⟩
      · rw [if_pos (Int.ofNat.inj x)] at h; exact h
      · have hm0 : m ≠ 0 := fun e => x (congrArg Int.ofNat e)
        rw [if_neg hm0, ← (div_moves ha hm hm0).2] at h; exact h
end
end Mine
end
section
open PySem PySem.W PyProof.Rows PySem.Calls PyProof.V PySem.Spec PySem.SeqAt
namespace Mine
noncomputable def Go (place : Int) (n : Nat) (D : Prop) (k : Nat → Prop) : Prop := ((place < 0 ∨ (n : Int) < place) ∧ D) ∨ ∃ q : Nat, place = q ∧ q ≤ n ∧ k q
noncomputable def Ct (n : Int) (many : Nat) : Prop := (n = -2 ∧ many = 1) ∨ n = (many : Int)
section
variable {prog : Program} {w : World} {K : Frag} {G : Heap} {H : HM} {Q : AV → HM → Prop} {X : HM → Prop}
variable {H0 : HM} {A : Ad} {f : Addr} {data : List Nat} {pos : Nat} {found : List AV} {pre : List Nat} {begun steps : Nat}
theorem s_unpack_move (V : Wd prog w K G) {l many : Nat} {bang : Bool} {n : Int} (u : Un H0 H A f data pos found (pre ++ [begun]) steps) (hn : Ct n many)
    (h : Go (plc l bang pos many begun) data.length (∀ H', HExt H0 H' → X H') fun q => ∀ H', Un H0 H' A f data q found (pre ++ [begun]) steps → Q .none H') : CallS prog w K G 2 (.glob (.ref 630)) [.ref A.a, itm l bang n .none] H Q X := by
  have fin : ∀ place : Int, place = plc l bang pos many begun → swps (CPs prog w K G 1) f_unpack_move_t4 (bodyR Q) (fun τ => X τ.H) ⟨[some (.ref A.a), some (itm l bang n .none), some (.str [l]), some (.str []), some (.bool bang), some (.int n), some .none, some (.int many), some (.int place)], H⟩ := by
    intro place hp
    rw [← hp] at h
    have die : ∀ R : Fl → St → Prop, X H → swps (CPs prog w K G 1) f_unpack_move_t2 R (fun τ => X τ.H) ⟨[some (.ref A.a), some (itm l bang n .none), some (.str [l]), some (.str []), some (.bool bang), some (.int n), some .none, some (.int many), some (.int place)], H⟩ :=
      fun R h => ⟨sl_of (Nat.le_of_ble_eq_true rfl), sl_of (Nat.le_of_ble_eq_true rfl), h⟩
    rcases h with ⟨h | h, k⟩ | ⟨q, rfl, hq, k⟩
    · exact br_yes h (br_yes h (die _ (k _ u.base)))
    · refine br_dec (fun z => br_yes z (die _ (k _ u.base))) fun z => u.get unD_data rfl ?_
      rw [← nn_len data] at h
      exact br_yes h (die _ (k _ u.base))
    · have z := Int.not_lt.mpr (Int.natCast_nonneg q)
      rw [← nn_len data] at hq
      have z2 := Int.not_lt.mpr (Int.ofNat_le.mpr hq)
      generalize he : (q : Int) = x at z z2
      refine br_no z (u.get unD_data rfl (br_no z2 ?_))
      subst he
      exact u.put (by exact (by decide : 6 ≤ 20)) rfl gn_at (k _ (u.setD (unD data f A q steps)))
  have mid : swps (CPs prog w K G 1) f_unpack_move_t5 (bodyR Q) (fun τ => X τ.H) ⟨[some (.ref A.a), some (itm l bang n .none), some (.str [l]), some (.str []), some (.bool bang), some (.int n), some .none, some (.int many), none], H⟩ := by
    refine br_dec (fun z => ?_) fun z => ?_
    · exact u.get unD_starts rfl (last_of u.hs (fin ((begun : Int) + many) (by rw [plc, if_pos (sng z)])))
    · exact u.get unD_at rfl (s_moved V (fin (mv l bang pos many) (by rw [plc, if_neg (fun e => z (congrArg (fun x => [x]) e))])))
  refine V.run (n := 32) (r := r_unpack_move) rfl rfl ⟨rfl, ?_⟩
  rcases hn with ⟨rfl, rfl⟩ | rfl
  · exact mid
  · exact mid
end
end Mine
end
section
open PySem PySem.W PyProof.Rows PySem.Calls PyProof.V PySem.Spec PySem.SeqAt
namespace Mine
section
variable {prog : Program} {w : World} {K : Frag} {G : Heap} {H : HM} {Q : AV → HM → Prop} {X : HM → Prop}
variable {H0 : HM} {A : Ad} {f : Addr} {data : List Nat} {pos : Nat} {found : List AV} {pre : List Nat} {begun steps : Nat}
noncomputable def Base (c : Int) (pos begun base : Nat) : Prop := (c = 0 ∧ base = pos) ∨ (c = -1 ∧ base = 0) ∨ (c = -2 ∧ base = begun) ∨ (c = 2 ∧ base = 0)
theorem s_unpack_dot (V : Wd prog w K G) {c : Int} {base : Nat} (u : Un H0 H A f data pos found (pre ++ [begun]) steps) (hp : pre = [] ∨ pre = [0]) (hf : found.length ≤ 1000) (hc : Base c pos begun base)
    (h : ∀ H', Un H0 H' A f data pos (found ++ [.int ((pos : Int) - base)]) (pre ++ [begun]) steps → Q .none H') : CallS prog w K G 2 (.glob (.ref 637)) [.ref A.a, itm 46 false c .none] H Q X := by
  have fin : ∀ o3 : Option AV, swps (CPs prog w K G 1) f_unpack_dot_t5 (bodyR Q) (fun τ => X τ.H) ⟨[some (.ref A.a), some (itm 46 false c .none), some (.int base), o3], H⟩ := fun o3 =>
    u.get unD_at rfl (s_note_value V u (Nat.lt_of_le_of_lt hf (by decide)) h)
  rcases hc with ⟨rfl, rfl⟩ | ⟨rfl, rfl⟩ | ⟨rfl, rfl⟩ | ⟨rfl, rfl⟩
  · exact V.run (n := 33) (r := r_unpack_dot) rfl rfl ⟨_, by decide, by decide, rfl, u.get unD_at rfl (fin _)⟩
  · exact V.run (n := 33) (r := r_unpack_dot) rfl rfl ⟨_, by decide, by decide, rfl, _, by decide, by decide, rfl, fin _⟩
  · refine V.run (n := 33) (r := r_unpack_dot) rfl rfl ⟨_, by decide, by decide, rfl, _, by decide, by decide, rfl, _, by decide, by decide, rfl, u.get unD_starts rfl ⟨_, u.hs, br_yes ?_ (u.get unD_starts rfl (last_of u.hs (fin _)))⟩⟩
    rw [nn_len, List.length_append]; exact Int.ofNat_le.mpr (Nat.le_add_left 1 _)
  · rcases hp with rfl | rfl
    · exact V.run (n := 33) (r := r_unpack_dot) rfl rfl ⟨_, by decide, by decide, rfl, _, by decide, by decide, rfl, _, by decide, by decide, rfl, _, by decide, by decide, rfl, u.get unD_starts rfl ⟨_, u.hs, fin _⟩⟩
    · exact V.run (n := 33) (r := r_unpack_dot) rfl rfl ⟨_, by decide, by decide, rfl, _, by decide, by decide, rfl, _, by decide, by decide, rfl, _, by decide, by decide, rfl, u.get unD_starts rfl ⟨_, u.hs, u.get unD_starts rfl ⟨_, 0, .int (0 : Nat), u.hs, rfl, rfl, fin _⟩⟩⟩
end
end Mine
end
section
open PySem PySem.W PyProof.Rows PySem.Calls PyProof.V PySem.Spec PySem.SeqAt
namespace Mine
theorem mv_no : ∀ l ∈ [120, 88, 64], ¬ [l] = [40] ∧ ¬ [l] = [47] ∧ l ∉ [97, 65, 90] ∧ l ∉ [98, 66, 104, 72] := by decide
section
variable {prog : Program} {w : World} {K : Frag} {G : Heap} {H : HM} {Q : AV → HM → Prop} {X : HM → Prop}
variable {H0 : HM} {A : Ad} {f : Addr} {data : List Nat} {pos : Nat} {found : List AV} {starts pre : List Nat} {begun steps : Nat}
theorem s_item_move (V : Wd prog w K G) {l many : Nat} {bang : Bool} {n : Int} (hl : l ∈ [120, 88, 64]) (u : Un H0 H A f data pos found (pre ++ [begun]) steps) (hs : steps ≤ 1000) (hn : Ct n many)
    (h : Go (plc l bang pos many begun) data.length (∀ H', HExt H0 H' → X H') fun q => ∀ H', Un H0 H' A f data q found (pre ++ [begun]) (steps + 1) → Q .none H') : CallS prog w K G 3 (.glob (.ref 665)) [.ref A.a, itm l bang n .none] H Q X := by
  obtain ⟨n1, n2, n3, n4⟩ := mv_no l hl
  exact V.run (n := 36) (r := r_unpack_item) rfl rfl (CallS_up (s_note_step V u (Nat.lt_of_le_of_lt hs (by decide)) fun H1 u1 => ⟨_, by decide, by decide, rfl, br_no n1 (br_no n2 (br_no n3 (br_no n4 (br_yes hl (s_unpack_move V u1 hn h)))))⟩) (by decide))
theorem s_item_dot (V : Wd prog w K G) {c : Int} {base : Nat} (u : Un H0 H A f data pos found (pre ++ [begun]) steps) (hs : steps ≤ 1000) (hp : pre = [] ∨ pre = [0]) (hf : found.length ≤ 1000) (hc : Base c pos begun base)
    (h : ∀ H', Un H0 H' A f data pos (found ++ [.int ((pos : Int) - base)]) (pre ++ [begun]) (steps + 1) → Q .none H') : CallS prog w K G 3 (.glob (.ref 665)) [.ref A.a, itm 46 false c .none] H Q X :=
  V.run (n := 36) (r := r_unpack_item) rfl rfl (CallS_up (s_note_step V u (Nat.lt_of_le_of_lt hs (by decide)) fun H1 u1 => ⟨_, by decide, by decide, rfl, s_unpack_dot V u1 hp hf hc h⟩) (by decide))
theorem s_item_run (V : Wd prog w K G) {lt : Nat} {rd : List Nat → Option (Nat × Nat)} (hl : Rdn lt rd) (u : Un H0 H A f data 0 [] starts 0) (hz : data.length ≤ 100)
    (h : opt (all rd data.length data) (∀ H', HExt H0 H' → X H') (fun r => ∀ H' st', Un H0 H' A f data data.length (r.map fun n : Nat => .int (wrap64 n)) starts st' → Q .none H')) : CallS prog w K G 4 (.glob (.ref 665)) [.ref A.a, itm lt false (-1) .none] H Q X := by
  rcases hl with ⟨rfl, rfl⟩ | ⟨rfl, rfl⟩
  · exact V.run (n := 36) (r := r_unpack_item) rfl rfl (CallS_up (s_note_step V u (by decide) fun H1 u1 => ⟨_, by decide, by decide, rfl, s_running V (.inl ⟨rfl, rfl⟩) u1 (Nat.zero_le _) hz (by decide) (Nat.zero_le _) h⟩) (by decide))
  · exact V.run (n := 36) (r := r_unpack_item) rfl rfl (CallS_up (s_note_step V u (by decide) fun H1 u1 => ⟨_, by decide, by decide, rfl, s_running V (.inr ⟨rfl, rfl⟩) u1 (Nat.zero_le _) hz (by decide) (Nat.zero_le _) h⟩) (by decide))
theorem s_item_uu (V : Wd prog w K G) {part : List Nat} {wd : Nat} (u : Un H0 H A f data 0 [] starts 0) (hw : 0 < wd ∧ wd ≤ 63) (hz : data.length ≤ 100) (hp : part.length ≤ 100) (ho : ∀ o ∈ part, o < 256)
    (hl : data = lns wd (nch wd part.length) part) (h : ∀ H', Un H0 H' A f data data.length [.str part] starts 1 → Q .none H') : CallS prog w K G 6 (.glob (.ref 665)) [.ref A.a, itm 117 false (-2) .none] H Q X :=
  V.run (n := 36) (r := r_unpack_item) rfl rfl (CallS_up (s_note_step V u (by decide) fun H1 u1 => ⟨_, by decide, by decide, rfl, s_unpack_uu V u1 hw hz hp ho hl (Nat.zero_le _) h⟩) (by decide))
theorem s_uitems_one (V : Wd prog w K G) {N : Nat} {x v : AV} (h : CallS prog w K G N (.glob (.ref 665)) [x, v] H (fun _ H' => Q .none H') X) : CallS prog w K G (N + 1) (.glob (.ref 672)) [x, .lst [v]] H Q X :=
  V.run (n := 37) (r := r_unpack_items) rfl rfl ⟨by exact (by decide : 1 ≤ 1000000), h⟩
theorem s_item_group (V : Wd prog w K G) {N : Nat} {inner : AV} {R : Nat → List AV → Nat → Prop} {D : Prop} (hN : 1 ≤ N) (u : Un H0 H A f data pos found starts steps) (hs : steps ≤ 1000) (hz : starts.length ≤ 1000)
    (hin : ∀ (H1 : HM) (Q' : AV → HM → Prop) (X' : HM → Prop), Un H0 H1 A f data pos found (starts ++ [pos]) (steps + 2) → (∀ H' p' fo' st', Un H0 H' A f data p' fo' (starts ++ [pos]) st' → R p' fo' st' → Q' .none H') → (∀ H', HExt H0 H' → D → X' H') → CallS prog w K G N (.glob (.ref 672)) [.ref A.a, inner] H1 Q' X')
    (h1 : ∀ H' p' fo' st', Un H0 H' A f data p' fo' starts st' → R p' fo' st' → Q .none H') (h2 : ∀ H', HExt H0 H' → D → X H') : CallS prog w K G (N + 2) (.glob (.ref 665)) [.ref A.a, itm 40 false (-2) inner] H Q X := by
  refine V.run (n := 36) (r := r_unpack_item) rfl rfl (CallS_up (s_note_step V u (Nat.lt_of_le_of_lt hs (by decide)) fun H1 u1 => ⟨_, by decide, by decide, rfl, ?_⟩) (Nat.le_add_left 1 N))
  refine V.run (n := 34) (r := r_unpack_group) rfl rfl ⟨rfl, by decide, by decide, by decide, ?_⟩
  refine CallS_up (s_note_step V u1 (Nat.lt_of_le_of_lt (Nat.succ_le_succ hs) (by decide)) fun H2 u2 => ?_) hN
  refine u2.get unD_starts rfl ⟨mok u2.hs, u2.get unD_at rfl (refL_of u2.hs ⟨?_, ?_⟩)⟩
  · rw [nn_len]; exact Nat.lt_of_le_of_lt hz (by decide)
  · have u3 := u2.setS (starts ++ [pos])
    rw [nn_app] at u3
    refine hin _ _ _ u3 (fun H' p' fo' st' u4 hR => u4.get unD_starts rfl ⟨mok u4.hs, refL_of u4.hs ⟨nn starts, .int pos, nn_app _ _, ?_⟩⟩) h2
    have u5 := u4.setS starts
    exact h1 _ p' fo' st' u5 hR
end
end Mine
end
section
open PySem PySem.W PyProof.Rows PySem.Calls PyProof.V PySem.Spec PySem.SeqAt
namespace Mine
structure Ini (H0 H : HM) (x dx C : Addr) (fs : List (Str × AV)) : Prop where
  base : HExt H0 H
  nx : H0 x = none
  nd : H0 dx = none
  hx : H x = some (.inst C dx)
  hd : H dx = some (.dict fs)
section
variable {H0 H : HM} {x dx C : Addr} {fs : List (Str × AV)}
theorem Ini.mk0 (hxd : x ≠ dx) (nx : H x = none) (nd : H dx = none) : Ini H ((H.set dx (.dict [])).set x (.inst C dx)) x dx C [] :=
  ⟨(HExt.set _ nd).up nx, nx, nd, same, by rw [HM.set_ne _ _ hxd.symm]; exact same⟩
theorem Ini.put (u : Ini H0 H x dx C fs) (fs' : List (Str × AV)) : Ini H0 (H.set dx (.dict fs')) x dx C fs' := ⟨u.base.up u.nd, u.nx, u.nd, keep u.hx u.hd nofun, same⟩
theorem Ini.new (u : Ini H0 H x dx C fs) {b : Addr} {o : AO} (h : H b = none) : Ini H0 (H.set b o) x dx C fs :=
  ⟨u.base.up (u.base.no h), u.nx, u.nd, HExt.set o h _ _ u.hx, HExt.set o h _ _ u.hd⟩
end
theorem le20 {n : Nat} (h : Nat.ble n 20 = true) : n ≤ 20 := Nat.le_of_ble_eq_true h
section
variable {prog : Program} {w : World} {K : Frag} {G : Heap} {H : HM} {Q : AV → HM → Prop} {X : HM → Prop}
theorem s_unpacker (V : Wd prog w K G) {data : List Nat} {lm ld : Addr} (hl : H lm = some (.inst 695 ld)) (hld : H ld = some (.dict limD))
    (h : ∀ A f H', Un H H' A f data 0 [] [0] 0 → Q (.ref A.a) H') : CallS prog w K G 2 (.glob (.ref 551)) [.lst (nn data), .ref lm] H Q X := by
  refine V.cls (d := 1) (C := 551) (fI := 548) (by decide) fun x dx hxd nx nd => V.run (n := 25) (r := r_Unpacker_init) rfl rfl ?_
  have u0 : Ini H _ x dx 551 [] := Ini.mk0 hxd nx nd
  refine ⟨x, 551, dx, _, rfl, u0.hx, u0.hd, le20 rfl, rfl, by decide, ?_⟩
  have u1 := u0.put (setF "data" (.lst (nn data)) [])
  refine ⟨x, 551, dx, _, rfl, u1.hx, u1.hd, le20 rfl, rfl, by decide, fun f nf => ?_⟩
  have u2 := (u1.put (setF "at" (.int (0 : Nat)) (setF "data" (.lst (nn data)) []))).new (o := .list []) nf
  refine ⟨x, 551, dx, _, rfl, u2.hx, u2.hd, le20 rfl, rfl, by decide, fun s ns => ?_⟩
  have u3 := (u2.put (setF "found" (.ref f) (setF "at" (.int (0 : Nat)) (setF "data" (.lst (nn data)) [])))).new (o := .list (nn [0])) ns
  refine ⟨x, 551, dx, _, rfl, u3.hx, u3.hd, le20 rfl, rfl, by decide, ?_⟩
  have u4 := u3.put (setF "starts" (.ref s) (setF "found" (.ref f) (setF "at" (.int (0 : Nat)) (setF "data" (.lst (nn data)) []))))
  refine ⟨x, 551, dx, _, rfl, u4.hx, u4.hd, le20 rfl, rfl, by decide, ?_⟩
  have u5 := u4.put (setF "limits" (.ref lm) (setF "starts" (.ref s) (setF "found" (.ref f) (setF "at" (.int (0 : Nat)) (setF "data" (.lst (nn data)) [])))))
  refine ⟨x, 551, dx, _, rfl, u5.hx, u5.hd, le20 rfl, rfl, by decide, ?_⟩
  have f2 := keep (x := .list []) (z := .dict (setF "found" (.ref f) (setF "at" (.int (0 : Nat)) (setF "data" (.lst (nn data)) [])))) same u2.hd nofun
  have f5 := keep (z := .dict (unD data f ⟨x, dx, s, lm, ld⟩ 0 0)) (keep (z := .dict (setF "limits" (.ref lm) (setF "starts" (.ref s) (setF "found" (.ref f) (setF "at" (.int (0 : Nat)) (setF "data" (.lst (nn data)) [])))))) (keep (z := .dict (setF "starts" (.ref s) (setF "found" (.ref f) (setF "at" (.int (0 : Nat)) (setF "data" (.lst (nn data)) []))))) (HExt.set (.list (nn [0])) ns _ _ f2) u3.hd nofun) u4.hd nofun) u5.hd nofun
  have s5 := keep (x := .list (nn [0])) (z := .dict (unD data f ⟨x, dx, s, lm, ld⟩ 0 0)) (keep (z := .dict (setF "limits" (.ref lm) (setF "starts" (.ref s) (setF "found" (.ref f) (setF "at" (.int (0 : Nat)) (setF "data" (.lst (nn data)) [])))))) (keep (z := .dict (setF "starts" (.ref s) (setF "found" (.ref f) (setF "at" (.int (0 : Nat)) (setF "data" (.lst (nn data)) []))))) same u3.hd nofun) u4.hd nofun) u5.hd nofun
  have u6 := u5.put (unD data f ⟨x, dx, s, lm, ld⟩ 0 0)
  exact ⟨rfl, h ⟨x, dx, s, lm, ld⟩ f _ ⟨u6.base, nd, (u1.put _).base.no nf, (u2.put _).base.no ns, u6.hx, u6.hd, f5, s5, u6.base _ _ hl, u6.base _ _ hld, (fun (e : f = s) => by subst e; exact absurd (f2.symm.trans ns) nofun), (fun (e : dx = ld) => by subst e; exact absurd (hld.symm.trans nd) nofun)⟩⟩
end
end Mine
end
section
open PySem PySem.W PyProof.Rows PySem.Calls PyProof.V PySem.Spec PySem.SeqAt
namespace Mine
noncomputable def URun (prog : Program) (w : World) (K : Frag) (G : Heap) (M : Nat) (data : List Nat) (v : AV) (R : List AV → Prop) (D : Prop) : Prop :=
  ∀ (H0 H1 : HM) (A : Ad) (f : Addr) (Q : AV → HM → Prop) (X : HM → Prop), Un H0 H1 A f data 0 [] [0] 0 → (∀ H' p fo st', Un H0 H' A f data p fo [0] st' → R fo → Q .none H') → (∀ H', HExt H0 H' → D → X H') → CallS prog w K G M (.glob (.ref 672)) [.ref A.a, v] H1 Q X
theorem and_small {l : List Nat} (ho : ∀ o ∈ l, o < 256) : l.map (fun o : Nat => AV.int (Builtin.bitAnd (o : Int) 255)) = nn l :=
  List.map_congr_left fun o m => by rw [and255, Nat.mod_eq_of_lt (ho o m)]
theorem ord_comp {C : CP} {l : List Nat} {H : HM} {Q : List AV → HM → Prop} (hz : l.length ≤ 100000) (ho : ∀ o ∈ l, o < 256) (h : Q (nn l) H) :
    (l.map fun c => AV.str [c]).length ≤ 1000000 ∧ compW (fun v H1 k => ewp C (.bin .BitAnd (.bi .ord (.cons (.loc 0) .nil)) (.int 255)) (fun y τ => k y τ.H) (fun _ => False) ⟨[some v], H1⟩) (l.map fun c => AV.str [c]) H Q :=
  ⟨by rw [List.length_map]; exact Nat.le_trans hz (by decide), compW_pure (g := fun o : Nat => AV.int (Builtin.bitAnd (o : Int) 255)) (fun n hn k hk => ⟨n, rfl, hk⟩) (by rw [and_small ho]; exact h)⟩
section
variable {prog : Program} {w : World} {K : Frag} {G : Heap} {H : HM} {Q : AV → HM → Prop} {X : HM → Prop}
theorem s_unpack_values (V : Wd prog w K G) {N M : Nat} {items : List (List Nat × AV)} {data : List Nat} {lm ld : Addr} {R : List AV → Prop} {D : Prop} (hN : 2 ≤ N) (hi : ∀ x ∈ items, One prog w K G N 0 x.1 x.2) (hz : items.length ≤ 1000) (hd : data.length ≤ 100) (ho : ∀ o ∈ data, o < 256) (hM : N + 2 ≤ M)
    (hl : H lm = some (.inst 695 ld)) (hld : H ld = some (.dict limD)) (hrun : URun prog w K G M data (.lst (items.map Prod.snd)) R D)
    (h1 : ∀ H' fo, HExt H H' → R fo → Q (.lst fo) H') (h2 : ∀ H', HExt H H' → D → X H') : CallS prog w K G (M + 1) (.glob (.ref 677)) [.str (items.map Prod.fst).flatten, .str data, .ref lm] H Q X := by
  refine V.run (n := 38) (r := r_unpack_values) rfl rfl ⟨nofun, ord_comp (Nat.le_trans hd (by decide)) ho (CallS_up (s_unpacker V hl hld fun A f H1 u => ?_) (Nat.le_trans (Nat.le_trans hN (Nat.le_add_right N 2)) hM))⟩
  refine CallS_up (s_parse V hN hi hz fun H2 e2 => ?_) hM
  exact hrun _ _ _ _ _ _ (u.ext e2) (fun H' p fo st' u' hR => u'.get unD_found rfl (refL_of u'.hf (h1 _ _ (u'.base.del u'.nf) hR))) h2
theorem s_law_unpacked (V : Wd prog w K G) {N M : Nat} {items : List (List Nat × AV)} {data : List Nat} {R : List AV → Prop} {D : Prop} (hN : 2 ≤ N) (hi : ∀ x ∈ items, One prog w K G N 0 x.1 x.2) (hz : items.length ≤ 1000) (hd : data.length ≤ 100) (ho : ∀ o ∈ data, o < 256) (hM : N + 2 ≤ M) (hM5 : 5 ≤ M + 1)
    (hrun : URun prog w K G M data (.lst (items.map Prod.snd)) R D)
    (h1 : ∀ H' fo, HExt H H' → R fo → Q (.lst fo) H') (h2 : ∀ H', HExt H H' → D → Q .none H') : CallS prog w K G (M + 2) (.glob (.ref 873)) [.str (items.map Prod.fst).flatten, .lst (nn data)] H Q X := by
  refine V.run (n := 60) (r := r_law_unpacked) rfl rfl ⟨rfl, nofun, ?_, compW_pure (g := fun c : Nat => .str [c]) (fun n hn k hk => ⟨Int.natCast_nonneg n, Int.ofNat_le.mpr (Nat.le_trans (Nat.le_of_lt (ho n hn)) (by decide)), hk⟩) ⟨rfl, _, congrArg AV.lst (chr_join data), ?_, ?_⟩⟩
  · rw [nn_len]; exact Nat.le_trans hd (by decide)
  · rw [sum_one]; exact Nat.le_trans hd (by decide)
  rw [flat_one]
  refine CallS_up (V.lim fun x dx hxd nx nd => ?_) hM5
  have e : HExt H ((H.set dx (.dict limD)).set x (.inst 695 dx)) := (HExt.set _ nd).up nx
  exact s_unpack_values (H := (H.set dx (.dict limD)).set x (.inst 695 dx)) V hN hi hz hd ho hM same ((HM.set_ne _ _ hxd.symm).trans same) hrun (fun H' fo e' hR => h1 _ _ (e.trans e') hR) (fun H' e' hD => h2 _ (e.trans e') hD)
end
end Mine
end
section
open PySem PySem.W PyProof.Rows PySem.Calls PyProof.V PySem.Spec PySem.SeqAt
namespace Mine
section
variable {prog : Program} {w : World} {K : Frag} {G : Heap} {H : HM} {Q : AV → HM → Prop} {X : HM → Prop}
variable {H0 : HM} {A : Ad} {o : Addr} {vals : List AV} {out : List Nat} {pos : Nat} {starts : List Nat} {steps : Nat}
theorem s_values_left (V : Wd prog w K G) (u : Pk H0 H A o vals out pos starts steps) (hp : pos ≤ vals.length) (h : Q (.int ((vals.length - pos : Nat) : Int)) H) : CallS prog w K G 1 (.glob (.ref 727)) [.ref A.a] H Q X :=
  V.run (n := 40) (r := r_values_left) rfl rfl (u.get pkD_values rfl (u.get pkD_at rfl (by
    show Q (.int ((vals.length : Int) - pos)) H
    rw [← Int.ofNat_sub hp]; exact h)))
theorem s_count_step (V : Wd prog w K G) (u : Pk H0 H A o vals out pos starts steps) (hs : steps < 1000000) (h : ∀ H', Pk H0 H' A o vals out pos starts (steps + 1) → Q .none H') : CallS prog w K G 1 (.glob (.ref 837)) [.ref A.a] H Q X := by
  have u' := u.setD (pkD o vals A pos (steps + 1))
  refine V.run (n := 54) (r := r_count_step) rfl rfl (u.get pkD_steps rfl ?_)
  refine ⟨A.a, 716, A.d, _, rfl, u.ha, u.hd, (by exact (by decide : 7 ≤ 20)), rfl, gn_steps, ?_⟩
  show getaW (.ref A.a) "steps" (H.set A.d (.dict (pkD o vals A pos (steps + 1)))) _
  exact u'.get pkD_steps rfl (u'.get pkD_limits rfl (u'.lim lim_steps rfl (br_no (Int.not_lt.mpr (Int.ofNat_le.mpr hs)) (h _ u'))))
theorem s_next_value (V : Wd prog w K G) (u : Pk H0 H A o vals out pos starts steps) {v : AV} (hv : vals[pos]? = some v) (h : ∀ H', Pk H0 H' A o vals out (pos + 1) starts steps → Q v H') : CallS prog w K G 1 (.glob (.ref 734)) [.ref A.a] H Q X := by
  have hp : pos < vals.length := (List.getElem?_eq_some_iff.mp hv).1
  have u' := u.setD (pkD o vals A (pos + 1) steps)
  refine V.run (n := 41) (r := r_next_value) rfl rfl (u.get pkD_length rfl (u.get pkD_at rfl (u.get pkD_values rfl (br_no (Int.not_le.mpr (Int.ofNat_lt.mpr hp)) (u.get pkD_at rfl ?_)))))
  refine ⟨A.a, 716, A.d, _, rfl, u.ha, u.hd, (by exact (by decide : 7 ≤ 20)), rfl, gn_at, ?_⟩
  show getaW (.ref A.a) "values" (H.set A.d (.dict (pkD o vals A (pos + 1) steps))) _
  refine u'.get pkD_values rfl (u'.get pkD_at rfl ⟨pos, v, ?_, hv, h _ u'⟩)
  rw [show ((pos + 1 : Nat) : Int) - 1 = (pos : Int) from (show (pos : Int) + 1 - 1 = pos from Int.add_sub_cancel _ 1)]
  exact idx_nat hp
theorem s_next_number (V : Wd prog w K G) (u : Pk H0 H A o vals out pos starts steps) {i : Int} (hv : vals[pos]? = some (.int i)) (h : ∀ H', Pk H0 H' A o vals out (pos + 1) starts steps → Q (.int i) H') : CallS prog w K G 2 (.glob (.ref 741)) [.ref A.a] H Q X := by
  refine V.run (n := 42) (r := r_next_number) rfl rfl (s_next_value V u hv fun H1 u1 => u1.get pkD_limits rfl ?_)
  exact V.run (n := 2) (r := r_to_number) rfl rfl (Or.inl ⟨rfl, Or.inl ⟨i, rfl, h _ u1⟩⟩)
theorem s_next_codes (V : Wd prog w K G) (u : Pk H0 H A o vals out pos starts steps) {l : List Nat} (hv : vals[pos]? = some (.str l)) (hz : l.length ≤ 100000) (ho : ∀ o ∈ l, o < 256) (h : ∀ H', Pk H0 H' A o vals out (pos + 1) starts steps → Q (.lst (nn l)) H') : CallS prog w K G 2 (.glob (.ref 746)) [.ref A.a] H Q X := by
  refine V.run (n := 43) (r := r_next_codes) rfl rfl ⟨nofun, s_next_value V u hv fun H1 u1 => ?_⟩
  refine V.run (n := 1) (r := r_to_text) rfl rfl (Or.inl ⟨rfl, Or.inr ⟨l, rfl, ?_⟩⟩)
  refine Or.inr ⟨157, l, rfl, rfl, V.ni, ?_⟩
  exact ord_comp hz ho (h _ u1)
theorem s_count_of_item (V : Wd prog w K G) {l many : Nat} {b : Bool} {n : Int} {i : AV} {m : Int} (hn : Ct n many) (h : Q (.int many) H) : CallS prog w K G 1 (.glob (.ref 774)) [itm l b n i, .int m] H Q X := by
  rcases hn with ⟨rfl, rfl⟩ | rfl
  · exact V.run (n := 47) (r := r_count_of_item) rfl rfl ⟨_, by decide, by decide, rfl, _, by decide, by decide, rfl, h⟩
  · exact V.run (n := 47) (r := r_count_of_item) rfl rfl ⟨_, by decide, by decide, rfl, _, by decide, by decide, rfl, _, by decide, by decide, rfl, h⟩
theorem s_count_star (V : Wd prog w K G) {l : Nat} {b : Bool} {i : AV} {m : Int} (h : Q (.int m) H) : CallS prog w K G 1 (.glob (.ref 774)) [itm l b (-1) i, .int m] H Q X :=
  V.run (n := 47) (r := r_count_of_item) rfl rfl ⟨_, by decide, by decide, rfl, h⟩
end
end Mine
end
section
open PySem PySem.W PyProof.Rows PySem.Calls PyProof.V PySem.Spec PySem.SeqAt
namespace Mine
noncomputable def Gp (place : Int) (D : Prop) (k : Nat → Prop) : Prop := (place < 0 ∧ D) ∨ ∃ q : Nat, place = q ∧ k q
noncomputable def lay (q : Nat) (out : List Nat) : List Nat := out.take q ++ List.replicate (q - out.length) 0
theorem Ob.swap {H0 H : HM} {C : Addr} {A : Ad} {f b : Addr} {fs : List (Str × AV)} {fl : List AV} {starts : List Nat} (u : Ob H0 H C A f fs fl starts) (hb : H b = none) (fs' : List (Str × AV)) (fl' : List AV) : Ob H0 ((H.set b (.list fl')).set A.d (.dict fs')) C A b fs' fl' starts := by
  have e := HExt.set (.list fl') hb
  have hd := e _ _ u.hd
  have hf : (H.set b (.list fl')) b = some (.list fl') := same
  exact ⟨(u.base.trans e).up u.nd, u.nd, u.base.no hb, u.ns, keep (e _ _ u.ha) hd nofun, same, keep hf hd nofun, keep (e _ _ u.hs) hd nofun, keep (e _ _ u.hl) hd nofun, by rw [HM.set_ne _ _ u.dl.symm]; exact e _ _ u.hld, fun z => (by rw [z, u.hs] at hb; cases hb), u.dl⟩
section
variable {prog : Program} {w : World} {K : Frag} {G : Heap} {H : HM} {Q : AV → HM → Prop} {X : HM → Prop}
variable {H0 : HM} {A : Ad} {o : Addr} {vals : List AV} {out : List Nat} {pos : Nat} {starts : List Nat} {steps : Nat}
theorem s_lay_octets (V : Wd prog w K G) (u : Pk H0 H A o vals out pos starts steps) {row : List Nat} (hz : out.length + row.length ≤ 100000) (h : ∀ H', Pk H0 H' A o vals (out ++ row) pos starts steps → Q .none H') : CallS prog w K G 1 (.glob (.ref 753)) [.ref A.a, .lst (nn row)] H Q X := by
  have hz' : (nn out).length + (nn row).length ≤ 100000 := by rw [nn_len, nn_len]; exact hz
  have u' := u.setL (nn (out ++ row))
  rw [nn_app] at u'
  exact V.run (n := 44) (r := r_lay_octets) rfl rfl (u.get pkD_out rfl ⟨_, u.hf, u.get pkD_limits rfl (u.lim lim_text rfl (br_no (Int.not_lt.mpr (Int.ofNat_le.mpr hz')) (u.get pkD_out rfl ⟨mok u.hf, refL_of u.hf ⟨nn row, rfl, Nat.le_trans hz' (by decide), h _ (by rw [Pk, nn_app]; exact u')⟩⟩)))⟩)
theorem s_lay_noughts (V : Wd prog w K G) (u : Pk H0 H A o vals out pos starts steps) {n : Nat} (hz : out.length + n ≤ 100000) (h : ∀ H', Pk H0 H' A o vals (out ++ List.replicate n 0) pos starts steps → Q .none H') : CallS prog w K G 2 (.glob (.ref 760)) [.ref A.a, .int n] H Q X := by
  have hn := Nat.le_of_add_left_le hz
  refine V.run (n := 45) (r := r_lay_noughts) rfl rfl (u.get pkD_limits rfl (u.lim lim_text rfl (br_no (Int.not_lt.mpr (Int.ofNat_le.mpr hn)) ⟨Int.lt_of_lt_of_le (by decide) (Int.natCast_nonneg n), Int.ofNat_le.mpr (Nat.le_trans hn (by decide)), ?_⟩)))
  show CallS prog w K G 1 (.glob (.ref 753)) [.ref A.a, .lst (List.replicate n (.int 0))] H _ _
  rw [show List.replicate n (AV.int 0) = nn (List.replicate n 0) from (List.map_replicate (f := fun x : Nat => AV.int x) (n := n) (a := 0)).symm]
  exact s_lay_octets V u (by rw [List.length_replicate]; exact hz) h
theorem s_go_to_place (V : Wd prog w K G) (u : Pk H0 H A o vals out pos starts steps) {place : Int} {l : Nat} (hz : out.length ≤ 1000) (h : Gp place (∀ H', HExt H0 H' → X H') fun q => q ≤ 1000 ∧ ∀ H' o', Pk H0 H' A o' vals (lay q out) pos starts steps → Q .none H') : CallS prog w K G 3 (.glob (.ref 767)) [.ref A.a, .int place, .str [l]] H Q X := by
  rcases h with ⟨h, k⟩ | ⟨q, rfl, hq, k⟩
  · exact V.run (n := 46) (r := r_go_to_place) rfl rfl (br_yes h ⟨sl_of (Nat.le_of_ble_eq_true rfl), sl_of (Nat.le_of_ble_eq_true rfl), k _ u.base⟩)
  · have z := Int.not_lt.mpr (Int.natCast_nonneg q)
    generalize he : (q : Int) = x at z
    refine V.run (n := 46) (r := r_go_to_place) rfl rfl (br_no z ?_)
    subst he
    unfold lay at k
    refine u.get pkD_out rfl ⟨_, u.hf, br_dec (fun y => u.get pkD_out rfl (refL_of u.hf fun b (hb : H b = none) => ?_)) fun y => u.get pkD_out rfl ⟨_, u.hf, ?_⟩⟩
    · have y := Int.ofNat_lt.mp y
      rw [nn_len] at y
      rw [Nat.sub_eq_zero_of_le (Nat.le_of_lt y), List.replicate_zero, List.append_nil] at k
      have u' := u.swap hb (pkD b vals A pos steps) (nn (out.take q))
      rw [← sl_N] at u'
      refine ⟨A.a, 716, A.d, _, rfl, HExt.set _ hb _ _ u.ha, HExt.set _ hb _ _ u.hd, (by exact (by decide : 7 ≤ 20)), rfl, gn_out, k _ b ?_⟩
      rw [Pk, ← sl_N]; exact u'
    · have y := Nat.le_of_not_lt fun z => y (Int.ofNat_lt.mpr z)
      rw [nn_len] at y
      show CallS prog w K G 2 (.glob (.ref 760)) [.ref A.a, .int ((q : Int) - ((nn out).length : Int))] H _ _
      rw [nn_len, sub_cast y]
      rw [List.take_of_length_le y] at k
      exact CallS_up (s_lay_noughts V u (Nat.le_trans (Nat.add_le_add hz (Nat.le_trans (Nat.sub_le _ _) hq)) (by decide)) fun H' u' => k _ _ u') (Nat.le_refl 2)
end
end Mine
end
section
open PySem PySem.W PyProof.Rows PySem.Calls PyProof.V PySem.Spec PySem.SeqAt
namespace Mine
noncomputable def Wr (l : Nat) (i : Int) (res : Option (List Nat)) : Prop :=
  (l = 119 ∧ ∃ m : Nat, i = m ∧ m < 2 ^ 64 ∧ res = some (sev m)) ∨ (l = 119 ∧ i < 0 ∧ res = none) ∨ (l = 85 ∧ ∃ m : Nat, i = m ∧ m < 2 ^ 31 ∧ res = some (utf m)) ∨ (l = 85 ∧ 2147483647 < i ∧ res = none)
theorem flat_le {enc : Nat → List Nat} (a b : List Nat) : (a.map enc).flatten.length ≤ ((a ++ b).map enc).flatten.length := by
  rw [List.map_append, List.flatten_append, List.length_append]; exact Nat.le_add_right _ _
section
variable {prog : Program} {w : World} {K : Frag} {G : Heap} {H : HM} {Q : AV → HM → Prop} {X : HM → Prop}
variable {H0 : HM} {A : Ad} {o : Addr} {vals : List AV} {out : List Nat} {pos : Nat} {starts : List Nat} {steps : Nat}
theorem s_row_of_value (V : Wd prog w K G) (u : Pk H0 H A o vals out pos starts steps) {l : Nat} {n i : Int} {res : Option (List Nat)} (hv : vals[pos]? = some (.int i)) (hw : Wr l i res)
    (h : opt res (∀ H', HExt H0 H' → X H') fun row => ∀ H', Pk H0 H' A o vals out (pos + 1) starts steps → Q (.lst (nn row)) H') : CallS prog w K G 3 (.glob (.ref 795)) [.ref A.a, itm l false n .none] H Q X := by
  refine V.run (n := 49) (r := r_row_of_value) rfl rfl ⟨rfl, s_next_number V u hv fun H1 u1 => ?_⟩
  rcases hw with ⟨rfl, m, rfl, hm, rfl⟩ | ⟨rfl, hi, rfl⟩ | ⟨rfl, m, rfl, hm, rfl⟩ | ⟨rfl, hi, rfl⟩
  · exact CallS_up (s_row_of_ber V hm (h _ u1)) (by decide)
  · exact CallS_up (s_row_of_ber_neg V hi (h _ u1.base)) (by decide)
  · exact CallS_up (s_row_of_code V hm (h _ u1)) (by decide)
  · exact CallS_up (s_row_of_code_bad V hi (h _ u1.base)) (by decide)
theorem s_pack_bad (V : Wd prog w K G) (u : Pk H0 H A o vals out pos starts steps) {l : Nat} {i : Int} (hs : steps ≤ 1000) (hz : pos ≤ vals.length) (hv : vals[pos]? = some (.int i)) (hw : Wr l i none)
    (h : ∀ H', HExt H0 H' → X H') : CallS prog w K G 4 (.glob (.ref 802)) [.ref A.a, itm l false (-2) .none] H Q X := by
  refine V.run (n := 50) (r := r_pack_numbers) rfl rfl (CallS_up (s_values_left V u hz (CallS_up (s_count_of_item V (.inl ⟨rfl, rfl⟩) ?_) (by decide))) (by decide))
  refine ⟨by decide, by decide, by decide, ?_⟩
  exact CallS_up (s_count_step V u (Nat.lt_of_le_of_lt hs (by decide)) fun H1 u1 => s_row_of_value V u1 hv hw h) (by decide)
theorem s_pack_all (V : Wd prog w K G) (u : Pk H0 H A o vals [] 0 starts steps) {l : Nat} {enc : Nat → List Nat} {cs : List Nat} (hs : steps ≤ 1000) (hvs : vals = nn cs) (hc : cs.length ≤ 100) (hw : ∀ c ∈ cs, Wr l c (some (enc c))) (hz : (cs.map enc).flatten.length ≤ 10000)
    (h : ∀ H' st', Pk H0 H' A o vals (cs.map enc).flatten cs.length starts st' → Q .none H') : CallS prog w K G 4 (.glob (.ref 802)) [.ref A.a, itm l false (-1) .none] H Q X := by
  have hl : vals.length = cs.length := by rw [hvs, nn_len]
  refine V.run (n := 50) (r := r_pack_numbers) rfl rfl (CallS_up (s_values_left V u (Nat.zero_le _) (CallS_up (s_count_star V ?_) (by decide))) (by decide))
  show -(2 ^ 40) < ((vals.length - 0 : Nat) : Int) ∧ ((vals.length - 0 : Nat) : Int) < 2 ^ 40 ∧ ((rngL 0 ((vals.length - 0 : Nat) : Int) 1).map AV.int).length ≤ 1000000 ∧ forW _ _ ((rngL 0 ((vals.length - 0 : Nat) : Int) 1).map AV.int) _
  rw [Nat.sub_zero, hl, rng_nn, nn_len, List.length_range]
  refine ⟨Int.lt_of_lt_of_le (by decide) (Int.natCast_nonneg _), Int.ofNat_lt.mpr (Nat.lt_of_le_of_lt hc (m := 100) (by decide)), Nat.le_trans hc (by decide), ?_⟩
  have key : ∀ (r pre : List Nat) (vs : List AV) (H1 : HM) (st : Nat) (o2 : Option AV), pre ++ r = cs → vs.length = r.length → st + r.length ≤ 2000 → Pk H0 H1 A o vals (pre.map enc).flatten pre.length starts st →
      forW (fb (CPs prog w K G 3) [2] f_pack_numbers_1 (fun τ => X τ.H)) (aft (CPs prog w K G 3) .nil Q X) vs ⟨[some (.ref A.a), some (itm l false (-1) .none), o2], H1⟩ := by
    intro r
    induction r with
    | nil =>
      intro pre vs H1 st o2 e hv hs u1
      rw [List.append_nil] at e
      subst e
      rw [List.eq_nil_of_length_eq_zero hv]
      exact h _ _ u1
    | cons c r ih =>
      intro pre vs H1 st o2 e hv hs u1
      cases vs with
      | nil => cases hv
      | cons v vs =>
      have hg : vals[pre.length]? = some (.int (c : Int)) := by
        rw [hvs, nn_get, ← e, List.getElem?_append_right (Nat.le_refl _), Nat.sub_self]; rfl
      have e2 : (pre ++ [c]) ++ r = cs := by rw [List.append_assoc]; exact e
      have eo : ((pre ++ [c]).map enc).flatten = (pre.map enc).flatten ++ enc c := by rw [List.map_append, List.flatten_append, List.map_cons, List.map_nil, List.flatten_cons, List.flatten_nil, List.append_nil]
      have ez : ((pre.map enc).flatten ++ enc c).length ≤ 10000 := by
        rw [← eo]; refine Nat.le_trans ?_ hz
        rw [← e2]; exact flat_le _ _
      rw [List.length_append] at ez
      refine CallS_up (s_count_step V u1 (Nat.lt_of_le_of_lt (Nat.le_of_add_right_le hs) (by decide)) fun H2 u2 => s_row_of_value V u2 hg (hw c (by rw [← e]; exact List.mem_append.mpr (.inr (.head _)))) fun H3 u3 => CallS_up (s_lay_octets V u3 (Nat.le_trans ez (by decide)) fun H4 u4 => ?_) (by decide)) (by decide)
      rw [← eo] at u4
      exact ih (pre ++ [c]) vs H4 _ _ e2 (Nat.succ.inj hv) (Nat.le_trans (Nat.le_of_eq (Nat.add_right_comm _ 1 _)) hs) (by rw [List.length_append]; exact u4)
  have := key cs [] (nn (List.range cs.length)) H steps none rfl (by rw [nn_len, List.length_range]) (Nat.le_trans (Nat.add_le_add hs hc) (by decide)) u
  exact this
end
end Mine
end
section
open PySem PySem.W PyProof.Rows PySem.Calls PyProof.V PySem.Spec PySem.SeqAt
namespace Mine
section
variable {prog : Program} {w : World} {K : Frag} {G : Heap} {H : HM} {Q : AV → HM → Prop} {X : HM → Prop}
variable {H0 : HM} {A : Ad} {o : Addr} {vals : List AV} {out : List Nat} {pos : Nat} {starts pre : List Nat} {begun steps : Nat}
theorem s_pack_move (V : Wd prog w K G) (u : Pk H0 H A o vals out pos (pre ++ [begun]) steps) {l many : Nat} {bang : Bool} {n : Int} (hz : out.length ≤ 1000) (hn : Ct n many)
    (h : Gp (plc l bang out.length many begun) (∀ H', HExt H0 H' → X H') fun q => q ≤ 1000 ∧ ∀ H' o', Pk H0 H' A o' vals (lay q out) pos (pre ++ [begun]) steps → Q .none H') : CallS prog w K G 4 (.glob (.ref 816)) [.ref A.a, itm l bang n .none] H Q X := by
  refine V.run (n := 52) (r := r_pack_move) rfl rfl ⟨rfl, CallS_up (s_count_of_item V hn ?_) (by decide)⟩
  refine br_dec (fun z => u.get pkD_starts rfl (last_of u.hs ?_)) fun z => u.get pkD_out rfl ⟨_, u.hf, ?_⟩
  · rw [plc, if_pos (sng z)] at h
    exact s_go_to_place V u hz h
  · show CallS prog w K G 3 (.glob (.ref 526)) [.int ((nn out).length : Int), .str [l], .bool bang, .int many] H _ _
    rw [plc, if_neg (fun e => z (congrArg (fun x => [x]) e))] at h
    rw [nn_len]
    exact CallS_up (s_moved V (s_go_to_place V u hz h)) (by decide)
theorem s_pack_dot (V : Wd prog w K G) (u : Pk H0 H A o vals out pos (pre ++ [begun]) steps) {c i : Int} {base : Nat} (hv : vals[pos]? = some (.int i)) (hz : out.length ≤ 1000)
    (hc : (c = 0 ∧ base = out.length) ∨ (c = -1 ∧ base = 0) ∨ (c = -2 ∧ base = begun) ∨ (c = 2 ∧ pre = [0] ∧ base = 0) ∨ (c = 3 ∧ pre = [0] ∧ base = 0))
    (h : Gp (base + i) (∀ H', HExt H0 H' → X H') fun q => q ≤ 1000 ∧ ∀ H' o', Pk H0 H' A o' vals (lay q out) (pos + 1) (pre ++ [begun]) steps → Q .none H') : CallS prog w K G 4 (.glob (.ref 809)) [.ref A.a, itm 46 false c .none] H Q X := by
  have fin : ∀ (H1 : HM) (o4 : Option AV), Pk H0 H1 A o vals out (pos + 1) (pre ++ [begun]) steps → swps (CPs prog w K G 3) f_pack_dot_t5 (bodyR Q) (fun τ => X τ.H) ⟨[some (.ref A.a), some (itm 46 false c .none), some (.int i), some (.int base), o4], H1⟩ := fun H1 o4 u1 =>
    s_go_to_place V u1 hz h
  rcases hc with ⟨rfl, rfl⟩ | ⟨rfl, rfl⟩ | ⟨rfl, rfl⟩ | ⟨rfl, rfl, rfl⟩ | ⟨rfl, rfl, rfl⟩
  · refine V.run (n := 51) (r := r_pack_dot) rfl rfl (CallS_up (s_next_number V u hv fun H1 u1 => ⟨_, by decide, by decide, rfl, u1.get pkD_out rfl ⟨_, u1.hf, ?_⟩⟩) (by decide))
    have := fin H1 none u1
    rw [← nn_len out] at this
    exact this
  · exact V.run (n := 51) (r := r_pack_dot) rfl rfl (CallS_up (s_next_number V u hv fun H1 u1 => ⟨_, by decide, by decide, rfl, _, by decide, by decide, rfl, fin H1 none u1⟩) (by decide))
  · refine V.run (n := 51) (r := r_pack_dot) rfl rfl (CallS_up (s_next_number V u hv fun H1 u1 => ⟨_, by decide, by decide, rfl, _, by decide, by decide, rfl, CallS_up (s_count_of_item V (.inl ⟨rfl, rfl⟩) (u1.get pkD_starts rfl ⟨_, u1.hs, br_yes ?_ (u1.get pkD_starts rfl (last_of u1.hs (fin H1 _ u1)))⟩)) (by decide)⟩) (by decide))
    rw [nn_len, List.length_append]; exact Int.ofNat_le.mpr (Nat.le_add_left 1 _)
  · exact V.run (n := 51) (r := r_pack_dot) rfl rfl (CallS_up (s_next_number V u hv fun H1 u1 => ⟨_, by decide, by decide, rfl, _, by decide, by decide, rfl, CallS_up (s_count_of_item V (many := 2) (.inr rfl) (u1.get pkD_starts rfl ⟨_, u1.hs, u1.get pkD_starts rfl ⟨_, 0, .int (0 : Nat), u1.hs, rfl, rfl, fin H1 _ u1⟩⟩)) (by decide)⟩) (by decide))
  · exact V.run (n := 51) (r := r_pack_dot) rfl rfl (CallS_up (s_next_number V u hv fun H1 u1 => ⟨_, by decide, by decide, rfl, _, by decide, by decide, rfl, CallS_up (s_count_of_item V (many := 3) (.inr rfl) (u1.get pkD_starts rfl ⟨_, u1.hs, fin H1 _ u1⟩)) (by decide)⟩) (by decide))
end
end Mine
end
section
open PySem PySem.W PyProof.Rows PySem.Calls PyProof.V PySem.Spec PySem.SeqAt
namespace Mine
section
variable {prog : Program} {w : World} {K : Frag} {G : Heap} {H : HM} {Q : AV → HM → Prop} {X : HM → Prop}
variable {H0 : HM} {A : Ad} {o : Addr} {vals : List AV} {out : List Nat} {pos : Nat} {starts pre : List Nat} {begun steps : Nat}
noncomputable def txt (many : Nat) (codes : List Nat) : List Nat := codes.take many ++ List.replicate (many - (codes.take many).length) 0
theorem s_pack_text (V : Wd prog w K G) (u : Pk H0 H A o vals out pos starts steps) {many : Nat} {n : Int} {codes : List Nat} (hv : vals[pos]? = some (.str codes)) (hcz : codes.length ≤ 100) (ho : ∀ o ∈ codes, o < 256) (hz : out.length ≤ 1000) (hm : many ≤ 1000) (hn : Ct n many)
    (h : ∀ H', Pk H0 H' A o vals (out ++ txt many codes) (pos + 1) starts steps → Q .none H') : CallS prog w K G 3 (.glob (.ref 781)) [.ref A.a, itm 97 false n .none] H Q X := by
  refine V.run (n := 48) (r := r_pack_text) rfl rfl (s_next_codes V u hv (Nat.le_trans hcz (by decide)) ho fun H1 u1 => ⟨_, by decide, by decide, rfl, CallS_up (s_count_of_item V hn (u1.get pkD_limits rfl (u1.lim lim_text rfl (br_no (Int.not_lt.mpr (Int.ofNat_le.mpr (Nat.le_trans hm (by decide)))) ⟨_, by decide, by decide, rfl, _, by decide, by decide, rfl, ?_⟩)))) (by decide)⟩)
  show -(2 ^ 62) < (many : Int) - ((pySlice (nn codes) none (some (many : Int))).length : Int) ∧ (many : Int) - ((pySlice (nn codes) none (some (many : Int))).length : Int) ≤ 10000000 ∧ (pySlice (nn codes) none (some (many : Int))).length + (List.replicate ((many : Int) - ((pySlice (nn codes) none (some (many : Int))).length : Int)).toNat (AV.int 0)).length ≤ sizeLine ∧ CallS prog w K G 2 (.glob (.ref 753)) [.ref A.a, .lst (pySlice (nn codes) none (some (many : Int)) ++ List.replicate ((many : Int) - ((pySlice (nn codes) none (some (many : Int))).length : Int)).toNat (AV.int 0))] H1 _ _
  have ht : (codes.take many).length ≤ many := by rw [List.length_take]; exact Nat.min_le_left _ _
  have hr : (txt many codes).length ≤ many + many := by
    unfold txt
    rw [List.length_append, List.length_replicate]; exact Nat.add_le_add ht (Nat.sub_le _ _)
  rw [sl_N, nn_len, sub_cast ht, Int.toNat_natCast, show List.replicate (many - (codes.take many).length) (AV.int 0) = nn (List.replicate (many - (codes.take many).length) 0) from (List.map_replicate (f := fun x : Nat => AV.int x) (n := many - (codes.take many).length) (a := 0)).symm, nn_len, ← nn_app, ← List.length_append]
  refine ⟨Int.lt_of_lt_of_le (by decide) (Int.natCast_nonneg _), Int.ofNat_le.mpr (Nat.le_trans (Nat.sub_le _ _) (Nat.le_trans hm (by decide))), Nat.le_trans hr (Nat.le_trans (Nat.add_le_add hm hm) (by decide)), ?_⟩
  exact CallS_up (s_lay_octets V u1 (row := txt many codes) (Nat.le_trans (Nat.add_le_add hz (Nat.le_trans hr (Nat.add_le_add hm hm))) (by decide)) h) (by decide)
theorem s_pitem_text (V : Wd prog w K G) (u : Pk H0 H A o vals out pos starts steps) {many : Nat} {n : Int} {codes : List Nat} (hs : steps ≤ 1000) (hv : vals[pos]? = some (.str codes)) (hcz : codes.length ≤ 100) (ho : ∀ o ∈ codes, o < 256) (hz : out.length ≤ 1000) (hm : many ≤ 1000) (hn : Ct n many)
    (h : ∀ H', Pk H0 H' A o vals (out ++ txt many codes) (pos + 1) starts (steps + 1) → Q .none H') : CallS prog w K G 4 (.glob (.ref 844)) [.ref A.a, itm 97 false n .none] H Q X :=
  V.run (n := 55) (r := r_pack_item) rfl rfl (CallS_up (s_count_step V u (Nat.lt_of_le_of_lt hs (by decide)) fun H1 u1 => ⟨_, by decide, by decide, rfl, s_pack_text V u1 hv hcz ho hz hm hn h⟩) (by decide))
theorem s_pitem_move (V : Wd prog w K G) (u : Pk H0 H A o vals out pos (pre ++ [begun]) steps) {l many : Nat} {bang : Bool} {n : Int} (hl : l ∈ [120, 88, 64]) (hs : steps ≤ 1000) (hz : out.length ≤ 1000) (hn : Ct n many)
    (h : Gp (plc l bang out.length many begun) (∀ H', HExt H0 H' → X H') fun q => q ≤ 1000 ∧ ∀ H' o', Pk H0 H' A o' vals (lay q out) pos (pre ++ [begun]) (steps + 1) → Q .none H') : CallS prog w K G 5 (.glob (.ref 844)) [.ref A.a, itm l bang n .none] H Q X := by
  obtain ⟨n1, n2, n3, n4⟩ := mv_no l hl
  exact V.run (n := 55) (r := r_pack_item) rfl rfl (CallS_up (s_count_step V u (Nat.lt_of_le_of_lt hs (by decide)) fun H1 u1 => ⟨_, by decide, by decide, rfl, br_no n1 (br_no n2 (br_no n3 (br_no n4 (br_yes hl (s_pack_move V u1 hz hn h)))))⟩) (by decide))
theorem s_pitem_dot (V : Wd prog w K G) (u : Pk H0 H A o vals out pos (pre ++ [begun]) steps) {c i : Int} {base : Nat} (hs : steps ≤ 1000) (hv : vals[pos]? = some (.int i)) (hz : out.length ≤ 1000)
    (hc : (c = 0 ∧ base = out.length) ∨ (c = -1 ∧ base = 0) ∨ (c = -2 ∧ base = begun) ∨ (c = 2 ∧ pre = [0] ∧ base = 0) ∨ (c = 3 ∧ pre = [0] ∧ base = 0))
    (h : Gp (base + i) (∀ H', HExt H0 H' → X H') fun q => q ≤ 1000 ∧ ∀ H' o', Pk H0 H' A o' vals (lay q out) (pos + 1) (pre ++ [begun]) (steps + 1) → Q .none H') : CallS prog w K G 5 (.glob (.ref 844)) [.ref A.a, itm 46 false c .none] H Q X :=
  V.run (n := 55) (r := r_pack_item) rfl rfl (CallS_up (s_count_step V u (Nat.lt_of_le_of_lt hs (by decide)) fun H1 u1 => ⟨_, by decide, by decide, rfl, s_pack_dot V u1 hv hz hc h⟩) (by decide))
end
end Mine
end
section
open PySem PySem.W PyProof.Rows PySem.Calls PyProof.V PySem.Spec PySem.SeqAt
namespace Mine
section
variable {prog : Program} {w : World} {K : Frag} {G : Heap} {H : HM} {Q : AV → HM → Prop} {X : HM → Prop}
variable {H0 : HM} {A : Ad} {o : Addr} {vals : List AV} {out : List Nat} {pos : Nat} {starts pre : List Nat} {begun steps : Nat}
theorem s_pitem_uu (V : Wd prog w K G) (u : Pk H0 H A o vals [] pos starts steps) {many : Nat} {n : Int} {codes : List Nat} (hs : steps ≤ 1000) (hv : vals[pos]? = some (.str codes)) (hcz : codes.length ≤ 100) (ho : ∀ o ∈ codes, o < 256) (hn : Ct n many) (hz : (lns (wid many) (nch (wid many) codes.length) codes).length ≤ 10000)
    (h : ∀ H', Pk H0 H' A o vals (lns (wid many) (nch (wid many) codes.length) codes) (pos + 1) starts (steps + 1) → Q .none H') : CallS prog w K G 4 (.glob (.ref 844)) [.ref A.a, itm 117 false n .none] H Q X := by
  refine V.run (n := 55) (r := r_pack_item) rfl rfl (CallS_up (s_count_step V u (Nat.lt_of_le_of_lt hs (by decide)) fun H1 u1 => ⟨_, by decide, by decide, rfl, CallS_up (s_next_codes V u1 hv (Nat.le_trans hcz (by decide)) ho fun H2 u2 => CallS_up (s_count_of_item V hn (s_row_of_uu V hcz ho ?_)) (by decide)) (by decide)⟩) (by decide))
  exact CallS_up (s_lay_octets V u2 (Nat.le_trans (Nat.le_of_eq (Nat.zero_add _)) (Nat.le_trans hz (by decide))) h) (by decide)
theorem s_pitem_all (V : Wd prog w K G) (u : Pk H0 H A o vals [] 0 starts 0) {l : Nat} {enc : Nat → List Nat} {cs : List Nat} (hl : l = 119 ∨ l = 85) (hvs : vals = nn cs) (hc : cs.length ≤ 100) (hw : ∀ c ∈ cs, Wr l c (some (enc c))) (hz : (cs.map enc).flatten.length ≤ 10000)
    (h : ∀ H' st', Pk H0 H' A o vals (cs.map enc).flatten cs.length starts st' → Q .none H') : CallS prog w K G 5 (.glob (.ref 844)) [.ref A.a, itm l false (-1) .none] H Q X := by
  rcases hl with rfl | rfl
  · exact V.run (n := 55) (r := r_pack_item) rfl rfl (CallS_up (s_count_step V u (by decide) fun H1 u1 => ⟨_, by decide, by decide, rfl, s_pack_all V u1 (by decide) hvs hc hw hz h⟩) (by decide))
  · exact V.run (n := 55) (r := r_pack_item) rfl rfl (CallS_up (s_count_step V u (by decide) fun H1 u1 => ⟨_, by decide, by decide, rfl, s_pack_all V u1 (by decide) hvs hc hw hz h⟩) (by decide))
theorem s_pitem_bad (V : Wd prog w K G) (u : Pk H0 H A o vals out pos starts 0) {l : Nat} {i : Int} (hl : l = 119 ∨ l = 85) (hz : pos ≤ vals.length) (hv : vals[pos]? = some (.int i)) (hw : Wr l i none)
    (h : ∀ H', HExt H0 H' → X H') : CallS prog w K G 5 (.glob (.ref 844)) [.ref A.a, itm l false (-2) .none] H Q X := by
  rcases hl with rfl | rfl
  · exact V.run (n := 55) (r := r_pack_item) rfl rfl (CallS_up (s_count_step V u (by decide) fun H1 u1 => ⟨_, by decide, by decide, rfl, s_pack_bad V u1 (by decide) hz hv hw h⟩) (by decide))
  · exact V.run (n := 55) (r := r_pack_item) rfl rfl (CallS_up (s_count_step V u (by decide) fun H1 u1 => ⟨_, by decide, by decide, rfl, s_pack_bad V u1 (by decide) hz hv hw h⟩) (by decide))
theorem s_pitems_one (V : Wd prog w K G) {N : Nat} {x v : AV} (h : CallS prog w K G N (.glob (.ref 844)) [x, v] H (fun _ H' => Q .none H') X) : CallS prog w K G (N + 1) (.glob (.ref 851)) [x, .lst [v]] H Q X :=
  V.run (n := 56) (r := r_pack_items) rfl rfl ⟨by exact (by decide : 1 ≤ 1000000), h⟩
theorem s_pitem_group (V : Wd prog w K G) {N : Nat} {inner : AV} {R : List Nat → Nat → Nat → Prop} {D : Prop} (hN : 1 ≤ N) (u : Pk H0 H A o vals out pos starts steps) (hs : steps ≤ 1000) (hz : starts.length ≤ 1000) (hp : pos ≤ vals.length)
    (hin : ∀ (H1 : HM) (Q' : AV → HM → Prop) (X' : HM → Prop), Pk H0 H1 A o vals out pos (starts ++ [out.length]) (steps + 2) → (∀ H' o' out' p' st', Pk H0 H' A o' vals out' p' (starts ++ [out.length]) st' → R out' p' st' → Q' .none H') → (∀ H', HExt H0 H' → D → X' H') → CallS prog w K G N (.glob (.ref 851)) [.ref A.a, inner] H1 Q' X')
    (h1 : ∀ H' o' out' p' st', Pk H0 H' A o' vals out' p' starts st' → R out' p' st' → Q .none H') (h2 : ∀ H', HExt H0 H' → D → X H') : CallS prog w K G (N + 2) (.glob (.ref 844)) [.ref A.a, itm 40 false (-2) inner] H Q X := by
  refine V.run (n := 55) (r := r_pack_item) rfl rfl (CallS_up (s_count_step V u (Nat.lt_of_le_of_lt hs (by decide)) fun H1 u1 => ⟨_, by decide, by decide, rfl, ?_⟩) (Nat.le_add_left 1 N))
  refine V.run (n := 53) (r := r_pack_group) rfl rfl (CallS_up (s_values_left V u1 hp (CallS_up (s_count_of_item V (.inl ⟨rfl, rfl⟩) ?_) hN)) hN)
  refine ⟨by decide, by decide, by decide, ?_⟩
  refine CallS_up (s_count_step V u1 (Nat.lt_of_le_of_lt (Nat.succ_le_succ hs) (by decide)) fun H2 u2 => ?_) hN
  refine u2.get pkD_starts rfl ⟨mok u2.hs, u2.get pkD_out rfl ⟨_, u2.hf, refL_of u2.hs ⟨?_, ?_⟩⟩⟩
  · rw [nn_len]; exact Nat.lt_of_le_of_lt hz (by decide)
  · have u3 := u2.setS (starts ++ [out.length])
    rw [nn_app, ← nn_len out] at u3
    refine ⟨_, by decide, by decide, rfl, hin _ _ _ (by rw [← nn_len out]; exact u3) (fun H' o' out' p' st' u4 hR => u4.get pkD_starts rfl ⟨mok u4.hs, refL_of u4.hs ⟨nn starts, .int out.length, nn_app _ _, ?_⟩⟩) h2⟩
    have u5 := u4.setS starts
    exact ⟨_, by decide, by decide, rfl, h1 _ o' out' p' st' u5 hR⟩
end
end Mine
end
section
open PySem PySem.W PyProof.Rows PySem.Calls PyProof.V PySem.Spec PySem.SeqAt
namespace Mine
section
variable {prog : Program} {w : World} {K : Frag} {G : Heap} {H : HM} {Q : AV → HM → Prop} {X : HM → Prop}
theorem s_packer (V : Wd prog w K G) {vals : List AV} {lm ld : Addr} (hl : H lm = some (.inst 695 ld)) (hld : H ld = some (.dict limD))
    (h : ∀ A f H', Pk H H' A f vals [] 0 [0] 0 → Q (.ref A.a) H') : CallS prog w K G 2 (.glob (.ref 716)) [.lst vals, .ref lm] H Q X := by
  refine V.cls (d := 1) (C := 716) (fI := 713) (by decide) fun x dx hxd nx nd => V.run (n := 39) (r := r_Packer_init) rfl rfl ?_
  have u0 : Ini H _ x dx 716 [] := Ini.mk0 hxd nx nd
  refine fun f nf => ?_
  have v0 := u0.new (o := .list []) nf
  refine ⟨x, 716, dx, _, rfl, v0.hx, v0.hd, le20 rfl, rfl, by decide, ?_⟩
  have u1 := v0.put (setF "out" (.ref f) [])
  refine ⟨_, rfl, x, 716, dx, _, rfl, u1.hx, u1.hd, le20 rfl, rfl, by decide, ?_⟩
  have u2 := u1.put (setF "values" (.lst vals) (setF "out" (.ref f) []))
  refine ⟨x, 716, dx, _, rfl, u2.hx, u2.hd, le20 rfl, rfl, by decide, fun s ns => ?_⟩
  have u3 := (u2.put (setF "at" (.int (0 : Nat)) (setF "values" (.lst vals) (setF "out" (.ref f) [])))).new (o := .list (nn [0])) ns
  refine ⟨x, 716, dx, _, rfl, u3.hx, u3.hd, le20 rfl, rfl, by decide, ?_⟩
  have u4 := u3.put (setF "starts" (.ref s) (setF "at" (.int (0 : Nat)) (setF "values" (.lst vals) (setF "out" (.ref f) []))))
  refine ⟨x, 716, dx, _, rfl, u4.hx, u4.hd, le20 rfl, rfl, by decide, ?_⟩
  have u5 := u4.put (setF "limits" (.ref lm) (setF "starts" (.ref s) (setF "at" (.int (0 : Nat)) (setF "values" (.lst vals) (setF "out" (.ref f) [])))))
  refine ⟨x, 716, dx, _, rfl, u5.hx, u5.hd, le20 rfl, rfl, by decide, ?_⟩
  have u6 := u5.put (setF "steps" (.int (0 : Nat)) (setF "limits" (.ref lm) (setF "starts" (.ref s) (setF "at" (.int (0 : Nat)) (setF "values" (.lst vals) (setF "out" (.ref f) []))))))
  refine ⟨x, 716, dx, _, rfl, u6.hx, u6.hd, le20 rfl, rfl, by decide, ?_⟩
  have u7 := u6.put (pkD f vals ⟨x, dx, s, lm, ld⟩ 0 0)
  have f2 := keep (z := .dict (setF "at" (.int (0 : Nat)) (setF "values" (.lst vals) (setF "out" (.ref f) [])))) (keep (z := .dict (setF "values" (.lst vals) (setF "out" (.ref f) []))) (keep (x := .list []) (z := .dict (setF "out" (.ref f) [])) same v0.hd nofun) u1.hd nofun) u2.hd nofun
  have f5 := keep (z := .dict (pkD f vals ⟨x, dx, s, lm, ld⟩ 0 0)) (keep (z := .dict (setF "steps" (.int (0 : Nat)) (setF "limits" (.ref lm) (setF "starts" (.ref s) (setF "at" (.int (0 : Nat)) (setF "values" (.lst vals) (setF "out" (.ref f) []))))))) (keep (z := .dict (setF "limits" (.ref lm) (setF "starts" (.ref s) (setF "at" (.int (0 : Nat)) (setF "values" (.lst vals) (setF "out" (.ref f) [])))))) (keep (z := .dict (setF "starts" (.ref s) (setF "at" (.int (0 : Nat)) (setF "values" (.lst vals) (setF "out" (.ref f) []))))) (HExt.set (.list (nn [0])) ns _ _ f2) u3.hd nofun) u4.hd nofun) u5.hd nofun) u6.hd nofun
  have s5 := keep (z := .dict (pkD f vals ⟨x, dx, s, lm, ld⟩ 0 0)) (keep (z := .dict (setF "steps" (.int (0 : Nat)) (setF "limits" (.ref lm) (setF "starts" (.ref s) (setF "at" (.int (0 : Nat)) (setF "values" (.lst vals) (setF "out" (.ref f) []))))))) (keep (z := .dict (setF "limits" (.ref lm) (setF "starts" (.ref s) (setF "at" (.int (0 : Nat)) (setF "values" (.lst vals) (setF "out" (.ref f) [])))))) (keep (x := .list (nn [0])) (z := .dict (setF "starts" (.ref s) (setF "at" (.int (0 : Nat)) (setF "values" (.lst vals) (setF "out" (.ref f) []))))) same u3.hd nofun) u4.hd nofun) u5.hd nofun) u6.hd nofun
  exact ⟨rfl, h ⟨x, dx, s, lm, ld⟩ f _ ⟨u7.base, nd, u0.base.no nf, (u2.put (setF "at" (.int (0 : Nat)) (setF "values" (.lst vals) (setF "out" (.ref f) [])))).base.no ns, u7.hx, u7.hd, f5, s5, u7.base _ _ hl, u7.base _ _ hld, (fun (e : f = s) => by subst e; exact absurd (f2.symm.trans ns) nofun), (fun (e : dx = ld) => by subst e; exact absurd (hld.symm.trans nd) nofun)⟩⟩
end
end Mine
end
section
open PySem PySem.W PyProof.Rows PySem.Calls PyProof.V PySem.Spec PySem.SeqAt
namespace Mine
noncomputable def PRun (prog : Program) (w : World) (K : Frag) (G : Heap) (M : Nat) (vals : List AV) (v : AV) (R : List Nat → Prop) (D : Prop) : Prop :=
  ∀ (H0 H1 : HM) (A : Ad) (o : Addr) (Q : AV → HM → Prop) (X : HM → Prop), Pk H0 H1 A o vals [] 0 [0] 0 → (∀ H' o' out p st', Pk H0 H' A o' vals out p [0] st' → R out → Q .none H') → (∀ H', HExt H0 H' → D → X H') → CallS prog w K G M (.glob (.ref 851)) [.ref A.a, v] H1 Q X
section
variable {prog : Program} {w : World} {K : Frag} {G : Heap} {H : HM} {Q : AV → HM → Prop} {X : HM → Prop}
theorem s_pack_values (V : Wd prog w K G) {N M : Nat} {items : List (List Nat × AV)} {vals : List AV} {lm ld : Addr} {R : List Nat → Prop} {D : Prop} (hN : 2 ≤ N) (hi : ∀ x ∈ items, One prog w K G N 0 x.1 x.2) (hz : items.length ≤ 1000) (hM : N + 2 ≤ M)
    (hl : H lm = some (.inst 695 ld)) (hld : H ld = some (.dict limD)) (hrun : PRun prog w K G M vals (.lst (items.map Prod.snd)) R D) (hR : ∀ out, R out → out.length ≤ 100000 ∧ ∀ o ∈ out, o < 256)
    (h1 : ∀ H' out, HExt H H' → R out → Q (.str out) H') (h2 : ∀ H', HExt H H' → D → X H') : CallS prog w K G (M + 1) (.glob (.ref 856)) [.str (items.map Prod.fst).flatten, .lst vals, .ref lm] H Q X := by
  refine V.run (n := 57) (r := r_pack_values) rfl rfl (CallS_up (s_packer V hl hld fun A o H1 u => ?_) (Nat.le_trans (Nat.le_trans hN (Nat.le_add_right N 2)) hM))
  refine CallS_up (s_parse V hN hi hz fun H2 e2 => ?_) hM
  refine hrun _ _ _ _ _ _ (u.ext e2) (fun H' o' out p st' u' hr => ⟨rfl, nofun, u'.get pkD_out rfl (refL_of u'.hf ⟨?_, compW_pure (g := fun c : Nat => .str [c]) (fun n hn k hk => ⟨Int.natCast_nonneg n, Int.ofNat_le.mpr (Nat.le_trans (Nat.le_of_lt ((hR out hr).2 n hn)) (by decide)), hk⟩) ⟨rfl, _, congrArg AV.lst (chr_join out), ?_, ?_⟩⟩)⟩) h2
  · rw [nn_len]; exact Nat.le_trans (hR out hr).1 (by decide)
  · rw [sum_one]; exact Nat.le_trans (hR out hr).1 (by decide)
  · rw [flat_one]; exact h1 _ _ (u'.base.del u'.nf) hr
theorem s_law_packed (V : Wd prog w K G) {N M : Nat} {items : List (List Nat × AV)} {vals : List AV} {R : List Nat → Prop} {D : Prop} (hN : 2 ≤ N) (hi : ∀ x ∈ items, One prog w K G N 0 x.1 x.2) (hz : items.length ≤ 1000) (hM : N + 2 ≤ M) (hM5 : 5 ≤ M + 1)
    (hrun : PRun prog w K G M vals (.lst (items.map Prod.snd)) R D) (hR : ∀ out, R out → out.length ≤ 100000 ∧ ∀ o ∈ out, o < 256)
    (h1 : ∀ H' out, HExt H H' → R out → Q (.lst (nn out)) H') (h2 : ∀ H', HExt H H' → D → Q .none H') : CallS prog w K G (M + 2) (.glob (.ref 868)) [.str (items.map Prod.fst).flatten, .lst vals] H Q X := by
  refine V.run (n := 59) (r := r_law_packed) rfl rfl ⟨nofun, CallS_up (V.lim fun x dx hxd nx nd => ?_) hM5⟩
  have e : HExt H ((H.set dx (.dict limD)).set x (.inst 695 dx)) := (HExt.set _ nd).up nx
  refine s_pack_values (H := (H.set dx (.dict limD)).set x (.inst 695 dx)) V hN hi hz hM same ((HM.set_ne _ _ hxd.symm).trans same) hrun hR (fun H' out e' hr => ⟨?_, compW_pure (g := fun n : Nat => .int n) (fun n hn k hk => ⟨n, rfl, hk⟩) (h1 _ _ (e.trans e') hr)⟩) (fun H' e' hD => h2 _ (e.trans e') hD)
  rw [List.length_map]; exact Nat.le_trans (hR out hr).1 (by decide)
end
end Mine
end
section
open PySem PySem.W PyProof.Rows PySem.Calls PyProof.V PySem.Spec PySem.SeqAt
namespace Mine
noncomputable def pick (s : List Int) (k : Nat) : Int := (s[k]?).getD (5 * (k : Int) + 2)
noncomputable def closed (t : List Nat) : List Nat := if 40 ∈ t then t ++ [41] else t
section
variable {prog : Program} {w : World} {K : Frag} {G : Heap} {H : HM} {Q : AV → HM → Prop} {X : HM → Prop}
theorem s_law_pick (V : Wd prog w K G) {s : List Int} {k : Nat} (hk : k < 100) (h : Q (.int (pick s k)) H) : CallS prog w K G 1 (.glob (.ref 863)) [.lst (nums s), .int k] H Q X := by
  refine V.run (n := 58) (r := r_law_pick) rfl rfl (br_dec (fun z => ?_) fun z => ⟨mulL (by decide), ?_⟩)
  · have z : k < (nums s).length := Int.ofNat_lt.mp z
    have z' := z
    rw [ints_len] at z'
    have e : s[k]? = some s[k] := List.getElem?_eq_getElem z'
    rw [pick, e] at h
    exact ⟨k, .int s[k], idx_nat z, by rw [ints_get, e]; rfl, h⟩
  · have z : ¬ k < s.length := fun q => z (Int.ofNat_lt.mpr (by rw [ints_len]; exact q))
    rw [pick, List.getElem?_eq_none (Nat.le_of_not_lt z)] at h
    exact h
theorem s_law_closed (V : Wd prog w K G) {t : List Nat} (hz : t.length ≤ 1000) (h : Q (.str (closed t)) H) : CallS prog w K G 1 (.glob (.ref 935)) [.str t] H Q X := by
  refine V.run (n := 70) (r := r_law_closed) rfl rfl (br_dec (fun z => ⟨Nat.le_trans (Nat.add_le_add_right hz 1) (by decide), ?_⟩) fun z => ?_)
  · rw [closed, if_pos z] at h; exact h
  · rw [closed, if_neg z] at h; exact h
end
end Mine
end
section
open PySem PySem.W PyProof.Rows PySem.Calls PyProof.V PySem.Spec PySem.SeqAt
namespace Mine
abbrev Turn := Nat × Nat × Bool
noncomputable def turnOf (c : Int) : Turn := (([120, 88, 64, 120, 88, 46][(Int.fmod c 6).toNat]?).getD 120, (Int.fmod (Int.fdiv c 6) 5).toNat, decide (Int.fmod (Int.fdiv c 30) 3 = 0))
noncomputable def dws (k : Nat) : List Nat := ([[46], [46, 42], [46, 48], [46, 50]][k]?).getD []
noncomputable def dcs (k : Nat) : Int := ([-2, -1, 0, 2][k]?).getD 0
noncomputable def dval (k at' begun : Nat) : Int := ([(at' : Int) - begun, at', 0, at'][k]?).getD 0
noncomputable def mitem (t : Turn) : List Nat × AV := (t.1 :: ((if t.2.2 then [33] else []) ++ [48 + t.2.1]), itm t.1 t.2.2 t.2.1 .none)
noncomputable def uitem (t : Turn) : List Nat × AV := if t.1 = 46 then (dws (t.2.1 % 4), itm 46 false (dcs (t.2.1 % 4)) .none) else mitem t
noncomputable def uw (n begun : Nat) : List Turn → Nat → List Int → List (List Nat × AV) × Option (List Int)
  | [], _, told => ([], some told)
  | t :: ts, at', told => if t.1 = 46 then (uitem t :: (uw n begun ts at' (told ++ [dval (t.2.1 % 4) at' begun])).1, (uw n begun ts at' (told ++ [dval (t.2.1 % 4) at' begun])).2)
    else if plc t.1 t.2.2 at' t.2.1 begun < 0 ∨ (n : Int) < plc t.1 t.2.2 at' t.2.1 begun then ([uitem t], none)
    else (uitem t :: (uw n begun ts (plc t.1 t.2.2 at' t.2.1 begun).toNat told).1, (uw n begun ts (plc t.1 t.2.2 at' t.2.1 begun).toNat told).2)
noncomputable def undot (t : Turn) : Turn := (if t.1 = 46 then 120 else t.1, t.2)
noncomputable def pw (begun : Nat) : List Turn → List Nat → List (List Nat × AV) × Option (List Nat)
  | [], row => ([], some row)
  | t :: ts, row => if plc (undot t).1 t.2.2 row.length t.2.1 begun < 0 then ([mitem (undot t)], none)
    else (mitem (undot t) :: (pw begun ts (lay (plc (undot t).1 t.2.2 row.length t.2.1 begun).toNat row)).1, (pw begun ts (lay (plc (undot t).1 t.2.2 row.length t.2.1 begun).toNat row)).2)
end Mine
end
section
open PySem PySem.W PyProof.Rows PySem.Calls PyProof.V PySem.Spec PySem.SeqAt
namespace Mine
noncomputable def TOk (t : Turn) : Prop := (t.1 = 46 ∨ t.1 ∈ [120, 88, 64]) ∧ t.2.1 < 5
theorem dot_base {k at' begun : Nat} (hk : k < 4) : ∃ base, Base (dcs k) at' begun base ∧ dval k at' begun = (at' : Int) - (base : Int) := by
  rcases k with _ | _ | _ | _ | k
  · exact ⟨begun, .inr (.inr (.inl ⟨rfl, rfl⟩)), rfl⟩
  · exact ⟨0, .inr (.inl ⟨rfl, rfl⟩), (Int.sub_zero _).symm⟩
  · exact ⟨at', .inl ⟨rfl, rfl⟩, (Int.sub_self _).symm⟩
  · exact ⟨0, .inr (.inr (.inr ⟨rfl, rfl⟩)), (Int.sub_zero _).symm⟩
  · exact absurd (Nat.le_trans (Nat.le_add_left 5 k) hk) (by decide)
section
variable {prog : Program} {w : World} {K : Frag} {G : Heap} {H : HM} {Q : AV → HM → Prop} {X : HM → Prop}
theorem u_run (V : Wd prog w K G) {H0 : HM} {A : Ad} {f : Addr} {data pre : List Nat} {begun : Nat} {its : AV} (hp : pre = [] ∨ pre = [0]) : ∀ (ts : List Turn) (at' : Nat) (told : List Int) (H1 : HM) (st : Nat) (o2 : Option AV), (∀ t ∈ ts, TOk t) → at' ≤ data.length → st + ts.length ≤ 100 → told.length + ts.length ≤ 100 →
    Un H0 H1 A f data at' (nums told) (pre ++ [begun]) st →
    opt (uw data.length begun ts at' told).2 (∀ H', HExt H0 H' → X H') (fun r => ∀ H' p st', Un H0 H' A f data p (nums r) (pre ++ [begun]) st' → Q .none H') →
    forW (fb (CPs prog w K G 3) [2] f_unpack_items_1 (fun τ => X τ.H)) (aft (CPs prog w K G 3) .nil Q X) ((uw data.length begun ts at' told).1.map Prod.snd) ⟨[some (.ref A.a), some its, o2], H1⟩ := by
  intro ts
  induction ts with
  | nil => intro at' told H1 st o2 _ _ _ _ u h; exact h _ _ _ u
  | cons t ts ih =>
    intro at' told H1 st o2 ht ha hs hl u h
    obtain ⟨t1, t2⟩ := ht t (.head _)
    have ht' := fun x m => ht x (.tail _ m)
    have hs0 : st ≤ 1000 := Nat.le_trans (Nat.le_of_add_right_le hs) (by decide)
    have hs' : st + 1 + ts.length ≤ 100 := Nat.le_trans (Nat.le_of_eq (Nat.add_right_comm _ 1 _)) hs
    unfold uw at h ⊢
    by_cases e : t.1 = 46
    · rw [if_pos e] at h ⊢
      rw [List.map_cons, uitem, if_pos e]
      obtain ⟨base, hb, hv⟩ := dot_base (at' := at') (begun := begun) (Nat.mod_lt t.2.1 (y := 4) (by decide))
      refine s_item_dot V u hs0 hp (by rw [ints_len]; exact Nat.le_trans (Nat.le_of_add_right_le hl) (by decide)) hb fun H2 u2 => ?_
      rw [← hv, show nums told ++ [AV.int (dval (t.2.1 % 4) at' begun)] = nums (told ++ [dval (t.2.1 % 4) at' begun]) from (List.map_append (f := AV.int) (l₁ := told) (l₂ := [dval (t.2.1 % 4) at' begun])).symm] at u2
      exact ih at' _ H2 _ _ ht' ha hs' (by rw [List.length_append]; exact Nat.le_trans (Nat.le_of_eq (Nat.add_right_comm _ 1 _)) hl) u2 h
    · rw [if_neg e] at h ⊢
      by_cases g : plc t.1 t.2.2 at' t.2.1 begun < 0 ∨ (data.length : Int) < plc t.1 t.2.2 at' t.2.1 begun
      · rw [if_pos g] at h ⊢
        rw [List.map_cons, uitem, if_neg e]
        exact s_item_move V (t1.resolve_left e) u hs0 (.inr rfl) (.inl ⟨g, h⟩)
      · rw [if_neg g] at h ⊢
        rw [List.map_cons, uitem, if_neg e]
        have g1 := Int.not_lt.mp fun z => g (.inl z)
        have g2 := Int.not_lt.mp fun z => g (.inr z)
        have g3 : (plc t.1 t.2.2 at' t.2.1 begun).toNat ≤ data.length := Int.toNat_le.mpr g2
        exact s_item_move V (t1.resolve_left e) u hs0 (.inr rfl) (.inr ⟨_, (Int.toNat_of_nonneg g1).symm, g3, fun H2 u2 => ih _ _ H2 _ _ ht' g3 hs' (Nat.le_trans (Nat.add_le_add_left (Nat.le_succ _) _) hl) u2 h⟩)
end
end Mine
end
section
open PySem PySem.W PyProof.Rows PySem.Calls PyProof.V PySem.Spec PySem.SeqAt
namespace Mine
theorem plc_le {l a m begun : Nat} {b : Bool} (hm : m < 5) : plc l b a m begun ≤ ((a + begun + 4 : Nat) : Int) := by
  unfold plc mv
  have h1 : m ≠ 0 → Int.fmod (-(a : Int)) m < m := fun h => Int.fmod_lt_of_pos _ (Int.ofNat_lt.mpr (Nat.pos_of_ne_zero h))
  have h2 : 0 ≤ Int.fmod (a : Int) m := by rw [fmodN]; exact Int.natCast_nonneg _
  split
  · omega
  split
  · split
    · omega
    · rename_i h
      have := h1 h
      split <;> omega
  · split <;> omega
theorem lay_len (q : Nat) (out : List Nat) : (lay q out).length = q := by
  rw [lay, List.length_append, List.length_take, List.length_replicate]
  by_cases h : q ≤ out.length
  · rw [Nat.min_eq_left h, Nat.sub_eq_zero_of_le h]; rfl
  · have h := Nat.le_of_not_le h
    rw [Nat.min_eq_right h, Nat.add_sub_of_le h]
theorem undot_ok {t : Turn} (h : TOk t) : (undot t).1 ∈ [120, 88, 64] := by
  unfold undot
  by_cases e : t.1 = 46
  · rw [if_pos e]; exact .head _
  · rw [if_neg e]; exact h.1.resolve_left e
theorem pw_cons {begun : Nat} {row : List Nat} {t : Turn} {ts : List Turn} : pw begun (t :: ts) row = if plc (undot t).1 t.2.2 row.length t.2.1 begun < 0 then ([mitem (undot t)], none)
    else (mitem (undot t) :: (pw begun ts (lay (plc (undot t).1 t.2.2 row.length t.2.1 begun).toNat row)).1, (pw begun ts (lay (plc (undot t).1 t.2.2 row.length t.2.1 begun).toNat row)).2) := rfl
section
variable {prog : Program} {w : World} {K : Frag} {G : Heap} {H : HM} {Q : AV → HM → Prop} {X : HM → Prop}
theorem p_run (V : Wd prog w K G) {H0 : HM} {A : Ad} {vals : List AV} {pos begun : Nat} {pre : List Nat} {its : AV} (hb : begun ≤ 10) : ∀ (ts : List Turn) (row : List Nat) (o : Addr) (H1 : HM) (st : Nat) (o2 : Option AV), (∀ t ∈ ts, TOk t) → st + ts.length ≤ 100 → row.length + 14 * ts.length ≤ 200 →
    Pk H0 H1 A o vals row pos (pre ++ [begun]) st →
    opt (pw begun ts row).2 (∀ H', HExt H0 H' → X H') (fun r => ∀ H' o' st', Pk H0 H' A o' vals r pos (pre ++ [begun]) st' → Q .none H') →
    forW (fb (CPs prog w K G 5) [2] f_pack_items_1 (fun τ => X τ.H)) (aft (CPs prog w K G 5) .nil Q X) ((pw begun ts row).1.map Prod.snd) ⟨[some (.ref A.a), some its, o2], H1⟩ := by
  intro ts
  induction ts with
  | nil => intro row o H1 st o2 _ _ _ u h; exact h _ _ _ u
  | cons t ts ih =>
    intro row o H1 st o2 ht hs hl u h
    have hs0 : st ≤ 1000 := Nat.le_trans (Nat.le_of_add_right_le hs) (by decide)
    have hr0 : row.length ≤ 1000 := Nat.le_trans (Nat.le_of_add_right_le hl) (by decide)
    have hl : row.length + 14 * ts.length + 14 ≤ 200 := hl
    have hk := ht t (.head _)
    have hp := plc_le (l := (undot t).1) (a := row.length) (begun := begun) (b := t.2.2) hk.2
    rw [pw_cons] at h ⊢
    by_cases g : plc (undot t).1 t.2.2 row.length t.2.1 begun < 0
    · rw [if_pos g] at h ⊢
      exact s_pitem_move V u (undot_ok hk) hs0 hr0 (.inr rfl) (.inl ⟨g, h⟩)
    · rw [if_neg g] at h ⊢
      have g := Int.not_lt.mp g
      have g3 := Int.toNat_le.mpr hp
      have hq : row.length + begun + 4 ≤ row.length + 14 := Nat.add_le_add_left (Nat.add_le_add_right hb 4) _
      refine s_pitem_move V u (undot_ok hk) hs0 hr0 (.inr rfl) (.inr ⟨_, (Int.toNat_of_nonneg g).symm, ?_, fun H2 o' u2 => ih _ o' H2 _ _ (fun x m => ht x (.tail _ m)) (Nat.le_trans (Nat.le_of_eq (Nat.add_right_comm _ 1 _)) hs) ?_ u2 h⟩)
      · exact Nat.le_trans g3 (Nat.le_trans hq (Nat.le_trans (Nat.add_le_add_right (Nat.le_of_add_right_le (Nat.le_of_add_right_le hl)) 14) (by decide)))
      · rw [lay_len]; exact Nat.le_trans (Nat.add_le_add_right (Nat.le_trans g3 hq) _) (Nat.le_trans (Nat.le_of_eq (Nat.add_right_comm _ _ _)) hl)
end
end Mine
end
section
open PySem PySem.W PyProof.Rows PySem.Calls PyProof.V PySem.Spec PySem.SeqAt
namespace Mine
theorem turn_ok (c : Int) : TOk (turnOf c) ∧ 0 ≤ Int.fmod c 6 ∧ Int.fmod c 6 < 6 ∧ 0 ≤ Int.fmod (Int.fdiv c 6) 5 := by
  have h0 : 0 ≤ Int.fmod c 6 := Int.fmod_nonneg_of_pos _ (by decide)
  have h1 : Int.fmod c 6 < 6 := Int.fmod_lt_of_pos _ (by decide)
  have h2 : 0 ≤ Int.fmod (Int.fdiv c 6) 5 := Int.fmod_nonneg_of_pos _ (by decide)
  have h3 : Int.fmod (Int.fdiv c 6) 5 < 5 := Int.fmod_lt_of_pos _ (by decide)
  refine ⟨⟨?_, ?_⟩, h0, h1, h2⟩
  · have : ∀ k < 6, (([120, 88, 64, 120, 88, 46][k]?).getD 120 = 46 ∨ ([120, 88, 64, 120, 88, 46][k]?).getD 120 ∈ [120, 88, 64]) := by decide
    exact this _ ((Int.toNat_lt h0).mpr h1)
  · exact (Int.toNat_lt h2).mpr h3
section
variable {prog : Program} {w : World} {K : Frag} {G : Heap} {H : HM} {Q : AV → HM → Prop} {X : HM → Prop}
theorem walk_head (V : Wd prog w K G) {R : Fl → St → Prop} {Y : St → Prop} {s : List Int} {k : Nat} {p d row a tx told bg o9 o10 o11 o12 o13 : Option AV} (hk : k < 4)
    (h : swps (CPs prog w K G 1) f_law_walk_1_t11 R Y ⟨[some (.lst (nums s)), p, d, row, a, tx, told, bg, some (.int (k : Int)), some (.int (pick s (2 + k))), some (.str [(turnOf (pick s (2 + k))).1]), some (.int ((turnOf (pick s (2 + k))).2.1 : Int)), some (.bool (turnOf (pick s (2 + k))).2.2), o13], H⟩) :
    swps (CPs prog w K G 1) f_law_walk_1 R Y ⟨[some (.lst (nums s)), p, d, row, a, tx, told, bg, some (.int (k : Int)), o9, o10, o11, o12, o13], H⟩ := by
  refine s_law_pick V (k := 2 + k) (Nat.lt_trans (Nat.add_lt_add_left hk 2) (by decide)) ?_
  generalize pick s (2 + k) = c at h ⊢
  obtain ⟨⟨_, _⟩, h0, h1, h2⟩ := turn_ok c
  have hi : (Int.fmod c 6).toNat < 6 := (Int.toNat_lt h0).mpr h1
  have e : [120, 88, 64, 120, 88, 46][(Int.fmod c 6).toNat]? = some (turnOf c).1 := by
    have : ∀ k < 6, [120, 88, 64, 120, 88, 46][k]? = some (([120, 88, 64, 120, 88, 46][k]?).getD 120) := by decide
    exact this _ hi
  refine ⟨by decide, _, h0, Int.lt_trans h1 (by decide), e, by decide, by decide, by decide, by decide, by decide, by decide, ?_⟩
  rw [show ((turnOf c).2.1 : Int) = Int.fmod (Int.fdiv c 6) 5 from Int.toNat_of_nonneg h2] at h
  exact h
end
end Mine
end
section
open PySem PySem.W PyProof.Rows PySem.Calls PyProof.V PySem.Spec PySem.SeqAt
namespace Mine
noncomputable def oAV (o : Option (List Int)) : AV := match o with | none => .none | some r => .lst (nums r)
noncomputable def texts (its : List (List Nat × AV)) : List Nat := (its.map Prod.fst).flatten
theorem texts_cons {x : List Nat × AV} {its : List (List Nat × AV)} : texts (x :: its) = x.1 ++ texts its := rfl
theorem uw_cons {n begun at' : Nat} {told : List Int} {t : Turn} {ts : List Turn} : uw n begun (t :: ts) at' told = if t.1 = 46 then (uitem t :: (uw n begun ts at' (told ++ [dval (t.2.1 % 4) at' begun])).1, (uw n begun ts at' (told ++ [dval (t.2.1 % 4) at' begun])).2)
    else if plc t.1 t.2.2 at' t.2.1 begun < 0 ∨ (n : Int) < plc t.1 t.2.2 at' t.2.1 begun then ([uitem t], none)
    else (uitem t :: (uw n begun ts (plc t.1 t.2.2 at' t.2.1 begun).toNat told).1, (uw n begun ts (plc t.1 t.2.2 at' t.2.1 begun).toNat told).2) := rfl
noncomputable def turns (s : List Int) (k n : Nat) : List Turn := (List.range' k n).map fun k => turnOf (pick s (2 + k))
theorem dws_get {j : Nat} (h : j < 4) : [AV.str [46], .str [46, 42], .str [46, 48], .str [46, 50]][j]? = some (.str (dws j)) := by
  match j, h with
  | 0, _ => rfl
  | 1, _ => rfl
  | 2, _ => rfl
  | 3, _ => rfl
theorem dval_get {j a b : Nat} (h : j < 4) : [AV.int ((a : Int) - b), .int a, .int 0, .int a][j]? = some (.int (dval j a b)) := by
  match j, h with
  | 0, _ => rfl
  | 1, _ => rfl
  | 2, _ => rfl
  | 3, _ => rfl
theorem dws_len {j : Nat} (h : j < 4) : (dws j).length ≤ 2 := (by decide : ∀ j < 4, (dws j).length ≤ 2) j h
theorem four_idx (m : Nat) : pyIdx 4 (Int.fmod (m : Int) 4) = some (m % 4) := by rw [show Int.fmod (m : Int) 4 = _ from fmodN m 4]; exact idx_nat (Nat.mod_lt _ (by decide))
theorem dec5 {m : Nat} (h : m < 5) : ((m : Int)).natAbs.log2 < 1920 ∧ decText (m : Int) = [48 + m] :=
  (by decide +kernel : ∀ m : Nat, m < 5 → ((m : Int)).natAbs.log2 < 1920 ∧ decText (m : Int) = [48 + m]) m h
section
variable {prog : Program} {w : World} {K : Frag} {G : Heap} {H : HM} {Q : AV → HM → Prop} {X : HM → Prop}
theorem u_walk (V : Wd prog w K G) {s : List Int} {data : List Nat} {begun : Nat} {b : Addr} (hb : H b = none) (hd : data.length ≤ 50) (hbg : begun ≤ 10) : ∀ (n k at' : Nat) (tx : List Nat) (told : List Int) (o8 o9 o10 o11 o12 o13 : Option AV), k + n = 4 → at' ≤ data.length → tx.length + 10 * n ≤ 1000 → told.length + n ≤ 100 →
    (∀ H', HExt H H' → Q (.tup [.str (tx ++ texts (uw data.length begun (turns s k n) at' told).1), oAV (uw data.length begun (turns s k n) at' told).2]) H') →
    forW (fb (CPs prog w K G 1) [8] f_law_walk_1 (fun τ => X τ.H)) (aft (CPs prog w K G 1) f_law_walk_2 Q X) (nn (List.range' k n)) ⟨[some (.lst (nums s)), some (.bool false), some (.lst (nn data)), some (.lst (nn data)), some (.int at'), some (.str tx), some (.ref b), some (.int begun), o8, o9, o10, o11, o12, o13], H.set b (.list (nums told))⟩ := by
  intro n
  induction n with
  | zero =>
    intro k at' tx told o8 o9 o10 o11 o12 o13 hk ha hx hl h
    have h : Q (.tup [.str (tx ++ []), .lst (nums told)]) H := h H (.refl H)
    rw [List.append_nil] at h
    refine refL_of (vs := nums told) same ?_
    show Q _ ((H.set b (.list (nums told))).del b)
    rw [gone1 hb]; exact h
  | succ n ih =>
    intro k at' tx told o8 o9 o10 o11 o12 o13 hk ha hx hl h
    have hk4 : k < 4 := Nat.lt_of_lt_of_le (Nat.lt_add_of_pos_right (Nat.succ_pos n)) (Nat.le_of_eq hk)
    refine walk_head V hk4 ?_
    have h : ∀ H', HExt H H' → Q (.tup [.str (tx ++ texts (uw data.length begun (turnOf (pick s (2 + k)) :: turns s (k + 1) n) at' told).1), oAV (uw data.length begun (turnOf (pick s (2 + k)) :: turns s (k + 1) n) at' told).2]) H' := h
    obtain ⟨t1, t2⟩ := (turn_ok (pick s (2 + k))).1
    generalize turnOf (pick s (2 + k)) = t at *
    rw [uw_cons] at h
    by_cases e : t.1 = 46
    · rw [if_pos e] at h
      have hj := Nat.mod_lt t.2.1 (y := 4) (by decide)
      have dl := dws_len hj
      refine br_yes (congrArg (fun x => [x]) e) ⟨by decide, t.2.1 % 4, _, four_idx _, dws_get hj, sl_of ?_, mok same, by decide, t.2.1 % 4, _, four_idx _, dval_get hj, refL_of same ⟨?_, ?_⟩⟩
      · exact Nat.le_trans (Nat.add_le_add (Nat.le_of_add_right_le hx) dl) (by decide)
      · rw [ints_len]; exact Nat.lt_of_le_of_lt (Nat.le_of_add_right_le hl) (by decide)
      · show forW (fb (CPs prog w K G 1) [8] f_law_walk_1 (fun τ => X τ.H)) (aft (CPs prog w K G 1) f_law_walk_2 Q X) (nn (List.range' (k + 1) n)) ⟨[_, _, _, _, _, some (.str (tx ++ dws (t.2.1 % 4))), _, _, _, _, _, _, _, _], (H.set b (.list (nums told))).set b (.list (nums told ++ nums [dval (t.2.1 % 4) at' begun]))⟩
        rw [HM.set_set, show nums told ++ nums [dval (t.2.1 % 4) at' begun] = nums (told ++ [dval (t.2.1 % 4) at' begun]) from (List.map_append (f := AV.int) (l₁ := told) (l₂ := [dval (t.2.1 % 4) at' begun])).symm]
        refine ih (k + 1) at' _ _ _ _ _ _ _ _ (by rw [Nat.add_right_comm]; exact hk) ha ?_ (by rw [List.length_append]; exact Nat.le_trans (Nat.le_of_eq (Nat.add_right_comm _ 1 _)) hl) fun H' e' => ?_
        · rw [List.length_append]
          exact Nat.le_trans (Nat.add_le_add_right (Nat.add_le_add_left (Nat.le_trans dl (by decide : 2 ≤ 10)) _) _) (Nat.le_trans (Nat.le_of_eq (by rw [Nat.mul_succ, Nat.add_assoc, Nat.add_comm 10])) hx)
        · have h := h H' e'
          rw [texts_cons, uitem, if_pos e, ← List.append_assoc] at h
          exact h
    · rw [if_neg e] at h
      have ne : ¬ [t.1] = [46] := fun z => e (sng z)
      obtain ⟨d1, d2⟩ := dec5 t2
      refine br_no ne (br_no ne (br_no ne ?_))
      have rest : swps (CPs prog w K G 1) f_law_walk_1_t8 (loopR (forW (fb (CPs prog w K G 1) [8] f_law_walk_1 (fun τ => X τ.H)) (aft (CPs prog w K G 1) f_law_walk_2 Q X) (nn (List.range' (k + 1) n))) (aft (CPs prog w K G 1) f_law_walk_2 Q X)) (fun τ => X τ.H)
          ⟨[some (.lst (nums s)), some (.bool false), some (.lst (nn data)), some (.lst (nn data)), some (.int at'), some (.str (tx ++ (mitem t).1)), some (.ref b), some (.int begun), some (.int (k : Int)), some (.int (pick s (2 + k))), some (.str [t.1]), some (.int t.2.1), some (.bool t.2.2), o13], H.set b (.list (nums told))⟩ := by
        have hu : uitem t = mitem t := if_neg e
        have ml : (mitem t).1.length ≤ 10 := by
          unfold mitem
          cases t.2.2 <;> exact Nat.le_of_ble_eq_true rfl
        refine s_law_moved V (t1.resolve_left e) (Nat.lt_of_le_of_lt (Nat.le_trans ha hd) (by decide)) t2 ?_
        rw [hu] at h
        generalize plc t.1 t.2.2 at' t.2.1 begun = P at h ⊢
        have bad : (P < 0 ∨ (data.length : Int) < P) → Q (.tup [.str (tx ++ (mitem t).1), .none]) (H.set b (.list (nums told))) := fun g => by
          have h := h _ (HExt.set (.list (nums told)) hb)
          rw [if_pos g] at h
          have h : Q (.tup [.str (tx ++ ((mitem t).1 ++ [])), .none]) (H.set b (.list (nums told))) := h
          rw [List.append_nil] at h; exact h
        refine br_dec (fun z => br_yes z (bad (.inl z))) fun z => br_dec (fun y => ?_) fun y => br_no y ?_
        · have y' : ((nn data).length : Int) < P := y
          rw [nn_len] at y'
          exact bad (.inr y')
        · have y' : ¬ ((nn data).length : Int) < P := y
          rw [nn_len] at y'
          have g1 := Int.toNat_of_nonneg (Int.not_lt.mp z)
          show forW (fb (CPs prog w K G 1) [8] f_law_walk_1 (fun τ => X τ.H)) (aft (CPs prog w K G 1) f_law_walk_2 Q X) (nn (List.range' (k + 1) n)) ⟨[_, _, _, _, some (.int P), _, _, _, _, _, _, _, _, _], _⟩
          rw [← g1]
          refine ih (k + 1) P.toNat _ told _ _ _ _ _ _ (by rw [Nat.add_right_comm]; exact hk) (Int.toNat_le.mpr (Int.not_lt.mp y')) ?_ (Nat.le_trans (Nat.add_le_add_left (Nat.le_succ n) _) hl) fun H' e' => ?_
          · rw [List.length_append]
            exact Nat.le_trans (Nat.add_le_add_right (Nat.add_le_add_left ml _) _) (Nat.le_trans (Nat.le_of_eq (by rw [Nat.mul_succ, Nat.add_assoc, Nat.add_comm 10])) hx)
          · have h := h H' e'
            rw [if_neg (fun q => q.elim z y'), texts_cons, ← List.append_assoc] at h
            exact h
      have hx' : tx.length ≤ 1000 := Nat.le_of_add_right_le hx
      unfold mitem at rest
      cases hb3 : t.2.2 with
      | false =>
        rw [hb3, ← d2] at rest
        refine ⟨sl_of (Nat.le_of_ble_eq_true rfl), d1, by rw [d2]; exact (by decide : 1 ≤ sizeLine), ?_, ?_, rest⟩
        · rw [d2]; exact sl_of (Nat.le_of_ble_eq_true rfl)
        · rw [d2]; exact Nat.le_trans (Nat.add_le_add_right hx' 2) (by decide)
      | true =>
        rw [hb3, ← d2] at rest
        refine ⟨sl_of (Nat.le_of_ble_eq_true rfl), d1, by rw [d2]; exact (by decide : 1 ≤ sizeLine), ?_, ?_, rest⟩
        · rw [d2]; exact sl_of (Nat.le_of_ble_eq_true rfl)
        · rw [d2]; exact Nat.le_trans (Nat.add_le_add_right hx' 3) (by decide)
end
end Mine
end
section
open PySem PySem.W PyProof.Rows PySem.Calls PyProof.V PySem.Spec PySem.SeqAt
namespace Mine
noncomputable def oRow (o : Option (List Nat)) : AV := match o with | none => .none | some r => .lst (nn r)
section
variable {prog : Program} {w : World} {K : Frag} {G : Heap} {H : HM} {Q : AV → HM → Prop} {X : HM → Prop}
theorem p_walk (V : Wd prog w K G) {s : List Int} {data : AV} {begun : Nat} {b : Addr} (hb : H b = none) (hbg : begun ≤ 10) : ∀ (n k : Nat) (tx row : List Nat) (o8 o9 o10 o11 o12 o13 : Option AV), k + n = 4 → row.length + 14 * n ≤ 60 → tx.length + 10 * n ≤ 1000 →
    (∀ H', HExt H H' → Q (.tup [.str (tx ++ texts (pw begun (turns s k n) row).1), oRow (pw begun (turns s k n) row).2]) H') →
    forW (fb (CPs prog w K G 1) [8] f_law_walk_1 (fun τ => X τ.H)) (aft (CPs prog w K G 1) f_law_walk_2 Q X) (nn (List.range' k n)) ⟨[some (.lst (nums s)), some (.bool true), some data, some (.lst (nn row)), some (.int row.length), some (.str tx), some (.ref b), some (.int begun), o8, o9, o10, o11, o12, o13], H.set b (.list [])⟩ := by
  intro n
  induction n with
  | zero =>
    intro k tx row o8 o9 o10 o11 o12 o13 hk hr hx h
    have h : Q (.tup [.str (tx ++ []), .lst (nn row)]) (H.set b (.list [])) := h _ (HExt.set (.list []) hb)
    rw [List.append_nil] at h
    exact h
  | succ n ih =>
    intro k tx row o8 o9 o10 o11 o12 o13 hk hr hx h
    have hk4 : k < 4 := Nat.lt_of_lt_of_le (Nat.lt_add_of_pos_right (Nat.succ_pos n)) (Nat.le_of_eq hk)
    refine walk_head V hk4 ?_
    have h : ∀ H', HExt H H' → Q (.tup [.str (tx ++ texts (pw begun (turnOf (pick s (2 + k)) :: turns s (k + 1) n) row).1), oRow (pw begun (turnOf (pick s (2 + k)) :: turns s (k + 1) n) row).2]) H' := h
    have hk2 := (turn_ok (pick s (2 + k))).1
    generalize turnOf (pick s (2 + k)) = t at *
    have t1 := undot_ok hk2
    have t2 := hk2.2
    rw [pw_cons] at h
    obtain ⟨d1, d2⟩ := dec5 t2
    have hr0 : row.length ≤ 60 := Nat.le_of_add_right_le hr
    have go : swps (CPs prog w K G 1) f_law_walk_1_t9 (loopR (forW (fb (CPs prog w K G 1) [8] f_law_walk_1 (fun τ => X τ.H)) (aft (CPs prog w K G 1) f_law_walk_2 Q X) (nn (List.range' (k + 1) n))) (aft (CPs prog w K G 1) f_law_walk_2 Q X)) (fun τ => X τ.H)
        ⟨[some (.lst (nums s)), some (.bool true), some data, some (.lst (nn row)), some (.int row.length), some (.str tx), some (.ref b), some (.int begun), some (.int (k : Int)), some (.int (pick s (2 + k))), some (.str [(undot t).1]), some (.int t.2.1), some (.bool t.2.2), o13], H.set b (.list [])⟩ := by
      have hx' : tx.length ≤ 1000 := Nat.le_of_add_right_le hx
      have rest : swps (CPs prog w K G 1) f_law_walk_1_t8 (loopR (forW (fb (CPs prog w K G 1) [8] f_law_walk_1 (fun τ => X τ.H)) (aft (CPs prog w K G 1) f_law_walk_2 Q X) (nn (List.range' (k + 1) n))) (aft (CPs prog w K G 1) f_law_walk_2 Q X)) (fun τ => X τ.H)
          ⟨[some (.lst (nums s)), some (.bool true), some data, some (.lst (nn row)), some (.int row.length), some (.str (tx ++ (mitem (undot t)).1)), some (.ref b), some (.int begun), some (.int (k : Int)), some (.int (pick s (2 + k))), some (.str [(undot t).1]), some (.int t.2.1), some (.bool t.2.2), o13], H.set b (.list [])⟩ := by
        have ml : (mitem (undot t)).1.length ≤ 10 := by
          unfold mitem
          cases (undot t).2.2 <;> exact Nat.le_of_ble_eq_true rfl
        have pl := plc_le (l := (undot t).1) (a := row.length) (begun := begun) (b := t.2.2) t2
        refine s_law_moved V t1 (Nat.lt_of_le_of_lt hr0 (by decide)) t2 ?_
        generalize plc (undot t).1 t.2.2 row.length t.2.1 begun = P at h pl ⊢
        have cont : ¬ P < 0 → swps (CPs prog w K G 1) f_law_walk_1_t6 (loopR (forW (fb (CPs prog w K G 1) [8] f_law_walk_1 (fun τ => X τ.H)) (aft (CPs prog w K G 1) f_law_walk_2 Q X) (nn (List.range' (k + 1) n))) (aft (CPs prog w K G 1) f_law_walk_2 Q X)) (fun τ => X τ.H)
            ⟨[some (.lst (nums s)), some (.bool true), some data, some (.lst (nn row)), some (.int row.length), some (.str (tx ++ (mitem (undot t)).1)), some (.ref b), some (.int begun), some (.int (k : Int)), some (.int (pick s (2 + k))), some (.str [(undot t).1]), some (.int t.2.1), some (.bool t.2.2), some (.int P)], H.set b (.list [])⟩ := by
          intro z
          obtain ⟨q, rfl⟩ := Int.eq_ofNat_of_zero_le (Int.not_lt.mp z)
          have hq : q ≤ row.length + begun + 4 := Int.ofNat_le.mp pl
          have hq14 : q ≤ row.length + 14 := Nat.le_trans hq (Nat.add_le_add_left (Nat.add_le_add_right hbg 4) _)
          have hq74 : q ≤ 74 := Nat.le_trans hq14 (Nat.add_le_add_right hr0 14)
          have em : (if (q : Int) - ((nn row).length : Int) > 0 then (q : Int) - ((nn row).length : Int) else 0) = ((q - row.length : Nat) : Int) := by
            rw [nn_len]
            by_cases g : row.length ≤ q
            · rw [sub_cast g]
              by_cases g0 : q - row.length = 0
              · rw [g0]; rfl
              · rw [if_pos (show ((q - row.length : Nat) : Int) > 0 from Int.ofNat_lt.mpr (Nat.pos_of_ne_zero g0))]
            · rw [if_neg (show ¬ (q : Int) - (row.length : Int) > 0 by omega), Nat.sub_eq_zero_of_le (Nat.le_of_not_le g)]; rfl
          have er : List.replicate (q - row.length) (AV.int 0) = nn (List.replicate (q - row.length) 0) := (List.map_replicate (f := fun x : Nat => AV.int x) (n := q - row.length) (a := 0)).symm
          show -(2 ^ 62) < (if (q : Int) - ((nn row).length : Int) > 0 then (q : Int) - ((nn row).length : Int) else 0) ∧ (if (q : Int) - ((nn row).length : Int) > 0 then (q : Int) - ((nn row).length : Int) else 0) ≤ 10000000 ∧ (pySlice (nn row) none (some (q : Int))).length + (List.replicate (if (q : Int) - ((nn row).length : Int) > 0 then (q : Int) - ((nn row).length : Int) else 0).toNat (AV.int 0)).length ≤ sizeLine ∧
            forW (fb (CPs prog w K G 1) [8] f_law_walk_1 (fun τ => X τ.H)) (aft (CPs prog w K G 1) f_law_walk_2 Q X) (nn (List.range' (k + 1) n)) ⟨[_, _, _, some (.lst (pySlice (nn row) none (some (q : Int)) ++ List.replicate (if (q : Int) - ((nn row).length : Int) > 0 then (q : Int) - ((nn row).length : Int) else 0).toNat (AV.int 0))), some (.int q), _, _, _, _, _, _, _, _, _], _⟩
          rw [em, Int.toNat_natCast, er, sl_N, nn_len, nn_len, ← nn_app]
          have hlq := lay_len q row
          have i := ih (k + 1) (tx ++ (mitem (undot t)).1) (lay q row) (some (.int (k : Int))) (some (.int (pick s (2 + k)))) (some (.str [(undot t).1])) (some (.int t.2.1)) (some (.bool t.2.2)) (some (.int q)) (by rw [Nat.add_right_comm]; exact hk) ?_ ?_ fun H' e' => ?_
          · rw [hlq] at i
            refine ⟨Int.lt_of_lt_of_le (by decide) (Int.natCast_nonneg _), Int.ofNat_le.mpr (Nat.le_trans (Nat.sub_le _ _) (Nat.le_trans hq74 (by decide))), ?_, i⟩
            rw [← List.length_append]
            exact Nat.le_trans (Nat.le_of_eq hlq) (Nat.le_trans hq74 (by decide))
          · rw [hlq]; exact Nat.le_trans (Nat.add_le_add_right hq14 _) (Nat.le_trans (Nat.le_of_eq (by rw [Nat.mul_succ, Nat.add_assoc, Nat.add_comm 14])) hr)
          · rw [List.length_append]
            exact Nat.le_trans (Nat.add_le_add_right (Nat.add_le_add_left ml _) _) (Nat.le_trans (Nat.le_of_eq (by rw [Nat.mul_succ, Nat.add_assoc, Nat.add_comm 10])) hx)
          · have h := h H' e'
            rw [if_neg z, texts_cons, ← List.append_assoc] at h
            exact h
        refine br_dec (fun z => br_yes z ?_) fun z => br_dec (fun y => cont z) fun y => br_no y (cont z)
        have h := h _ (HExt.set (.list []) hb)
        rw [if_pos z] at h
        have h : Q (.tup [.str (tx ++ ((mitem (undot t)).1 ++ [])), .none]) (H.set b (.list [])) := h
        rw [List.append_nil] at h; exact h
      unfold mitem at rest
      cases hb3 : t.2.2 with
      | false =>
        rw [show (undot t).2.2 = t.2.2 from rfl, show (undot t).2.1 = t.2.1 from rfl, hb3, ← d2] at rest
        refine ⟨sl_of (Nat.le_of_ble_eq_true rfl), d1, by rw [d2]; exact (by decide : 1 ≤ sizeLine), ?_, ?_, rest⟩
        · rw [d2]; exact sl_of (Nat.le_of_ble_eq_true rfl)
        · rw [d2]; exact Nat.le_trans (Nat.add_le_add_right hx' 2) (by decide)
      | true =>
        rw [show (undot t).2.2 = t.2.2 from rfl, show (undot t).2.1 = t.2.1 from rfl, hb3, ← d2] at rest
        refine ⟨sl_of (Nat.le_of_ble_eq_true rfl), d1, by rw [d2]; exact (by decide : 1 ≤ sizeLine), ?_, ?_, rest⟩
        · rw [d2]; exact sl_of (Nat.le_of_ble_eq_true rfl)
        · rw [d2]; exact Nat.le_trans (Nat.add_le_add_right hx' 3) (by decide)
    by_cases e : t.1 = 46
    · have e1 : (undot t).1 = 120 := if_pos e
      rw [e1] at go
      exact br_yes (congrArg (fun x => [x]) e) (br_yes (congrArg (fun x => [x]) e) go)
    · have e1 : (undot t).1 = t.1 := if_neg e
      have ne : ¬ [t.1] = [46] := fun z => e (sng z)
      rw [e1] at go
      exact br_no ne (br_no ne (br_no ne go))
end
end Mine
end
section
open PySem PySem.W PyProof.Rows PySem.Calls PyProof.V PySem.Spec PySem.SeqAt
namespace Mine
theorem cmp_ne {a b : List Nat} {k : Bool → Prop} (h : k (!decide (a = b))) : withO (cmpA .NotEq (.lst (nn a)) (.lst (nn b))) k := by
  show withO ((eqL (nn a) (nn b)).map (!·)) k
  rw [eqL_nn]; exact h
noncomputable def grp (s : List Int) : Prop := Int.fmod (pick s 1) 2 = 1
section
variable {prog : Program} {w : World} {K : Frag} {G : Heap} {H : HM} {Q : AV → HM → Prop} {X : HM → Prop}
theorem s_uwalk (V : Wd prog w K G) {s : List Int} {data : List Nat} (hd : data.length ≤ 50)
    (h1 : grp s → data ≠ [] → ∀ H', HExt H H' → Q (.tup [.str ([120, 40] ++ texts (uw data.length 1 (turns s 0 4) 1 []).1), oAV (uw data.length 1 (turns s 0 4) 1 []).2]) H')
    (h2 : ¬ (grp s ∧ data ≠ []) → ∀ H', HExt H H' → Q (.tup [.str ([] ++ texts (uw data.length 0 (turns s 0 4) 0 []).1), oAV (uw data.length 0 (turns s 0 4) 0 []).2]) H') :
    CallS prog w K G 2 (.glob (.ref 921)) [.lst (nums s), .bool false, .lst (nn data)] H Q X := by
  refine V.run (n := 68) (r := r_law_walk) rfl rfl ⟨_, rfl, fun b (hb : H b = none) => ?_⟩
  refine s_law_pick V (k := 1) (by decide) ⟨by decide, br_dec (fun z => ?_) fun z => ?_⟩
  · refine cmp_ne (b := []) (br_not (fun y => ?_) fun y => ?_)
    · exact ⟨by decide, by decide, by decide, by decide, u_walk V hb hd (by decide) 4 0 1 [120, 40] [] _ _ _ _ _ _ rfl (List.length_pos_iff.mpr y) (by decide) (by decide) (h1 z y)⟩
    · exact ⟨by decide, by decide, by decide, u_walk V hb hd (by decide) 4 0 0 [] [] _ _ _ _ _ _ rfl (Nat.zero_le _) (by decide) (by decide) (h2 fun q => q.2 y)⟩
  · exact br_no z ⟨by decide, by decide, by decide, u_walk V hb hd (by decide) 4 0 0 [] [] _ _ _ _ _ _ rfl (Nat.zero_le _) (by decide) (by decide) (h2 fun q => z q.1)⟩
theorem s_pwalk (V : Wd prog w K G) {s : List Int}
    (h1 : grp s → ∀ H', HExt H H' → Q (.tup [.str ([97, 50, 40] ++ texts (pw 2 (turns s 0 4) [65, 66]).1), oRow (pw 2 (turns s 0 4) [65, 66]).2]) H')
    (h2 : ¬ grp s → ∀ H', HExt H H' → Q (.tup [.str ([97, 50] ++ texts (pw 0 (turns s 0 4) [65, 66]).1), oRow (pw 0 (turns s 0 4) [65, 66]).2]) H') :
    CallS prog w K G 2 (.glob (.ref 921)) [.lst (nums s), .bool true, .lst (nn [65, 66])] H Q X := by
  refine V.run (n := 68) (r := r_law_walk) rfl rfl ⟨_, rfl, fun b (hb : H b = none) => ?_⟩
  refine s_law_pick V (k := 1) (by decide) ⟨by decide, br_dec (fun z => ?_) fun z => ?_⟩
  · exact ⟨by decide, by decide, by decide, by decide, p_walk V hb (by decide) 4 0 [97, 50, 40] [65, 66] _ _ _ _ _ _ rfl (by decide) (by decide) (h1 z)⟩
  · exact br_no z ⟨by decide, by decide, by decide, p_walk V hb (by decide) 4 0 [97, 50] [65, 66] _ _ _ _ _ _ rfl (by decide) (by decide) (h2 z)⟩
end
end Mine
end
section
open PySem PySem.W PyProof.Rows PySem.Calls PyProof.V PySem.Spec PySem.SeqAt
namespace Mine
theorem opt_of {α : Type} {o : Option α} {A : Prop} {B : α → Prop} (h2 : o = none → A) (h1 : ∀ r, o = some r → B r) : opt o A B := by
  cases o with
  | none => exact h2 rfl
  | some r => exact h1 r rfl
noncomputable def Wit (x : List Nat × AV) : Prop := ∃ t, TOk t ∧ x = uitem t
theorem uw_ok {n begun : Nat} : ∀ (ts : List Turn) (at' : Nat) (told : List Int), (∀ t ∈ ts, TOk t) → (uw n begun ts at' told).1.length ≤ ts.length ∧ ∀ x ∈ (uw n begun ts at' told).1, Wit x
  | [], _, _, _ => ⟨Nat.le_refl 0, nofun⟩
  | t :: ts, at', told, h => by
    have ht := h t (.head _)
    have hs := fun x m => h x (.tail _ m)
    have step : ∀ {r : List (List Nat × AV)}, (r.length ≤ ts.length ∧ ∀ x ∈ r, Wit x) → (uitem t :: r).length ≤ (t :: ts).length ∧ ∀ x ∈ uitem t :: r, Wit x := fun {r} h => ⟨Nat.succ_le_succ h.1, fun x m => (List.mem_cons.mp m).elim (fun e => ⟨t, ht, e⟩) (h.2 x)⟩
    rw [uw_cons]
    by_cases e : t.1 = 46
    · rw [if_pos e]; exact step (uw_ok ts _ _ hs)
    · rw [if_neg e]
      by_cases g : plc t.1 t.2.2 at' t.2.1 begun < 0 ∨ (n : Int) < plc t.1 t.2.2 at' t.2.1 begun
      · rw [if_pos g]; exact step ⟨Nat.zero_le _, nofun⟩
      · rw [if_neg g]; exact step (uw_ok ts _ _ hs)
theorem cn_fig {m : Nat} (h : m < 5) : Cn [48 + m] m :=
  .inr (.inr ((by decide +kernel : ∀ m : Nat, m < 5 → [48 + m] ≠ [] ∧ (∀ c ∈ [48 + m], c ∈ figs) ∧ [48 + m].length ≤ 9 ∧ PySem.intText? ⟨[48 + m].toArray⟩ = some (m : Int)) m h))
theorem turns_ok (s : List Int) (k n : Nat) : ∀ t ∈ turns s k n, TOk t := fun t m => by
  obtain ⟨i, _, rfl⟩ := List.mem_map.mp m
  exact (turn_ok _).1
theorem turns_len (s : List Int) (k n : Nat) : (turns s k n).length = n := by rw [turns, List.length_map, List.length_range']
noncomputable def Octs {α : Type} (enc : α → List Nat) (cs : List α) : Prop := ∀ c ∈ cs, (enc c).length ≤ 10 ∧ ∀ o ∈ enc c, o < 256
theorem Octs.flat {α : Type} {enc : α → List Nat} : ∀ {cs : List α}, Octs enc cs → (cs.map enc).flatten.length ≤ 10 * cs.length ∧ ∀ o ∈ (cs.map enc).flatten, o < 256
  | [], _ => ⟨Nat.le_refl 0, nofun⟩
  | c :: cs, h => by
    obtain ⟨a, b⟩ := Octs.flat (cs := cs) fun x m => h x (.tail _ m)
    obtain ⟨a', b'⟩ := h c (.head _)
    refine ⟨?_, fun o m => (List.mem_append.mp m).elim (b' o) (b o)⟩
    show (enc c ++ (cs.map enc).flatten).length ≤ _
    rw [List.length_append, List.length_cons, Nat.mul_succ, Nat.add_comm]; exact Nat.add_le_add a a'
abbrev Chs (l : List Nat) : Prop := 40 ∉ l ∧ l.length ≤ 10 ∧ ∀ o ∈ l, o < 256
theorem no40 {l m : Nat} {b : Bool} (hl : l ∈ [120, 88, 64]) (hm : m < 5) : Chs (l :: ((if b then [33] else []) ++ [48 + m])) :=
  (by decide : ∀ l ∈ [120, 88, 64], ∀ m < 5, ∀ b : Bool, Chs (l :: ((if b then [33] else []) ++ [48 + m]))) l hl m hm b
section
variable {prog : Program} {w : World} {K : Frag} {G : Heap} {H : HM} {Q : AV → HM → Prop} {X : HM → Prop}
theorem wit_one (V : Wd prog w K G) {dep : Int} {x : List Nat × AV} (h : Wit x) : One prog w K G 4 dep x.1 x.2 ∧ Chs x.1 := by
  obtain ⟨t, ⟨h1, h2⟩, rfl⟩ := h
  unfold uitem
  by_cases e : t.1 = 46
  · rw [if_pos e]
    have dot : ∀ {wc : List Nat} {n : Int}, Cn wc n → One prog w K G 4 dep (46 :: wc) (itm 46 false n .none) := fun hc => one_plain V (bang := false) (by decide) nofun hc fun _ => by decide
    match t.2.1 % 4, Nat.mod_lt t.2.1 (y := 4) (by decide) with
    | 0, _ => exact ⟨dot (.inl ⟨rfl, rfl⟩), by decide⟩
    | 1, _ => exact ⟨dot (.inr (.inl ⟨rfl, rfl⟩)), by decide⟩
    | 2, _ => exact ⟨dot (cn_fig (m := 0) (by decide)), by decide⟩
    | 3, _ => exact ⟨dot (cn_fig (m := 2) (by decide)), by decide⟩
  · rw [if_neg e]
    have hl := h1.resolve_left e
    exact ⟨one_plain V (List.mem_append_right [97, 119, 85, 117] (List.mem_append_left [46] hl)) (fun _ => hl) (cn_fig h2) (fun z => absurd z (by omega)), no40 hl h2⟩
theorem wits_40 {its : List (List Nat × AV)} (h : ∀ x ∈ its, 40 ∉ x.1) : 40 ∉ texts its := fun m => by
  obtain ⟨l, hl, m⟩ := List.mem_flatten.mp m
  obtain ⟨x, hx, rfl⟩ := List.mem_map.mp hl
  exact h x hx m
theorem wits_len (V : Wd prog w K G) {its : List (List Nat × AV)} (h : ∀ x ∈ its, Wit x) (hz : its.length ≤ 4) : (texts its).length ≤ 40 :=
  Nat.le_trans (Octs.flat (enc := Prod.fst) fun x m => (wit_one V (dep := 0) (h x m)).2.2).1 (Nat.mul_le_mul_left 10 hz)
theorem closed_no {t : List Nat} (h : 40 ∉ t) : closed t = t := if_neg h
theorem closed_yes {t : List Nat} (h : 40 ∈ t) : closed t = t ++ [41] := if_pos h
theorem u_items (V : Wd prog w K G) {H0 : HM} {A : Ad} {f : Addr} {data pre : List Nat} {begun at' st : Nat} {ts : List Turn} (hp : pre = [] ∨ pre = [0]) (ht : ∀ t ∈ ts, TOk t) (hl : ts.length ≤ 4) (ha : at' ≤ data.length) (hs : st ≤ 50)
    (u : Un H0 H A f data at' [] (pre ++ [begun]) st) (h1 : ∀ H' p fo st', Un H0 H' A f data p fo (pre ++ [begun]) st' → (∃ r, (uw data.length begun ts at' []).2 = some r ∧ fo = nums r) → Q .none H') (h2 : ∀ H', HExt H0 H' → (uw data.length begun ts at' []).2 = none → X H') :
    CallS prog w K G 4 (.glob (.ref 672)) [.ref A.a, .lst ((uw data.length begun ts at' []).1.map Prod.snd)] H Q X := by
  refine V.run (n := 37) (r := r_unpack_items) rfl rfl ⟨?_, u_run V hp ts at' [] H st _ ht ha (Nat.le_trans (Nat.add_le_add hs hl) (by decide)) (Nat.le_trans (Nat.add_le_add_left hl 0) (by decide)) u (opt_of (fun e H' x => h2 H' x e) fun r e H' p st' u' => h1 H' p _ st' u' ⟨r, e, rfl⟩)⟩
  rw [List.length_map]; exact Nat.le_trans (Nat.le_trans (uw_ok ts at' [] ht).1 hl) (by decide)
theorem u_plain (V : Wd prog w K G) {ts : List Turn} {data : List Nat} (ht : ∀ t ∈ ts, TOk t) (hl : ts.length ≤ 4) (hd : data.length ≤ 50) (ho : ∀ o ∈ data, o < 256) (h : ∀ H', HExt H H' → Q (oAV (uw data.length 0 ts 0 []).2) H') :
    CallS prog w K G 8 (.glob (.ref 873)) [.str (closed ([] ++ texts (uw data.length 0 ts 0 []).1)), .lst (nn data)] H Q X := by
  obtain ⟨o1, o2⟩ := uw_ok (n := data.length) (begun := 0) ts 0 [] ht
  rw [List.nil_append, closed_no (wits_40 fun x m => (wit_one V (dep := 0) (o2 x m)).2.1)]
  refine s_law_unpacked V (N := 4) (M := 6) (by decide) (fun x m => (wit_one V (o2 x m)).1) (Nat.le_trans (Nat.le_trans o1 hl) (by decide)) (Nat.le_trans hd (by decide)) ho (by decide) (by decide)
    (R := fun fo => ∃ r, (uw data.length 0 ts 0 []).2 = some r ∧ fo = nums r) (D := (uw data.length 0 ts 0 []).2 = none) (fun H0 H1 A f Q' X' u h1 h2 => CallS_up (u_items V (.inl rfl) ht hl (Nat.zero_le _) (Nat.zero_le _) u h1 h2) (by decide)) (fun H' fo e hr => ?_) (fun H' e hn => ?_)
  · obtain ⟨r, hr, rfl⟩ := hr
    have h := h H' e
    rw [hr] at h; exact h
  · have h := h H' e
    rw [hn] at h; exact h
theorem u_group (V : Wd prog w K G) {ts : List Turn} {data : List Nat} (ht : ∀ t ∈ ts, TOk t) (hl : ts.length ≤ 4) (hd : data.length ≤ 50) (hd0 : data ≠ []) (ho : ∀ o ∈ data, o < 256) (h : ∀ H', HExt H H' → Q (oAV (uw data.length 1 ts 1 []).2) H') :
    CallS prog w K G 12 (.glob (.ref 873)) [.str (closed ([120, 40] ++ texts (uw data.length 1 ts 1 []).1)), .lst (nn data)] H Q X := by
  obtain ⟨o1, o2⟩ := uw_ok (n := data.length) (begun := 1) ts 1 [] ht
  have hp := List.length_pos_iff.mpr hd0
  rw [closed_yes (t := [120, 40] ++ texts (uw data.length 1 ts 1 []).1) (.tail _ (.head _)), show [120, 40] ++ texts (uw data.length 1 ts 1 []).1 ++ [41] = (List.map Prod.fst [([120], itm 120 false (-2) .none), (40 :: (((uw data.length 1 ts 1 []).1.map Prod.fst).flatten ++ [41]), itm 40 false (-2) (.lst ((uw data.length 1 ts 1 []).1.map Prod.snd)))]).flatten from congrArg (fun x => 120 :: 40 :: x) (List.append_nil _).symm]
  refine s_law_unpacked V (N := 6) (M := 10) (by decide) (fun x m => ?_) (by exact (by decide : 2 ≤ 1000)) (Nat.le_trans hd (by decide)) ho (by decide) (by decide)
    (R := fun fo => ∃ r, (uw data.length 1 ts 1 []).2 = some r ∧ fo = nums r) (D := (uw data.length 1 ts 1 []).2 = none) (fun H0 H1 A f Q' X' u h1 h2 => ?_) (fun H' fo e hr => ?_) (fun H' e hn => ?_)
  · rcases List.mem_cons.mp m with rfl | m
    · obtain ⟨a, b⟩ := one_plain (K := K) (G := G) V (l := 120) (bang := false) (wc := []) (n := -2) (dep := 0) (by decide) nofun (.inl ⟨rfl, rfl⟩) nofun
      exact ⟨a, fun u hd ht h => CallS_up (b u hd ht h) (by decide)⟩
    · obtain rfl := List.mem_singleton.mp m
      exact one_group V (N := 4) (dep := 0) (by decide) (by decide) (by decide) (fun x m => (wit_one V (o2 x m)).1) (Nat.le_trans (Nat.le_trans o1 hl) (by decide))
  · refine V.run (n := 37) (r := r_unpack_items) rfl rfl ⟨by exact (by decide : 2 ≤ 1000000), ?_⟩
    refine CallS_up (s_item_move V (pre := []) (begun := 0) (l := 120) (many := 1) (by decide) u (by decide) (.inl ⟨rfl, rfl⟩) (.inr ⟨1, rfl, hp, fun H2 u2 => ?_⟩)) (by decide)
    exact CallS_up (s_item_group V (N := 4) (by decide) u2 (by decide) (by decide) (R := fun p fo st => ∃ r, (uw data.length 1 ts 1 []).2 = some r ∧ fo = nums r) (fun H3 Q3 X3 u3 g1 g2 => u_items V (pre := [0]) (begun := 1) (.inr rfl) ht hl hp (by decide) u3 g1 g2) h1 h2) (by decide)
  · obtain ⟨r, hr, rfl⟩ := hr
    have h := h H' e
    rw [hr] at h; exact h
  · have h := h H' e
    rw [hn] at h; exact h
end
end Mine
end
section
open PySem PySem.W PyProof.Rows PySem.Calls PyProof.V PySem.Spec PySem.SeqAt
namespace Mine
theorem lay_small {q : Nat} {row : List Nat} (h : ∀ o ∈ row, o < 256) : ∀ o ∈ lay q row, o < 256 := fun o m => by
  rcases List.mem_append.mp m with m | m
  · exact h o (List.mem_of_mem_take m)
  · rw [(List.mem_replicate.mp m).2]; decide
theorem wit_undot {t : Turn} (h : TOk t) : Wit (mitem (undot t)) :=
  ⟨undot t, ⟨.inr (undot_ok h), h.2⟩, (if_neg ((by decide : ∀ l ∈ [120, 88, 64], l ≠ 46) _ (undot_ok h))).symm⟩
theorem pw_ok {begun : Nat} (hb : begun ≤ 10) : ∀ (ts : List Turn) (row : List Nat), (∀ t ∈ ts, TOk t) → (∀ o ∈ row, o < 256) →
    ((pw begun ts row).1.length ≤ ts.length ∧ ∀ x ∈ (pw begun ts row).1, Wit x) ∧ ∀ r, (pw begun ts row).2 = some r → r.length ≤ row.length + 14 * ts.length ∧ ∀ o ∈ r, o < 256
  | [], row, _, hr => ⟨⟨Nat.le_refl 0, nofun⟩, fun r e => by cases e; exact ⟨Nat.le_refl _, hr⟩⟩
  | t :: ts, row, h, hr => by
    have ht := h t (.head _)
    have wt := wit_undot ht
    have pl := plc_le (l := (undot t).1) (a := row.length) (begun := begun) (b := t.2.2) ht.2
    rw [pw_cons]
    generalize plc (undot t).1 t.2.2 row.length t.2.1 begun = P at pl ⊢
    by_cases g : P < 0
    · rw [if_pos g]; exact ⟨⟨Nat.succ_le_succ (Nat.zero_le _), fun x m => (List.mem_singleton.mp m).symm ▸ wt⟩, nofun⟩
    · rw [if_neg g]
      obtain ⟨⟨a, b⟩, c⟩ := pw_ok hb ts (lay P.toNat row) (fun x m => h x (.tail _ m)) (lay_small hr)
      rw [lay_len] at c
      refine ⟨⟨Nat.succ_le_succ a, fun x m => (List.mem_cons.mp m).elim (fun e => e ▸ wt) (b x)⟩, fun r e => ⟨Nat.le_trans (c r e).1 (Nat.le_trans (Nat.add_le_add_right (Nat.le_trans (Int.toNat_le.mpr pl) (Nat.add_le_add_left (Nat.add_le_add_right hb 4) _)) _) (Nat.le_of_eq ?_)), (c r e).2⟩⟩
      rw [List.length_cons, Nat.mul_succ, Nat.add_assoc, Nat.add_comm (10 + 4)]
section
variable {prog : Program} {w : World} {K : Frag} {G : Heap} {H : HM} {Q : AV → HM → Prop} {X : HM → Prop}
theorem p_text (V : Wd prog w K G) {vs : List AV} {H0 : HM} {A : Ad} {o : Addr} {R : HM → Prop} (u : Pk H0 H A o (.str [65, 66] :: vs) [] 0 [0] 0) (h : ∀ H', Pk H0 H' A o (.str [65, 66] :: vs) [65, 66] 1 [0] 1 → R H') :
    CallS prog w K G 5 (.glob (.ref 844)) [.ref A.a, itm 97 false 2 .none] H (fun _ H' => R H') X :=
  CallS_up (s_pitem_text V u (codes := [65, 66]) (many := 2) (by decide) rfl (by decide) (by decide) (by decide) (by decide) (.inr rfl) h) (by decide)
theorem one_a2 (V : Wd prog w K G) {dep : Int} : One prog w K G 4 dep [97, 50] (itm 97 false 2 .none) := one_plain V (bang := false) (by decide) nofun (cn_fig (m := 2) (by decide)) nofun
theorem p_plain (V : Wd prog w K G) {ts : List Turn} (ht : ∀ t ∈ ts, TOk t) (hl : ts.length ≤ 4) (h : ∀ H', HExt H H' → Q (oRow (pw 0 ts [65, 66]).2) H') :
    CallS prog w K G 12 (.glob (.ref 868)) [.str (closed ([97, 50] ++ texts (pw 0 ts [65, 66]).1)), .lst [.str [65, 66]]] H Q X := by
  obtain ⟨⟨o1, o2⟩, o3⟩ := pw_ok (begun := 0) (by decide) ts [65, 66] ht (by decide)
  rw [closed_no (t := [97, 50] ++ texts (pw 0 ts [65, 66]).1) (fun m => (List.mem_append.mp m).elim (by decide) (wits_40 fun x m => (wit_one V (dep := 0) (o2 x m)).2.1))]
  refine s_law_packed V (N := 4) (M := 10) (items := ([97, 50], itm 97 false 2 .none) :: (pw 0 ts [65, 66]).1) (by decide) (fun x m => ?_) (Nat.le_trans (Nat.succ_le_succ (Nat.le_trans o1 hl)) (by decide)) (by decide) (by decide)
    (R := fun out => (pw 0 ts [65, 66]).2 = some out) (D := (pw 0 ts [65, 66]).2 = none) (fun H0 H1 A o Q' X' u h1 h2 => ?_) (fun out e => ⟨Nat.le_trans (o3 out e).1 (Nat.le_trans (Nat.add_le_add_left (Nat.mul_le_mul_left 14 hl) 2) (by decide)), (o3 out e).2⟩) (fun H' out e hr => ?_) (fun H' e hn => ?_)
  · rcases List.mem_cons.mp m with rfl | m
    · exact one_a2 V
    · exact (wit_one V (o2 x m)).1
  · refine CallS_up (V.run (d := 5) (n := 56) (r := r_pack_items) rfl rfl ⟨?_, p_text V u fun H2 u2 => ?_⟩) (by decide)
    · show ((pw 0 ts [65, 66]).1.map Prod.snd).length + 1 ≤ 1000000
      rw [List.length_map]; exact Nat.le_trans (Nat.succ_le_succ (Nat.le_trans o1 hl)) (by decide)
    · exact p_run V (pre := []) (begun := 0) (by decide) ts [65, 66] o H2 1 _ ht (Nat.le_trans (Nat.add_le_add_left hl 1) (by decide)) (Nat.le_trans (Nat.add_le_add_left (Nat.mul_le_mul_left 14 hl) 2) (by decide)) u2 (opt_of (fun e H' x => h2 H' x e) fun r e H' o' st' u' => h1 H' o' r _ st' u' e)
  · have h := h H' e
    rw [hr] at h; exact h
  · have h := h H' e
    rw [hn] at h; exact h
theorem p_items (V : Wd prog w K G) {H0 : HM} {A : Ad} {o : Addr} {vals : List AV} {ts : List Turn} (ht : ∀ t ∈ ts, TOk t) (hl : ts.length ≤ 4)
    (u : Pk H0 H A o vals [65, 66] 1 [0, 2] 3) (h1 : ∀ H' o' out p st', Pk H0 H' A o' vals out p [0, 2] st' → (pw 2 ts [65, 66]).2 = some out → Q .none H') (h2 : ∀ H', HExt H0 H' → (pw 2 ts [65, 66]).2 = none → X H') :
    CallS prog w K G 6 (.glob (.ref 851)) [.ref A.a, .lst ((pw 2 ts [65, 66]).1.map Prod.snd)] H Q X := by
  refine V.run (n := 56) (r := r_pack_items) rfl rfl ⟨?_, p_run V (pre := [0]) (begun := 2) (by decide) ts [65, 66] o H 3 _ ht (Nat.le_trans (Nat.add_le_add_left hl 3) (by decide)) (Nat.le_trans (Nat.add_le_add_left (Nat.mul_le_mul_left 14 hl) 2) (by decide)) u (opt_of (fun e H' x => h2 H' x e) fun r e H' o' st' u' => h1 H' o' r _ st' u' e)⟩
  rw [List.length_map]; exact Nat.le_trans (Nat.le_trans (pw_ok (begun := 2) (by decide) ts [65, 66] ht (by decide)).1.1 hl) (by decide)
theorem p_group (V : Wd prog w K G) {ts : List Turn} (ht : ∀ t ∈ ts, TOk t) (hl : ts.length ≤ 4) (h : ∀ H', HExt H H' → Q (oRow (pw 2 ts [65, 66]).2) H') :
    CallS prog w K G 12 (.glob (.ref 868)) [.str (closed ([97, 50, 40] ++ texts (pw 2 ts [65, 66]).1)), .lst [.str [65, 66]]] H Q X := by
  obtain ⟨⟨o1, o2⟩, o3⟩ := pw_ok (begun := 2) (by decide) ts [65, 66] ht (by decide)
  rw [closed_yes (t := [97, 50, 40] ++ texts (pw 2 ts [65, 66]).1) (.tail _ (.tail _ (.head _))), show [97, 50, 40] ++ texts (pw 2 ts [65, 66]).1 ++ [41] = (List.map Prod.fst [([97, 50], itm 97 false 2 .none), (40 :: (((pw 2 ts [65, 66]).1.map Prod.fst).flatten ++ [41]), itm 40 false (-2) (.lst ((pw 2 ts [65, 66]).1.map Prod.snd)))]).flatten from congrArg (fun x => 97 :: 50 :: 40 :: x) (List.append_nil _).symm]
  refine s_law_packed V (N := 6) (M := 10) (by decide) (fun x m => ?_) (by exact (by decide : 2 ≤ 1000)) (by decide) (by decide)
    (R := fun out => (pw 2 ts [65, 66]).2 = some out) (D := (pw 2 ts [65, 66]).2 = none) (fun H0 H1 A o Q' X' u h1 h2 => ?_) (fun out e => ⟨Nat.le_trans (o3 out e).1 (Nat.le_trans (Nat.add_le_add_left (Nat.mul_le_mul_left 14 hl) 2) (by decide)), (o3 out e).2⟩) (fun H' out e hr => ?_) (fun H' e hn => ?_)
  · rcases List.mem_cons.mp m with rfl | m
    · obtain ⟨a, b⟩ := one_a2 (K := K) (G := G) V (dep := 0)
      exact ⟨a, fun u hd ht h => CallS_up (b u hd ht h) (by decide)⟩
    · obtain rfl := List.mem_singleton.mp m
      exact one_group V (N := 4) (dep := 0) (by decide) (by decide) (by decide) (fun x m => (wit_one V (o2 x m)).1) (Nat.le_trans (Nat.le_trans o1 hl) (by decide))
  · refine V.run (n := 56) (r := r_pack_items) rfl rfl ⟨by exact (by decide : 2 ≤ 1000000), CallS_up (p_text V u fun H2 u2 => ?_) (by decide)⟩
    exact CallS_up (s_pitem_group V (N := 6) (by decide) u2 (by decide) (by decide) (by exact (by decide : 1 ≤ 1)) (R := fun out p st => (pw 2 ts [65, 66]).2 = some out) (fun H3 Q3 X3 u3 g1 g2 => p_items V ht hl u3 g1 g2) (fun H' o' out p st u hr => h1 H' o' out p st u hr) h2) (by decide)
  · have h := h H' e
    rw [hr] at h; exact h
  · have h := h H' e
    rw [hn] at h; exact h
end
end Mine
end
section
open PySem PySem.W PyProof.Rows PySem.Calls PyProof.V PySem.Spec PySem.SeqAt
namespace Mine
theorem gp_of {P : Int} {D : Prop} {k : Nat → Prop} (h1 : P < 0 → D) (h2 : ∀ q : Nat, P = q → k q) : Gp P D k := by
  by_cases z : P < 0
  · exact .inl ⟨z, h1 z⟩
  · obtain ⟨q, e⟩ := Int.eq_ofNat_of_zero_le (Int.not_lt.mp z)
    exact .inr ⟨q, e, h2 q e⟩
abbrev abc (n : Int) : List AV := [.str [65], .str [66, 67], .int n]
noncomputable def DotC (c : Int) (pre : List Nat) (begun base : Nat) : Prop := (c = 0 ∧ base = 3) ∨ (c = -1 ∧ base = 0) ∨ (c = -2 ∧ base = begun) ∨ (c = 2 ∧ pre = [0] ∧ base = 0) ∨ (c = 3 ∧ pre = [0] ∧ base = 0)
section
variable {prog : Program} {w : World} {K : Frag} {G : Heap} {H : HM} {Q : AV → HM → Prop} {X : HM → Prop}
theorem pt_tail (V : Wd prog w K G) {H0 : HM} {A : Ad} {o : Addr} {n c : Int} {pre : List Nat} {begun base st : Nat} {its : AV} {o2 : Option AV} (hc : DotC c pre begun base) (hn : (base : Int) + n ≤ 8) (hs : st ≤ 50)
    (u : Pk H0 H A o (abc n) [65] 1 (pre ++ [begun]) st) (h1 : ∀ H' o' out p st', Pk H0 H' A o' (abc n) out p (pre ++ [begun]) st' → (∃ q : Nat, (base : Int) + n = q ∧ out = lay q [65, 66, 67]) → Q .none H') (h2 : ∀ H', HExt H0 H' → (base : Int) + n < 0 → X H') :
    forW (fb (CPs prog w K G 5) [2] f_pack_items_1 (fun τ => X τ.H)) (aft (CPs prog w K G 5) .nil Q X) [itm 97 false 2 .none, itm 46 false c .none] ⟨[some (.ref A.a), some its, o2], H⟩ := by
  refine CallS_up (s_pitem_text V u (codes := [66, 67]) (many := 2) (Nat.le_trans hs (by decide)) rfl (by decide) (by decide) (by decide) (by decide) (.inr rfl) fun H1 u1 => ?_) (by decide)
  refine s_pitem_dot V u1 (base := base) (Nat.succ_le_succ (Nat.le_trans hs (by decide : 50 ≤ 999))) rfl (by exact (by decide : 3 ≤ 1000)) hc (gp_of (fun z H' e => h2 H' e z) fun q e => ⟨?_, fun H' o' u' => h1 H' o' _ _ _ u' ⟨q, e, rfl⟩⟩)
  exact Nat.le_trans (Int.ofNat_le.mp (e ▸ hn)) (by decide : 8 ≤ 1000)
noncomputable def Tm (prog : Program) (w : World) (K : Frag) (G : Heap) (t : List Nat) (base : Nat) : Prop := ∀ {H : HM} {Q : AV → HM → Prop} {X : HM → Prop} {n : Int}, n ≤ 5 →
  ((base : Int) + n < 0 → ∀ H', HExt H H' → Q .none H') → (∀ q : Nat, (base : Int) + n = q → ∀ H', HExt H H' → Q (.lst (nn (lay q [65, 66, 67]))) H') → CallS prog w K G 12 (.glob (.ref 868)) [.str t, .lst (abc n)] H Q X
theorem pt_of (V : Wd prog w K G) {items : List (List Nat × AV)} {base : Nat} (hb : base ≤ 3) (hi : ∀ x ∈ items, One prog w K G 6 0 x.1 x.2) (hz : items.length ≤ 1000)
    (run : ∀ n : Int, (base : Int) + n ≤ 8 → PRun prog w K G 10 (abc n) (.lst (items.map Prod.snd)) (fun out => ∃ q : Nat, (base : Int) + n = q ∧ out = lay q [65, 66, 67]) ((base : Int) + n < 0)) : Tm prog w K G (items.map Prod.fst).flatten base := fun {H Q X n} hn h1 h2 => by
  have h8 : (base : Int) + n ≤ 8 := Int.add_le_add (Int.ofNat_le.mpr hb) hn
  refine s_law_packed V (N := 6) (M := 10) (by decide) hi hz (by decide) (by decide) (run n h8) (fun out e => ?_) (fun H' out e r => ?_) fun H' e z => h1 z H' e
  · obtain ⟨q, e, rfl⟩ := e
    rw [lay_len]
    exact ⟨Nat.le_trans (Int.ofNat_le.mp (e ▸ h8)) (by decide : 8 ≤ 100000), lay_small (by decide)⟩
  · obtain ⟨q, r, rfl⟩ := r
    exact h2 q r H' e
theorem one_up {N M : Nat} {dep : Int} {t : List Nat} {v : AV} (h : One prog w K G N dep t v) (k : N ≤ M) : One prog w K G M dep t v := ⟨h.1, fun u hd ht q => CallS_up (h.2 u hd ht q) k⟩
theorem one_a (V : Wd prog w K G) {dep : Int} {m : Nat} (h : m < 5) : One prog w K G 4 dep [97, 48 + m] (itm 97 false m .none) := one_plain V (bang := false) (by decide) nofun (cn_fig h) fun _ => by decide
abbrev pit (wc : List Nat) (c : Int) : List (List Nat × AV) := [([97, 50], itm 97 false 2 .none), (46 :: wc, itm 46 false c .none)]
theorem pit_one (V : Wd prog w K G) {wc : List Nat} {c dep : Int} (hw : Cn wc c) : ∀ x ∈ pit wc c, One prog w K G 4 dep x.1 x.2 := fun x m => by
  rcases List.mem_cons.mp m with rfl | m
  · exact one_a V (m := 2) (by decide)
  · obtain rfl := List.mem_singleton.mp m
    exact one_plain V (bang := false) (by decide) nofun hw fun _ => by decide
theorem tm_group (V : Wd prog w K G) {wc : List Nat} {c : Int} {base : Nat} (hw : Cn wc c) (hc : DotC c [0] 1 base) (hb : base ≤ 3) : Tm prog w K G ([97, 49, 40, 97, 50, 46] ++ (wc ++ [41])) base := by
  rw [show [97, 49, 40, 97, 50, 46] ++ (wc ++ [41]) = ([([97, 49], itm 97 false 1 .none), (40 :: (((pit wc c).map Prod.fst).flatten ++ [41]), itm 40 false (-2) (.lst ((pit wc c).map Prod.snd)))].map Prod.fst).flatten from
    congrArg (fun x => 97 :: 49 :: 40 :: 97 :: 50 :: 46 :: x) (show wc ++ [41] = ((wc ++ []) ++ [41]) ++ [] by rw [List.append_nil, List.append_nil])]
  refine pt_of V hb (fun x m => ?_) (by exact (by decide : 2 ≤ 1000)) (fun n hn H0 H1 A o Q X u h1 h2 => ?_)
  · rcases List.mem_cons.mp m with rfl | m
    · exact one_up (one_a V (m := 1) (by decide)) (by decide)
    · obtain rfl := List.mem_singleton.mp m
      exact one_group V (N := 4) (dep := 0) (by decide) (by decide) (by decide) (pit_one V hw) (by exact (by decide : 2 ≤ 1000))
  · refine V.run (n := 56) (r := r_pack_items) rfl rfl ⟨by exact (by decide : 2 ≤ 1000000), CallS_up (s_pitem_text V u (codes := [65]) (many := 1) (by decide) rfl (by decide) (by decide) (by decide) (by decide) (.inr rfl) fun H2 u2 => ?_) (by decide)⟩
    exact CallS_up (s_pitem_group V (N := 6) (by decide) u2 (by decide) (by decide) (by exact (by decide : 1 ≤ 3)) (R := fun out p st => ∃ q : Nat, (base : Int) + n = q ∧ out = lay q [65, 66, 67]) (fun H3 Q3 X3 u3 g1 g2 => V.run (d := 5) (n := 56) (r := r_pack_items) rfl rfl ⟨by exact (by decide : 2 ≤ 1000000), pt_tail V (pre := [0]) (begun := 1) hc hn (by decide) u3 g1 g2⟩) (fun H' o' out p st u hr => h1 H' o' out p st u hr) h2) (by decide)
theorem tm_plain (V : Wd prog w K G) : Tm prog w K G [97, 49, 97, 50, 46] 0 := by
  refine pt_of V (items := ([97, 49], itm 97 false 1 .none) :: pit [] (-2)) (by decide) (fun x m => ?_) (by exact (by decide : 3 ≤ 1000)) (fun n hn H0 H1 A o Q X u h1 h2 => ?_)
  · rcases List.mem_cons.mp m with rfl | m
    · exact one_up (one_a V (m := 1) (by decide)) (by decide)
    · exact one_up (pit_one V (.inl ⟨rfl, rfl⟩) x m) (by decide)
  · exact CallS_up (V.run (d := 5) (n := 56) (r := r_pack_items) rfl rfl ⟨by exact (by decide : 3 ≤ 1000000), CallS_up (s_pitem_text V u (codes := [65]) (many := 1) (by decide) rfl (by decide) (by decide) (by decide) (by decide) (.inr rfl) fun H2 u2 => pt_tail V (pre := []) (begun := 0) (.inr (.inr (.inl ⟨rfl, rfl⟩))) hn (by decide) u2 h1 h2) (by decide)⟩) (by decide)
end
end Mine
end
section
open PySem PySem.W PyProof.Rows PySem.Calls PyProof.V PySem.Spec PySem.SeqAt
namespace Mine
theorem lay_abc : ∀ q ≤ 8, lay q [65, 66, 67] = [65, 66, 67, 0, 0, 0, 0, 0, 0, 0].take q := by decide
section
variable {prog : Program} {w : World} {K : Frag} {G : Heap} {H : HM} {Q : AV → HM → Prop} {X : HM → Prop}
theorem pt_step (V : Wd prog w K G) {t : List Nat} {base : Nat} {n : Int} {s o2 o3 o4 : Option AV} {F : St → Prop} {R : Fl → St → Prop} (hT : Tm prog w K G t base) (hb : base ≤ 3) (hn : n ≤ 5)
    (h : ∀ H' o4, HExt H H' → F ⟨[s, some (.int n), some (.str t), some (.int base), o4], H'⟩) :
    fb (CPs prog w K G 12) [2, 3] f_law_pointed_1 (fun τ => X τ.H) (.tup [.str t, .int base]) (loopR F R) ⟨[s, some (.int n), o2, o3, o4], H⟩ := by
  refine hT hn (fun z H' e => ?_) fun q z H' e => ?_
  · exact br_no (Int.not_le.mpr z) (h H' _ e)
  · have hq : q ≤ 8 := Int.ofNat_le.mp (z ▸ Int.add_le_add (Int.ofNat_le.mpr hb) hn)
    refine br_yes (z ▸ Int.natCast_nonneg q) ?_
    show withO (cmpA .NotEq (.lst (nn (lay q [65, 66, 67]))) (.lst (pySlice (nn [65, 66, 67, 0, 0, 0, 0, 0, 0, 0]) none (some (if (base : Int) + n > 0 then (base : Int) + n else 0))))) _
    rw [z, show (if (q : Int) > 0 then (q : Int) else 0) = q from ?_, sl_N]
    · exact cmp_ne (brn_no (lay_abc q hq) (h H' _ e))
    · by_cases g : (q : Int) > 0
      · exact if_pos g
      · rw [if_neg g]; exact Int.le_antisymm (Int.natCast_nonneg q) (Int.not_lt.mp g)
theorem s_law_pointed (V : Wd prog w K G) {s : List Int} (h : ∀ H', HExt H H' → Q (.bool true) H') : CallS prog w K G 13 (.glob (.ref 928)) [.lst (nums s)] H Q X := by
  refine V.run (n := 69) (r := r_law_pointed) rfl rfl (CallS_up (s_law_pick V (k := 2) (by decide) ⟨by decide, by exact (by decide : 6 ≤ 1000000), ?_⟩) (by decide))
  have hn : Int.fmod (pick s 2) 9 - 3 ≤ 5 := Int.sub_le_sub_right (show Int.fmod (pick s 2) 9 ≤ 8 from Int.le_of_lt_add_one (Int.fmod_lt_of_pos (pick s 2) (by decide : (0 : Int) < 9))) 3
  refine pt_step V (tm_group V (wc := []) (.inl ⟨rfl, rfl⟩) (.inr (.inr (.inl ⟨rfl, rfl⟩))) (by decide)) (by decide) hn fun H1 _ e1 => ?_
  refine pt_step V (tm_group V (cn_fig (m := 0) (by decide)) (.inl ⟨rfl, rfl⟩) (by decide)) (by decide) hn fun H2 _ e2 => ?_
  refine pt_step V (tm_group V (wc := [42]) (.inr (.inl ⟨rfl, rfl⟩)) (.inr (.inl ⟨rfl, rfl⟩)) (by decide)) (by decide) hn fun H3 _ e3 => ?_
  refine pt_step V (tm_group V (cn_fig (m := 2) (by decide)) (.inr (.inr (.inr (.inl ⟨rfl, rfl, rfl⟩)))) (by decide)) (by decide) hn fun H4 _ e4 => ?_
  refine pt_step V (tm_group V (cn_fig (m := 3) (by decide)) (.inr (.inr (.inr (.inr ⟨rfl, rfl, rfl⟩)))) (by decide)) (by decide) hn fun H5 _ e5 => ?_
  refine pt_step V (tm_plain V) (by decide) hn fun H6 _ e6 => ?_
  exact h _ (((((e1.trans e2).trans e3).trans e4).trans e5).trans e6)
end
end Mine
end
section
open PySem PySem.W PyProof.Rows PySem.Calls PyProof.V PySem.Spec PySem.SeqAt
namespace Mine
theorem star_ok {lt : Nat} (h : lt = 119 ∨ lt = 85) : lt ∈ [97, 119, 85, 117, 120, 88, 64, 46] ∧ lt ∉ [120, 88, 64] := by
  rcases h with rfl | rfl <;> decide
theorem Rdn.lt {lt : Nat} {rd : List Nat → Option (Nat × Nat)} (h : Rdn lt rd) : lt = 119 ∨ lt = 85 := h.imp And.left And.left
theorem dec70 {n : Nat} (h : n < 70) : ((n : Int)).natAbs.log2 < 1920 ∧ (decText (n : Int)).length ≤ 9 ∧ decText (n : Int) ≠ [] ∧ (∀ c ∈ decText (n : Int), c ∈ figs) ∧ PySem.intText? ⟨(decText (n : Int)).toArray⟩ = some (n : Int) :=
  (by decide +kernel : ∀ n : Nat, n < 70 → ((n : Int)).natAbs.log2 < 1920 ∧ (decText (n : Int)).length ≤ 9 ∧ decText (n : Int) ≠ [] ∧ (∀ c ∈ decText (n : Int), c ∈ figs) ∧ PySem.intText? ⟨(decText (n : Int)).toArray⟩ = some (n : Int)) n h
theorem lns_succ {wd m : Nat} {l : List Nat} : lns wd (m + 1) l = uuL (l.take wd) ++ lns wd m (l.drop wd) := rfl
theorem sgn_lt {s : Nat} (h : s < 64) : sgn s < 256 := by
  unfold sgn; split <;> omega
theorem grps_lt : ∀ {m : Nat} {l : List Nat}, (∀ o ∈ l, o < 256) → ∀ s ∈ grps m l, s < 64
  | 0, _, _, s, h => by cases h
  | m + 1, l, ho, s, h => by
    obtain ⟨a, b, c, d⟩ := g3_lt (at3_lt ho 0) (at3_lt ho 1) (at3_lt ho 2)
    rcases List.mem_append.mp (show s ∈ g3 l ++ grps m (l.drop 3) from h) with h | h
    · have : ∀ x ∈ g3 l, x < 64 := fun x m => by
        rcases List.mem_cons.mp m with rfl | m
        · exact a
        rcases List.mem_cons.mp m with rfl | m
        · exact b
        rcases List.mem_cons.mp m with rfl | m
        · exact c
        · obtain rfl := List.mem_singleton.mp m; exact d
      exact this s h
    · exact grps_lt (fun o m => ho o (List.mem_of_mem_drop m)) s h
theorem lns_ok {wd : Nat} (hw : 0 < wd) (h64 : wd < 64) : ∀ (m : Nat) (l : List Nat), (∀ o ∈ l, o < 256) → nch wd l.length = m → (lns wd m l).length ≤ 6 * l.length ∧ ∀ o ∈ lns wd m l, o < 256
  | 0, l, _, _ => ⟨Nat.zero_le _, nofun⟩
  | m + 1, l, ho, hm => by
    obtain ⟨h0, hm⟩ := nch_succ hw hm
    rw [← List.length_drop] at hm
    obtain ⟨a, b⟩ := lns_ok hw h64 m (l.drop wd) (fun o m => ho o (List.mem_of_mem_drop m)) hm
    have hp : ∀ o ∈ l.take wd, o < 256 := fun o m => ho o (List.mem_of_mem_take m)
    have h1 : (l.take wd).length + (l.drop wd).length = l.length := by rw [← List.length_append, List.take_append_drop]
    have h2 : 0 < (l.take wd).length := by rw [List.length_take]; exact Nat.lt_min.mpr ⟨hw, h0⟩
    have h3 := nch_le (st := 3) (n := (l.take wd).length)
    have h4 : (l.take wd).length < 64 := by rw [List.length_take]; exact Nat.lt_of_le_of_lt (Nat.min_le_left _ _) h64
    rw [lns_succ]
    refine ⟨?_, fun o m => (List.mem_append.mp m).elim (fun m => ?_) (b o)⟩
    · rw [List.length_append, uuL_len, grps_len]; omega
    · rcases List.mem_append.mp (show o ∈ ((l.take wd).length :: grps (nch 3 (l.take wd).length) (l.take wd)).map sgn ++ [10] from m) with m | m
      · obtain ⟨s, hs, rfl⟩ := List.mem_map.mp m
        exact sgn_lt ((List.mem_cons.mp hs).elim (fun e => by rw [e]; exact h4) (grps_lt hp s))
      · rw [List.mem_singleton.mp m]; decide
section
variable {prog : Program} {w : World} {K : Frag} {G : Heap} {H : HM} {Q : AV → HM → Prop} {X : HM → Prop}
theorem one_star (V : Wd prog w K G) {lt : Nat} (h : lt = 119 ∨ lt = 85) : ∀ x ∈ [([lt, 42], itm lt false (-1) .none)], One prog w K G 4 0 x.1 x.2 := fun x m => by
  obtain rfl := List.mem_singleton.mp m
  exact one_plain V (bang := false) (star_ok h).1 nofun (.inr (.inl ⟨rfl, rfl⟩)) fun _ => (star_ok h).2
theorem one_let (V : Wd prog w K G) {lt : Nat} (h : lt ∈ [97, 119, 85, 117, 120, 88, 64, 46]) : ∀ x ∈ [([lt], itm lt false (-2) .none)], One prog w K G 4 0 x.1 x.2 := fun x m => by
  obtain rfl := List.mem_singleton.mp m
  exact one_plain V (bang := false) (wc := []) h nofun (.inl ⟨rfl, rfl⟩) nofun
theorem pk_star (V : Wd prog w K G) {lt : Nat} {enc : Nat → List Nat} {cs : List Nat} (hl : lt = 119 ∨ lt = 85) (hc : cs.length ≤ 10) (hw : ∀ c ∈ cs, Wr lt c (some (enc c))) (he : Octs enc cs)
    (h : ∀ H', HExt H H' → Q (.lst (nn (cs.map enc).flatten)) H') : CallS prog w K G 12 (.glob (.ref 868)) [.str [lt, 42], .lst (nn cs)] H Q X := by
  obtain ⟨z1, z2⟩ := he.flat
  have z3 : (cs.map enc).flatten.length ≤ 100 := Nat.le_trans z1 (Nat.mul_le_mul_left 10 hc)
  exact s_law_packed V (N := 4) (M := 10) (by decide) (one_star V hl) (by exact (by decide : 1 ≤ 1000)) (by decide) (by decide) (R := fun out => out = (cs.map enc).flatten) (D := False)
    (fun H0 H1 A o Q X u h1 h2 => CallS_up (s_pitems_one V (s_pitem_all V u hl rfl (Nat.le_trans hc (by decide)) hw (Nat.le_trans z3 (by decide)) fun H' st' u' => h1 _ _ _ _ _ u' rfl)) (by decide))
    (fun out e => by rw [e]; exact ⟨Nat.le_trans z3 (by decide), z2⟩) (fun H' out e r => by rw [r]; exact h H' e) fun _ _ z => z.elim
theorem pk_bad (V : Wd prog w K G) {lt : Nat} {i : Int} (hl : lt = 119 ∨ lt = 85) (hw : Wr lt i none)
    (h : ∀ H', HExt H H' → Q .none H') : CallS prog w K G 12 (.glob (.ref 868)) [.str [lt], .lst [.int i]] H Q X :=
  s_law_packed V (N := 4) (M := 10) (by decide) (one_let V (star_ok hl).1) (by exact (by decide : 1 ≤ 1000)) (by decide) (by decide) (R := fun out => False) (D := True)
    (fun H0 H1 A o Q X u h1 h2 => CallS_up (s_pitems_one V (s_pitem_bad V u hl (by exact (by decide : 0 ≤ 1)) rfl hw fun H' e => h2 H' e trivial)) (by decide))
    (fun out e => e.elim) (fun _ _ _ z => z.elim) fun H' e _ => h H' e
theorem up_star (V : Wd prog w K G) {lt : Nat} {rd : List Nat → Option (Nat × Nat)} {data : List Nat} (hl : Rdn lt rd) (hd : data.length ≤ 100) (ho : ∀ o ∈ data, o < 256)
    (h : opt (all rd data.length data) (∀ H', HExt H H' → Q .none H') fun r => ∀ H', HExt H H' → Q (.lst (nums (r.map fun n : Nat => wrap64 n))) H') : CallS prog w K G 12 (.glob (.ref 873)) [.str [lt, 42], .lst (nn data)] H Q X := by
  refine s_law_unpacked V (N := 4) (M := 10) (by decide) (one_star V hl.lt) (by exact (by decide : 1 ≤ 1000)) hd ho (by decide) (by decide) (R := fun fo => ∃ r, all rd data.length data = some r ∧ fo = nums (r.map fun n : Nat => wrap64 n)) (D := all rd data.length data = none)
    (fun H0 H1 A f Q X u h1 h2 => CallS_up (s_uitems_one V (s_item_run V hl u hd (opt_of (fun e H' x => h2 H' x e) fun r e H' st' u' => h1 _ _ _ _ u' ⟨r, e, List.map_map.symm⟩))) (by decide)) (fun H' fo e r => ?_) fun H' e z => ?_
  · obtain ⟨r, e', rfl⟩ := r
    rw [e'] at h; exact h H' e
  · rw [z] at h; exact h H' e
theorem pk_uu (V : Wd prog w K G) {n : Nat} {data : List Nat} (hn : n < 70) (hz : data.length ≤ 16) (ho : ∀ o ∈ data, o < 256)
    (h : ∀ H', HExt H H' → Q (.lst (nn (lns (wid n) (nch (wid n) data.length) data))) H') : CallS prog w K G 12 (.glob (.ref 868)) [.str ([117] ++ decText n), .lst [.str data]] H Q X := by
  obtain ⟨_, d1, d2, d3, d4⟩ := dec70 hn
  obtain ⟨z1, z2⟩ := lns_ok (wid_pos (n := n)).1 (Nat.lt_succ_of_le wid_pos.2) _ data ho rfl
  have z3 : (lns (wid n) (nch (wid n) data.length) data).length ≤ 100 := Nat.le_trans z1 (Nat.le_trans (Nat.mul_le_mul_left 6 hz) (by decide))
  rw [show [117] ++ decText n = ([(117 :: decText n, itm 117 false n .none)].map Prod.fst).flatten from (List.append_nil _).symm]
  refine s_law_packed V (N := 4) (M := 10) (by decide) (fun x m => ?_) (by exact (by decide : 1 ≤ 1000)) (by decide) (by decide) (R := fun out => out = lns (wid n) (nch (wid n) data.length) data) (D := False)
    (fun H0 H1 A o Q X u h1 h2 => CallS_up (s_pitems_one V (s_pitem_uu V u (by decide) rfl (Nat.le_trans hz (by decide)) ho (.inr rfl) (Nat.le_trans z3 (by decide)) fun H' u' => h1 _ _ _ _ _ u' rfl)) (by decide))
    (fun out e => by rw [e]; exact ⟨Nat.le_trans z3 (by decide), z2⟩) (fun H' out e r => by rw [r]; exact h H' e) fun _ _ z => z.elim
  obtain rfl := List.mem_singleton.mp m
  exact one_plain V (bang := false) (by decide) nofun (.inr (.inr ⟨d2, d3, d1, d4⟩)) fun z => absurd z (by omega)
theorem up_uu (V : Wd prog w K G) {wd : Nat} {data : List Nat} (hw : 0 < wd ∧ wd ≤ 63) (hz : data.length ≤ 16) (ho : ∀ o ∈ data, o < 256)
    (h : ∀ H', HExt H H' → Q (.lst [.str data]) H') : CallS prog w K G 12 (.glob (.ref 873)) [.str [117], .lst (nn (lns wd (nch wd data.length) data))] H Q X := by
  obtain ⟨z1, z2⟩ := lns_ok hw.1 (Nat.lt_succ_of_le hw.2) _ data ho rfl
  have z3 := Nat.le_trans z1 (Nat.le_trans (Nat.mul_le_mul_left 6 hz) (by decide : 96 ≤ 100))
  exact s_law_unpacked V (N := 4) (M := 10) (by decide) (one_let V (by decide)) (by exact (by decide : 1 ≤ 1000)) z3 z2 (by decide) (by decide) (R := fun fo => fo = [.str data]) (D := False)
    (fun H0 H1 A f Q X u h1 h2 => CallS_up (s_uitems_one V (s_item_uu V u hw z3 (Nat.le_trans hz (by decide)) ho rfl fun H' u' => h1 _ _ _ _ u' rfl)) (by decide)) (fun H' fo e r => by rw [r]; exact h H' e) fun _ _ z => z.elim
end
end Mine
end
section
open PySem PySem.W PyProof.Rows PySem.Calls PyProof.V PySem.Spec PySem.SeqAt
namespace Mine
theorem hi_ok : ∀ (k : Nat) {m : Nat}, m < 128 ^ k → (hi m).length ≤ k ∧ ∀ o ∈ hi m, o < 256
  | 0, m, h => by rw [Nat.lt_one_iff.mp h, hi_zero]; exact ⟨Nat.le_refl 0, nofun⟩
  | k + 1, m, h => by
    by_cases z : m = 0
    · rw [z, hi_zero]; exact ⟨Nat.zero_le _, nofun⟩
    · obtain ⟨a, b⟩ := hi_ok k (pow128 h)
      rw [hi_pos z]
      refine ⟨by rw [List.length_append]; exact Nat.succ_le_succ a, fun o q => (List.mem_append.mp q).elim (b o) fun q => ?_⟩
      rw [List.mem_singleton.mp q]
      exact Nat.add_lt_add_right (Nat.mod_lt m (by decide : 0 < 128)) 128
theorem sev_octs {cs : List Nat} (h : ∀ c ∈ cs, c < 2 ^ 63) : Octs sev cs := fun c m => by
  obtain ⟨a, b⟩ := hi_ok 9 (m := c / 128) (Nat.lt_of_le_of_lt (Nat.div_le_self _ _) (Nat.lt_of_lt_of_le (h c m) (by decide)))
  refine ⟨by rw [sev, List.length_append]; exact Nat.succ_le_succ a, fun o q => (List.mem_append.mp q).elim (b o) fun q => ?_⟩
  rw [List.mem_singleton.mp q]
  exact Nat.lt_trans (Nat.mod_lt c (by decide : 0 < 128)) (by decide)
theorem tl_lt {k c : Nat} : ∀ o ∈ tl k c, o < 256 := fun o m => by
  obtain ⟨j, _, rfl⟩ := List.mem_map.mp (List.mem_reverse.mp m)
  exact Nat.lt_of_lt_of_le (Nat.add_lt_add_left (Nat.mod_lt _ (by decide : 0 < 64)) 128) (by decide)
theorem utf_octs {cs : List Nat} (h : ∀ c ∈ cs, c < 2 ^ 31) : Octs utf cs := fun c m => by
  by_cases z : c < 128
  · rw [utf, if_pos z]
    exact ⟨by exact (by decide : 1 ≤ 10), fun o q => by rw [List.mem_singleton.mp q]; exact Nat.lt_trans z (by decide)⟩
  · obtain ⟨k1, k5, kc⟩ := kg_prop (h c m) 4 1 rfl
    rw [utf, if_neg z, enc]
    change kk c ≤ 5 at k5; change c < 2 ^ (5 * kk c + 6) at kc
    generalize kk c = k at *
    have e := Nat.add_sub_of_le k5
    have hx := (room e).mpr kc
    have hk : 2 ^ (5 - k + 1) ≤ 2 ^ (7 - k) := Nat.pow_le_pow_right (by decide) (by omega)
    have h7 : 2 ^ (7 - k) ≤ 256 := Nat.le_trans (Nat.pow_le_pow_right (by decide) (Nat.sub_le 7 k)) (by decide)
    refine ⟨Nat.succ_le_succ (by rw [tl_len]; exact Nat.le_trans k5 (by decide)), fun o q => (List.mem_cons.mp q).elim (fun e => ?_) (tl_lt o)⟩
    omega
theorem wrap_all {r : List Nat} (h : ∀ c ∈ r, c < 2 ^ 63) : (r.map fun n : Nat => wrap64 n) = r.map Int.ofNat := List.map_congr_left fun c m => wrap_id (h c m)
theorem dec1_lt : ∀ {l : List Nat} {x : Nat × Nat}, dec1 l = some x → x.1 < 2 ^ 63
  | [], x, e => by cases e
  | f :: r, x, e => by
    rw [dec1_cons] at e
    by_cases z : f < 128
    · rw [if_pos z] at e; cases e; exact Nat.lt_trans z (by decide)
    rw [if_neg z] at e
    by_cases z2 : f < 192
    · rw [if_pos z2] at e; cases e
    rw [if_neg z2] at e
    by_cases z3 : 6 < lead f
    · rw [if_pos z3] at e; cases e
    rw [if_neg z3] at e
    by_cases z4 : r.length + 1 < lead f
    · rw [if_pos z4] at e; cases e
    rw [if_neg z4] at e
    obtain ⟨c, h1, h2⟩ := Option.bind_eq_some_iff.mp e
    by_cases z5 : utf c = f :: r.take (lead f - 1)
    · rw [if_pos z5] at h2
      cases h2
      have b := cont_bound (Nat.mod_lt f (Nat.pow_pos (by decide : 0 < 2))) h1
      refine Nat.lt_of_lt_of_le b (Nat.pow_le_pow_right (by decide) ?_)
      have : (r.take (lead f - 1)).length ≤ lead f - 1 := by rw [List.length_take]; exact Nat.min_le_left _ _
      omega
    · rw [if_neg z5] at h2; cases h2
theorem all_lt : ∀ {n : Nat} {l r : List Nat}, all dec1 n l = some r → ∀ c ∈ r, c < 2 ^ 63
  | _, [], r, e => by rw [all_nil] at e; cases e; exact nofun
  | 0, f :: l, r, e => by cases e; exact nofun
  | n + 1, f :: l, r, e => by
    rw [all_cons] at e
    obtain ⟨x, h1, h2⟩ := Option.bind_eq_some_iff.mp e
    obtain ⟨r', h3, rfl⟩ := Option.map_eq_some_iff.mp h2
    exact fun c m => (List.mem_cons.mp m).elim (fun e => e ▸ dec1_lt h1) (all_lt h3 c)
end Mine
end
section
open PySem PySem.W PyProof.Rows PySem.Calls PyProof.V PySem.Spec PySem.SeqAt
namespace Mine
theorem oav_eq {o : Option (List Int)} {k : Bool → Prop} (h : k true) : withO (cmpA .Eq (oAV o) (oAV o)) k := by
  cases o with
  | none => exact h
  | some r =>
    show withO (eqL (nums r) (nums r)) k
    rw [eqL_ints, decide_eq_true rfl]; exact h
theorem oav_ne {o : Option (List Int)} {k : Bool → Prop} (h : k false) : withO (cmpA .NotEq (oAV o) (oAV o)) k := by
  cases o with
  | none => exact h
  | some r =>
    show withO ((eqL (nums r) (nums r)).map (!·)) k
    rw [eqL_ints, decide_eq_true rfl]; exact h
theorem orow {o : Option (List Nat)} : oRow o = oAV (o.map (List.map Int.ofNat)) := by
  cases o with
  | none => rfl
  | some r => exact congrArg AV.lst (nn_nums r)
theorem row_ne {o : Option (List Nat)} {k : Bool → Prop} (h : k false) : withO (cmpA .NotEq (oRow o) (oRow o)) k := by rw [orow]; exact oav_ne h
theorem nn_ne {r : List Nat} {k : Bool → Prop} (h : k false) : withO (cmpA .NotEq (.lst (nn r)) (.lst (nn r))) k := row_ne (o := some r) h
theorem opt_oAV {o : Option (List Nat)} {R : AV → Prop} (h : R (oAV (o.map (List.map fun n : Nat => wrap64 n)))) : opt o (R .none) fun r => R (.lst (nums (r.map fun n : Nat => wrap64 n))) := by
  cases o with
  | none => exact h
  | some r => exact h
theorem app_le {a b : List Nat} (ha : a.length ≤ 3) (h : b.length ≤ 40) : (a ++ b).length ≤ 1000 := by
  rw [List.length_append]; exact Nat.le_trans (Nat.add_le_add ha h) (by decide)
section
variable {prog : Program} {w : World} {K : Frag} {G : Heap} {R : Fl → St → Prop} {X : St → Prop}
abbrev LW (prog : Program) (w : World) (K : Frag) (G : Heap) (R : Fl → St → Prop) (X : St → Prop) (b : CSs) (l : List (Option AV)) : Prop := ∀ H, swps (CPs prog w K G 13) b R X ⟨l, H⟩
noncomputable def Fine (R : Fl → St → Prop) : Prop := ∀ σ, R (.ret (.bool true)) σ
theorem st_1 (V : Wd prog w K G) (hR : Fine R) {s : List Int} {data : List Nat} {a2 a3 a4 a5 a6 a7 a8 a9 a10 : Option AV} (hd : data.length ≤ 16) (ho : ∀ o ∈ data, o < 256) :
    LW prog w K G R X f_law_t1 [some (.lst (nums s)), some (.lst (nn data)), a2, a3, a4, a5, a6, a7, a8, a9, a10] := fun H => by
  have ok := turns_ok s 0 4
  have ln := Nat.le_of_eq (turns_len s 0 4)
  refine CallS_up (s_uwalk V (Nat.le_trans hd (by decide)) (fun _ h0 H1 _ => ⟨rfl, ?_⟩) fun _ H1 _ => ⟨rfl, ?_⟩) (by decide)
  · obtain ⟨o1, o2⟩ := uw_ok (n := data.length) (begun := 1) (turns s 0 4) 1 [] ok
    exact CallS_up (s_law_closed V (app_le (by decide) (wits_len V o2 (Nat.le_trans o1 ln))) (CallS_up (u_group V ok ln (Nat.le_trans hd (by decide)) h0 ho fun H2 _ => oav_eq (hR _)) (by decide))) (by decide)
  · obtain ⟨o1, o2⟩ := uw_ok (n := data.length) (begun := 0) (turns s 0 4) 0 [] ok
    exact CallS_up (s_law_closed V (Nat.le_trans (wits_len V o2 (Nat.le_trans o1 ln)) (by decide)) (CallS_up (u_plain V ok ln (Nat.le_trans hd (by decide)) ho fun H2 _ => oav_eq (hR _)) (by decide))) (by decide)
theorem st_4 (V : Wd prog w K G) {s : List Int} {a1 a2 a3 a4 a5 a6 a7 a8 a9 a10 : Option AV}
    (h : ∀ a8 a9, LW prog w K G R X f_law_t1 [some (.lst (nums s)), a1, a2, a3, a4, a5, a6, a7, a8, a9, a10]) :
    LW prog w K G R X f_law_t4 [some (.lst (nums s)), a1, a2, a3, a4, a5, a6, a7, a8, a9, a10] := fun H => by
  have ok := turns_ok s 0 4
  have ln := Nat.le_of_eq (turns_len s 0 4)
  have go : ∀ a8 a9 H, swps (CPs prog w K G 13) f_law_t2 R X ⟨[some (.lst (nums s)), a1, a2, a3, a4, a5, a6, a7, a8, a9, a10], H⟩ := fun a8 a9 H => s_law_pointed V fun H1 _ => h a8 a9 H1
  refine CallS_up (s_pwalk V (fun _ H1 _ => ⟨rfl, ?_⟩) fun _ H1 _ => ⟨rfl, ?_⟩) (by decide)
  · obtain ⟨⟨o1, o2⟩, _⟩ := pw_ok (begun := 2) (by decide) (turns s 0 4) [65, 66] ok (by decide)
    exact CallS_up (s_law_closed V (app_le (by decide) (wits_len V o2 (Nat.le_trans o1 ln))) (CallS_up (p_group V ok ln fun H2 _ => row_ne (go _ _ _)) (by decide))) (by decide)
  · obtain ⟨⟨o1, o2⟩, _⟩ := pw_ok (begun := 0) (by decide) (turns s 0 4) [65, 66] ok (by decide)
    exact CallS_up (s_law_closed V (app_le (by decide) (wits_len V o2 (Nat.le_trans o1 ln))) (CallS_up (p_plain V ok ln fun H2 _ => row_ne (go _ _ _)) (by decide))) (by decide)
end
end Mine
end
section
open PySem PySem.W PyProof.Rows PySem.Calls PyProof.V PySem.Spec PySem.SeqAt
namespace Mine
theorem str_ne {l : List Nat} (ho : ∀ o ∈ l, o < 256) {k : Bool → Prop} (h : k false) : withO (cmpA .NotEq (.lst [.str l]) (.lst [.str l])) k := by
  have e : strs? [AV.str l] = some [l] := if_pos (List.all_eq_true.mpr fun o m => decide_eq_true (Nat.lt_trans (ho o m) (by decide)))
  have e2 : eqL [AV.str l] [AV.str l] = some (decide ([l] = [l])) := by
    show (match strs? [AV.str l], strs? [AV.str l] with | some x, some y => some (decide (x = y)) | _, _ => none) = _
    rw [e]
  show withO ((eqL [AV.str l] [AV.str l]).map (!·)) k
  rw [e2, decide_eq_true rfl]; exact h
theorem c2 {C : CP} {x : Str} {f : Value} {enc : Nat → List Nat} {cs : List Nat} {H : HM} {Q : AV → St → Prop} {X : St → Prop} {l : List (Option AV)} {j : Nat} (hj : ∀ k : AV → Prop, k (.lst (nn cs)) → locL l j k) (hc : cs.length ≤ 10) (he : Octs enc cs)
    (hf : ∀ c ∈ cs, ∀ (H1 : HM) (Q1 : AV → HM → Prop) (X1 : HM → Prop), (∀ H', HExt H1 H' → Q1 (.lst (nn (enc c))) H') → C.call (.glob f) [.int c] H1 Q1 X1) (h : ∀ H', HExt H H' → Q (.lst (nn (cs.map enc).flatten)) ⟨l, H'⟩) :
    ewp C (.comp2 (.loc 1) (.loc j) (.call (.glob x f) (.cons (.loc 0) .nil))) Q X ⟨l, H⟩ := by
  refine hj _ ⟨by rw [nn_len]; exact Nat.le_trans hc (by decide), compW_map (i := fun n : Nat => .int n) (g := fun c => .lst (nn (enc c))) (fun c m H2 k e2 hk => hf c m _ _ _ fun H3 e3 => ⟨?_, compW_pure (i := fun n : Nat => .int n) (g := fun n : Nat => .int n) (fun _ _ _ hf => hf) (hk H3 e3)⟩) fun H2 e2 => ⟨cs.map (fun c => nn (enc c)), List.map_map.symm, ?_⟩⟩
  · rw [nn_len]; exact Nat.le_trans (he c m).1 (by decide)
  · rw [show (cs.map fun c => nn (enc c)).flatten = nn (cs.map enc).flatten from by rw [nn, List.map_flatten, List.map_map]; rfl]
    exact h H2 e2
section
variable {prog : Program} {w : World} {K : Frag} {G : Heap} {R : Fl → St → Prop} {X : St → Prop}
theorem up_o (V : Wd prog w K G) {H : HM} {Q : AV → HM → Prop} {X : HM → Prop} {lt : Nat} {rd : List Nat → Option (Nat × Nat)} {data : List Nat} (hl : Rdn lt rd) (hd : data.length ≤ 100) (ho : ∀ o ∈ data, o < 256)
    (h : ∀ H', HExt H H' → Q (oAV ((all rd data.length data).map (List.map fun n : Nat => wrap64 n))) H') : CallS prog w K G 12 (.glob (.ref 873)) [.str [lt, 42], .lst (nn data)] H Q X :=
  up_star V hl hd ho (opt_oAV (R := fun v => ∀ H', HExt H H' → Q v H') h)
theorem up_back (V : Wd prog w K G) {H : HM} {Q : AV → HM → Prop} {X : HM → Prop} {lt : Nat} {rd : List Nat → Option (Nat × Nat)} {enc : Nat → List Nat} {cs : List Nat} (hl : Rdn lt rd) (hc : cs.length ≤ 10) (he : Octs enc cs) (h63 : ∀ c ∈ cs, c < 2 ^ 63)
    (hr : ∀ c ∈ cs, 1 ≤ (enc c).length ∧ ∀ rest, rd (enc c ++ rest) = some (c, (enc c).length)) (h : ∀ H', HExt H H' → Q (.lst (nn cs)) H') : CallS prog w K G 12 (.glob (.ref 873)) [.str [lt, 42], .lst (nn (cs.map enc).flatten)] H Q X := by
  obtain ⟨z1, z2⟩ := he.flat
  refine up_o V hl (Nat.le_trans z1 (Nat.mul_le_mul_left 10 hc)) z2 fun H' e => ?_
  rw [all_flat hr (Nat.le_refl _), Option.map_some, wrap_all h63, oAV, ← nn_nums]; exact h H' e
theorem st_9 (V : Wd prog w K G) {s : List Int} {data : List Nat} {a2 a3 a4 a5 a6 a7 a8 a9 a10 : Option AV} (hd : data.length ≤ 16) (ho : ∀ o ∈ data, o < 256)
    (h : ∀ a4 a5 a6 a7, LW prog w K G R X f_law_t4 [some (.lst (nums s)), some (.lst (nn data)), a2, a3, a4, a5, a6, a7, a8, a9, a10]) :
    LW prog w K G R X f_law_t9 [some (.lst (nums s)), some (.lst (nn data)), a2, a3, a4, a5, a6, a7, a8, a9, a10] := fun H => by
  refine CallS_up (s_law_pick V (k := 0) (by decide) ⟨by decide, ?_⟩) (by decide)
  show swps (CPs prog w K G 13) f_law_t8 R X ⟨[_, _, _, _, some (.int (Int.fmod (pick s 0) 70)), _, _, _, _, _, _], H⟩
  have e1 := Int.fmod_nonneg_of_pos (pick s 0) (by decide : (0 : Int) < 70)
  have e2 := Int.fmod_lt_of_pos (pick s 0) (by decide : (0 : Int) < 70)
  generalize Int.fmod (pick s 0) 70 = c at *
  obtain ⟨n, rfl⟩ := Int.eq_ofNat_of_zero_le e1
  have hn : n < 70 := Int.ofNat_lt.mp e2
  have fin : swps (CPs prog w K G 13) f_law_t7 R X ⟨[some (.lst (nums s)), some (.lst (nn data)), a2, a3, some (.int n), some (.int (wid n)), a6, a7, a8, a9, a10], H⟩ := by
    obtain ⟨d1, d2, _⟩ := dec70 hn
    refine ⟨rfl, nofun, chr_comp (Q := fun v H' => swps (CPs prog w K G 13) f_law_t6 R X ⟨[some (.lst (nums s)), some (.lst (nn data)), a2, a3, some (.int n), some (.int (wid n)), some v, a7, a8, a9, a10], H'⟩) (X := fun _ => False) (Nat.le_trans hd (by decide)) ho ?_⟩
    refine CallS_up (s_law_lines V wid_pos (Nat.le_trans hd (by decide)) ho fun H1 _ => ?_) (by decide)
    refine ⟨d1, Nat.le_trans d2 (by decide), Nat.le_trans (Nat.add_le_add_left d2 1) (by decide), CallS_up (pk_uu V hn hd ho fun H2 _ => nn_ne ?_) (by decide)⟩
    exact CallS_up (up_uu V wid_pos hd ho fun H3 _ => str_ne ho (h _ _ _ _ _)) (by decide)
  unfold wid at fin
  refine br_dec (fun z => ?_) fun z => ⟨by decide, by decide, mulR (by decide), ?_⟩
  · rw [if_pos (Nat.le_of_lt_succ (Int.ofNat_lt.mp z))] at fin; exact fin
  · rw [if_neg (fun q => z (Int.ofNat_lt.mpr (Nat.lt_succ_of_le q))), ← min63, ← div3] at fin; exact fin
theorem rs_o (V : Wd prog w K G) {H : HM} {Q : AV → HM → Prop} {X : HM → Prop} {l : List Nat} (hz : l.length ≤ 100) (h : ∀ H', HExt H H' → Q (oAV ((all (ber 0) l.length l).map (List.map fun n : Nat => wrap64 n))) H') : CallS prog w K G 1 (.glob (.ref 890)) [.lst (nn l)] H Q X :=
  s_law_read_sevens V hz (opt_of (fun e H' x => by have h := h H' x; rw [all_bers (Nat.le_refl _), e] at h; exact h) fun r e => by have h := h H (.refl H); rw [all_bers (Nat.le_refl _), e] at h; exact h)
theorem rc_o (V : Wd prog w K G) {H : HM} {Q : AV → HM → Prop} {X : HM → Prop} {l : List Nat} (hz : l.length ≤ 100) (ho : ∀ o ∈ l, o < 256) (h : ∀ H', HExt H H' → Q (oAV ((all dec1 l.length l).map (List.map fun n : Nat => wrap64 n))) H') : CallS prog w K G 2 (.glob (.ref 897)) [.lst (nn l)] H Q X :=
  s_law_read_codes V hz ho (opt_of (fun e H' x => by have h := h H' x; rw [e] at h; exact h) fun r e H' x => by have h := h H' x; rw [e, Option.map_some, wrap_all (all_lt e), oAV, ← nn_nums] at h; exact h)
theorem st_10 (V : Wd prog w K G) {s : Option AV} {data : List Nat} {a2 a3 a4 a5 a6 a7 a8 a9 a10 : Option AV} (hd : data.length ≤ 16) (ho : ∀ o ∈ data, o < 256)
    (h : LW prog w K G R X f_law_t9 [s, some (.lst (nn data)), a2, a3, a4, a5, a6, a7, a8, a9, a10]) :
    LW prog w K G R X f_law_t10 [s, some (.lst (nn data)), a2, a3, a4, a5, a6, a7, a8, a9, a10] := fun H => by
  have h100 := Nat.le_trans hd (by decide : 16 ≤ 100)
  exact CallS_up (up_o V (.inl ⟨rfl, rfl⟩) h100 ho fun H1 _ => CallS_up (rs_o V h100 fun H2 _ => oav_ne (CallS_up (up_o V (.inr ⟨rfl, rfl⟩) h100 ho fun H3 _ => CallS_up (rc_o V h100 ho fun H4 _ => oav_ne (h _)) (by decide)) (by decide))) (by decide)) (by decide)
theorem st_12 (V : Wd prog w K G) {cs : List Nat} {s a1 a2 a4 a5 a6 a7 a8 a9 a10 : Option AV} (hc : cs.length ≤ 10) (h31 : ∀ c ∈ cs, c < 2 ^ 31)
    (h : LW prog w K G R X f_law_t10 [s, a1, a2, some (.lst (nn cs)), a4, a5, a6, a7, a8, a9, a10]) :
    LW prog w K G R X f_law_t12 [s, a1, a2, some (.lst (nn cs)), a4, a5, a6, a7, a8, a9, a10] := fun H => by
  have he := utf_octs h31
  have hw : ∀ c ∈ cs, Wr 85 c (some (utf c)) := fun c m => .inr (.inr (.inl ⟨rfl, c, rfl, h31 c m, rfl⟩))
  have hr : ∀ c ∈ cs, 1 ≤ (utf c).length ∧ ∀ rest, dec1 (utf c ++ rest) = some (c, (utf c).length) := fun c m => ⟨?_, dec_utf (h31 c m)⟩
  refine CallS_up (pk_star V (.inr rfl) hc hw he fun H1 _ => c2 (fun _ h => h) hc he (fun c m H1 Q1 X1 g => CallS_up (s_law_code V (h31 c m) g) (by decide)) fun H2 _ => nn_ne ?_) (by decide)
  · refine CallS_up (pk_star V (.inr rfl) hc hw he fun H3 _ => CallS_up (up_back V (.inr ⟨rfl, rfl⟩) hc he (fun c m => Nat.lt_trans (h31 c m) (by decide)) hr fun H4 _ => nn_ne ?_) (by decide)) (by decide)
    exact ⟨by decide, by decide, by decide, CallS_up (pk_bad V (.inr rfl) (.inr (.inr (.inr ⟨rfl, by decide, rfl⟩))) fun H5 _ => h _) (by decide)⟩
  · unfold utf
    by_cases z : c < 128
    · rw [if_pos z]; exact Nat.le_refl 1
    · rw [if_neg z]; exact Nat.succ_le_succ (Nat.zero_le _)
theorem st_14 (V : Wd prog w K G) {cs : List Nat} {s a1 a3 a4 a5 a6 a7 a8 a9 a10 : Option AV} (hc : cs.length ≤ 10) (h63 : ∀ c ∈ cs, c < 2 ^ 63)
    (h : LW prog w K G R X f_law_t12 [s, a1, some (.lst (nn cs)), a3, a4, a5, a6, a7, a8, a9, a10]) :
    LW prog w K G R X f_law_t14 [s, a1, some (.lst (nn cs)), a3, a4, a5, a6, a7, a8, a9, a10] := fun H => by
  have he := sev_octs h63
  have hw : ∀ c ∈ cs, Wr 119 c (some (sev c)) := fun c m => .inl ⟨rfl, c, rfl, Nat.lt_trans (h63 c m) (by decide), rfl⟩
  have hr : ∀ c ∈ cs, 1 ≤ (sev c).length ∧ ∀ rest, ber 0 (sev c ++ rest) = some (c, (sev c).length) := fun c m => ⟨by rw [sev, List.length_append]; exact Nat.le_add_left 1 _, fun t => ber_sev c t⟩
  refine CallS_up (pk_star V (.inl rfl) hc hw he fun H1 _ => c2 (fun _ h => h) hc he (fun c m H1 Q1 X1 g => CallS_up (s_law_sevens V (Nat.lt_trans (h63 c m) (by decide)) (g H1 (.refl H1))) (by decide)) fun H2 _ => nn_ne ?_) (by decide)
  refine CallS_up (pk_star V (.inl rfl) hc hw he fun H3 _ => CallS_up (up_back V (.inl ⟨rfl, rfl⟩) hc he h63 hr fun H4 _ => nn_ne ?_) (by decide)) (by decide)
  refine ⟨by rw [nn_len]; exact Nat.le_trans (Nat.add_le_add_right hc 1) (by decide), ?_⟩
  have bad : ∀ x : Nat, CallS prog w K G 13 (.glob (.ref 868)) [.str [119], .lst [.int (-1 - (x : Int))]] H4 (fun v H' => withO (cmpA .IsNot v .none) fun t => br (some t) (swps (CPs prog w K G 13) f_law_pointed_1_t0 (nextR (swps (CPs prog w K G 13) f_law_t12 R X) R) X ⟨[s, a1, some (.lst (nn cs)), a3, a4, a5, a6, a7, a8, a9, a10], H'⟩) (swps (CPs prog w K G 13) f_law_t12 R X ⟨[s, a1, some (.lst (nn cs)), a3, a4, a5, a6, a7, a8, a9, a10], H'⟩)) (fun H' => X ⟨[s, a1, some (.lst (nn cs)), a3, a4, a5, a6, a7, a8, a9, a10], H'⟩) := fun x =>
    CallS_up (pk_bad V (.inl rfl) (.inr (.inl ⟨rfl, by omega, rfl⟩)) fun H5 _ => h _) (by decide)
  cases cs with
  | nil => exact ⟨0, .int (0 : Nat), rfl, rfl, bad 0⟩
  | cons c cs => exact ⟨0, .int c, idx_nat (Nat.zero_lt_succ _), rfl, bad c⟩
end
end Mine
end
section
open PySem PySem.W PyProof.Rows PySem.Calls PyProof.V PySem.Spec PySem.SeqAt
namespace Mine
theorem sl_T (l : List Int) (b : Nat) : pySlice (nums l) none (some (b : Int)) = nums (l.take b) := by
  have := sl_nat (nums l) 0 b
  rw [List.drop_zero, Nat.sub_zero, ← List.map_take] at this
  exact this
theorem abs_nat (c : Int) : (if c < 0 then -c else c) = (c.natAbs : Int) := by split <;> omega
noncomputable def wds (k : Nat) : Nat := ([7, 11, 16, 21, 26, 31][k]?).getD 31
theorem wds_at : ∀ k < 6, [AV.int 7, .int 11, .int 16, .int 21, .int 26, .int 31][k]? = some (.int (wds k : Nat)) ∧ wds k ≤ 31 := fun k h =>
  ⟨by rw [show [AV.int 7, .int 11, .int 16, .int 21, .int 26, .int 31] = (List.range 6).map fun k => AV.int (wds k : Nat) from rfl, List.getElem?_map, List.getElem?_range h]; rfl, (by decide : ∀ k < 6, wds k ≤ 31) k h⟩
noncomputable def codeOf (c : Int) : Nat := c.natAbs % 2 ^ wds (c.natAbs % 6)
noncomputable def octOf (c : Int) : Nat := (Int.fmod c 256).toNat
noncomputable def numOf (c : Int) : Nat := c.natAbs % 2 ^ 63
theorem map_len {f : Int → Nat} {s : List Int} {n : Nat} : ((s.take n).map f).length ≤ n := by rw [List.length_map, List.length_take]; exact Nat.min_le_left _ _
theorem map_all {f : Int → Nat} {s : List Int} {b : Nat} (h : ∀ c, f c < b) : ∀ o ∈ s.map f, o < b := fun o m => by
  obtain ⟨c, _, rfl⟩ := List.mem_map.mp m; exact h c
section
variable {prog : Program} {w : World} {K : Frag} {G : Heap} {R : Fl → St → Prop} {X : St → Prop}
theorem mk {C : CP} {e : CE} {f : Int → Nat} {s : List Int} {n : Nat} {H : HM} {Q : List AV → HM → Prop} (hs : s.length ≤ 63) (he : ∀ (c : Int) (k : AV → HM → Prop), k (.int (f c : Nat)) H → ewp C e (fun y τ => k y τ.H) (fun _ => False) ⟨[some (.int c)], H⟩) (h : Q (nn ((s.take n).map f)) H) :
    (pySlice (nums s) none (some (n : Int))).length ≤ 1000000 ∧ compW (fun v H1 k => ewp C e (fun y τ => k y τ.H) (fun _ => False) ⟨[some v], H1⟩) (pySlice (nums s) none (some (n : Int))) H Q := by
  rw [sl_T]
  refine ⟨?_, compW_pure (i := fun c : Int => .int c) (g := fun c => .int (f c : Nat)) (fun c _ k hk => he c (fun v H' => k v H') hk) ?_⟩
  · rw [ints_len, List.length_take]; exact Nat.le_trans (Nat.min_le_right _ _) (Nat.le_trans hs (by decide))
  · rw [nn, List.map_map] at h; exact h
theorem law_w (V : Wd prog w K G) (hR : Fine R) {s : List Int} (hs : s.length ≤ 63) {a1 a2 a3 a4 a5 a6 a7 a8 a9 a10 : Option AV} :
    LW prog w K G R X f_law [some (.lst (nums s)), a1, a2, a3, a4, a5, a6, a7, a8, a9, a10] := fun H => by
  have o1 : ∀ c, octOf c < 256 := fun c => (Int.toNat_lt (Int.fmod_nonneg_of_pos c (by decide))).mpr (Int.fmod_lt_of_pos c (by decide))
  have o3 : ∀ c, codeOf c < 2 ^ 31 := fun c => Nat.lt_of_lt_of_le (Nat.mod_lt _ (Nat.pow_pos (by decide))) (Nat.pow_le_pow_right (by decide) (wds_at _ (Nat.mod_lt _ (by decide))).2)
  refine ⟨nofun, mk (f := octOf) (n := 16) hs (fun c k hk => ⟨by decide, ?_⟩) ⟨nofun, mk (f := numOf) (n := 6) hs (fun c k hk => ⟨by decide, by decide, by decide, by decide, ?_⟩) ⟨nofun, mk (f := codeOf) (n := 8) hs (fun c k hk => ⟨by decide, ?_⟩) ?_⟩⟩⟩
  · rw [octOf, Int.toNat_of_nonneg (Int.fmod_nonneg_of_pos c (by decide))] at hk; exact hk
  · show k (.int (Int.fmod (if c < 0 then -c else c) (2 ^ 63))) H
    rw [abs_nat, show Int.fmod (c.natAbs : Int) (2 ^ 63) = _ from fmodN c.natAbs (2 ^ 63)]; exact hk
  · show subW (.lst [AV.int 7, .int 11, .int 16, .int 21, .int 26, .int 31]) (.int (Int.fmod (if c < 0 then -c else c) 6)) H _
    rw [abs_nat, show Int.fmod (c.natAbs : Int) 6 = _ from fmodN c.natAbs 6]
    obtain ⟨e, h31⟩ := wds_at _ (Nat.mod_lt c.natAbs (by decide : 0 < 6))
    refine ⟨c.natAbs % 6, _, idx_nat (Nat.mod_lt c.natAbs (by decide : 0 < 6)), e, Int.natCast_nonneg _, Int.ofNat_le.mpr (Nat.le_trans h31 (by decide)), by decide, ?_⟩
    show (2 : Int) ^ ((wds (c.natAbs % 6) : Nat) : Int).toNat ≠ 0 ∧ k (.int (Int.fmod (c.natAbs : Int) (2 ^ ((wds (c.natAbs % 6) : Nat) : Int).toNat))) H
    rw [show ((2 : Int) ^ ((wds (c.natAbs % 6) : Nat) : Int).toNat) = _ from powN (a := 2), fmodN]
    exact ⟨Int.ne_of_gt (Int.ofNat_lt.mpr (Nat.pow_pos (by decide : 0 < 2))), hk⟩
  · exact st_14 V (Nat.le_trans map_len (by decide)) (map_all fun c => Nat.mod_lt _ (by decide)) (st_12 V (Nat.le_trans map_len (by decide)) (map_all o3) (st_10 V map_len (map_all o1) (st_9 V map_len (map_all o1) fun _ _ _ _ => st_4 V fun _ _ => st_1 V hR map_len (map_all o1)))) H
end
end Mine
end
section
open PySem PySem.W PyProof.Rows PySem.Calls PyProof.V PySem.Spec PySem.SeqAt
namespace Mine
noncomputable def dieC (K : Frag) (sl : Array (Option Value)) (cd : ClassData) : Bool := !cd.hasDel && cd.hasDict && (sl.toList[4]?).join == some (.builtin "Exception.__new__") && cd.mro == [.ref DIE, .ref 213, .type "Exception", .type "BaseException", .type "object"]
noncomputable def dieOk (K : Frag) : Bool := ((K.lookup DIE).elim false fun o => if e : o.data.ctorIdx = 8 then @Data.cls.elim (fun _ => Bool) o.data e (dieC K o.slots) else false) &&
      specialIn K (.ref DIE) "__call__" == some (some (.builtin "type.__call__")) && instIn K (.ref DIE) (.type "type") == some true && findIn K (.ref DIE) "__init__" == some (some (.ref 230)) && typeIn K (.ref 230) == some (.type "function") &&
      findIn K (.ref DIE) "__setattr__" == some (some (.builtin "object.__setattr__")) && findIn K (.ref DIE) "text" == some none && findIn K (.ref DIE) "value" == some none
structure DieO (K : Frag) : Prop where
  ok : dieOk K = true
  chk : ∀ u S, peek K S (checkBuiltinCall "Exception.__new__" ⟨[.ref DIE, u], []⟩) = some ()
structure Dk (M : Model) (K : Frag) (h : Heap) : Prop where
  obj : ∃ oc od cd sl, h.get? DIE = some ⟨oc, od, .cls cd, sl⟩ ∧ cd.hasDel = false ∧ cd.mro.isEmpty = false
  cls : ∃ cd, clsIn K DIE = some cd ∧ cd.hasDict = true ∧ cd.mro = [.ref DIE, .ref 213, .type "Exception", .type "BaseException", .type "object"]
  made : Looks M h (Bind.madeBy (.ref DIE)) (some "Exception.__new__")
  base : Looks M h (Bind.staticBase (.ref DIE)) (.ref DIE)
  sub : ∀ b r, [Value.ref DIE, .ref 213, .type "Exception", .type "BaseException", .type "object"].contains b = r → Looks M h (isSubtype (.ref DIE) b) r
  call : Looks M h (specialOf (.ref DIE) "__call__") (some (.builtin "type.__call__"))
  typ : Looks M h (isInstance (.ref DIE) (.type "type")) true
  init : Looks M h (typeLookup (.ref DIE) "__init__") (some (.ref 230))
  fn : ∀ self, Looks M h (bindSpecial (.ref 230) self) (.ref 230, [self])
  chk : ∀ u, Looks M h (checkBuiltinCall "Exception.__new__" ⟨[.ref DIE, u], []⟩) ()
  set : findIn K (.ref DIE) "__setattr__" = some (some (.builtin "object.__setattr__")) ∧ findIn K (.ref DIE) "text" = some none ∧ findIn K (.ref DIE) "value" = some none
theorem die_cls {K : Frag} (h : dieOk K = true) : ∃ oc od cd sl, K.lookup DIE = some ⟨oc, od, .cls cd, sl⟩ ∧ dieC K sl cd = true := by
  have h := (and2 (and2 (and2 (and2 (and2 (and2 (and2 h).1).1).1).1).1).1).1
  cases e : K.lookup DIE with
  | none => rw [e] at h; cases h
  | some o =>
    rw [e] at h
    obtain ⟨oc, od, dt, sl⟩ := o
    obtain ⟨i, h⟩ := on_if h
    exact @Data.cls.elim (fun dt => ∀ i, @Data.cls.elim (fun _ => Bool) dt i (dieC K sl) = true → ∃ oc' od' cd sl', some (⟨oc, od, dt, sl⟩ : Obj) = some ⟨oc', od', .cls cd, sl'⟩ ∧ dieC K sl' cd = true) dt i (fun cd _ h => ⟨oc, od, cd, sl, rfl, h⟩) i h
theorem dk_of {K : Frag} {M : Model} {h : Heap} (X : K.In h) (D : DieO K) : Dk M K h := by
  obtain ⟨e, ck⟩ := D
  obtain ⟨oc, od, cd, sl, ho, e0⟩ := die_cls e
  have e4 : cd.mro = [.ref DIE, .ref 213, .type "Exception", .type "BaseException", .type "object"] := beq_iff_eq.mp (and2 e0).2
  have e0 := (and2 e0).1
  have e3 := beq_iff_eq.mp (and2 e0).2
  have e0 := (and2 e0).1
  have e11 := beq_iff_eq.mp (and2 e).2
  have e := (and2 e).1
  have e10 := beq_iff_eq.mp (and2 e).2
  have e := (and2 e).1
  have e9 := beq_iff_eq.mp (and2 e).2
  have e := (and2 e).1
  have e8 := beq_iff_eq.mp (and2 e).2
  have e := (and2 e).1
  have e7 := beq_iff_eq.mp (and2 e).2
  have e := (and2 e).1
  have e6 := beq_iff_eq.mp (and2 e).2
  have e5 := beq_iff_eq.mp (and2 (and2 e).1).2
  have hc : clsIn K DIE = some cd := by unfold clsIn; rw [ho]
  have hm : Looks M h (mroOf (.ref DIE)) cd.mro := (looks_clsIn X hc).andThen .now
  have made : Looks M h (Bind.madeBy (.ref DIE)) (some "Exception.__new__") := by
    intro A Q E s k q
    unfold Bind.madeBy
    refine wpAny_bind (hm A _ E s k ?_)
    rw [e4, List.forIn_cons]
    refine wpAny_bind (wpAny_bind (wpAny_bind (wpAny_bind (wpAny_loadPart (k _ _ (X _ _ ho)) (wpAny_pure ?_)))))
    dsimp only
    rw [← Array.getElem?_toList, e3]
    exact wpAny_pure (wpAny_pure (wpAny_pure q))
  refine ⟨⟨oc, od, cd, sl, X _ _ ho, nB (and2 e0).1, by rw [e4]; rfl⟩, ⟨cd, hc, (and2 e0).2, e4⟩, made, ?_, fun b r hr => looks_mroIn X ?_, looks_specialIn X e5, looks_instIn X e6, looks_findIn X e7, fun self => bind_fn X self e8, fun u => .of_peek X (ck u _), e9, e10, e11⟩
  · intro A Q E s k q
    unfold Bind.staticBase
    refine wpAny_bind (hm A _ E s k ?_)
    rw [e4, List.forIn_cons]
    exact wpAny_bind (wpAny_bind (wpAny_bind (made A _ E s k (wpAny_pure (wpAny_pure (wpAny_pure q))))))
  · unfold mroIn; rw [hc, Option.bind_some, e4]; exact congrArg some hr
section
variable {prog : Program} {w : World} {A : Around} {K : Frag} {R : Result → Shared → Prop} {h : Heap} {g : Array GenState} {d : Drawn} {t : Nat} {os : OsState}
noncomputable abbrev exObj (tu : Addr) (dd : Option Addr) : Obj := { cls := .ref DIE, dict := dd, data := .fields #[.ref tu, .none, .none, .none, .bool false, .none] }
theorem die_bnew (D : Dk (model prog w) K h) {u : Value} {a : Args} {Q : PySem.Fin → Shared → Prop} {E : Value → Shared → Prop}
    (hq : Q (.done (.ret (.ref (h.objs.size + 1)))) ⟨(h.push { cls := .type "tuple", data := .seq #[u] }).push (exObj h.objs.size none), g, d, t, os⟩) :
    PySem.wpAt (model prog w) A (.builtin "Exception.__new__" a) (Builtin.«BaseException.__new__» ⟨[.ref DIE, u], []⟩) Q E ⟨h, g, d, t, os⟩ := by
  obtain ⟨⟨oc, od, cd, sl, hC, e1, _⟩, _, made, base, sub, _⟩ := D
  have F := PySem.F.excBase_Exception
  have s1 := sub (.type "Exception") true (by decide +kernel)
  have s2 := sub (.type "AttributeError") false (by decide +kernel)
  have s3 := sub (.type "NameError") false (by decide +kernel)
  have here : Looks (model prog w) h (Bind.madeHere "BaseException.__new__" (.ref DIE)) () := base.andThen (made.andThen (Looks.of_pure (by simp only [Option.map_some, F.canon, bne_self_eq_false, Bool.false_eq_true, if_false])))
  unfold Builtin.«BaseException.__new__»
  refine PySem.wpAt_bind ?_
  show PySem.wpAt _ _ _ (stack >>= _) _ _ _
  refine PySem.wpAt_bind (PySem.wpAt_stack fun p below => PySem.wpAt_of_wpAny ?_)
  dsimp only
  rw [if_pos F.ends]
  refine wpAny_pure (PySem.wpAt_of_wpAny ?_)
  rw [F.owner]
  repeat lk
  refine nd_load (Heap.get?_push_of_some _ (Heap.get?_push_of_some _ hC)) (wpAny_pure ?_)
  dsimp only
  rw [e1]
  refine wpAny_pure (wpAny_pure (wpAny_pure ?_))
  rw [Heap.size_push]
  exact hq
theorem die_new (D : Dk (model prog w) K h) {u : Value}
    (hq : R (.ok (.ret (.ref (h.objs.size + 1)))) ⟨(h.push { cls := .type "tuple", data := .seq #[u] }).push (exObj h.objs.size none), g, d, t, os⟩) :
    codeAny (model prog w) A (.call (.builtin "Exception.__new__") ⟨[.ref DIE, u], []⟩) R ⟨h, g, d, t, os⟩ :=
  codeAny_call_builtin_code (Code.quiet_builtin _ PySem.F.excBase_Exception.quiet) ((D.chk u).here (codeAny_builtinAt PySem.F.excBase_Exception.entry (die_bnew D hq)))
theorem die_tc (D : Dk (model prog w) K h) {u : Value} {Q : PySem.Fin → Shared → Prop} {E : Value → Shared → Prop}
    (hQ : ∀ v s', R (.ok (.ret v)) s' → Q (.done (.ret v)) s') (hE : ∀ e s', R (.error e) s' → E e s') (hq : codeAny (model prog w) A (.call (.ref 230) ⟨[.ref (h.objs.size + 1), u], []⟩) (InitBack (h.objs.size + 1) R) ⟨(h.push { cls := .type "tuple", data := .seq #[u] }).push (exObj h.objs.size none), g, d, t, os⟩) :
    wpAny (model prog w) A (Builtin.«type.__call__» ⟨[.ref DIE, u], []⟩) Q E ⟨h, g, d, t, os⟩ := by
  have D' := D
  obtain ⟨⟨oc, od, cd, sl, hC, e1, e4⟩, _, made, base, sub, call, typ, init, fn, _⟩ := D
  unfold Builtin.«type.__call__»
  have hm : Looks (model prog w) h (mroOf (.ref DIE)) cd.mro := ((Looks.ld (part := none) hC).andThen .now).andThen .now
  repeat (first | simp only [e4, Bool.false_eq_true, if_false] | with_reducible refine wpAny_call ?_ | lk)
  refine die_new D' ?_
  have k : ∀ b o, h.get? b = some o → ((h.push { cls := .type "tuple", data := .seq #[u] }).push (exObj h.objs.size none)).get? b = some o := fun b o e => Heap.get?_push_of_some _ (Heap.get?_push_of_some _ e)
  have hx : ((h.push { cls := .type "tuple", data := .seq #[u] }).push (exObj h.objs.size none)).get? (h.objs.size + 1) = some (exObj h.objs.size none) := by heap_get
  have t1 : Looks (model prog w) ((h.push { cls := .type "tuple", data := .seq #[u] }).push (exObj h.objs.size none)) (typeOf (.ref (h.objs.size + 1))) (.ref DIE) := (Looks.ld hx).andThen .now
  have s1 := (sub (.ref DIE) true (by decide +kernel)).keeps k
  have i1 := init.keeps k
  have b1 := (fn (.ref (h.objs.size + 1))).keeps k
  generalize (h.push { cls := .type "tuple", data := .seq #[u] }).push (exObj h.objs.size none) = h2 at *
  unfold isInstance callSpecial? specialOf
  repeat (first | with_reducible refine wpAny_call ?_ | lk)
  refine codeAny_mono hq fun r s' z => ?_
  rcases r with e | (v | _ | _ | _) <;> first | exact hE _ _ z | exact z.elim | skip
  obtain ⟨rfl, z⟩ := z
  exact wpAny_pure (wpAny_pure (hQ _ _ z))
theorem die_make (D : Dk (model prog w) K h) {u : Value}
    (hq : codeAny (model prog w) (A.under (.builtin "type.__call__" ⟨[.ref DIE, u], []⟩)) (.call (.ref 230) ⟨[.ref (h.objs.size + 1), u], []⟩) (InitBack (h.objs.size + 1) R) ⟨(h.push { cls := .type "tuple", data := .seq #[u] }).push (exObj h.objs.size none), g, d, t, os⟩) :
    codeAny (model prog w) A (.call (.ref DIE) ⟨[u], []⟩) R ⟨h, g, d, t, os⟩ := by
  obtain ⟨⟨oc, od, cd, sl, hC, _⟩, _, _, _, _, call, typ, _⟩ := id D
  refine codeAny_of_tree ?_
  show wpAny _ _ (callAny (.ref DIE) _) _ _ _
  refine nd_load hC ?_
  show wpAny _ _ (callAny.viaDunder (.ref DIE) _) _ _ _
  unfold callAny.viaDunder
  refine wpAny_bind (call.at ?_)
  dsimp only
  rw [tc_bind]
  refine wpAny_bind (wpAny_pure (wpAny_bind (wpAny_pure ?_)))
  refine wpAny_pure (a := Fin.again (.call (.builtin "type.__call__") ⟨[.ref DIE, u], []⟩)) (And.intro rfl ?_)
  refine codeAny_call_builtin_at (Code.quiet_builtin _ (by decide +kernel)) entry_typeCall (check_slot tc_kind tc_split typ (tc_args _ _ _) (die_tc D (fun _ _ z => z) (fun _ _ z => z) hq))
end
end Mine
end
section
open PySem PySem.W PyProof.Rows PySem.Calls PyProof.V PySem.Spec PySem.SeqAt
namespace Mine
open Builtin Builtin.ObjectAttr
set_option maxHeartbeats 1000000
section
variable {prog : Program} {w : World} {A : Around} {K : Frag} {s : Shared} {E : Value → Shared → Prop}
theorem exc_inst (D : Dk (model prog w) K s.heap) {e : Addr} {o : Obj} {b : Value} (he : s.heap.get? e = some o) (hc : o.cls = .ref DIE) (hb : [Value.ref DIE, .ref 213, .type "Exception", .type "BaseException", .type "object"].contains b = true) :
    Looks (model prog w) s.heap (isInstance (.ref e) b) true := by
  obtain ⟨oc, od, dt, sl⟩ := o
  cases hc
  exact ((Looks.ld he).andThen .now).andThen (D.sub b true hb)
theorem exc_check (D : Dk (model prog w) K s.heap) {e : Addr} {o : Obj} {u : Value} {Q : Unit → Shared → Prop} (he : s.heap.get? e = some o) (hc : o.cls = .ref DIE) (q : Q () s) :
    wpAny (model prog w) A (checkBuiltinCall "Exception.__init__" ⟨[.ref e, u], []⟩) Q E s := by
  have F := PySem.F.excBase_Exception
  have i1 := exc_inst D (b := .type "Exception") he hc (by decide +kernel)
  have i2 : Looks (model prog w) s.heap (typeOf (.ref e)) (.ref DIE) := by
    obtain ⟨oc, od, dt, sl⟩ := o
    cases hc
    exact (Looks.ld he).andThen .now
  obtain ⟨⟨oc, od, cd, sl, hC, _⟩, _⟩ := D
  simp only [checkBuiltinCall, F.initKind, F.initSplit, F.initRow]
  refine wpAny_bind (i1.here ?_)
  simp only [Bool.not_true, Bool.false_eq_true, if_false]
  unfold Bind.checkArgs
  dsimp only
  repeat lk
  exact q
theorem exc_init (D : Dk (model prog w) K s.heap) {e tu : Addr} {dd : Option Addr} {u : Value} {Q : Value → Shared → Prop} (he : s.heap.get? e = some (exObj tu dd))
    (h : ∀ h' tu', h'.get? e = some (exObj tu' dd) → (∀ b o, b ≠ e → s.heap.get? b = some o → h'.get? b = some o) → Q .none { s with heap := h' }) : wpAny (model prog w) A (call (.builtin "Exception.__init__") [.ref e, u]) Q E s := by
  have F := PySem.F.excBase_Exception
  refine wpAny_call (codeAny_call_builtin F.init.plain F.initEntry (exc_check D he rfl ?_))
  unfold Builtin.«BaseException.__init__»
  dsimp only
  rw [if_neg (by simp)]
  unfold newTuple Builtin.BaseException.bexcPut
  have he1 := Heap.get?_push_of_some (h := s.heap) { cls := .type "tuple", data := .seq #[u] } he
  refine wpAny_bind (wpAny_newObj_type (wpAny_bind (wpAny_bind (wpAny_field he1 rfl rfl (wpAny_bind (wpAny_setField he1 rfl (Nat.succ_pos 5) ?_))))) (Nat.le_of_ble_eq_true rfl))
  refine wpAny_letGo (wpAny_pure (h _ s.heap.objs.size ?_ fun b o hb ho => ?_))
  · exact Heap.get?_update_self _ he1 rfl
  · exact (Heap.get?_update_other _ _ hb.symm).trans (Heap.get?_push_of_some _ ho)
inductive Own (h : Heap) (x : Addr) : Option Addr → (Str → Option Value) → Prop
  | nil : Own h x none fun _ => none
  | one (dx : Addr) (mA) (ne : dx ≠ x) (ns : h.Ns1 dx mA) : Own h x (some dx) mA
inductive OwnD (h : Heap) (g : Array GenState) (d : Drawn) (t : Nat) (os : OsState) (x tu : Addr) (dd : Option Addr) (mA : Str → Option Value) : Option Addr → Shared → Prop
  | mk (dx : Addr) (h1 : Heap) (ne : dx ≠ x) (e : h1.get? x = some (exObj tu (some dx))) (ns : h1.Ns1 dx mA) (keep : ∀ b o, b ≠ x → h.get? b = some o → h1.get? b = some o) (k : dd = some dx ∨ h.get? dx = none) : OwnD h g d t os x tu dd mA (some dx) ⟨h1, g, d, t, os⟩
theorem Own.at {h : Heap} {x tu : Addr} {dd : Option Addr} {mA : Str → Option Value} (o : Own h x dd mA) (hx : h.get? x = some (exObj tu dd)) : ∃ od, InstAt h x (exObj tu dd) DIE od := by
  cases o with
  | nil => exact ⟨none, hx, rfl, rfl, trivial⟩
  | one dx mA ne ns => obtain ⟨oo, _, _, e1, _⟩ := ns; exact ⟨some oo, hx, rfl, rfl, e1⟩
theorem exc_set (X : K.In s.heap) (D : Dk (model prog w) K s.heap) {x tu : Addr} {dd : Option Addr} {mA : Str → Option Value} {name : Str} {v : Value} {ns : List Str} {Q : Unit → Shared → Prop} (hn : findIn K (.ref DIE) name = some none) (hx : s.heap.get? x = some (exObj tu dd))
    (hd : Own s.heap x dd mA)
    (hq : ∀ h' tk' dx, h'.get? x = some (exObj tu (some dx)) → dx ≠ x → h'.Ns1 dx (fun y => if y = name then some v else mA y) → (∀ b o, b ≠ x → some b ≠ dd → s.heap.get? b = some o → h'.get? b = some o) → (dd = some dx ∨ s.heap.get? dx = none) → Q () { s with heap := h', toks := tk' }) (hw : Within mA ns) (hsz : ns.length ≤ 100) :
    wpAny (model prog w) A (setAttr (.ref x) name v) Q E s := by
  obtain ⟨h, g, d, t, os⟩ := s
  obtain ⟨od, IA⟩ : ∃ od, InstAt h x (exObj tu dd) DIE od := hd.at hx
  have SF := PySem.F.store_Exception
  obtain ⟨cd, c1, c2, c3⟩ := D.cls
  have hm : Looks (model prog w) h (mroOf (.ref DIE)) cd.mro := (looks_clsIn X c1).andThen .now
  rw [c3] at hm
  have i1 := exc_inst D (b := .type "object") hx rfl (by decide +kernel)
  have L3 : Looks (model prog w) h (typeLookup (.ref DIE) name) none := looks_findIn X hn
  refine set_plain X IA D.set.1 ?_
  refine codeAny_call_builtin SF.slot.plain SF.entry (@check_slot (model prog w) _ _ _ "object.__setattr__" "object" "__setattr__" (.ref x) [.str name t, v] [] _ SF.kind SF.split i1 (SF.args (.ref x) (.str name t) v) ?_)
  rw [osa_eq, PySem.refuse_eq]
  refine wpAny_bind (wpAny_bind (IA.type.here (wpAny_bind (hm.here ?_))))
  rw [PySem.refuseLoop_ref, PySem.refuseLoop_ref, SF.passes]
  refine wpAny_pure (wpAny_bind (IA.type.here (wpAny_bind (L3.here (wpAny_bind (wpAny_pure ?_))))))
  show wpAny _ _ (storeInOwnDict (.ref x) (.ref DIE) (.str name t) name v false) _ _ _
  have LC : Looks (model prog w) h (classData DIE) cd := looks_clsIn X c1
  refine wpAny_bind (wpAny_pure (wpAny_bind ?_))
  refine wpAny_mono (Q := OwnD h g d (t + 1) os x tu dd mA) (E := fun _ _ => False) ?_ (fun a s' z => ?_) fun _ _ z => z.elim
  · show wpAny _ _ (instanceDict x true) _ _ _
    refine wpAny_bind (wpAny_loadPart hx (wpAny_bind (LC.here ?_)))
    rw [c2]
    clear hq X D IA L3 i1 hm LC
    obtain _ | ⟨dx, mA, hne, hns⟩ := hd
    · have hxs : x ≠ h.objs.size := Nat.ne_of_lt (Heap.lt_size hx)
      have hx1 : (h.push emptyDict).get? x = some (exObj tu none) := Heap.get?_push_of_some _ hx
      show wpAny _ _ (alloc emptyDict >>= fun dd => update x (fun o => { o with dict := some dd }) >>= fun _ => dictMade (.ref DIE) x dd) _ _ _
      refine wpAny_bind (wpAny_alloc' (wpAny_bind (wpAny_update' hx1 (wpAny_pure ?_))))
      refine ⟨h.objs.size, _, hxs.symm, Heap.get?_update_self _ hx1 rfl, ?_, fun b o' hb e => (Heap.get?_update_ne _ _ _ _ hb).trans (Heap.get?_push_of_some _ e), .inr (size_none _)⟩
      exact Heap.Ns1.of_empty ⟨_, #[], _, (Heap.get?_update_ne _ _ _ _ hxs.symm).trans (Heap.get?_push_at rfl rfl), rfl, fun e he => absurd he (by simp), fun _ => rfl⟩
    · exact wpAny_pure ⟨dx, h, hne, hx, hns, fun _ _ _ e => e, .inl rfl⟩
  · obtain ⟨dx, h1, hne, hx1, hns, keep, k1⟩ := z
    show wpAny _ _ (storeInDict dx (.str name t) name v) _ _ _
    unfold storeInDict newKeyGuard
    refine wpAny_bind (wpAny_pure (wpAny_bind (wpAny_nsSet1 hns fun h' hn' hs => ?_)))
    obtain ⟨oD, esD, epD, hoD, hdD, hcD⟩ := hn'.count (PySem.Within.cons name v hw)
    refine wpAny_bind (wpAny_lookBehind hoD (by rw [hdD]; exact pastItsLine_dict (Nat.le_trans hcD (by rw [List.length_cons, sizeLine_eq]; omega))) (wpAny_pure (hq h' _ dx ((hs.2 x hne.symm).trans hx1) hne hn' (fun b ob hbx hbd e => ?_) k1)))
    refine (hs.2 b fun z => ?_).trans (keep b ob hbx e)
    rcases k1 with k1 | k1
    · exact hbd (by rw [z, k1])
    · rw [z, k1] at e; cases e
end
end Mine
end
section
open PySem PySem.W PyProof.Rows PySem.Calls PyProof.V PySem.Spec PySem.SeqAt
namespace Mine
noncomputable def isNm (x : Str) (e : Expr) : Bool := onName e fun y _ => y == x && (y == ("__debug__" : Str)) == false
noncomputable def initB (B fld v : Str) (lit : Bool) (body : List Stmt) : Bool := match body with
  | [] => false
  | s1 :: r => match r with
    | [] => false
    | s2 :: r => r.isEmpty && onExprS s1 (fun x => onCall x fun y xs ks pos => ks.isEmpty && onAttr y (fun z n apos => n == ("__init__" : Str) && isNm B z && apos.endLine == pos.line) && twoX xs fun a b => isNm "self" a && (if lit then onStr b (fun _ => true) else isNm v b)) &&
      onAsg s2 fun t y => onAttr t (fun z n _ => n == fld && isNm "self" z) && isNm v y
theorem isNm_el {x : Str} {e : Expr} {C : Expr → Prop} (h : isNm x e = true) (k : ∀ p, (x == ("__debug__" : Str)) = false → C (.Name x p)) : C e := by
  apply onName_el h
  intro y p h
  obtain rfl := beq_iff_eq.mp (and2 h).1
  exact k p (beq_iff_eq.mp (and2 h).2)
inductive ArgI (v : Str) : Expr → Prop
  | str (x : Str) (a b) : ArgI v (.Constant (.str x) a b)
  | nm (p : Pos) : ArgI v (.Name v p)
theorem ArgI.star {v : Str} {e : Expr} {env : Env} (h : ArgI v e) : starEach [e] env = [(false, eval e env)] := by cases h <;> rfl
theorem ArgI.nst {v : Str} {e : Expr} (h : ArgI v e) : nst e = true := by cases h <;> rfl
theorem initB_el {B fld v : Str} {lit : Bool} {body : List Stmt} {C : List Stmt → Prop} (h : initB B fld v lit body = true)
    (k : ∀ p0 p1 p2 p3 p4 p5 p6 p7 p8 arg, p1.endLine = p3.line → (v == ("__debug__" : Str)) = false → ArgI v arg → C [.Expr (.Call (.Attribute (.Name B p0) "__init__" p1) [.Name "self" p2, arg] [] p3) p4, .Assign [.Attribute (.Name "self" p5) fld p6] (.Name v p7) p8]) : C body := by
  cases body with
  | nil => cases h
  | cons s1 r =>
  cases r with
  | nil => cases h
  | cons s2 r =>
  have a2 := (and2 h).2
  have a1 := (and2 (and2 h).1).2
  have a0 := List.isEmpty_iff.mp (and2 (and2 h).1).1
  clear h
  subst a0
  apply onExprS_el a1
  intro x p4 b1
  clear a1
  apply onCall_el b1
  intro y xs ks p3 b2
  clear b1
  have c0 := List.isEmpty_iff.mp (and2 (and2 b2).1).1
  have c1 := (and2 (and2 b2).1).2
  have c2 := (and2 b2).2
  clear b2
  subst c0
  apply onAttr_el c1
  intro z n p1 d1
  clear c1
  have e1 := beq_iff_eq.mp (and2 d1).2
  have e2 := (and2 (and2 d1).1).2
  have e3 := beq_iff_eq.mp (and2 (and2 d1).1).1
  clear d1
  subst e3
  apply isNm_el e2
  intro p0 _
  clear e2
  apply twoX_el c2
  intro a arg f1
  clear c2
  have f2 := (and2 f1).2
  apply isNm_el (and2 f1).1
  intro p2 _
  clear f1
  apply onAsg_el a2
  intro t y p8 g1
  clear a2
  have g2 := (and2 g1).1
  apply isNm_el (and2 g1).2
  intro p7 hv
  clear g1
  apply onAttr_el g2
  intro z n p6 g3
  clear g2
  have e6 := beq_iff_eq.mp (and2 g3).1
  have g4 := (and2 g3).2
  clear g3
  subst e6
  apply isNm_el g4
  intro p5 _
  refine k p0 p1 p2 p3 p4 p5 p6 p7 p8 arg e1 hv ?_
  cases lit with
  | true => exact onStr_el (C := ArgI v) f2 fun x a b _ => .str x a b
  | false => exact isNm_el (C := ArgI v) f2 fun p _ => .nm p
inductive Mid (n : Nat) (h : Heap) (e : Addr) (h' : Heap) : Prop
  | mk (tu : Addr) (dd : Option Addr) (mA : Str → Option Value) (ns : List Str) (a : h'.get? e = some (exObj tu dd)) (o : Own h' e dd mA) (f : ∀ dx, dd = some dx → h.get? dx = none) (k : ∀ b o, b ≠ e → h.get? b = some o → h'.get? b = some o) (w : Within mA ns) (z : ns.length ≤ n)
inductive MidS (n : Nat) (h : Heap) (g : Array GenState) (d : Drawn) (os : OsState) (e : Addr) : Shared → Prop
  | mk (h' : Heap) (tk' : Nat) (m : Mid n h e h') : MidS n h g d os e ⟨h', g, d, tk', os⟩
theorem ns_at {h h' : Heap} {L : Addr} {m : Str → Option Value} (k : ∀ o, h.get? L = some o → h'.get? L = some o) (ns : h.Ns L m) : h'.Ns L m := by
  obtain ⟨o, es, ep, e, r⟩ := ns
  exact ⟨o, es, ep, k o e, r⟩
theorem none_back {h h' : Heap} {e dx : Addr} (k : ∀ b o, b ≠ e → h.get? b = some o → h'.get? b = some o) (ne : dx ≠ e) (q : h'.get? dx = none) : h.get? dx = none := by
  cases r : h.get? dx with
  | none => rfl
  | some o => exact nomatch (k dx o ne r).symm.trans q
section
variable {prog : Program} {w : World} {A : Around} {K : Frag} {s : Shared}
theorem init_body (X : K.In s.heap) (D : DieO K) {env : Env} {sc : Scope} {L e tu : Addr} {m : Str → Option Value} {B fld v : Str} {lit : Bool} {bv f u : Value} {body : List Stmt} {n : Nat} (hb : initB B fld v lit body = true) (eo : EnvOk sc env L)
    (kl : sc.names.lookup ("self" : Str) = some .local) (kv : sc.names.lookup v = some .local) (ns : s.heap.Ns L m) (m1 : m "self" = some (.ref e)) (m2 : m v = some u) (hLe : L ≠ e) (he : s.heap.get? e = some (exObj tu none)) (ke : K.lookup e = none) (h10 : n ≤ 10)
    (hB : ∀ pos, wpAny (model prog w) A (eval (.Name B pos) env) (fun r s1 => r = bv ∧ s1 = s) (fun _ _ => False) s)
    (hG : ∀ pl, wpAny (model prog w) A (getMethod bv "__init__" pl) (fun r s1 => r = (f, []) ∧ s1 = { s with toks := s.toks + 1 }) (fun _ _ => False) s)
    (hk : ∀ h, K.In h → ∃ k, (k = Keeper.frame ∨ k = Keeper.machine ∨ k = Keeper.boundFrame) ∧ Looks (model prog w) h (keeperOf f) k)
    (hC : ∀ av tk, wpAny (model prog w) A (call f [.ref e, av]) (fun _ => MidS n s.heap s.gens s.drawn s.os e) (fun _ _ => False) { s with toks := tk })
    (hn : findIn K (.ref DIE) fld = some none) :
    wpAny (model prog w) A (execs body env) (fun f s2 => f = .next ∧ MidS (n + 1) s.heap s.gens s.drawn s.os e s2) (fun _ _ => False) s := by
  apply initB_el hb
  intro p0 p1 p2 p3 p4 p5 p6 p7 p8 arg hp hv ha
  have nm : ∀ {x : Str} {a : Value} {p : Pos} {s1 : Shared} {Q : Value → Shared → Prop}, s1.heap.Ns L m → sc.names.lookup x = some .local → m x = some a → (x == ("__debug__" : Str)) = false → Q a s1 → wpAny (model prog w) A (eval (.Name x p) env) Q (fun _ _ => False) s1 := fun ns k mx hd q =>
    wpAny_Name (wpAny_loadName_local (by rw [eo.se]; exact eo.k) (eo.local k) (by rw [eo.l]; exact ns) mx q) hd
  refine wpAny_execs_cons (wpAny_Expr_any (method_call (c := ⟨A, [], []⟩) rfl hp (by exact (by decide : 2 < 20)) (by rw [List.all_cons, List.all_cons, ha.nst]; rfl) (wpAny_mono (hB p0) (fun r s1 z pl => ?_) fun _ _ z => z)) eo.inter rfl)
  obtain ⟨rfl, rfl⟩ := z
  refine wpAny_mono (hG pl) (fun r s2 z => ?_) fun _ _ z => z
  obtain ⟨rfl, rfl⟩ := z
  have go : ∀ av tk, K.In s1.heap ∧ wpAny (model prog w) A (call f ([] ++ [.ref e, av])) (fun _ s3 => wpAny (model prog w) A (execs [.Assign [.Attribute (.Name "self" p5) fld p6] (.Name v p7) p8] env) (fun f s2 => f = .next ∧ MidS (n + 1) s1.heap s1.gens s1.drawn s1.os e s2) (fun _ _ => False) s3) (fun _ _ => False) { s1 with toks := tk } := fun av tk => by
    refine ⟨X, wpAny_mono (hC av tk) (fun r s3 z => ?_) fun _ _ z => z⟩
    obtain ⟨h', tk', tu', dd, mA, nsl, e1, e2, e2', e3, e4, e5⟩ := z
    have ns' := ns_at (e3 L · hLe) ns
    have X' : K.In h' := fun a o ka => e3 a o (fun z => by rw [z, ke] at ka; cases ka) (X a o ka)
    refine wpAny_execs_cons (plainObj_wpAny_Assign_Attribute (nm ns' kv m2 hv (nm ns' kl m1 rfl ?_)) rfl)
    refine exc_set (s := { s1 with heap := h', toks := tk' }) X' (dk_of X' D) hn e1 e2 (fun h2 tk2 dx q1 q2 q3 q4 q5 => wpAny_execs_nil ⟨rfl, h2, tk2, tu', some dx, _, fld :: nsl, q1, .one _ _ q2 q3, fun _ z => Option.some.inj z ▸ q5.elim (e2' _) (none_back e3 q2), fun b o hb ho => q4 b o hb (fun z => nomatch ho.symm.trans (e2' b z.symm)) (e3 b o hb ho), PySem.Within.cons fld u e4, Nat.succ_le_succ e5⟩) e4 (Nat.le_trans e5 (Nat.le_trans h10 (by decide)))
  refine callWith_cons (Z := fun h => K.In h) (first := []) rfl (by rw [List.all_cons, ha.nst]; rfl) hk (wpAny_items_cons (nm ns kl m1 rfl (wpAny_items_cons ?_ ha.star)) rfl)
  obtain ⟨x, a, b⟩ | ⟨p9⟩ := ha
  · exact wpAny_Constant_str (wpAny_items_nil (go _ _))
  · exact nm ns kv m2 hv (wpAny_items_nil (go _ _))
end
end Mine
end
section
open PySem PySem.W PyProof.Rows PySem.Calls PyProof.V PySem.Spec PySem.SeqAt
namespace Mine
noncomputable def anyB : CSs := .cons .dead .nil
section
variable {prog : Program} {w : World} {A : Around} {K : Frag} {s : Shared} {G : Heap}
theorem fn_raw (nl : G.NoLimit) {fa : Addr} {n1 n2 : Str} {fd : FuncData} {o : Obj} {body : List Stmt} {a b : Value} {R : Result → Shared → Prop} (hK : K.lookup fa = some o ∧ o.data = .func fd) (F : FdP K GT BT fa [n1, n2] 2 none anyB fd) (bind : ∀ S, peek K S (bindArgs fd ⟨[a, b], []⟩) = some [(n1, a), (n2, b)]) (hb : fd.body = .stmts body) (X : K.In s.heap) (kG : ∀ b o, G.get? b = some o → s.heap.get? b = some o) (hd : A.depth < recursionLimit)
    (h : ∀ env s' m, EnvOk fd.scope env env.locals → Fr s.heap env.locals s'.heap m → m n1 = some a → m n2 = some b → (∃ h' tk, s' = { s with heap := h', toks := tk }) → wpAny (model prog w) (A.deeper env) (execs body env) (fun f s'' => f = .next ∧ R (.ok (.ret .none)) s'') (fun _ _ => False) s') :
    codeAny (model prog w) A (.call (.ref fa) ⟨[a, b], []⟩) R s := by
  obtain ⟨_, pn, cl, gl, bu, co, ge, k, code, nd, _, cel⟩ := F
  have l1 := cel_none cel n1 (.head _)
  have l2 := cel_none cel n2 (.tail _ (.head _))
  refine codeAny_call_function hd (X _ _ hK.1) hK.2 co ge hb (codeRec_of X code) (kp_binds X bind _ _ _ _ ?_)
  rw [cl]
  refine wpAny_newFunctionEnv_cells k (fun x m => ?_) fun env he s' x => ?_
  · rcases List.mem_cons.mp m with rfl | m
    · exact .inl l1
    · rw [List.mem_singleton.mp m]; exact .inl l2
  have eo : EnvOk fd.scope env env.locals := by subst he; exact ⟨rfl, k, rfl, gl, bu⟩
  have ic := x.toInCall
  clear he
  refine ⟨nl.keeps fun b o e => ic.keep _ _ (kG _ _ e), codeAny_func (wpAny_mono (h env s' _ eo ⟨ic.ns, ic.keep, ic.fresh⟩ ?_ ?_ ic.same) (fun f s2 z => ?_) fun _ _ z => z.elim)⟩
  · exact bindL_zip (ns := [n1, n2]) (vs := [a, b]) (j := 0) (eo.local l1) nd rfl rfl
  · exact bindL_zip (ns := [n1, n2]) (vs := [a, b]) (j := 1) (eo.local l2) nd rfl rfl
  · obtain ⟨rfl, z⟩ := z
    exact z
end
end Mine
end
section
open PySem PySem.W PyProof.Rows PySem.Calls PyProof.V PySem.Spec PySem.SeqAt
namespace Mine
theorem Mid.from {n : Nat} {h h1 h' : Heap} {e : Addr} (k : ∀ b o, h.get? b = some o → h1.get? b = some o) (m : Mid n h1 e h') : Mid n h e h' := by
  obtain ⟨tu, dd, mA, ns, a1, a2, f, a3, a4, a5⟩ := m
  refine ⟨tu, dd, mA, ns, a1, a2, fun dx z => ?_, fun b o hb e => a3 b o hb (k b o e), a4, a5⟩
  cases q : h.get? dx with
  | none => rfl
  | some o => exact nomatch (k _ _ q).symm.trans (f dx z)
structure DieK (K : Frag) : Prop where
  d0 : DieO K
  f1 : ∃ fd o body, (K.lookup 230 = some o ∧ o.data = .func fd) ∧ FdP K GT BT 230 ["self", "value"] 2 none anyB fd ∧ (∀ a b S, peek K S (bindArgs fd ⟨[a, b], []⟩) = some [(("self" : Str), a), ("value", b)]) ∧ fd.body = .stmts body ∧ initB "PerlError" "value" "value" true body = true ∧ fd.scope.names.lookup ("PerlError" : Str) = some .globalImplicit
  f2 : ∃ fd o body, (K.lookup 210 = some o ∧ o.data = .func fd) ∧ FdP K GT BT 210 ["self", "text"] 2 none anyB fd ∧ (∀ a b S, peek K S (bindArgs fd ⟨[a, b], []⟩) = some [(("self" : Str), a), ("text", b)]) ∧ fd.body = .stmts body ∧ initB "Exception" "text" "text" false body = true ∧ fd.scope.names.lookup ("Exception" : Str) = some .globalImplicit
  n1 : nsIn K mainGlobals "PerlError" = some (some (.ref 213))
  n2 : nsIn K mainGlobals "Exception" = some none
  c1 : readsIn K 213 (.type "type") = true
  c2 : findCls K (.ref 213) (.type "type") "__init__" = some (.val (.ref 210))
  c3 : specialIn K (.ref 213) "__getattribute__" = some (some (.builtin "type.__getattribute__"))
  c4 : keepIn K (.ref 210) = true
  c5 : findCls K (.type "Exception") (.type "type") "__init__" = some (.val (.builtin "Exception.__init__"))
section
variable {prog : Program} {w : World} {A : Around} {K : Frag} {p : Program} {loose : List Str} {mg mb : Str → Option Value} {s : Shared} {G : Heap} {d : Nat}
theorem exc_type_of : typeOf (.type "Exception") = pure (.type "type") := by kernel_rfl
theorem boot_exc : bootBuiltins "Exception" = some (.type "Exception") := by kernel_rfl
theorem perl_call (g : Glo K p loose mg mb G) (nl : G.NoLimit) (D : DieK K) (X : K.In s.heap) (kG : ∀ b o, G.get? b = some o → s.heap.get? b = some o) (hd : A.depth < recursionLimit) {e tu : Addr} {av : Value} (he : s.heap.get? e = some (exObj tu none)) (ke : K.lookup e = none) :
    wpAny (model prog w) A (call (.ref 210) [.ref e, av]) (fun _ => MidS 1 s.heap s.gens s.drawn s.os e) (fun _ _ => False) s := by
  obtain ⟨fd, o, body, hK, F, bd, hb, ib, gk⟩ := D.f2
  refine wpAny_call (fn_raw nl hK F (bd _ _) hb X kG hd fun env s' m eo fr m1 m2 same => ?_)
  obtain ⟨h1, tk1, rfl⟩ := same
  have X1 : K.In h1 := X.keeps fr.keep
  have top : TopRead p loose mg mb h1 := g.top.keeps fun b o q => fr.keep _ _ (kG _ _ q)
  have he1 := fr.keep _ _ he
  have hL : env.locals ≠ e := fun z => Nat.lt_irrefl _ (Nat.lt_of_lt_of_le (Heap.lt_size he) (z ▸ fr.above))
  refine wpAny_mono (init_body (s := { s with heap := h1, toks := tk1 }) (n := 0) (bv := .type "Exception") (f := .builtin "Exception.__init__") X1 D.d0 ib eo (cel_none F.cel _ (.head _)) (cel_none F.cel _ (.tail _ (.head _))) fr.ns m1 m2 hL he1 ke (by decide) (fun pos => ?_) (fun pl => method_type fr X exc_type_of (by decide +kernel) D.c5 rfl ⟨rfl, rfl⟩) (fun h z => keeper_plain (by intro a e; cases e) h trivial)
    (fun av tk => exc_init (dk_of X1 D.d0) he1 fun h' tu' q1 q2 => ⟨h', tk, tu', none, fun _ => none, [], q1, .nil, (fun _ z => nomatch z), q2, PySem.Within.nil, Nat.le_refl 0⟩) (dk_of (M := model prog w) X1 D.d0).set.2.1) (fun f s2 z => ?_) fun _ _ z => z
  · exact Name_function_global (by rw [eo.se]; exact eo.k) (eo.local gk) (loadGlobal_builtin (by rw [eo.g]; exact top.g) (mg_none_of X1 top.g D.n2) (by rw [eo.b]; exact top.b) ((top.builtins _ (by decide)).trans boot_exc) ⟨rfl, rfl⟩) (by decide)
  · obtain ⟨rfl, h', tk', z⟩ := z
    exact ⟨rfl, h', tk', z.from fr.keep⟩
theorem die_S (g : Glo K p loose mg mb G) (nl : G.NoLimit) (D : DieK K) : DieS prog w G d := by
  intro c L N P σ s av u ok I ru
  obtain ⟨h, gs, dr, tk, os⟩ := s
  have X : K.In h := I.s.kin g
  have kG : ∀ b o, G.get? b = some o → h.get? b = some o := fun b o q => I.s.k _ _ (I.s.g _ _ q)
  obtain ⟨fd, o, body, hK, F, bd, hb, ib, gk⟩ := D.f1
  have k2 : ∀ b o, h.get? b = some o → ((h.push { cls := .type "tuple", data := .seq #[u] }).push (exObj h.objs.size none)).get? b = some o := fun b o q => Heap.get?_push_of_some _ (Heap.get?_push_of_some _ q)
  have he : ((h.push { cls := .type "tuple", data := .seq #[u] }).push (exObj h.objs.size none)).get? (h.objs.size + 1) = some (exObj h.objs.size none) := by heap_get
  have fe : h.get? (h.objs.size + 1) = none := Heap.get?_none_of_le (Nat.le_succ _)
  have ke : K.lookup (h.objs.size + 1) = none := by
    cases q : K.lookup (h.objs.size + 1) with
    | none => rfl
    | some o => rw [X _ _ q] at fe; cases fe
  obtain ⟨e1, e2, e3, e4, e5⟩ := I.free fe
  have dp := ok.dep
  refine wpAny_call (die_make (dk_of X D.d0) (fn_raw nl hK F (bd _ _) hb (X.keeps k2) (fun b o q => k2 _ _ (kG _ _ q)) (by show c.A.depth + 1 < recursionLimit; unfold recursionLimit; omega) fun env s' m eo fr m1 m2 same => ?_))
  obtain ⟨h1, tk1, rfl⟩ := same
  have X1 : K.In h1 := (X.keeps k2).keeps fr.keep
  have top : TopRead p loose mg mb h1 := g.top.keeps fun b o q => fr.keep _ _ (k2 _ _ (kG _ _ q))
  have he1 := fr.keep _ _ he
  have hL : env.locals ≠ h.objs.size + 1 := fun z => Nat.lt_irrefl _ (Nat.lt_of_lt_of_le (Heap.lt_size he) (z ▸ fr.above))
  refine wpAny_mono (init_body (s := ⟨h1, gs, dr, tk1, os⟩) (n := 1) (bv := .ref 213) (f := .ref 210) X1 D.d0 ib eo (cel_none F.cel _ (.head _)) (cel_none F.cel _ (.tail _ (.head _))) fr.ns m1 m2 hL he1 ke (by decide) (fun pos => ?_) (fun pl => method_cls X1 D.c3 (cls_value X1 D.c1 D.c2 rfl ⟨rfl, rfl⟩)) (fun h z => keeps_K D.c4 h z)
    (fun av tk => perl_call g nl D (s := ⟨h1, gs, dr, tk, os⟩) X1 (fun b o q => fr.keep _ _ (k2 _ _ (kG _ _ q))) (by show c.A.depth + 1 + 1 < recursionLimit; unfold recursionLimit; omega) he1 ke) (dk_of (M := model prog w) X1 D.d0).set.2.2) (fun f s2 z => ?_) fun _ _ z => z
  · exact Name_function_global (by rw [eo.se]; exact eo.k) (eo.local gk) (loadGlobal_global (by rw [eo.g]; exact top.g) (mg_of X1 top.g D.n1) ⟨rfl, rfl⟩) (by decide)
  · obtain ⟨rfl, h', tk', tu, dd, mA, nsl, q1, q2, _, q3, q4, _⟩ := z
    refine ⟨rfl, rfl, P, PLe.refl _, I.keeps fun b o q => q3 b o (fun z => by rw [z, fe] at q; cases q) (fr.keep _ _ (k2 _ _ q)), ⟨rfl, rfl, rfl⟩, _, _, _, _, rfl, q1, rfl, rfl, rfl, e1, e4, .inl rfl⟩
end
end Mine
end
section
open PySem PySem.W PyProof.Rows PySem.Calls PyProof.V PySem.Spec PySem.SeqAt
namespace Mine
noncomputable def f_lim : CSs := .cons (.seta (.loc 0) "width" (.loc 1)) (.cons (.seta (.loc 0) "depth" (.loc 2)) (.cons (.seta (.loc 0) "steps" (.loc 3)) (.cons (.seta (.loc 0) "text" (.loc 4)) (.cons (.seta (.loc 0) "items" (.loc 5)) .nil))))
noncomputable def limN : List Str := ["self", "width", "depth", "steps", "text", "items"]
noncomputable def limV (t : Nat → Tok) : List Value := [.int 64 (t 0), .int 50 (t 1), .int 1000000 (t 2), .int 100000 (t 3), .int 10000 (t 4)]
structure LimK (K : Frag) : Prop where
  f : ∃ fd o t, (K.lookup 692 = some o ∧ o.data = .func fd) ∧ FdP K GT BT 692 limN 6 none f_lim fd ∧ ∀ v S, peek K S (bindArgs fd ⟨[v], []⟩) = some (limN.zip (v :: limV t))
  k : keepIn K (.ref 692) = true
theorem set_flip {H : HM} {x dx : Addr} {a b c : AO} (h : x ≠ dx) : ((H.set dx a).set x b).set dx c = (H.set dx c).set x b := by
  rw [HM.set_comm _ _ _ h, HM.set_set]
noncomputable def gtOk (K : Frag) : Bool := GT.all fun q => nsIn K mainGlobals q.1 == some (some q.2)
noncomputable def btOk (K : Frag) : Bool := BT.all fun q => nsIn K mainGlobals q.1 == some none && bootBuiltins q.1 == some q.2 && !(q.1 == ("__name__" : Str))
theorem look_mem {x : Str} {v : Value} : ∀ {l : List (Str × Value)}, l.lookup x = some v → (x, v) ∈ l
  | [], h => by cases h
  | (y, u) :: l, h => by
    rw [List.lookup_cons] at h
    split at h
    · rename_i e
      cases h
      rw [beq_iff_eq.mp e]; exact .head _
    · exact .tail _ (look_mem h)
theorem tabs_of {K : Frag} (h1 : gtOk K = true) (h2 : btOk K = true) : Tabs K GT BT :=
  ⟨fun x v h => beq_iff_eq.mp (List.all_eq_true.mp h1 _ (look_mem h)), fun x v h => by
    obtain ⟨a, c⟩ := and2 (List.all_eq_true.mp h2 _ (look_mem h))
    obtain ⟨a, b⟩ := and2 a
    refine ⟨beq_iff_eq.mp a, beq_iff_eq.mp b, fun e => ?_⟩
    rw [e] at c; cases c⟩
noncomputable def geOk (K : Frag) : Bool := exmOne K (.ref DIE) (.ref DIE) == some true && typeIn K (.ref DIE) == some (.type "type") && subIn K (.ref DIE) (.type "BaseException") == some true && keepIn K (.ref DIE)
theorem ge_of {K : Frag} (h : geOk K = true) : GloE K := by
  obtain ⟨h, d⟩ := and2 h
  obtain ⟨h, c⟩ := and2 h
  obtain ⟨a, b⟩ := and2 h
  exact ⟨beq_iff_eq.mp a, beq_iff_eq.mp b, beq_iff_eq.mp c, d⟩
noncomputable def gcOk (K : Frag) : Bool := gcs.all fun C => (plainGet K C "x" && hasDictIn K C && plainOver K C && (findIn K (.ref C) "__setattr__" == some (some (.builtin "object.__setattr__")))) && goodNames.all fun x => findIn K (.ref C) x == some none
noncomputable def mkOk (K : Frag) : Bool := [((445 : Nat), (428 : Nat)), (551, 548), (716, 713), (695, 692)].all fun q => makesIn K q.1 && findIn K (.ref q.1) "__init__" == some (some (.ref q.2)) && typeIn K (.ref q.2) == some (.type "function") && keepIn K (.ref q.1)
noncomputable def fnsOk (K : Frag) (l : List Row) : Bool := l.all fun r => fnOk K GT BT r.fa r.nm r.np r.cell r.b
noncomputable def mtOk (K : Frag) (n : Str) (f : Addr) : Bool := findIn K (.ref 445) n == some (some (.ref f)) && typeIn K (.ref f) == some (.type "function")
theorem meth_of {K : Frag} {n : Str} {f : Addr} (h : mtOk K n f = true) : methIn K 445 n = some (.glob (.ref f)) := by
  obtain ⟨a, b⟩ := and2 h
  unfold methIn
  rw [beq_iff_eq.mp a]
  exact if_pos b
structure Facts (K : Frag) : Prop where
  gt : gtOk K = true
  bt : btOk K = true
  ge : geOk K = true
  gc : gcOk K = true
  ma : mkOk K = true
  m1 : mtOk K "peek" 435 = true
  m2 : mtOk K "skip" 442 = true
  ni : KNi K 157 = true
  fs : fnsOk K tab = true
  bd : ∀ S a b c d e, (tab.map fun r => bindAt K r.fa ([a, b, c, d, e].take r.np) S) = tab.map fun r => some ((r.nm.take r.np).zip ([a, b, c, d, e].take r.np))
  dk : DieK K
  lk : LimK K
section
variable {prog : Program} {w : World} {K : Frag} {p : Program} {loose : List Str} {mg mb : Str → Option Value} {G : Heap}
theorem glo_of (k : K.In G) (top : TopRead p loose mg mb G) (F : Facts K) : Glo K p loose mg mb G := by
  refine ⟨k, top, fun C hC => ?_⟩
  obtain ⟨a, b⟩ := and2 (List.all_eq_true.mp F.gc C hC)
  exact ⟨a, fun x hx => beq_iff_eq.mp (List.all_eq_true.mp b x hx)⟩
theorem cls_of (k : K.In G) (top : TopRead p loose mg mb G) (F : Facts K) {d : Nat} {C fI : Addr} {args : List AV} {H : HM} {Q : AV → HM → Prop} {X : HM → Prop} (hC : (C, fI) ∈ [((445 : Nat), (428 : Nat)), (551, 548), (716, 713), (695, 692)]) (hg : C ∈ gcs)
    (h : ∀ x dx, x ≠ dx → H x = none → H dx = none → CallS prog w K G d (.glob (.ref fI)) (.ref x :: args) ((H.set dx (.dict [])).set x (.inst C dx)) (fun v H' => v = .none ∧ Q (.ref x) H') X) : CallS prog w K G (d + 1) (.glob (.ref C)) args H Q X := by
  obtain ⟨q, c4⟩ := and2 (List.all_eq_true.mp F.ma _ hC)
  obtain ⟨q, c3⟩ := and2 q
  obtain ⟨c1, c2⟩ := and2 q
  exact cls_call (glo_of k top F) hg c1 (beq_iff_eq.mp c2) (beq_iff_eq.mp c3) c4 h
theorem lim_step {H : HM} {x dx : Addr} {fs : List (Str × AV)} {n : Str} {v : AV} {Q : HM → Prop} (hxd : x ≠ dx) (z : fs.length ≤ 20) (pl : plainA v = true) (hn : n ∈ goodNames) (h : Q ((H.set dx (.dict (setF n v fs))).set x (.inst 695 dx))) :
    setaW (.ref x) n v ((H.set dx (.dict fs)).set x (.inst 695 dx)) Q :=
  ⟨x, 695, dx, fs, rfl, same, (HM.set_ne _ _ hxd.symm).trans same, z, pl, hn, (set_flip hxd).symm ▸ h⟩
theorem lim_of (k : K.In G) (top : TopRead p loose mg mb G) (nl : G.NoLimit) (F : Facts K) {H : HM} {Q : AV → HM → Prop} {X : HM → Prop} (h : ∀ x dx, x ≠ dx → H x = none → H dx = none → Q (.ref x) ((H.set dx (.dict limD)).set x (.inst 695 dx))) :
    CallS prog w K G 5 (.glob (.ref 695)) [] H Q X := by
  obtain ⟨⟨fd, o, t, hK, ok, hb⟩, kf⟩ := F.lk
  refine cls_of k top F (d := 4) (C := 695) (fI := 692) (by decide) (by decide) fun x dx hxd nx nd => ⟨692, rfl, kf, fun c P s vs hA I rv => ?_⟩
  cases rv with
  | cons v u vs us a b =>
  cases b
  have g := glo_of k top F
  refine fn_core g (ge_of F.ge) (tabs_of F.gt F.bt) nl (die_S g nl F.dk) hK ok (avs := [.ref x, .int 64, .int 50, .int 1000000, .int 100000, .int 10000]) rfl ?_ hA I (.cons _ _ _ _ a (.cons _ _ _ _ (.int _ (t 0)) (.cons _ _ _ _ (.int _ (t 1)) (.cons _ _ _ _ (.int _ (t 2)) (.cons _ _ _ _ (.int _ (t 3)) (.cons _ _ _ _ (.int _ (t 4)) .nil)))))) (kp_binds (I.kin g) (hb u))
  refine lim_step hxd (le20 rfl) rfl (by decide) ?_
  refine lim_step hxd (le20 rfl) rfl (by decide) ?_
  refine lim_step hxd (le20 rfl) rfl (by decide) ?_
  refine lim_step hxd (le20 rfl) rfl (by decide) ?_
  refine lim_step hxd (le20 rfl) rfl (by decide) ?_
  exact ⟨rfl, h x dx hxd nx nd⟩
noncomputable def pre {α : Type} (x : α) (k : Nat) (l : List α) : List α := k.rec (fun _ => []) (fun _ r l => l.headD x :: r l.tail) l
theorem pre_take {α : Type} (x : α) (k : Nat) : ∀ l : List α, l.length ≤ k → l = (pre x k l).take l.length := by
  induction k with
  | zero => intro l h; exact List.eq_nil_of_length_eq_zero (Nat.le_zero.mp h) ▸ rfl
  | succ k ih =>
    intro l h
    cases l with
    | nil => rfl
    | cons a t => exact congrArg (a :: ·) (ih t (Nat.le_of_succ_le_succ h))
theorem five {α : Type} {n : Nat} {l : List α} (h : l.length = n) (h5 : n ≤ 5) (x : α) : ∃ a b c d e, l = [a, b, c, d, e].take n :=
  ⟨_, _, _, _, _, h ▸ pre_take x 5 l (h ▸ h5)⟩
theorem np5 : ∀ r ∈ tab, r.np ≤ 5 := fun r m => of_decide_eq_true (List.all_eq_true.mp (by decide : (tab.all fun r => decide (r.np ≤ 5)) = true) r m)
theorem bd_of {K : Frag} (h : ∀ S a b c d e, (tab.map fun r => bindAt K r.fa ([a, b, c, d, e].take r.np) S) = tab.map fun r => some ((r.nm.take r.np).zip ([a, b, c, d, e].take r.np))) {r : Row} (m : r ∈ tab) (vs : List Value) (hl : vs.length = r.np) (S : Setting) : bindAt K r.fa vs S = some ((r.nm.take r.np).zip vs) := by
  obtain ⟨a, b, c, d, e, rfl⟩ := five hl (np5 r m) .none
  exact List.map_inj_left.mp (h S a b c d e) r m
theorem wd_of (k : K.In G) (top : TopRead p loose mg mb G) (nl : G.NoLimit) (F : Facts K) : Wd prog w K G := by
  have g := glo_of k top F
  refine ⟨fun {d n r args H Q X} hr hl h => fn_call g (ge_of F.ge) (tabs_of F.gt F.bt) nl (die_S g nl F.dk) (List.all_eq_true.mp F.fs r (List.mem_of_getElem? hr)) (bd_of F.bd (List.mem_of_getElem? hr)) hl h, fun {d C fI args H Q X} hC h => cls_of k top F ?_ ?_ h, fun h => lim_of k top nl F h, ⟨meth_of F.m1, meth_of F.m2⟩, F.ni⟩
  · rcases List.mem_cons.mp hC with e | hC
    · cases e; decide
    rcases List.mem_cons.mp hC with e | hC
    · cases e; decide
    · cases List.mem_singleton.mp hC; decide
  · rcases List.mem_cons.mp hC with e | hC
    · cases e; decide
    rcases List.mem_cons.mp hC with e | hC
    · cases e; decide
    · cases List.mem_singleton.mp hC; decide
end
end Mine
end
section
open PySem PySem.W PyProof.Rows PySem.Calls PyProof.V PySem.Spec PySem.SeqAt
namespace Mine
noncomputable def iniOk (K : Frag) (fa : Addr) (B fld v : Str) (lit : Bool) : Bool := fdAt K fa (fun fd => fdOk K GT BT fa ["self", v] 2 none anyB fd && (match fd.body with | .stmts body => initB B fld v lit body | _ => false) && fd.scope.names.lookup B == some .globalImplicit) false
theorem ini_of {K : Frag} {fa : Addr} {B fld v : Str} {lit : Bool} (h : iniOk K fa B fld v lit = true) (hb : ∀ a b S, bindAt K fa [a, b] S = some [(("self" : Str), a), (v, b)]) : ∃ fd o body, (K.lookup fa = some o ∧ o.data = .func fd) ∧ FdP K GT BT fa ["self", v] 2 none anyB fd ∧ (∀ a b S, peek K S (bindArgs fd ⟨[a, b], []⟩) = some [(("self" : Str), a), (v, b)]) ∧ fd.body = .stmts body ∧ initB B fld v lit body = true ∧ fd.scope.names.lookup B = some .globalImplicit := by
  obtain ⟨fd, o, hK, at', h⟩ := fdAt_inv h
  have gk := (and2 h).2
  have h := (and2 h).1
  have F := fd_of (and2 h).1
  have h := (and2 h).2
  obtain ⟨body, e, _⟩ := F.body
  rw [e] at h
  exact ⟨fd, o, body, hK, F, fun a b S => (at' _ _).symm.trans (hb a b S), e, h, beq_iff_eq.mp gk⟩
theorem dk_mk {K : Frag} (d0 : DieO K) (f1 : iniOk K 230 "PerlError" "value" "value" true = true) (f2 : iniOk K 210 "Exception" "text" "text" false = true) (b1 : ∀ a b S, bindAt K 230 [a, b] S = some [(("self" : Str), a), ("value", b)]) (b2 : ∀ a b S, bindAt K 210 [a, b] S = some [(("self" : Str), a), ("text", b)]) (n1 : nsIn K mainGlobals "PerlError" = some (some (.ref 213))) (n2 : nsIn K mainGlobals "Exception" = some none) (c1 : readsIn K 213 (.type "type") = true)
    (c2 : findCls K (.ref 213) (.type "type") "__init__" = some (.val (.ref 210))) (c3 : specialIn K (.ref 213) "__getattribute__" = some (some (.builtin "type.__getattribute__"))) (c4 : keepIn K (.ref 210) = true) (c5 : findCls K (.type "Exception") (.type "type") "__init__" = some (.val (.builtin "Exception.__init__"))) : DieK K :=
  ⟨d0, ini_of f1 b1, ini_of f2 b2, n1, n2, c1, c2, c3, c4, c5⟩
end Mine
end
section
open PySem PySem.W PyProof.Rows PySem.Calls PyProof.V PySem.Spec PySem.SeqAt
namespace Mine
noncomputable def limT (i : Nat) : Tok := ([1245, 1246, 1249, 1252, 1255][i]?).getD 0
theorem lk_mk {K : Frag} (h1 : fnOk K GT BT 692 limN 6 none f_lim = true) (h2 : ∀ v S, bindAt K 692 [v] S = some (limN.zip (v :: limV limT))) (h3 : keepIn K (.ref 692) = true) : LimK K := by
  obtain ⟨fd, o, hK, at', ok⟩ := fdAt_inv h1
  exact ⟨⟨fd, o, limT, hK, fd_of ok, fun v S => (at' _ _).symm.trans (h2 v S)⟩, h3⟩
end Mine
end
section
open PySem PySem.W PyProof.Rows PySem.Calls PyProof.V PySem.Spec PySem.SeqAt
namespace Mine
noncomputable def lawN : List Str := ["script", "data", "numbers", "codes", "count", "wide", "text", "lines", "template", "row", "told"]
theorem script_of {pr : Params} {h : Heap} : ∀ {zs : List Int} {vs : List Value}, WellAll pr h vs (ofPys (zs.map PyData.int)) → VRs (fun b => h.get? b) (nums zs) vs
  | [], _, w1 => by cases w1; exact .nil
  | z :: zs, _, w1 => by
    cases w1 with
    | cons a b => cases a; exact .cons _ _ _ _ (.int _ _) (script_of b)
section
variable {prog : Program} {w : World} {K : Frag} {p : Program} {loose : List Str} {mg mb : Str → Option Value} {G : Heap} {s : Shared}
theorem tail (F : Facts K) (k : K.In G) (top : TopRead p loose mg mb G) {pr : Params} {sc : Scope} {env : Env} {L a : Addr} {m : Str → Option Value} {zs : List Int} {body : List Stmt} {Q : Flow → Shared → Prop} {E : Value → Shared → Prop} (hm : mSs GT BT sc lawN f_law body = true) (hs : sc.names.lookup ("script" : Str) = some .local) (eo : EnvOk sc env L) (hfr : env.frame = some L)
    (fr : Fr G L s.heap m) (m1 : m "script" = some (.ref a)) (w1 : Well pr G (.ref a) (ofPy (.list (zs.map .int)))) (hz : zs.length ≤ 63) (hq : ∀ s' m', Fr G L s'.heap m' → Rest s s' → Q (.ret (.bool true)) s') : wpAny (model prog w) (callerA.deeper env) (execs body env) Q E s := by
  have V : Wd prog w K G := wd_of k top top.nolimit F
  have g := glo_of k top F
  have I : FInv G ⟨callerA.deeper env, [], []⟩ L ⟨lawN, env⟩ (fun b => G.get? b) ⟨[some (.lst (nums zs)), none, none, none, none, none, none, none, none, none, none], fun _ => none⟩ s.heap := by
    have no : ∀ {α : Type} {p : α → Prop} (q : α), q ∈ ([] : List α) → p q := fun q m => (List.not_mem_nil m).elim
    refine ⟨⟨fun _ _ e => e, fr.keep, no, no, no, fun a x e => by cases e⟩, ⟨m, fr.ns, fun i x v e1 e2 => ?_⟩, Heap.get?_none_of_le fr.above, rfl, no, no⟩
    cases i with
    | zero =>
      cases e1; cases e2
      refine ⟨fun _ => ⟨_, m1, ?_⟩, fun z => ?_⟩
      · cases w1 with
        | list e b => exact .lst _ _ 0 _ e (script_of b) (by rw [ints_len]; exact Nat.le_trans hz (by decide))
      · rw [eo.local hs] at z; cases z
    | succ i =>
      have : ∀ j, (List.replicate 10 (none : Option AV))[j]? = some (some v) → False := fun j e => by
        rw [List.getElem?_replicate] at e
        split at e <;> cases e
      exact (this i e2).elim
  have D : RdS G 13 sc lawN env ⟨callerA.deeper env, [], []⟩ L (fun b => G.get? b) ⟨[some (.lst (nums zs)), none, none, none, none, none, none, none, none, none, none], fun _ => none⟩ s.heap :=
    ⟨⟨eo, by decide, ⟨rfl, by show 1 + 300 + 1 + 13 ≤ 990; decide, by show 4 + 3 + 8 * 13 ≤ 9800; decide, [env], rfl, fun e m => by rw [List.mem_singleton.mp m, eo.se, eo.k]; exact ⟨nofun, L, .head _, hfr⟩⟩, I⟩, ⟨[], rfl⟩, hfr⟩
  refine wpAny_mono (swps_sound g (ge_of F.ge) (tabs_of F.gt F.bt) (die_S g top.nolimit F.dk) f_law (R := fun f _ => f = .ret (.bool true)) (X := fun _ => False) hm D (law_w V (fun _ => rfl) hz _)) (fun f s' z => ?_) fun _ _ z => ?_
  · obtain ⟨_, _, _, J, rs, z⟩ := z
    cases f with
    | ret v =>
      obtain ⟨av, r, z⟩ := z
      cases z
      obtain rfl := r.bool_inv
      obtain ⟨m', n', _⟩ := J.f
      exact hq s' m' ⟨n', fun b o e => J.s.k b o (J.s.g b o e), fr.above⟩ rs
    | next => cases z
    | brk => cases z
    | cont => cases z
  · obtain ⟨_, _, _, _, _, _, z⟩ := z
    exact z.elim
end
end Mine
end
section
open PySem PySem.W PyProof.Rows PySem.Calls
set_option maxRecDepth 1000000
set_option maxHeartbeats 8000000
namespace Mine.hd
theorem tw10012880186880212623 : True := ⟨⟩
theorem tw10024716035694756283 : True := ⟨⟩
theorem tw10030107230732127627 : True := ⟨⟩
theorem tw100483095206116625 : True := ⟨⟩
theorem tw1005483496087919985 : True := ⟨⟩
theorem tw10098268173465320503 : True := ⟨⟩
theorem tw10111801491309104144 : True := ⟨⟩
theorem tw1011335219593555734 : True := ⟨⟩
theorem tw10117440562283002822 : True := ⟨⟩
theorem tw1013155817946168525 : True := ⟨⟩
theorem tw10170382586518783626 : True := ⟨⟩
theorem tw102014493982917126 : True := ⟨⟩
theorem tw10216474801634566288 : True := ⟨⟩
theorem tw10230136404227502862 : True := ⟨⟩
theorem tw10246146449241189800 : True := ⟨⟩
theorem tw10258999931320997221 : True := ⟨⟩
theorem tw10259988299927297344 : True := ⟨⟩
theorem tw10273187271170590260 : True := ⟨⟩
theorem tw1033889070964956483 : True := ⟨⟩
theorem tw10360471539772378328 : True := ⟨⟩
theorem tw10365702040365258594 : True := ⟨⟩
theorem tw10403243965636340961 : True := ⟨⟩
theorem tw10404513684093684653 : True := ⟨⟩
theorem tw10424393626065333798 : True := ⟨⟩
theorem tw1043307727769730188 : True := ⟨⟩
theorem tw10458740792067480800 : True := ⟨⟩
theorem tw10465514089279642386 : True := ⟨⟩
theorem tw10491609206876299696 : True := ⟨⟩
theorem tw10507497572311344420 : True := ⟨⟩
theorem tw1051681510052472703 : True := ⟨⟩
theorem tw10525666975642140466 : True := ⟨⟩
theorem tw10531373872144210542 : True := ⟨⟩
theorem tw10543509907540572799 : True := ⟨⟩
theorem tw10583446816852156582 : True := ⟨⟩
theorem tw10601615944963115059 : True := ⟨⟩
theorem tw10603584201595350602 : True := ⟨⟩
theorem tw10643592516055977328 : True := ⟨⟩
theorem tw10678649693572172417 : True := ⟨⟩
theorem tw10691667921657928471 : True := ⟨⟩
theorem tw10727248033764811480 : True := ⟨⟩
theorem tw10728610062214689732 : True := ⟨⟩
theorem tw10738003575532504788 : True := ⟨⟩
theorem tw10752148897807903841 : True := ⟨⟩
theorem tw10778013660560245624 : True := ⟨⟩
theorem tw10778257442750969130 : True := ⟨⟩
theorem tw10781468475247234061 : True := ⟨⟩
theorem tw10788059911547816233 : True := ⟨⟩
theorem tw10792051664901133789 : True := ⟨⟩
theorem tw10806950440038215891 : True := ⟨⟩
theorem tw10841399608879689956 : True := ⟨⟩
theorem tw10844753989422098599 : True := ⟨⟩
theorem tw10847404155465417027 : True := ⟨⟩
theorem tw10879034167726328663 : True := ⟨⟩
theorem tw10905682514733158466 : True := ⟨⟩
theorem tw10919297434634762262 : True := ⟨⟩
theorem tw10933677585905718993 : True := ⟨⟩
theorem tw10955317050725887447 : True := ⟨⟩
theorem tw1097998534492414930 : True := ⟨⟩
theorem tw11011131195910976488 : True := ⟨⟩
theorem tw11032806212648032379 : True := ⟨⟩
theorem tw11034497122203965937 : True := ⟨⟩
theorem tw11054480109507316185 : True := ⟨⟩
theorem tw11079593142295127227 : True := ⟨⟩
theorem tw11115866451450875312 : True := ⟨⟩
theorem tw11117797201346649052 : True := ⟨⟩
theorem tw11162318198679636149 : True := ⟨⟩
theorem tw1118553966540926140 : True := ⟨⟩
theorem tw11210553801493137410 : True := ⟨⟩
theorem tw11213053971927718326 : True := ⟨⟩
theorem tw11232374478483605306 : True := ⟨⟩
theorem tw11249132867342737325 : True := ⟨⟩
theorem tw11256106856564762260 : True := ⟨⟩
theorem tw11283319371284918911 : True := ⟨⟩
theorem tw11319097763535126812 : True := ⟨⟩
theorem tw11319892378374348655 : True := ⟨⟩
theorem tw11364443708160879001 : True := ⟨⟩
theorem tw11375277706881905925 : True := ⟨⟩
theorem tw11389486352061984695 : True := ⟨⟩
theorem tw11399449904127653305 : True := ⟨⟩
theorem tw11415386828835887437 : True := ⟨⟩
theorem tw11465210709893060100 : True := ⟨⟩
theorem tw11472165163037031739 : True := ⟨⟩
theorem tw1147470481896660410 : True := ⟨⟩
theorem tw11507959949525687343 : True := ⟨⟩
theorem tw11587034568685482758 : True := ⟨⟩
theorem tw11623594800819314181 : True := ⟨⟩
theorem tw11631869004601391166 : True := ⟨⟩
theorem tw11631947586910100387 : True := ⟨⟩
theorem tw11652457597714270106 : True := ⟨⟩
theorem tw11660266114150955751 : True := ⟨⟩
theorem tw11663481321943121269 : True := ⟨⟩
theorem tw11672842613191775419 : True := ⟨⟩
theorem tw11709330566771433103 : True := ⟨⟩
theorem tw11713075325732132258 : True := ⟨⟩
theorem tw11749099774412794130 : True := ⟨⟩
theorem tw11754176132448286083 : True := ⟨⟩
theorem tw11778180911958503814 : True := ⟨⟩
theorem tw11801993109049149486 : True := ⟨⟩
theorem tw11814627755841444246 : True := ⟨⟩
theorem tw11852641145169952659 : True := ⟨⟩
theorem tw11893437276241958245 : True := ⟨⟩
theorem tw11905163887095721015 : True := ⟨⟩
theorem tw11912922877643110818 : True := ⟨⟩
theorem tw11915594877312485397 : True := ⟨⟩
theorem tw11917015161858427179 : True := ⟨⟩
theorem tw1194904439430580092 : True := ⟨⟩
theorem tw11953376511379268794 : True := ⟨⟩
theorem tw11968265576560266318 : True := ⟨⟩
theorem tw1197925565968671727 : True := ⟨⟩
theorem tw12004634451282584302 : True := ⟨⟩
theorem tw12023040214023829324 : True := ⟨⟩
theorem tw12050417470231563642 : True := ⟨⟩
theorem tw12058812876911547015 : True := ⟨⟩
theorem tw12070051907170230399 : True := ⟨⟩
theorem tw12070654863422294720 : True := ⟨⟩
theorem tw1208734638264122097 : True := ⟨⟩
theorem tw12092154237167983948 : True := ⟨⟩
theorem tw12112201142124510154 : True := ⟨⟩
theorem tw12113243949977362033 : True := ⟨⟩
theorem tw12127338746724423809 : True := ⟨⟩
theorem tw12173100003817136821 : True := ⟨⟩
theorem tw1222794163293265305 : True := ⟨⟩
theorem tw12239354291974867115 : True := ⟨⟩
theorem tw12268275109542032366 : True := ⟨⟩
theorem tw12271959270614036898 : True := ⟨⟩
theorem tw12337632362937886050 : True := ⟨⟩
theorem tw12364972598781006883 : True := ⟨⟩
theorem tw12393119488966705847 : True := ⟨⟩
theorem tw12394076208661396346 : True := ⟨⟩
theorem tw12399718760709695909 : True := ⟨⟩
theorem tw1241404454085649124 : True := ⟨⟩
theorem tw12414669353804360901 : True := ⟨⟩
theorem tw12459740579856956213 : True := ⟨⟩
theorem tw12470830098197988355 : True := ⟨⟩
theorem tw12480425521718506038 : True := ⟨⟩
theorem tw12487502673411948298 : True := ⟨⟩
theorem tw12509009523430927325 : True := ⟨⟩
theorem tw12521463284412890351 : True := ⟨⟩
theorem tw12575139184659369484 : True := ⟨⟩
theorem tw12588582704262371052 : True := ⟨⟩
theorem tw12590977762386282803 : True := ⟨⟩
theorem tw12591134339009171964 : True := ⟨⟩
theorem tw12614811148066621264 : True := ⟨⟩
theorem tw12629568148972539762 : True := ⟨⟩
theorem tw12631932088317031055 : True := ⟨⟩
theorem tw12647368939536790636 : True := ⟨⟩
theorem tw12659318050587179527 : True := ⟨⟩
theorem tw12685813987229840507 : True := ⟨⟩
theorem tw12744807935193187038 : True := ⟨⟩
theorem tw12769127236821124696 : True := ⟨⟩
theorem tw12832683148521936107 : True := ⟨⟩
theorem tw128412058910260475 : True := ⟨⟩
theorem tw12861998865439983172 : True := ⟨⟩
theorem tw12870888531099404533 : True := ⟨⟩
theorem tw12900700647772717614 : True := ⟨⟩
theorem tw12901994302517312135 : True := ⟨⟩
theorem tw12936449754285732098 : True := ⟨⟩
theorem tw12940713784782232206 : True := ⟨⟩
theorem tw12949589719889679912 : True := ⟨⟩
theorem tw12952509933414984302 : True := ⟨⟩
theorem tw1299046323782801668 : True := ⟨⟩
theorem tw12994019391074448376 : True := ⟨⟩
theorem tw13038990169509382042 : True := ⟨⟩
theorem tw13066319289922817542 : True := ⟨⟩
theorem tw13092906067662860646 : True := ⟨⟩
theorem tw13171141561276507362 : True := ⟨⟩
theorem tw13217225542625558698 : True := ⟨⟩
theorem tw13217827037086042188 : True := ⟨⟩
theorem tw13218659294841961345 : True := ⟨⟩
theorem tw13220430256171166289 : True := ⟨⟩
theorem tw13225837485096350037 : True := ⟨⟩
theorem tw13262116225945230012 : True := ⟨⟩
theorem tw13267510147771200024 : True := ⟨⟩
theorem tw13277076834127875243 : True := ⟨⟩
theorem tw13280443560766958183 : True := ⟨⟩
theorem tw13285133528070534704 : True := ⟨⟩
theorem tw1331086792558400476 : True := ⟨⟩
theorem tw13315533130655954831 : True := ⟨⟩
theorem tw13330244855972007585 : True := ⟨⟩
theorem tw13342606739435360313 : True := ⟨⟩
theorem tw13363553139645760527 : True := ⟨⟩
theorem tw13368278939475635651 : True := ⟨⟩
theorem tw13372043803930879067 : True := ⟨⟩
theorem tw13409441903868389331 : True := ⟨⟩
theorem tw13431754692932380062 : True := ⟨⟩
theorem tw13466754112058979494 : True := ⟨⟩
theorem tw13468300074154594103 : True := ⟨⟩
theorem tw13474097485772985973 : True := ⟨⟩
theorem tw13475242022060392486 : True := ⟨⟩
theorem tw13483081372092288885 : True := ⟨⟩
theorem tw13518370688599389936 : True := ⟨⟩
theorem tw13531707123254989501 : True := ⟨⟩
theorem tw13532847315355080253 : True := ⟨⟩
theorem tw13566260322249332789 : True := ⟨⟩
theorem tw1359830224848277088 : True := ⟨⟩
theorem tw13609717118414637909 : True := ⟨⟩
theorem tw13628142620392400109 : True := ⟨⟩
theorem tw13638418597567726942 : True := ⟨⟩
theorem tw13642289790063256904 : True := ⟨⟩
theorem tw13783031573616600631 : True := ⟨⟩
theorem tw13790719812936386609 : True := ⟨⟩
theorem tw1379335367625716243 : True := ⟨⟩
theorem tw1382963296337349011 : True := ⟨⟩
theorem tw13855946660403688772 : True := ⟨⟩
theorem tw13866372431405929976 : True := ⟨⟩
theorem tw13903934854276604550 : True := ⟨⟩
theorem tw13929354066492186541 : True := ⟨⟩
theorem tw13931416462566266981 : True := ⟨⟩
theorem tw13994979335412520660 : True := ⟨⟩
theorem tw14006173549557618073 : True := ⟨⟩
theorem tw14060154772996877548 : True := ⟨⟩
theorem tw1409312971732116557 : True := ⟨⟩
theorem tw14103535550066685397 : True := ⟨⟩
theorem tw14120982254508448379 : True := ⟨⟩
theorem tw1413172679324656950 : True := ⟨⟩
theorem tw14137390275340422267 : True := ⟨⟩
theorem tw1425423193147277237 : True := ⟨⟩
theorem tw14310624532144728618 : True := ⟨⟩
theorem tw14353793391729792155 : True := ⟨⟩
theorem tw14400467628812073631 : True := ⟨⟩
theorem tw14438451200097066615 : True := ⟨⟩
theorem tw14439243815434019604 : True := ⟨⟩
theorem tw14446474709323646786 : True := ⟨⟩
theorem tw1445366717492459972 : True := ⟨⟩
theorem tw14457593812595234344 : True := ⟨⟩
theorem tw14462709497994964445 : True := ⟨⟩
theorem tw14478148883734587675 : True := ⟨⟩
theorem tw14492701947808656938 : True := ⟨⟩
theorem tw1452849714261714991 : True := ⟨⟩
theorem tw14560493823538711346 : True := ⟨⟩
theorem tw14567429538950270057 : True := ⟨⟩
theorem tw14589601179579921912 : True := ⟨⟩
theorem tw14598272352848978880 : True := ⟨⟩
theorem tw14612060388864693735 : True := ⟨⟩
theorem tw14620637471214046174 : True := ⟨⟩
theorem tw14667805832236412624 : True := ⟨⟩
theorem tw14673209030070457562 : True := ⟨⟩
theorem tw14683707025165767436 : True := ⟨⟩
theorem tw14705683404202351889 : True := ⟨⟩
theorem tw14706022693812145444 : True := ⟨⟩
theorem tw14743440263598761229 : True := ⟨⟩
theorem tw14745743045033390146 : True := ⟨⟩
theorem tw14768889098011018680 : True := ⟨⟩
theorem tw14772383043592177042 : True := ⟨⟩
theorem tw14776386843196574960 : True := ⟨⟩
theorem tw14852329139284432860 : True := ⟨⟩
theorem tw14859038896228082724 : True := ⟨⟩
theorem tw14892549342360969540 : True := ⟨⟩
theorem tw14896477498954680388 : True := ⟨⟩
theorem tw14906377314874228009 : True := ⟨⟩
theorem tw14955159897011116063 : True := ⟨⟩
theorem tw15042006015671813226 : True := ⟨⟩
theorem tw15043168886218598503 : True := ⟨⟩
theorem tw15048261121198461528 : True := ⟨⟩
theorem tw15083628210047938546 : True := ⟨⟩
theorem tw15089522573102190283 : True := ⟨⟩
theorem tw15152743547302097792 : True := ⟨⟩
theorem tw15166520500009309586 : True := ⟨⟩
theorem tw15199589371867527261 : True := ⟨⟩
theorem tw15207398651663016943 : True := ⟨⟩
theorem tw15277330632498426303 : True := ⟨⟩
theorem tw15278966056882409248 : True := ⟨⟩
theorem tw1535757262459896012 : True := ⟨⟩
theorem tw15368132723985388332 : True := ⟨⟩
theorem tw15411387601460861337 : True := ⟨⟩
theorem tw15416985209724490359 : True := ⟨⟩
theorem tw15422856539912107476 : True := ⟨⟩
theorem tw15427206886491885616 : True := ⟨⟩
theorem tw15463257786427224491 : True := ⟨⟩
theorem tw15485099925027800711 : True := ⟨⟩
theorem tw15508949281206285077 : True := ⟨⟩
theorem tw15527848837575444561 : True := ⟨⟩
theorem tw15529170255622000948 : True := ⟨⟩
theorem tw15591429051563716170 : True := ⟨⟩
theorem tw15595854959937240912 : True := ⟨⟩
theorem tw15610959940260225430 : True := ⟨⟩
theorem tw15615537253650120727 : True := ⟨⟩
theorem tw15616948245753086127 : True := ⟨⟩
theorem tw15625209780758371316 : True := ⟨⟩
theorem tw15634565183472343292 : True := ⟨⟩
theorem tw1563692795949630186 : True := ⟨⟩
theorem tw15643275761693703936 : True := ⟨⟩
theorem tw15673258824015622330 : True := ⟨⟩
theorem tw15675198926951892251 : True := ⟨⟩
theorem tw1573125329251079302 : True := ⟨⟩
theorem tw15759970867653108152 : True := ⟨⟩
theorem tw15790720579355451973 : True := ⟨⟩
theorem tw1580110805410547442 : True := ⟨⟩
theorem tw15813434630575017362 : True := ⟨⟩
theorem tw15833661619300960221 : True := ⟨⟩
theorem tw15837987909243819085 : True := ⟨⟩
theorem tw15852365999677673905 : True := ⟨⟩
theorem tw1588505670450824345 : True := ⟨⟩
theorem tw1589133516308662214 : True := ⟨⟩
theorem tw15891492129113211923 : True := ⟨⟩
theorem tw15924899543223041283 : True := ⟨⟩
theorem tw15946356160694317329 : True := ⟨⟩
theorem tw15948780112781908787 : True := ⟨⟩
theorem tw15967140613478806237 : True := ⟨⟩
theorem tw15987713032478767096 : True := ⟨⟩
theorem tw15992342658441690333 : True := ⟨⟩
theorem tw1600037746751723098 : True := ⟨⟩
theorem tw16009884308244765898 : True := ⟨⟩
theorem tw16029623286316568529 : True := ⟨⟩
theorem tw1603739661141634737 : True := ⟨⟩
theorem tw16037735763661986305 : True := ⟨⟩
theorem tw16053994301053490033 : True := ⟨⟩
theorem tw16064382804478563927 : True := ⟨⟩
theorem tw16091413853298234908 : True := ⟨⟩
theorem tw16138627921320673191 : True := ⟨⟩
theorem tw16154546982801380032 : True := ⟨⟩
theorem tw16155205043701107222 : True := ⟨⟩
theorem tw16156708551869547534 : True := ⟨⟩
theorem tw16157073509204512506 : True := ⟨⟩
theorem tw16169374299450900766 : True := ⟨⟩
theorem tw16178712458983371728 : True := ⟨⟩
theorem tw16194383521188589630 : True := ⟨⟩
theorem tw16211521421427940678 : True := ⟨⟩
theorem tw16240987189780228909 : True := ⟨⟩
theorem tw16257038226119295666 : True := ⟨⟩
theorem tw16299908979028503884 : True := ⟨⟩
theorem tw16301592386811335294 : True := ⟨⟩
theorem tw16302227732802510677 : True := ⟨⟩
theorem tw16332348944364537037 : True := ⟨⟩
theorem tw16357263729072622229 : True := ⟨⟩
theorem tw16376525773666504680 : True := ⟨⟩
theorem tw16391229813045661084 : True := ⟨⟩
theorem tw16412773359747925120 : True := ⟨⟩
theorem tw16443024508289211202 : True := ⟨⟩
theorem tw16456969618363192440 : True := ⟨⟩
theorem tw16473244170626142550 : True := ⟨⟩
theorem tw16487816990975572028 : True := ⟨⟩
theorem tw16502264421070913907 : True := ⟨⟩
theorem tw16547865195752855329 : True := ⟨⟩
theorem tw1656537784543397195 : True := ⟨⟩
theorem tw16634568088961857937 : True := ⟨⟩
theorem tw16635604280276938560 : True := ⟨⟩
theorem tw16640546478005224243 : True := ⟨⟩
theorem tw16649331688326792143 : True := ⟨⟩
theorem tw16661405048812198066 : True := ⟨⟩
theorem tw1666387254794493845 : True := ⟨⟩
theorem tw16684818696116721337 : True := ⟨⟩
theorem tw16694946328126371552 : True := ⟨⟩
theorem tw16698745307106531279 : True := ⟨⟩
theorem tw16713699803418581334 : True := ⟨⟩
theorem tw16722109127936396110 : True := ⟨⟩
theorem tw16740792243129393148 : True := ⟨⟩
theorem tw16823583209533085739 : True := ⟨⟩
theorem tw16828841361933241965 : True := ⟨⟩
theorem tw16853341256802265648 : True := ⟨⟩
theorem tw16858285156579221889 : True := ⟨⟩
theorem tw16868993833207775613 : True := ⟨⟩
theorem tw16879956485299554121 : True := ⟨⟩
theorem tw16896567674234606475 : True := ⟨⟩
theorem tw16904818350239718627 : True := ⟨⟩
theorem tw16919406825032445293 : True := ⟨⟩
theorem tw16920754564084929960 : True := ⟨⟩
theorem tw16945582573551092051 : True := ⟨⟩
theorem tw1699103778626983548 : True := ⟨⟩
theorem tw17001982702790524580 : True := ⟨⟩
theorem tw17047115858639842297 : True := ⟨⟩
theorem tw17062030032774818151 : True := ⟨⟩
theorem tw17066044127408595049 : True := ⟨⟩
theorem tw17070941380808615275 : True := ⟨⟩
theorem tw17087091549796120035 : True := ⟨⟩
theorem tw1712922718373300912 : True := ⟨⟩
theorem tw17130151131035750659 : True := ⟨⟩
theorem tw17157681369570327122 : True := ⟨⟩
theorem tw17159668400989385352 : True := ⟨⟩
theorem tw17213754286329925777 : True := ⟨⟩
theorem tw17234923516513369237 : True := ⟨⟩
theorem tw17252143746492648416 : True := ⟨⟩
theorem tw17258206423299326598 : True := ⟨⟩
theorem tw17311223219408574766 : True := ⟨⟩
theorem tw17312999752573914782 : True := ⟨⟩
theorem tw17325209927041812611 : True := ⟨⟩
theorem tw17330132731328240911 : True := ⟨⟩
theorem tw17330945745186091897 : True := ⟨⟩
theorem tw17336936450418997793 : True := ⟨⟩
theorem tw17377529257436501650 : True := ⟨⟩
theorem tw17386561741084979693 : True := ⟨⟩
theorem tw17387473266821786944 : True := ⟨⟩
theorem tw17420951861521290806 : True := ⟨⟩
theorem tw17429513623812275283 : True := ⟨⟩
theorem tw17447410573909459338 : True := ⟨⟩
theorem tw17471934795394947791 : True := ⟨⟩
theorem tw17480944064648191246 : True := ⟨⟩
theorem tw17491317419825422843 : True := ⟨⟩
theorem tw17495340751864218003 : True := ⟨⟩
theorem tw17542962492245011380 : True := ⟨⟩
theorem tw17562767543260142214 : True := ⟨⟩
theorem tw17574625026820762457 : True := ⟨⟩
theorem tw17577478241444706838 : True := ⟨⟩
theorem tw17583924267553061668 : True := ⟨⟩
theorem tw17588044629489971554 : True := ⟨⟩
theorem tw1760603350576429475 : True := ⟨⟩
theorem tw17606422857730326317 : True := ⟨⟩
theorem tw17628472586750557451 : True := ⟨⟩
theorem tw17672654358674132775 : True := ⟨⟩
theorem tw17679848547673146604 : True := ⟨⟩
theorem tw17696971302532935780 : True := ⟨⟩
theorem tw17709224040873823659 : True := ⟨⟩
theorem tw17711083657039698284 : True := ⟨⟩
theorem tw17737187407176874954 : True := ⟨⟩
theorem tw17739348878880393726 : True := ⟨⟩
theorem tw17772917993097084435 : True := ⟨⟩
theorem tw17893044597097874663 : True := ⟨⟩
theorem tw17895171251205151618 : True := ⟨⟩
theorem tw17901334829092211166 : True := ⟨⟩
theorem tw17902569758825723728 : True := ⟨⟩
theorem tw17903497710992402801 : True := ⟨⟩
theorem tw17919194246423945575 : True := ⟨⟩
theorem tw1792636949448641307 : True := ⟨⟩
theorem tw17948085552500728524 : True := ⟨⟩
theorem tw17950676927832955104 : True := ⟨⟩
theorem tw17956543221229664512 : True := ⟨⟩
theorem tw17975533764899295144 : True := ⟨⟩
theorem tw17986969038992634876 : True := ⟨⟩
theorem tw17989097746536338734 : True := ⟨⟩
theorem tw1800889605409440832 : True := ⟨⟩
theorem tw18087722134493236510 : True := ⟨⟩
theorem tw18095200977026478895 : True := ⟨⟩
theorem tw1809687716253123402 : True := ⟨⟩
theorem tw18103420901670897651 : True := ⟨⟩
theorem tw18160293313031310949 : True := ⟨⟩
theorem tw18163647496604598072 : True := ⟨⟩
theorem tw18166333605607142505 : True := ⟨⟩
theorem tw18176940659606848779 : True := ⟨⟩
theorem tw18185175575083235020 : True := ⟨⟩
theorem tw18241275227582772068 : True := ⟨⟩
theorem tw18245042118932799458 : True := ⟨⟩
theorem tw18264374347568628810 : True := ⟨⟩
theorem tw18268791191939849864 : True := ⟨⟩
theorem tw18291419657060728153 : True := ⟨⟩
theorem tw18293732401869909652 : True := ⟨⟩
theorem tw18293851220164018083 : True := ⟨⟩
theorem tw18300207936620678264 : True := ⟨⟩
theorem tw18322514126500204803 : True := ⟨⟩
theorem tw18330183385023645277 : True := ⟨⟩
theorem tw18343703819029505601 : True := ⟨⟩
theorem tw18358800413957953924 : True := ⟨⟩
theorem tw18414764529967284870 : True := ⟨⟩
theorem tw18439511094173506614 : True := ⟨⟩
theorem tw1847840615245081061 : True := ⟨⟩
theorem tw1848646778235469078 : True := ⟨⟩
theorem tw1865391376527767206 : True := ⟨⟩
theorem tw1870067075039425230 : True := ⟨⟩
theorem tw1882180444382439491 : True := ⟨⟩
theorem tw189712035060473897 : True := ⟨⟩
theorem tw1954109241102656831 : True := ⟨⟩
theorem tw1997569388931296116 : True := ⟨⟩
theorem tw2000490053193787569 : True := ⟨⟩
theorem tw2001351230973187099 : True := ⟨⟩
theorem tw2040990291671593033 : True := ⟨⟩
theorem tw2051048951616859547 : True := ⟨⟩
theorem tw2101469004524951375 : True := ⟨⟩
theorem tw2114630138375439770 : True := ⟨⟩
theorem tw212345690472687942 : True := ⟨⟩
theorem tw2134215046882385847 : True := ⟨⟩
theorem tw2195365466389143174 : True := ⟨⟩
theorem tw2216850387143573719 : True := ⟨⟩
theorem tw2252305205657439004 : True := ⟨⟩
theorem tw22551697357593593 : True := ⟨⟩
theorem tw2263123870574935043 : True := ⟨⟩
theorem tw226724450230711188 : True := ⟨⟩
theorem tw2274498078352570744 : True := ⟨⟩
theorem tw2295870552580634182 : True := ⟨⟩
theorem tw2304311442786299043 : True := ⟨⟩
theorem tw2312034457802059207 : True := ⟨⟩
theorem tw2323474266016966308 : True := ⟨⟩
theorem tw2327210489368252092 : True := ⟨⟩
theorem tw2371736936440567457 : True := ⟨⟩
theorem tw2386827423013361158 : True := ⟨⟩
theorem tw2391449824757734642 : True := ⟨⟩
theorem tw242841246431481386 : True := ⟨⟩
theorem tw2440592905100669153 : True := ⟨⟩
theorem tw2442259710966052079 : True := ⟨⟩
theorem tw2448417245163862455 : True := ⟨⟩
theorem tw2457190517430149469 : True := ⟨⟩
theorem tw250903467453971090 : True := ⟨⟩
theorem tw257007361410690125 : True := ⟨⟩
theorem tw2608437505485318709 : True := ⟨⟩
theorem tw2616952524820836436 : True := ⟨⟩
theorem tw262745018181394680 : True := ⟨⟩
theorem tw26425463804135960 : True := ⟨⟩
theorem tw2708950531961675432 : True := ⟨⟩
theorem tw2739504486584576224 : True := ⟨⟩
theorem tw2781682124601125471 : True := ⟨⟩
theorem tw2783992281797965187 : True := ⟨⟩
theorem tw2788664435532181463 : True := ⟨⟩
theorem tw2799067240506288376 : True := ⟨⟩
theorem tw2799716289819351777 : True := ⟨⟩
theorem tw280609765759037681 : True := ⟨⟩
theorem tw2808349399557158395 : True := ⟨⟩
theorem tw2845207389951388047 : True := ⟨⟩
theorem tw2845679848157327705 : True := ⟨⟩
theorem tw2855845756224970109 : True := ⟨⟩
theorem tw2867327485932766208 : True := ⟨⟩
theorem tw2887051446865420828 : True := ⟨⟩
theorem tw2922222751358710265 : True := ⟨⟩
theorem tw3008623586974134963 : True := ⟨⟩
theorem tw3044193314922437478 : True := ⟨⟩
theorem tw307737655149646647 : True := ⟨⟩
theorem tw3085183777334472315 : True := ⟨⟩
theorem tw313027258313007627 : True := ⟨⟩
theorem tw3173010612589774626 : True := ⟨⟩
theorem tw3182187488490625086 : True := ⟨⟩
theorem tw3196399650302076718 : True := ⟨⟩
theorem tw3219085151875037572 : True := ⟨⟩
theorem tw3229955645248102723 : True := ⟨⟩
theorem tw3259873300814134281 : True := ⟨⟩
theorem tw3309697970292668127 : True := ⟨⟩
theorem tw3333446698644548216 : True := ⟨⟩
theorem tw3350844169311001129 : True := ⟨⟩
theorem tw3350930974749635488 : True := ⟨⟩
theorem tw3381375190539634487 : True := ⟨⟩
theorem tw3386092968808520798 : True := ⟨⟩
theorem tw3404104791013757517 : True := ⟨⟩
theorem tw3419581819265744254 : True := ⟨⟩
theorem tw3429492842335990350 : True := ⟨⟩
theorem tw3434918251397683217 : True := ⟨⟩
theorem tw3442329435671937591 : True := ⟨⟩
theorem tw3443669649825651883 : True := ⟨⟩
theorem tw3484992998616243462 : True := ⟨⟩
theorem tw3493717111155160527 : True := ⟨⟩
theorem tw3513125359445811510 : True := ⟨⟩
theorem tw3571134770919094901 : True := ⟨⟩
theorem tw3608708970678896270 : True := ⟨⟩
theorem tw3646829019195819677 : True := ⟨⟩
theorem tw3673020696563887462 : True := ⟨⟩
theorem tw3673139032963498482 : True := ⟨⟩
theorem tw368366308016060594 : True := ⟨⟩
theorem tw3694398316872202419 : True := ⟨⟩
theorem tw3704167492566942397 : True := ⟨⟩
theorem tw3722166409189360004 : True := ⟨⟩
theorem tw3789350110615891812 : True := ⟨⟩
theorem tw3795277891434052102 : True := ⟨⟩
theorem tw3816877163431070358 : True := ⟨⟩
theorem tw3828038474966422129 : True := ⟨⟩
theorem tw3876449026389394717 : True := ⟨⟩
theorem tw3878383114103592795 : True := ⟨⟩
theorem tw3913528116038191188 : True := ⟨⟩
theorem tw3920623390966001496 : True := ⟨⟩
theorem tw3940546777539579641 : True := ⟨⟩
theorem tw3941438180925939637 : True := ⟨⟩
theorem tw3953601041324332601 : True := ⟨⟩
theorem tw4014540891139286612 : True := ⟨⟩
theorem tw4015398097383911347 : True := ⟨⟩
theorem tw4021928978595405253 : True := ⟨⟩
theorem tw402640490398009360 : True := ⟨⟩
theorem tw4065347644161347641 : True := ⟨⟩
theorem tw4068527845204499245 : True := ⟨⟩
theorem tw4086058157674990017 : True := ⟨⟩
theorem tw4091639524402994376 : True := ⟨⟩
theorem tw4111692666942324129 : True := ⟨⟩
theorem tw4115565904173853331 : True := ⟨⟩
theorem tw4126306136578151734 : True := ⟨⟩
theorem tw4136554803537287180 : True := ⟨⟩
theorem tw4138081844389336918 : True := ⟨⟩
theorem tw4159134105002834734 : True := ⟨⟩
theorem tw4172343393113369950 : True := ⟨⟩
theorem tw4182648748547736412 : True := ⟨⟩
theorem tw4225703048834024713 : True := ⟨⟩
theorem tw4272726840584523970 : True := ⟨⟩
theorem tw4282304852377368616 : True := ⟨⟩
theorem tw4297731678662094536 : True := ⟨⟩
theorem tw4299596416071116603 : True := ⟨⟩
theorem tw432457690288141553 : True := ⟨⟩
theorem tw4360684699965382250 : True := ⟨⟩
theorem tw4367231431732253908 : True := ⟨⟩
theorem tw4367455430839740993 : True := ⟨⟩
theorem tw4377701919642642989 : True := ⟨⟩
theorem tw4383666589626881386 : True := ⟨⟩
theorem tw4402725079659364252 : True := ⟨⟩
theorem tw442638132926106271 : True := ⟨⟩
theorem tw4449123307109862055 : True := ⟨⟩
theorem tw4494801613693538912 : True := ⟨⟩
theorem tw4523669819894539328 : True := ⟨⟩
theorem tw461538923250603899 : True := ⟨⟩
theorem tw4642405928176397000 : True := ⟨⟩
theorem tw4643362625855044894 : True := ⟨⟩
theorem tw464777395874653626 : True := ⟨⟩
theorem tw4702841417184801058 : True := ⟨⟩
theorem tw4706079058837389440 : True := ⟨⟩
theorem tw4724112764586752083 : True := ⟨⟩
theorem tw4725055828030668675 : True := ⟨⟩
theorem tw4725425184044842548 : True := ⟨⟩
theorem tw4734902545126651661 : True := ⟨⟩
theorem tw4768578896829404305 : True := ⟨⟩
theorem tw4788038989552484473 : True := ⟨⟩
theorem tw4819202231147424091 : True := ⟨⟩
theorem tw4851647983119433812 : True := ⟨⟩
theorem tw4856431653887292112 : True := ⟨⟩
theorem tw4867443594122359892 : True := ⟨⟩
theorem tw4870687313549177768 : True := ⟨⟩
theorem tw4909607732160339639 : True := ⟨⟩
theorem tw4971549296188076032 : True := ⟨⟩
theorem tw4993660671451451078 : True := ⟨⟩
theorem tw4995605243838256819 : True := ⟨⟩
theorem tw5009564483982726761 : True := ⟨⟩
theorem tw5010264101278932077 : True := ⟨⟩
theorem tw5036846961687405229 : True := ⟨⟩
theorem tw5054737718236178183 : True := ⟨⟩
theorem tw5148922909946612681 : True := ⟨⟩
theorem tw5167245352685981253 : True := ⟨⟩
theorem tw5174551420813472067 : True := ⟨⟩
theorem tw5190246844813560578 : True := ⟨⟩
theorem tw5245234834050458271 : True := ⟨⟩
theorem tw5247051413645994129 : True := ⟨⟩
theorem tw526207354791536317 : True := ⟨⟩
theorem tw5278057926702712004 : True := ⟨⟩
theorem tw5282504435634884242 : True := ⟨⟩
theorem tw5283464899586487735 : True := ⟨⟩
theorem tw5292301768408028288 : True := ⟨⟩
theorem tw5305798400847462844 : True := ⟨⟩
theorem tw5318216170032084099 : True := ⟨⟩
theorem tw5343241284826551009 : True := ⟨⟩
theorem tw5363564295841288755 : True := ⟨⟩
theorem tw5366084841770067474 : True := ⟨⟩
theorem tw5388632664720090651 : True := ⟨⟩
theorem tw541196102884509978 : True := ⟨⟩
theorem tw5416991563250132298 : True := ⟨⟩
theorem tw5480042469492414594 : True := ⟨⟩
theorem tw5511420028821071320 : True := ⟨⟩
theorem tw5549315172176941698 : True := ⟨⟩
theorem tw5562173858411828344 : True := ⟨⟩
theorem tw5608270528595127837 : True := ⟨⟩
theorem tw561391293025646643 : True := ⟨⟩
theorem tw5629675986466331604 : True := ⟨⟩
theorem tw5635641802508607975 : True := ⟨⟩
theorem tw5657824000916062451 : True := ⟨⟩
theorem tw5697089962273658580 : True := ⟨⟩
theorem tw5715356086224469760 : True := ⟨⟩
theorem tw5715734110848049390 : True := ⟨⟩
theorem tw5732804406350252772 : True := ⟨⟩
theorem tw5781342201191254626 : True := ⟨⟩
theorem tw5859118754885311737 : True := ⟨⟩
theorem tw5873113503399164460 : True := ⟨⟩
theorem tw5899666649113621702 : True := ⟨⟩
theorem tw5902613922787404954 : True := ⟨⟩
theorem tw5927567313105069670 : True := ⟨⟩
theorem tw5976792059365374437 : True := ⟨⟩
theorem tw5978321128707920903 : True := ⟨⟩
theorem tw5983496337302601536 : True := ⟨⟩
theorem tw5987830557187376847 : True := ⟨⟩
theorem tw6014424301940151174 : True := ⟨⟩
theorem tw6031030000289801897 : True := ⟨⟩
theorem tw6038821095411175016 : True := ⟨⟩
theorem tw6060742912462422084 : True := ⟨⟩
theorem tw6079173187612997037 : True := ⟨⟩
theorem tw6123773746684550334 : True := ⟨⟩
theorem tw6136932545381038964 : True := ⟨⟩
theorem tw6140570298594658328 : True := ⟨⟩
theorem tw6164396464334811476 : True := ⟨⟩
theorem tw6184208073178115725 : True := ⟨⟩
theorem tw6184460063843016694 : True := ⟨⟩
theorem tw6186238094035137676 : True := ⟨⟩
theorem tw6196171512934965099 : True := ⟨⟩
theorem tw6264232113106981867 : True := ⟨⟩
theorem tw6276725880618359904 : True := ⟨⟩
theorem tw6291416237084387574 : True := ⟨⟩
theorem tw6305734824756694309 : True := ⟨⟩
theorem tw6308581086252854402 : True := ⟨⟩
theorem tw6352655612330318208 : True := ⟨⟩
theorem tw6394381022753523788 : True := ⟨⟩
theorem tw6407587892757256292 : True := ⟨⟩
theorem tw6411954120941647267 : True := ⟨⟩
theorem tw6421801014961999566 : True := ⟨⟩
theorem tw6423634429210846174 : True := ⟨⟩
theorem tw6438293893037913957 : True := ⟨⟩
theorem tw6449127861642672459 : True := ⟨⟩
theorem tw6469175993241445255 : True := ⟨⟩
theorem tw6482722132109649516 : True := ⟨⟩
theorem tw6545403380812914513 : True := ⟨⟩
theorem tw6547078798241139092 : True := ⟨⟩
theorem tw6555240042291301478 : True := ⟨⟩
theorem tw656455966557771466 : True := ⟨⟩
theorem tw6578402527460240241 : True := ⟨⟩
theorem tw658494146261299958 : True := ⟨⟩
theorem tw6598312636042714100 : True := ⟨⟩
theorem tw6627881031435992008 : True := ⟨⟩
theorem tw663384727985864361 : True := ⟨⟩
theorem tw6636792957720756321 : True := ⟨⟩
theorem tw667777408057656426 : True := ⟨⟩
theorem tw6683769817339685419 : True := ⟨⟩
theorem tw6755925336976613232 : True := ⟨⟩
theorem tw6759412095888398321 : True := ⟨⟩
theorem tw6761669909254768831 : True := ⟨⟩
theorem tw6767318904944593275 : True := ⟨⟩
theorem tw6777908505215106953 : True := ⟨⟩
theorem tw678209747344391502 : True := ⟨⟩
theorem tw6804821044290156842 : True := ⟨⟩
theorem tw6818987989461384207 : True := ⟨⟩
theorem tw6819123309680001836 : True := ⟨⟩
theorem tw6820862383352777685 : True := ⟨⟩
theorem tw6830512106363814048 : True := ⟨⟩
theorem tw6838551448383532254 : True := ⟨⟩
theorem tw6868836192036940282 : True := ⟨⟩
theorem tw6879831473291441079 : True := ⟨⟩
theorem tw6882427118574961969 : True := ⟨⟩
theorem tw6898005170327248138 : True := ⟨⟩
theorem tw6906073325868019850 : True := ⟨⟩
theorem tw6919301186622283592 : True := ⟨⟩
theorem tw6924109203229866365 : True := ⟨⟩
theorem tw6931407450589930559 : True := ⟨⟩
theorem tw6957150274394394060 : True := ⟨⟩
theorem tw6965799899956892507 : True := ⟨⟩
theorem tw697623264460660564 : True := ⟨⟩
theorem tw6982297934935202809 : True := ⟨⟩
theorem tw6990203504111849199 : True := ⟨⟩
theorem tw6998783941825042932 : True := ⟨⟩
theorem tw7006195865600381663 : True := ⟨⟩
theorem tw701333769924781912 : True := ⟨⟩
theorem tw701787995468756871 : True := ⟨⟩
theorem tw7023034057667863975 : True := ⟨⟩
theorem tw7023726343779634624 : True := ⟨⟩
theorem tw7028611270464810887 : True := ⟨⟩
theorem tw7031273417212677730 : True := ⟨⟩
theorem tw7068711184596962023 : True := ⟨⟩
theorem tw7076163891533521732 : True := ⟨⟩
theorem tw7080932558258925280 : True := ⟨⟩
theorem tw7085514621470718492 : True := ⟨⟩
theorem tw7120233287515763914 : True := ⟨⟩
theorem tw7152984921513172624 : True := ⟨⟩
theorem tw7153062008950511462 : True := ⟨⟩
theorem tw7174315439194531881 : True := ⟨⟩
theorem tw7191455744419660376 : True := ⟨⟩
theorem tw7230316843727836020 : True := ⟨⟩
theorem tw7261450039545342454 : True := ⟨⟩
theorem tw7270182246851987180 : True := ⟨⟩
theorem tw728884934406724761 : True := ⟨⟩
theorem tw7289634563603522867 : True := ⟨⟩
theorem tw7292484366425897655 : True := ⟨⟩
theorem tw7301562009272639496 : True := ⟨⟩
theorem tw732345407407602841 : True := ⟨⟩
theorem tw7339039647409124788 : True := ⟨⟩
theorem tw7354087734392854552 : True := ⟨⟩
theorem tw7355570028127101125 : True := ⟨⟩
theorem tw7369741819223213686 : True := ⟨⟩
theorem tw7379015992945566340 : True := ⟨⟩
theorem tw7382370116671421104 : True := ⟨⟩
theorem tw7407588458775638710 : True := ⟨⟩
theorem tw7492773218913965947 : True := ⟨⟩
theorem tw7510230149288206974 : True := ⟨⟩
theorem tw7512474625130614241 : True := ⟨⟩
theorem tw7515886511687920896 : True := ⟨⟩
theorem tw7523672394736509286 : True := ⟨⟩
theorem tw7525542149764818722 : True := ⟨⟩
theorem tw7526368328331116154 : True := ⟨⟩
theorem tw7534799579077118603 : True := ⟨⟩
theorem tw7540655947842036084 : True := ⟨⟩
theorem tw7541792107247259296 : True := ⟨⟩
theorem tw7568185435610096027 : True := ⟨⟩
theorem tw7578210074245671484 : True := ⟨⟩
theorem tw758273949599710562 : True := ⟨⟩
theorem tw7598622570094877466 : True := ⟨⟩
theorem tw7610815399733428385 : True := ⟨⟩
theorem tw7628703163842673926 : True := ⟨⟩
theorem tw7640094616464845771 : True := ⟨⟩
theorem tw7654286748164834634 : True := ⟨⟩
theorem tw7698358502638924378 : True := ⟨⟩
theorem tw7712595579559962911 : True := ⟨⟩
theorem tw7746578258024575070 : True := ⟨⟩
theorem tw7752767780024739350 : True := ⟨⟩
theorem tw7754304195085646258 : True := ⟨⟩
theorem tw7763873220885509757 : True := ⟨⟩
theorem tw7792395482447073224 : True := ⟨⟩
theorem tw7793673504863384051 : True := ⟨⟩
theorem tw78025292344231536 : True := ⟨⟩
theorem tw7854228177987924090 : True := ⟨⟩
theorem tw7880807054014371918 : True := ⟨⟩
theorem tw7891253978561527248 : True := ⟨⟩
theorem tw7914949630228597729 : True := ⟨⟩
theorem tw7927469264209771579 : True := ⟨⟩
theorem tw7941745277869089046 : True := ⟨⟩
theorem tw8025032847418708242 : True := ⟨⟩
theorem tw8044012406986999415 : True := ⟨⟩
theorem tw8047900516022102942 : True := ⟨⟩
theorem tw8068729725432388964 : True := ⟨⟩
theorem tw8081886968326746073 : True := ⟨⟩
theorem tw8112040973832200146 : True := ⟨⟩
theorem tw8117029840178788049 : True := ⟨⟩
theorem tw8134915037123179040 : True := ⟨⟩
theorem tw8184699220007379433 : True := ⟨⟩
theorem tw8191903926673212241 : True := ⟨⟩
theorem tw8226494294326810461 : True := ⟨⟩
theorem tw8228950375871286339 : True := ⟨⟩
theorem tw8242931771332617035 : True := ⟨⟩
theorem tw825126770350376351 : True := ⟨⟩
theorem tw8268277133935991078 : True := ⟨⟩
theorem tw8269573656231971908 : True := ⟨⟩
theorem tw8273930003744585626 : True := ⟨⟩
theorem tw8312999807965096350 : True := ⟨⟩
theorem tw8317466277049474617 : True := ⟨⟩
theorem tw833173182276230429 : True := ⟨⟩
theorem tw8343274005884668182 : True := ⟨⟩
theorem tw8351282476255451920 : True := ⟨⟩
theorem tw8356816923877370021 : True := ⟨⟩
theorem tw8381844023166312768 : True := ⟨⟩
theorem tw8428860471423672150 : True := ⟨⟩
theorem tw8457440626546761165 : True := ⟨⟩
theorem tw8458067239894703972 : True := ⟨⟩
theorem tw8479784124755550697 : True := ⟨⟩
theorem tw8493152586797012548 : True := ⟨⟩
theorem tw850559431314050405 : True := ⟨⟩
theorem tw8516288146210602744 : True := ⟨⟩
theorem tw8538877666451538035 : True := ⟨⟩
theorem tw8545014587354053640 : True := ⟨⟩
theorem tw8589211134812392127 : True := ⟨⟩
theorem tw8609351116199087170 : True := ⟨⟩
theorem tw8652628183442184457 : True := ⟨⟩
theorem tw8664936974563722654 : True := ⟨⟩
theorem tw8683856772340465682 : True := ⟨⟩
theorem tw8684328023851190084 : True := ⟨⟩
theorem tw8716120427605611371 : True := ⟨⟩
theorem tw8727321023445011275 : True := ⟨⟩
theorem tw8735263284916673568 : True := ⟨⟩
theorem tw876933089483189297 : True := ⟨⟩
theorem tw8770659054964912022 : True := ⟨⟩
theorem tw8773699223549846113 : True := ⟨⟩
theorem tw8789358453043137523 : True := ⟨⟩
theorem tw8801323125487838256 : True := ⟨⟩
theorem tw8879563391730754479 : True := ⟨⟩
theorem tw8934143017859847078 : True := ⟨⟩
theorem tw8959176491354863721 : True := ⟨⟩
theorem tw8960069828448710407 : True := ⟨⟩
theorem tw8965841893048198262 : True := ⟨⟩
theorem tw8977460988437922124 : True := ⟨⟩
theorem tw8990313861142287110 : True := ⟨⟩
theorem tw9014375795449043846 : True := ⟨⟩
theorem tw9073681462420916055 : True := ⟨⟩
theorem tw9077708301081682751 : True := ⟨⟩
theorem tw9087110039335098043 : True := ⟨⟩
theorem tw9132557439983319658 : True := ⟨⟩
theorem tw9153386212771759811 : True := ⟨⟩
theorem tw9155422001095189878 : True := ⟨⟩
theorem tw9170477692918782315 : True := ⟨⟩
theorem tw9184186324627900627 : True := ⟨⟩
theorem tw920214292312260371 : True := ⟨⟩
theorem tw9215827820722605749 : True := ⟨⟩
theorem tw922143313871775805 : True := ⟨⟩
theorem tw9228397985900620932 : True := ⟨⟩
theorem tw9244321171653502345 : True := ⟨⟩
theorem tw9258712216579463092 : True := ⟨⟩
theorem tw9271970288684553227 : True := ⟨⟩
theorem tw9277588360372424766 : True := ⟨⟩
theorem tw9298403506768410418 : True := ⟨⟩
theorem tw9325612240067072397 : True := ⟨⟩
theorem tw9330943631129107780 : True := ⟨⟩
theorem tw9345676750909349944 : True := ⟨⟩
theorem tw9345929723534960622 : True := ⟨⟩
theorem tw9386895884608548742 : True := ⟨⟩
theorem tw9398405308114057262 : True := ⟨⟩
theorem tw940617070666608080 : True := ⟨⟩
theorem tw9406673726873002282 : True := ⟨⟩
theorem tw9420132969298855359 : True := ⟨⟩
theorem tw9421340871869096474 : True := ⟨⟩
theorem tw9427301549700849589 : True := ⟨⟩
theorem tw9429285754427346401 : True := ⟨⟩
theorem tw9430268157657104642 : True := ⟨⟩
theorem tw9449672872311958731 : True := ⟨⟩
theorem tw9459050058782445324 : True := ⟨⟩
theorem tw9476321141362543215 : True := ⟨⟩
theorem tw9496365245306024149 : True := ⟨⟩
theorem tw9513423893830186035 : True := ⟨⟩
theorem tw9533747618267967006 : True := ⟨⟩
theorem tw9555612238305686254 : True := ⟨⟩
theorem tw9557236495431379559 : True := ⟨⟩
theorem tw9577689765879766989 : True := ⟨⟩
theorem tw960944832710211464 : True := ⟨⟩
theorem tw9617658007855726926 : True := ⟨⟩
theorem tw9627899436633539337 : True := ⟨⟩
theorem tw9657781627882305391 : True := ⟨⟩
theorem tw9673543361469618366 : True := ⟨⟩
theorem tw9702936160620672325 : True := ⟨⟩
theorem tw9719896912496429819 : True := ⟨⟩
theorem tw9748044761591592747 : True := ⟨⟩
theorem tw9753359207989701909 : True := ⟨⟩
theorem tw9763420282994701918 : True := ⟨⟩
theorem tw9783614193127449063 : True := ⟨⟩
theorem tw978945382295711627 : True := ⟨⟩
theorem tw9842699097658496709 : True := ⟨⟩
theorem tw9908193460736022307 : True := ⟨⟩
theorem tw991583007596301734 : True := ⟨⟩
theorem tw9983995961361265002 : True := ⟨⟩
theorem tw9990345226319884068 : True := ⟨⟩
theorem tw3235363868884877628 : True := ⟨⟩
theorem tw8697157984628809737 : True := ⟨⟩
end Mine.hd
set_option Elab.async true in
theorem Mine.hd : PySem.Challenge.rw_nz0205_01.Holds := by
  (w_on; o_law; k_head; (case hw => w_witness2); w_strict k_go0)
  refine Mine.tail ⟨by kernel_rfl, by kernel_rfl, by kernel_rfl, by kernel_rfl, by kernel_rfl, by kernel_rfl, by kernel_rfl, by kernel_rfl, by kernel_rfl, fun S a b c d e => by kernel_rfl,
    Mine.dk_mk ⟨by kernel_rfl, fun u S => by kernel_rfl⟩ (by kernel_rfl) (by kernel_rfl) (fun a b S => by kernel_rfl) (fun a b S => by kernel_rfl) (by kernel_rfl) (by kernel_rfl) (by kernel_rfl) (by kernel_rfl) (by kernel_rfl) (by kernel_rfl) (by kernel_rfl),
    Mine.lk_mk (by kernel_rfl) (fun v S => by kernel_rfl) (by kernel_rfl)⟩ (by assumption) (topRead_of (by assumption)) (by kernel_rfl) (by kernel_rfl) ⟨rfl, rfl, rfl, rfl, rfl⟩ rfl (by assumption) rfl (by assumption) (by omega) ?hq
  intro s' m' fr rs
  have hg : s'.gens = #[] := rs.1.trans (by assumption)
  exact goodW_bool fr hg (fun _ => by kernel_rfl) (by kernel_rfl) rs.2.1
theorem PySem.Challenge.cw_nz0205_01_holds : PySem.Challenge.rw_nz0205_01.Holds :=
  Mine.hd
end
