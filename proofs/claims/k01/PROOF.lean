import PyProof.Rows.All
import Wide.All
import OpenK.AllK
import Wide.FinOn
import HandS.ForExc
import HandS.Flow
import HandS.Wide
import HandS.IsInst
import HandS.ExcInit
import HandS.ExcField
import HandS.More
import HandS.TupLe
import HandS.Sort
import HandS.TupSets
import HandS.WordsExc
import HandS.Text
import HandS.NoneIn
import HandS.TryOnly
import HandS.Comp
import HandS.Defaults
import HandS.Head0
import HandS.Head1
import HandS.Head2
import HandS.HeadEnd
import HandS.HeadHook1
import HandS.HeadHook2
import HandS.HeadHook3
import HandS.HeadHook4
import HandS.EndBits
import PySem.Challenge.RW_joinedguests_k01_ties_made_and_refused
set_option Elab.async false
set_option linter.all false
set_option maxRecDepth 100000
set_option maxHeartbeats 4000000
/-! J: a deterministic reading of the hand layer: values as trees (tuples are values), a list of objects as heap. -/
namespace J
open PySem PySem.Spec PyProof.Rows L2

/-- values -/
inductive W where
  | non | bl (b : Bool) | int (i : Int) | str (x : Str) | tup (xs : List W) | ref (a : Nat)
  /-- a list that is read alone -/
  | cst (xs : List W)
  /-- a caught exception, at its name in a frame alone: its class, its attributes -/
  | xcp (c : Nat) (fs : List (Nat × W))
/-- objects -/
inductive O where
  | lst (xs : List W) | ins (c : Nat) (fs : List (Nat × W)) | dic (kvs : List (Key × W))
abbrev HA := List O
abbrev En := List (Option W)
inductive Res (α : Type) where
  | ok (a : α) (h : HA) | exc (c : Nat) (fs : List (Nat × W)) (h : HA) | stuck
/-- what the text fixes: the written part, the attributes' names by number, the classes' places by number -/
structure Sta where
  K : PySem.W.Frag
  nm : List Str
  ca : Nat → Addr

def Res.bind {α β : Type} (r : Res α) (k : α → HA → Res β) : Res β := match r with
  | .ok a h => k a h
  | .exc c fs h => .exc c fs h
  | .stuck => .stuck

/-- a list that is locked, or of the written part -/
def SqK (K : PySem.W.Frag) (H : Hp) (p : Addr) (ys : List V) : Prop := (∃ o, H p = some (.frz o (.lst ys))) ∨
  ∃ (o : Obj) (its : Array Value) (n : Nat), K.lookup p = some o ∧ o.cls = .type "list" ∧ o.dict = none ∧ o.data = .seq its n ∧ its.size ≤ sizeLine ∧ Vals ys its.toList
theorem SqK.sq {K : PySem.W.Frag} {H : Hp} {p : Addr} {ys : List V} (h : SqK K H p ys) : SqL K H p ys := by
  rcases h with ⟨o, h⟩ | h
  · exact .inl (.inr ⟨o, h⟩)
  · exact .inr h

mutual
inductive RV (S : Sta) (rho : List Addr) (H : Hp) : W → V → Prop
  | non : RV S rho H .non .non
  | bl (b : Bool) : RV S rho H (.bl b) (.bl b)
  | int (i : Int) : RV S rho H (.int i) (.int i)
  | str (x : Str) : RV S rho H (.str x) (.str x)
  | tup {p : Addr} {xs : List W} {ys : List V} : SqT S.K H p ys → RVs S rho H xs ys → RV S rho H (.tup xs) (.ref p)
  | ref {i : Nat} {p : Addr} : rho[i]? = some p → RV S rho H (.ref i) (.ref p)
  | cst {p : Addr} {xs : List W} {ys : List V} : SqK S.K H p ys → RVs S rho H xs ys → RV S rho H (.cst xs) (.ref p)
inductive RVs (S : Sta) (rho : List Addr) (H : Hp) : List W → List V → Prop
  | nil : RVs S rho H [] []
  | cons {x : W} {xs : List W} {v : V} {vs : List V} : RV S rho H x v → RVs S rho H xs vs → RVs S rho H (x :: xs) (v :: vs)
end

inductive RF (S : Sta) (rho : List Addr) (H : Hp) : List (Nat × W) → List (Str × V) → Prop
  | nil : RF S rho H [] []
  | cons {i : Nat} {x : Str} {w : W} {v : V} {fs : List (Nat × W)} {gs : List (Str × V)} : S.nm[i]? = some x → RV S rho H w v → RF S rho H fs gs → RF S rho H ((i, w) :: fs) ((x, v) :: gs)
inductive RD (S : Sta) (rho : List Addr) (H : Hp) : List (Key × W) → List (Key × V) → Prop
  | nil : RD S rho H [] []
  | cons {k : Key} {w : W} {v : V} {fs : List (Key × W)} {gs : List (Key × V)} : RV S rho H w v → RD S rho H fs gs → RD S rho H ((k, w) :: fs) ((k, v) :: gs)

inductive RO (S : Sta) (rho : List Addr) (H : Hp) (p : Addr) : O → Prop
  | lst {xs : List W} {ys : List V} : H p = some (.lst ys) → RVs S rho H xs ys → RO S rho H p (.lst xs)
  | ins {c : Nat} {dx : Addr} {fs : List (Nat × W)} {gs : List (Str × V)} : H p = some (.ins (S.ca c) dx gs) → RF S rho H fs gs → RO S rho H p (.ins c fs)
  | dic {fs : List (Key × W)} {gs : List (Key × V)} : H p = some (.dK gs) → RD S rho H fs gs → RO S rho H p (.dic fs)

structure Rl (S : Sta) (rho : List Addr) (h : HA) (H : Hp) : Prop where
  len : rho.length = h.length
  nd : rho.Nodup
  obj : ∀ (i : Nat) (o : O) (p : Addr), h[i]? = some o → rho[i]? = some p → RO S rho H p o

structure Ev (S : Sta) (rho : List Addr) (H : Hp) (rho' : List Addr) (H' : Hp) : Prop where
  pre : ∃ t, rho' = rho ++ t
  out : ∀ b o, H b = some o → b ∉ rho → H' b = some o
  fresh : ∀ b, b ∈ rho' → b ∈ rho ∨ H b = none
  tup : ∀ p ys, SqT S.K H p ys → SqT S.K H' p ys
  cst : ∀ p ys, SqK S.K H p ys → SqK S.K H' p ys

section
variable {S : Sta} {rho rho' rho2 : List Addr} {H H' H2 : Hp}
theorem Ev.rfl' : Ev S rho H rho H := ⟨⟨[], by simp⟩, fun _ _ e _ => e, fun _ h => .inl h, fun _ _ e => e, fun _ _ e => e⟩
theorem Ev.at {i : Nat} {p : Addr} (e : Ev S rho H rho' H') (h : rho[i]? = some p) : rho'[i]? = some p := by
  obtain ⟨t, rfl⟩ := e.pre
  obtain ⟨hi, _⟩ := List.getElem?_eq_some_iff.mp h
  rw [List.getElem?_append_left hi]; exact h
theorem Ev.mem {p : Addr} (e : Ev S rho H rho' H') (h : p ∈ rho) : p ∈ rho' := by
  obtain ⟨t, rfl⟩ := e.pre
  exact List.mem_append_left _ h
theorem Ev.trans (a : Ev S rho H rho' H') (b : Ev S rho' H' rho2 H2) : Ev S rho H rho2 H2 := by
  refine ⟨?_, fun c o e n => ?_, fun c hc => ?_, fun p ys e => b.tup p ys (a.tup p ys e), fun p ys e => b.cst p ys (a.cst p ys e)⟩
  · obtain ⟨t, e1⟩ := a.pre
    obtain ⟨u, e2⟩ := b.pre
    exact ⟨t ++ u, by rw [e2, e1, List.append_assoc]⟩
  · refine b.out c o (a.out c o e n) fun hc => ?_
    rcases a.fresh c hc with q | q
    · exact n q
    · rw [e] at q; cases q
  · by_cases hr : c ∈ rho
    · exact .inl hr
    · refine .inr ?_
      rcases b.fresh c hc with q | q
      · rcases a.fresh c q with z | z
        · exact absurd z hr
        · exact z
      · cases e : H c with
        | none => rfl
        | some o => rw [a.out c o e hr] at q; cases q
/-- what the values lean on: the numbers, the tuples -/
structure Tv (S : Sta) (rho : List Addr) (H : Hp) (rho' : List Addr) (H' : Hp) : Prop where
  at_ : ∀ (i : Nat) (p : Addr), rho[i]? = some p → rho'[i]? = some p
  tup : ∀ p ys, SqT S.K H p ys → SqT S.K H' p ys
  cst : ∀ p ys, SqK S.K H p ys → SqK S.K H' p ys
theorem Ev.tv (e : Ev S rho H rho' H') : Tv S rho H rho' H' := ⟨fun _ _ h => e.at h, e.tup, e.cst⟩
mutual
theorem RV.monoT (e : Tv S rho H rho' H') : ∀ {w : W} {v : V}, RV S rho H w v → RV S rho' H' w v
  | _, _, .non => .non
  | _, _, .bl b => .bl b
  | _, _, .int i => .int i
  | _, _, .str x => .str x
  | _, _, .tup h r => .tup (e.tup _ _ h) (RVs.monoT e r)
  | _, _, .ref h => .ref (e.at_ _ _ h)
  | _, _, .cst h r => .cst (e.cst _ _ h) (RVs.monoT e r)
theorem RVs.monoT (e : Tv S rho H rho' H') : ∀ {ws : List W} {vs : List V}, RVs S rho H ws vs → RVs S rho' H' ws vs
  | _, _, .nil => .nil
  | _, _, .cons r t => .cons (RV.monoT e r) (RVs.monoT e t)
end
theorem RF.monoT (e : Tv S rho H rho' H') : ∀ {ws : List (Nat × W)} {vs : List (Str × V)}, RF S rho H ws vs → RF S rho' H' ws vs
  | _, _, .nil => .nil
  | _, _, .cons n r t => .cons n (r.monoT e) (RF.monoT e t)
theorem RD.monoT (e : Tv S rho H rho' H') : ∀ {ws : List (Key × W)} {vs : List (Key × V)}, RD S rho H ws vs → RD S rho' H' ws vs
  | _, _, .nil => .nil
  | _, _, .cons r t => .cons (r.monoT e) (RD.monoT e t)
theorem RV.mono {w : W} {v : V} (e : Ev S rho H rho' H') (r : RV S rho H w v) : RV S rho' H' w v := r.monoT e.tv
theorem RVs.mono {w : List W} {v : List V} (e : Ev S rho H rho' H') (r : RVs S rho H w v) : RVs S rho' H' w v := r.monoT e.tv
theorem RF.mono {w : List (Nat × W)} {v : List (Str × V)} (e : Ev S rho H rho' H') (r : RF S rho H w v) : RF S rho' H' w v := r.monoT e.tv
theorem RD.mono {w : List (Key × W)} {v : List (Key × V)} (e : Ev S rho H rho' H') (r : RD S rho H w v) : RD S rho' H' w v := r.monoT e.tv
theorem RVs.length : ∀ {ws : List W} {vs : List V}, RVs S rho H ws vs → ws.length = vs.length
  | _, _, .nil => rfl
  | _, _, .cons _ t => by rw [List.length_cons, List.length_cons, RVs.length t]
theorem RVs.get : ∀ {ws : List W} {vs : List V} {i : Nat} {w : W}, RVs S rho H ws vs → ws[i]? = some w → ∃ v, vs[i]? = some v ∧ RV S rho H w v
  | _, _, _, _, .nil, e => by simp at e
  | _, _, 0, _, .cons r _, e => by simp at e; subst e; exact ⟨_, rfl, r⟩
  | _, _, i + 1, x, .cons _ t, e => by
    obtain ⟨u, h1, h2⟩ := RVs.get (i := i) (w := x) t (by simpa using e)
    exact ⟨u, by simpa using h1, h2⟩
theorem RVs.get' : ∀ {ws : List W} {vs : List V} {i : Nat} {v : V}, RVs S rho H ws vs → vs[i]? = some v → ∃ w, ws[i]? = some w ∧ RV S rho H w v
  | _, _, _, _, .nil, e => by simp at e
  | _, _, 0, _, .cons r _, e => by simp at e; subst e; exact ⟨_, rfl, r⟩
  | _, _, i + 1, x, .cons _ t, e => by
    obtain ⟨u, h1, h2⟩ := RVs.get' (i := i) (v := x) t (by simpa using e)
    exact ⟨u, by simpa using h1, h2⟩
theorem RVs.append : ∀ {ws us : List W} {vs zs : List V}, RVs S rho H ws vs → RVs S rho H us zs → RVs S rho H (ws ++ us) (vs ++ zs)
  | _, _, _, _, .nil, s => s
  | _, _, _, _, .cons r t, s => .cons r (RVs.append t s)
theorem RVs.set {w : W} {v : V} (r : RV S rho H w v) : ∀ {ws : List W} {vs : List V} (i : Nat), RVs S rho H ws vs → RVs S rho H (ws.set i w) (vs.set i v)
  | _, _, _, .nil => .nil
  | _, _, 0, .cons _ t => .cons r t
  | _, _, i + 1, .cons q t => .cons q (RVs.set r i t)
theorem RVs.take : ∀ {ws : List W} {vs : List V} (n : Nat), RVs S rho H ws vs → RVs S rho H (ws.take n) (vs.take n)
  | _, _, 0, _ => .nil
  | _, _, _ + 1, .nil => .nil
  | _, _, n + 1, .cons r t => .cons r (RVs.take n t)
theorem RVs.drop : ∀ {ws : List W} {vs : List V} (n : Nat), RVs S rho H ws vs → RVs S rho H (ws.drop n) (vs.drop n)
  | _, _, 0, r => r
  | _, _, _ + 1, .nil => .nil
  | _, _, n + 1, .cons _ t => RVs.drop n t
theorem RVs.eraseIdx : ∀ {ws : List W} {vs : List V} (n : Nat), RVs S rho H ws vs → RVs S rho H (ws.eraseIdx n) (vs.eraseIdx n)
  | _, _, _, .nil => .nil
  | _, _, 0, .cons _ t => t
  | _, _, n + 1, .cons r t => .cons r (RVs.eraseIdx n t)
theorem RVs.dropLast : ∀ {ws : List W} {vs : List V}, RVs S rho H ws vs → RVs S rho H ws.dropLast vs.dropLast
  | _, _, .nil => .nil
  | _, _, .cons _ .nil => .nil
  | _, _, .cons r (.cons q t) => by
    rw [List.dropLast_cons_cons, List.dropLast_cons_cons]
    exact .cons r (RVs.dropLast (.cons q t))

theorem Rl.get {h : HA} (r : Rl S rho h H) {i : Nat} {o : O} (e : h[i]? = some o) : ∃ p, rho[i]? = some p ∧ RO S rho H p o := by
  obtain ⟨hi, _⟩ := List.getElem?_eq_some_iff.mp e
  have hj : i < rho.length := by rw [r.len]; exact hi
  exact ⟨rho[i], List.getElem?_eq_getElem hj, r.obj i o _ e (List.getElem?_eq_getElem hj)⟩
theorem RO.some {p : Addr} {o : O} (r : RO S rho H p o) : ∃ u, H p = some u := by
  cases r with
  | lst e _ => exact ⟨_, e⟩
  | ins e _ => exact ⟨_, e⟩
  | dic e _ => exact ⟨_, e⟩
theorem Rl.lt {h : HA} (r : Rl S rho h H) {i : Nat} {p : Addr} (e : rho[i]? = some p) : ∃ o, h[i]? = some o ∧ RO S rho H p o := by
  obtain ⟨hi, _⟩ := List.getElem?_eq_some_iff.mp e
  have hj : i < h.length := by rw [← r.len]; exact hi
  exact ⟨h[i], List.getElem?_eq_getElem hj, r.obj i _ p (List.getElem?_eq_getElem hj) e⟩
theorem Rl.there {h : HA} (r : Rl S rho h H) {p : Addr} (hp : p ∈ rho) : ∃ u, H p = some u := by
  obtain ⟨i, e⟩ := List.getElem?_of_mem hp
  obtain ⟨o, _, q⟩ := r.lt e
  exact q.some
/-- the numbered objects are no tuples -/
theorem Rl.notup {h : HA} (r : Rl S rho h H) {p : Addr} (hp : p ∈ rho) : ∀ ys, ¬ Rd H p (.tup ys) := by
  obtain ⟨i, e⟩ := List.getElem?_of_mem hp
  obtain ⟨o, _, q⟩ := r.lt e
  rintro ys (z | ⟨ob, z⟩)
  · cases q with
    | lst e _ => rw [e] at z; cases z
    | ins e _ => rw [e] at z; cases z
    | dic e _ => rw [e] at z; cases z
  · cases q with
    | lst e _ => rw [e] at z; cases z
    | ins e _ => rw [e] at z; cases z
    | dic e _ => rw [e] at z; cases z
theorem Rl.nofrz {h : HA} (r : Rl S rho h H) {p : Addr} (hp : p ∈ rho) : ∀ o u, H p ≠ some (.frz o u) := by
  obtain ⟨i, e⟩ := List.getElem?_of_mem hp
  obtain ⟨o, _, q⟩ := r.lt e
  intro ob u z
  cases q with
  | lst e _ => rw [e] at z; cases z
  | ins e _ => rw [e] at z; cases z
  | dic e _ => rw [e] at z; cases z
theorem Rl.fresh {h : HA} (r : Rl S rho h H) {p : Addr} (n : H p = none) : p ∉ rho := fun hp => by
  obtain ⟨u, e⟩ := r.there hp
  rw [n] at e; cases e

/-- the same numbered objects, over a heap that keeps all -/
theorem RO.keepT {p : Addr} {o : O} (e : Tv S rho H rho' H') (hp : H' p = H p) (r : RO S rho H p o) : RO S rho' H' p o := by
  cases r with
  | lst e1 r => exact .lst (hp.trans e1) (r.monoT e)
  | ins e1 r => exact .ins (hp.trans e1) (r.monoT e)
  | dic e1 r => exact .dic (hp.trans e1) (r.monoT e)
theorem RO.keep {p : Addr} {o : O} (e : Ev S rho H rho' H') (hp : H' p = H p) (r : RO S rho H p o) : RO S rho' H' p o := r.keepT e.tv hp
theorem SqT.upd' {K : PySem.W.Frag} {p q : Addr} {o : HO} {ys : List V} (n : ∀ ys, ¬ Rd H p (.tup ys)) (h : SqT K H q ys) : SqT K (upd H p o) q ys := by
  rcases h with h | h
  · have hq : q ≠ p := fun z => by subst z; exact n _ h
    refine .inl ?_
    rcases h with h | ⟨ob, h⟩
    · exact .inl (by rw [upd_ne hq]; exact h)
    · exact .inr ⟨ob, by rw [upd_ne hq]; exact h⟩
  · exact .inr h
/-- what stands at p is neither a tuple nor locked -/
def Free (H : Hp) (p : Addr) : Prop := (∀ ys, ¬ Rd H p (.tup ys)) ∧ ∀ o u, H p ≠ some (.frz o u)
theorem SqK.upd' {K : PySem.W.Frag} {p q : Addr} {o : HO} {ys : List V} (n : ∀ o u, H p ≠ some (.frz o u)) (h : SqK K H q ys) : SqK K (upd H p o) q ys := by
  rcases h with ⟨ob, h⟩ | h
  · have hq : q ≠ p := fun z => by subst z; exact n _ _ h
    exact .inl ⟨ob, by rw [upd_ne hq]; exact h⟩
  · exact .inr h
theorem nofz {p : Addr} (n : H p = none) : ∀ o u, H p ≠ some (.frz o u) := fun o u z => by rw [n] at z; cases z
theorem norep {p : Addr} (n : H p = none) : ∀ ys, ¬ Rd H p (.tup ys) := by
  rintro ys (z | ⟨ob, z⟩) <;> (rw [n] at z; cases z)

/-- something new that is not numbered is laid -/
theorem Ev.lay {p : Addr} {o : HO} (n : H p = none) : Ev S rho H rho (upd H p o) :=
  ⟨⟨[], by simp⟩, fun b u e _ => by rw [upd_ne (ne_of_none e n)]; exact e, fun _ h => .inl h, fun q ys e => SqT.upd' (norep n) e, fun q ys e => SqK.upd' (nofz n) e⟩
theorem Rl.lay {h : HA} {p : Addr} {o : HO} (r : Rl S rho h H) (n : H p = none) : Rl S rho h (upd H p o) :=
  ⟨r.len, r.nd, fun i ob q e1 e2 => by
    have hq : q ≠ p := fun z => by subst z; exact r.fresh n (List.mem_of_getElem? e2)
    exact (r.obj i ob q e1 e2).keep (Ev.lay n) (upd_ne hq)⟩
/-- something that is not numbered is changed, seen from a heap ahead of it -/
theorem Ev.side {p : Addr} {o : HO} (e : Ev S rho H rho' H') (n : H p = none) (nt : Free H' p) : Ev S rho H rho' (upd H' p o) :=
  ⟨e.pre, fun b u eb nb => by rw [upd_ne (ne_of_none eb n)]; exact e.out b u eb nb, e.fresh, fun q ys h => SqT.upd' nt.1 (e.tup q ys h), fun q ys h => SqK.upd' nt.2 (e.cst q ys h)⟩
theorem Tv.side {p : Addr} {o : HO} (nt : Free H p) : Tv S rho H rho (upd H p o) := ⟨fun _ _ h => h, fun q ys h => SqT.upd' nt.1 h, fun q ys h => SqK.upd' nt.2 h⟩
theorem Rl.side {h : HA} {p : Addr} {o : HO} (r : Rl S rho h H) (n : p ∉ rho) (nt : Free H p) : Rl S rho h (upd H p o) :=
  ⟨r.len, r.nd, fun i ob q e1 e2 => by
    have hq : q ≠ p := fun z => by subst z; exact n (List.mem_of_getElem? e2)
    exact (r.obj i ob q e1 e2).keepT (Tv.side nt) (upd_ne hq)⟩
/-- something that stands is numbered from here on -/
theorem Ev.add {p : Addr} (e : Ev S rho H rho' H') (n : H p = none) : Ev S rho H (rho' ++ [p]) H' := by
  obtain ⟨t, rfl⟩ := e.pre
  refine ⟨⟨t ++ [p], by simp⟩, e.out, fun b hb => ?_, e.tup, e.cst⟩
  rcases List.mem_append.mp hb with z | z
  · exact e.fresh b z
  · simp at z; subst z; exact .inr n
theorem Tv.add {p : Addr} : Tv S rho H (rho ++ [p]) H := ⟨fun i q h => by
  obtain ⟨hi, _⟩ := List.getElem?_eq_some_iff.mp h
  rw [List.getElem?_append_left hi]; exact h, fun _ _ h => h, fun _ _ h => h⟩
theorem Rl.add {h : HA} {p : Addr} {o : O} (r : Rl S rho h H) (n : p ∉ rho) (ho : RO S (rho ++ [p]) H p o) : Rl S (rho ++ [p]) (h ++ [o]) H := by
  refine ⟨by simp [r.len], ?_, fun i ob q e1 e2 => ?_⟩
  · rw [List.nodup_append]
    refine ⟨r.nd, by simp, fun a ha b hb => ?_⟩
    simp at hb; subst hb
    intro z; subst z; exact n ha
  · by_cases hi : i < h.length
    · rw [List.getElem?_append_left hi] at e1
      rw [List.getElem?_append_left (by rw [r.len]; exact hi)] at e2
      exact (r.obj i ob q e1 e2).keepT Tv.add rfl
    · have hi' : i = h.length := by
        obtain ⟨z, _⟩ := List.getElem?_eq_some_iff.mp e1
        simp at z; omega
      subst hi'
      rw [List.getElem?_append_right (Nat.le_refl _)] at e1
      rw [← r.len, List.getElem?_append_right (Nat.le_refl _)] at e2
      simp at e1 e2
      subst e1 e2
      exact ho
/-- a new object, numbered -/
theorem Ev.new {h : HA} {p : Addr} {u : HO} (r : Rl S rho h H) (n : H p = none) : Ev S rho H (rho ++ [p]) (upd H p u) :=
  ⟨⟨[p], rfl⟩, fun b o e _ => by rw [upd_ne (ne_of_none e n)]; exact e, fun b hb => by
    rcases List.mem_append.mp hb with z | z
    · exact .inl z
    · simp at z; subst z; exact .inr n, fun q ys e => SqT.upd' (norep n) e, fun q ys e => SqK.upd' (nofz n) e⟩
theorem Rl.new {h : HA} {p : Addr} {u : HO} {o : O} (r : Rl S rho h H) (n : H p = none) (ho : RO S (rho ++ [p]) (upd H p u) p o) : Rl S (rho ++ [p]) (h ++ [o]) (upd H p u) := by
  have hf := r.fresh n
  refine ⟨by simp [r.len], ?_, fun i ob q e1 e2 => ?_⟩
  · rw [List.nodup_append]
    refine ⟨r.nd, by simp, fun a ha b hb => ?_⟩
    simp at hb; subst hb
    intro z; subst z; exact hf ha
  · by_cases hi : i < h.length
    · rw [List.getElem?_append_left hi] at e1
      rw [List.getElem?_append_left (by rw [r.len]; exact hi)] at e2
      have hq : q ≠ p := fun z => by subst z; exact hf (List.mem_of_getElem? e2)
      exact (r.obj i ob q e1 e2).keep (Ev.new r n) (upd_ne hq)
    · have hi' : i = h.length := by
        obtain ⟨z, _⟩ := List.getElem?_eq_some_iff.mp e1
        simp at z; omega
      subst hi'
      rw [List.getElem?_append_right (Nat.le_refl _)] at e1
      rw [← r.len, List.getElem?_append_right (Nat.le_refl _)] at e2
      simp at e1 e2
      subst e1 e2
      exact ho
theorem last_new {h : HA} {p : Addr} (r : Rl S rho h H) : (rho ++ [p])[h.length]? = some p := by
  rw [← r.len, List.getElem?_append_right (Nat.le_refl _)]; simp
/-- a numbered object is changed -/
theorem Ev.put {h : HA} {i : Nat} {p : Addr} {u : HO} (r : Rl S rho h H) (e : rho[i]? = some p) : Ev S rho H rho (upd H p u) :=
  ⟨⟨[], by simp⟩, fun b o eb nb => by
    rw [upd_ne (fun z => nb (by rw [z]; exact List.mem_of_getElem? e))]; exact eb, fun _ h => .inl h,
    fun q ys hq => SqT.upd' (r.notup (List.mem_of_getElem? e)) hq, fun q ys hq => SqK.upd' (r.nofrz (List.mem_of_getElem? e)) hq⟩
theorem Rl.put {h : HA} {i : Nat} {p : Addr} {u : HO} {o : O} (r : Rl S rho h H) (e : rho[i]? = some p) (ho : RO S rho (upd H p u) p o) : Rl S rho (h.set i o) (upd H p u) := by
  refine ⟨by simp [r.len], r.nd, fun j ob q e1 e2 => ?_⟩
  by_cases hj : i = j
  · subst hj
    rw [e] at e2; cases e2
    obtain ⟨hi, _⟩ := List.getElem?_eq_some_iff.mp e
    rw [List.getElem?_set_self (by rw [← r.len]; exact hi)] at e1
    cases e1
    exact ho
  · rw [List.getElem?_set_ne hj] at e1
    have hq : q ≠ p := fun z => by
      subst z
      obtain ⟨h1, g1⟩ := List.getElem?_eq_some_iff.mp e
      obtain ⟨h2, g2⟩ := List.getElem?_eq_some_iff.mp e2
      exact hj ((List.getElem_inj r.nd).mp (g1.trans g2.symm))
    exact (r.obj j ob q e1 e2).keep (Ev.put r e) (upd_ne hq)
end

/-! ### the wishes -/
/-- an exception's own dict -/
def RX (S : Sta) (rho : List Addr) (H : Hp) (d : Option Addr) (fs : List (Nat × W)) : Prop :=
  (d = none ∧ fs = []) ∨ ∃ dd gs, d = some dd ∧ dd ∉ rho ∧ H dd = some (.xd gs) ∧ RF S rho H fs gs
/-- what is wished of an exception; the caught one that is at hand: its address, its class, its dict -/
structure Wi where
  wx : WX
  cur : Option (Addr × Nat × Addr)
section
variable (S : Sta)
def GX (Wx : Wi) (sg : L2.St) (rho : List Addr) (H : Hp) (c : Nat) (fs : List (Nat × W)) (h' : HA) : Prop :=
  ∀ rho' H' d, Ev S rho H rho' H' → Rl S rho' h' H' → RX S rho' H' d fs → Wx.wx (.ref (S.ca c)) d sg H'
def GE (Wx : Wi) (sg : L2.St) (rho : List Addr) (H : Hp) (Q : VK) : Res W → Prop
  | .ok w h' => ∀ rho' H' v, Ev S rho H rho' H' → Rl S rho' h' H' → RV S rho' H' w v → Q v H'
  | .exc c fs h' => GX S Wx sg rho H c fs h'
  | .stuck => False
def GB (Wx : Wi) (sg : L2.St) (rho : List Addr) (H : Hp) (Q : Bool → Hp → Prop) : Res Bool → Prop
  | .ok b h' => ∀ rho' H', Ev S rho H rho' H' → Rl S rho' h' H' → Q b H'
  | .exc c fs h' => GX S Wx sg rho H c fs h'
  | .stuck => False
def GA (Wx : Wi) (sg : L2.St) (rho : List Addr) (H : Hp) (Q : List V → Hp → Prop) : Res (List W) → Prop
  | .ok ws h' => ∀ rho' H' vs, Ev S rho H rho' H' → Rl S rho' h' H' → RVs S rho' H' ws vs → Q vs H'
  | .exc c fs h' => GX S Wx sg rho H c fs h'
  | .stuck => False
/-- the frame's values -/
def RS1 (Wx : Wi) (rho : List Addr) (H : Hp) (w : W) (v : V) : Prop := RV S rho H w v ∨ ∃ c fs a dd gs, w = .xcp c fs ∧ v = .ref a ∧ Wx.cur = some (a, c, dd) ∧ dd ∉ rho ∧ H dd = some (.xd gs) ∧ RF S rho H fs gs
structure RS (Wx : Wi) (rho : List Addr) (H : Hp) (ta : En) (sg : L2.St) : Prop where
  len : ta.length = sg.length
  at_ : ∀ (i : Nat) (w : W), ta[i]? = some (some w) → ∃ v, sg[i]? = some (some v) ∧ RS1 S Wx rho H w v
abbrev Ex := En → HA → Res W
abbrev Tx := En → HA → Res Bool
abbrev Ax := En → HA → Res (List W)
def tE (Wx : Wi) (m : Ex) : TE := fun sg H Q => ∃ rho h ta, Rl S rho h H ∧ RS S Wx rho H ta sg ∧ GE S Wx sg rho H Q (m ta h)
def tT (Wx : Wi) (m : Tx) : TT := fun sg H Q => ∃ rho h ta, Rl S rho h H ∧ RS S Wx rho H ta sg ∧ GB S Wx sg rho H Q (m ta h)
def tA (Wx : Wi) (m : Ax) : TA := fun sg H Q => ∃ rho h ta, Rl S rho h H ∧ RS S Wx rho H ta sg ∧ GA S Wx sg rho H Q (m ta h)
def DE (X : Cx) (Wx : Wi) (e : Expr) (m : Ex) : Prop := PE X e (tE S Wx m)
def DT (X : Cx) (Wx : Wi) (e : Expr) (m : Tx) : Prop := PT X e (tT S Wx m)
def DA (X : Cx) (Wx : Wi) (es : List Expr) (m : Ax) : Prop := PA X es (tA S Wx m)
end

section
variable {S : Sta} {Wx : Wi} {sg : L2.St} {rho rho' : List Addr} {H H' : Hp}
theorem GX.mono {c : Nat} {fs : List (Nat × W)} {h' : HA} (e : Ev S rho H rho' H') (g : GX S Wx sg rho H c fs h') : GX S Wx sg rho' H' c fs h' :=
  fun r2 H2 d e2 l x => g r2 H2 d (e.trans e2) l x
theorem GE.mono {Q : VK} {r : Res W} (e : Ev S rho H rho' H') (g : GE S Wx sg rho H Q r) : GE S Wx sg rho' H' Q r := by
  cases r with
  | ok w h' => exact fun r2 H2 v e2 l rv => g r2 H2 v (e.trans e2) l rv
  | exc c fs h' => exact GX.mono e g
  | stuck => exact g
theorem GB.mono {Q : Bool → Hp → Prop} {r : Res Bool} (e : Ev S rho H rho' H') (g : GB S Wx sg rho H Q r) : GB S Wx sg rho' H' Q r := by
  cases r with
  | ok w h' => exact fun r2 H2 e2 l => g r2 H2 (e.trans e2) l
  | exc c fs h' => exact GX.mono e g
  | stuck => exact g
theorem GA.mono {Q : List V → Hp → Prop} {r : Res (List W)} (e : Ev S rho H rho' H') (g : GA S Wx sg rho H Q r) : GA S Wx sg rho' H' Q r := by
  cases r with
  | ok w h' => exact fun r2 H2 v e2 l rv => g r2 H2 v (e.trans e2) l rv
  | exc c fs h' => exact GX.mono e g
  | stuck => exact g
theorem RS.mono {ta : En} (e : Ev S rho H rho' H') (r : RS S Wx rho H ta sg) : RS S Wx rho' H' ta sg :=
  ⟨r.len, fun i w h => by
    obtain ⟨v, a, b⟩ := r.at_ i w h
    refine ⟨v, a, ?_⟩
    rcases b with b | ⟨c, fs, ad, dd, gs, e1, e2, e3, e4, e5, e6⟩
    · exact .inl (b.mono e)
    · refine .inr ⟨c, fs, ad, dd, gs, e1, e2, e3, fun z => ?_, e.out _ _ e5 e4, e6.mono e⟩
      rcases e.fresh _ z with z | z
      · exact e4 z
      · rw [e5] at z; cases z⟩
theorem RS.set {ta : En} {i : Nat} {w : W} {v : V} (r : RS S Wx rho H ta sg) (x : RV S rho H w v) : RS S Wx rho H (ta.set i (some w)) (sg.set i (some v)) := by
  refine ⟨by simp [r.len], fun j u h => ?_⟩
  by_cases hj : i = j
  · subst hj
    by_cases hl : i < ta.length
    · rw [List.getElem?_set_self hl] at h
      cases h
      exact ⟨v, List.getElem?_set_self (by rw [← r.len]; exact hl), .inl x⟩
    · rw [List.getElem?_eq_none (by simpa using hl)] at h; cases h
  · rw [List.getElem?_set_ne hj] at h
    rw [List.getElem?_set_ne hj]
    exact r.at_ j u h
theorem RS.drop {ta : En} {i : Nat} {z : Option V} (r : RS S Wx rho H ta sg) : RS S Wx rho H (ta.set i none) (sg.set i z) := by
  refine ⟨by simp [r.len], fun j u h => ?_⟩
  by_cases hj : i = j
  · subst hj
    by_cases hl : i < ta.length
    · rw [List.getElem?_set_self hl] at h; cases h
    · rw [List.getElem?_eq_none (by simpa using hl)] at h; cases h
  · rw [List.getElem?_set_ne hj] at h
    rw [List.getElem?_set_ne hj]
    exact r.at_ j u h

/-- one after another: from the whole's wish to the first part's -/
theorem GE.of_bind {Q Q1 : VK} {r : Res W} {k : W → HA → Res W} (g : GE S Wx sg rho H Q (r.bind k))
    (f : ∀ rho1 H1 v1 w1 h1, Ev S rho H rho1 H1 → Rl S rho1 h1 H1 → RV S rho1 H1 w1 v1 → GE S Wx sg rho1 H1 Q (k w1 h1) → Q1 v1 H1) : GE S Wx sg rho H Q1 r := by
  cases r with
  | ok w h' => exact fun r2 H2 v e l rv => f r2 H2 v w h' e l rv (GE.mono e g)
  | exc c fs h' => exact g
  | stuck => exact g
theorem GB.of_bind {Q : Bool → Hp → Prop} {Q1 : VK} {r : Res W} {k : W → HA → Res Bool} (g : GB S Wx sg rho H Q (r.bind k))
    (f : ∀ rho1 H1 v1 w1 h1, Ev S rho H rho1 H1 → Rl S rho1 h1 H1 → RV S rho1 H1 w1 v1 → GB S Wx sg rho1 H1 Q (k w1 h1) → Q1 v1 H1) : GE S Wx sg rho H Q1 r := by
  cases r with
  | ok w h' => exact fun r2 H2 v e l rv => f r2 H2 v w h' e l rv (GB.mono e g)
  | exc c fs h' => exact g
  | stuck => exact g
theorem GA.of_bind {Q : List V → Hp → Prop} {Q1 : VK} {r : Res W} {k : W → HA → Res (List W)} (g : GA S Wx sg rho H Q (r.bind k))
    (f : ∀ rho1 H1 v1 w1 h1, Ev S rho H rho1 H1 → Rl S rho1 h1 H1 → RV S rho1 H1 w1 v1 → GA S Wx sg rho1 H1 Q (k w1 h1) → Q1 v1 H1) : GE S Wx sg rho H Q1 r := by
  cases r with
  | ok w h' => exact fun r2 H2 v e l rv => f r2 H2 v w h' e l rv (GA.mono e g)
  | exc c fs h' => exact g
  | stuck => exact g
theorem GA.of_bindE {Q : VK} {Q1 : List V → Hp → Prop} {r : Res (List W)} {k : List W → HA → Res W} (g : GE S Wx sg rho H Q (r.bind k))
    (f : ∀ rho1 H1 v1 w1 h1, Ev S rho H rho1 H1 → Rl S rho1 h1 H1 → RVs S rho1 H1 w1 v1 → GE S Wx sg rho1 H1 Q (k w1 h1) → Q1 v1 H1) : GA S Wx sg rho H Q1 r := by
  cases r with
  | ok w h' => exact fun r2 H2 v e l rv => f r2 H2 v w h' e l rv (GE.mono e g)
  | exc c fs h' => exact g
  | stuck => exact g
theorem GB.of_bindB {Q Q1 : Bool → Hp → Prop} {r : Res Bool} {k : Bool → HA → Res Bool} (g : GB S Wx sg rho H Q (r.bind k))
    (f : ∀ rho1 H1 w1 h1, Ev S rho H rho1 H1 → Rl S rho1 h1 H1 → GB S Wx sg rho1 H1 Q (k w1 h1) → Q1 w1 H1) : GB S Wx sg rho H Q1 r := by
  cases r with
  | ok w h' => exact fun r2 H2 e l => f r2 H2 w h' e l (GB.mono e g)
  | exc c fs h' => exact g
  | stuck => exact g
theorem GB.of_bindE {Q : VK} {Q1 : Bool → Hp → Prop} {r : Res Bool} {k : Bool → HA → Res W} (g : GE S Wx sg rho H Q (r.bind k))
    (f : ∀ rho1 H1 w1 h1, Ev S rho H rho1 H1 → Rl S rho1 h1 H1 → GE S Wx sg rho1 H1 Q (k w1 h1) → Q1 w1 H1) : GB S Wx sg rho H Q1 r := by
  cases r with
  | ok w h' => exact fun r2 H2 e l => f r2 H2 w h' e l (GE.mono e g)
  | exc c fs h' => exact g
  | stuck => exact g
end
/-- a rule with a stronger reading -/
theorem pe_imp {X : Cx} {e : Expr} {t t' : TE} (h : PE X e t) (f : ∀ sg H Q, t' sg H Q → t sg H Q) : PE X e t' := ⟨fun pins s sg H Q I q => h.run pins s sg H Q I (f _ _ _ q)⟩
theorem pt_imp {X : Cx} {e : Expr} {t t' : TT} (h : PT X e t) (f : ∀ sg H Q, t' sg H Q → t sg H Q) : PT X e t' := ⟨fun pins s sg H Q I q => h.run pins s sg H Q I (f _ _ _ q)⟩
theorem pa_imp {X : Cx} {e : List Expr} {t t' : TA} (h : PA X e t) (f : ∀ sg H Q, t' sg H Q → t sg H Q) : PA X e t' := ⟨fun pos pins s sg H Q I q => h.run pos pins s sg H Q I (f _ _ _ q)⟩
theorem ps_imp {X : Cx} {e : Stmt} {t t' : TS} (h : PS X e t) (f : ∀ D sg H, t' D sg H → t D sg H) : PS X e t' := ⟨fun pins s sg H D I q => h.run pins s sg H D I (f _ _ _ q)⟩
theorem pss_imp {X : Cx} {e : List Stmt} {t t' : TS} (h : PSs X e t) (f : ∀ D sg H, t' D sg H → t D sg H) : PSs X e t' := ⟨fun pins s sg H D I q => h.run pins s sg H D I (f _ _ _ q)⟩
theorem tE_mono {S : Sta} {Wx : Wi} {m : Ex} {sg : L2.St} {H : Hp} {Q Q' : VK} (h : tE S Wx m sg H Q) (f : ∀ v H, Q v H → Q' v H) : tE S Wx m sg H Q' := by
  obtain ⟨rho, h0, ta, a, b, g⟩ := h
  refine ⟨rho, h0, ta, a, b, ?_⟩
  cases e : m ta h0 with
  | ok w h' => rw [e] at g; exact fun r2 H2 v e l rv => f _ _ (g r2 H2 v e l rv)
  | exc c fs h' => rw [e] at g; exact g
  | stuck => rw [e] at g; exact g
end J

namespace J
open PySem PySem.Spec PyProof.Rows L2

/-! ### names and constants -/
def noX : W → Bool
  | .xcp _ _ => false
  | _ => true
def eVar (i : Nat) : Ex := fun ta h => match ta[i]? with
  | some (some w) => if noX w = true then .ok w h else .stuck
  | _ => .stuck
def eC (w : W) : Ex := fun _ h => .ok w h
def ofO (r : Option (W × HA)) : Res W := match r with
  | some (w, h) => .ok w h
  | none => .stuck
def eOp (o : W → W → HA → Option (W × HA)) (m1 m2 : Ex) : Ex := fun ta h => (m1 ta h).bind fun x h1 => (m2 ta h1).bind fun y h2 => ofO (o x y h2)
def eUn (o : W → HA → Option (W × HA)) (m : Ex) : Ex := fun ta h => (m ta h).bind fun x h1 => ofO (o x h1)

section
variable (S : Sta)
/-- a wish on an operation's end -/
def GO (rho : List Addr) (H : Hp) (Q : VK) : Option (W × HA) → Prop
  | some (w, h') => ∀ rho' H' v, Ev S rho H rho' H' → Rl S rho' h' H' → RV S rho' H' w v → Q v H'
  | none => False
def rA (o : W → W → HA → Option (W × HA)) : R2 := fun x y H Q => ∃ rho h a b, Rl S rho h H ∧ RV S rho H a x ∧ RV S rho H b y ∧ GO S rho H Q (o a b h)
def rAu (o : W → HA → Option (W × HA)) : V → Hp → VK → Prop := fun x H Q => ∃ rho h a, Rl S rho h H ∧ RV S rho H a x ∧ GO S rho H Q (o a h)
def rAs (o : List W → HA → Option (W × HA)) : List V → Hp → VK → Prop := fun xs H Q => ∃ rho h as, Rl S rho h H ∧ RVs S rho H as xs ∧ GO S rho H Q (o as h)
def rAm (o : W → List W → HA → Option (W × HA)) : V → List V → Hp → VK → Prop := fun x xs H Q => ∃ rho h a as, Rl S rho h H ∧ RV S rho H a x ∧ RVs S rho H as xs ∧ GO S rho H Q (o a as h)
end
section
variable {X : Cx} {S : Sta} {Wx : Wi} {e a b : Expr} {es : List Expr} {m m1 m2 : Ex} {ms : Ax} {pos : Pos}
theorem opr_or {f : Value → Value → Sem Value} {r r' : R2} (h : OpR X f r) (h' : OpR X f r') : OpR X f (fun x y H Q => r x y H Q ∨ r' x y H Q) := by
  intro pins s sg H x y v u Q I rx ry q
  rcases q with q | q
  · exact h pins s sg H x y v u Q I rx ry q
  · exact h' pins s sg H x y v u Q I rx ry q
theorem opr_imp {f : Value → Value → Sem Value} {r r' : R2} (h : OpR X f r) (i : ∀ x y H Q, r' x y H Q → r x y H Q) : OpR X f r' := fun pins s sg H x y v u Q I rx ry q => h pins s sg H x y v u Q I rx ry (i _ _ _ _ q)
theorem ixr_imp {r r' : R2} (h : IxR X r) (i : ∀ x y H Q, r' x y H Q → r x y H Q) : IxR X r' := fun va sl pins s sg H x y v u Q I rx ry q e => h va sl pins s sg H x y v u Q I rx ry (i _ _ _ _ q) e
theorem clr_or {f : Value} {r r' : List V → Hp → VK → Prop} (h : CallR X f r) (h' : CallR X f r') : CallR X f (fun xs H Q => r xs H Q ∨ r' xs H Q) := by
  intro pins s sg H xs us Q I rx q
  rcases q with q | q
  · exact h pins s sg H xs us Q I rx q
  · exact h' pins s sg H xs us Q I rx q
theorem clr_imp {f : Value} {r r' : List V → Hp → VK → Prop} (h : CallR X f r) (i : ∀ xs H Q, r' xs H Q → r xs H Q) : CallR X f r' := fun pins s sg H xs us Q I rx q => h pins s sg H xs us Q I rx (i _ _ _ q)
theorem mtr_imp {id : String} {r r' : V → List V → Hp → VK → Prop} (h : MtR X id r) (i : ∀ x xs H Q, r' x xs H Q → r x xs H Q) : MtR X id r' := fun pins s sg H x xs v us Q I rx rs q => h pins s sg H x xs v us Q I rx rs (i _ _ _ _ q)
theorem unr_imp {f : Value → Sem Value} {r r' : V → Hp → VK → Prop} (h : UnR X f r) (i : ∀ x H Q, r' x H Q → r x H Q) : UnR X f r' := fun pins s sg H x v Q I rx q => h pins s sg H x v Q I rx (i _ _ _ q)

section
variable {rho : List Addr} {H : Hp} {h : HA} {Q : VK} {w : W} {v : V}
/-- a result without a new object -/
theorem GO.here (g : GO S rho H Q (some (w, h))) (l : Rl S rho h H) (r : RV S rho H w v) : Q v H := g rho H v Ev.rfl' l r
theorem GO.tupN {xs : List W} {ys : List V} {p : Addr} (g : GO S rho H Q (some (.tup xs, h))) (l : Rl S rho h H) (r : RVs S rho H xs ys) (n : H p = none) : Q (.ref p) (upd H p (.tup ys)) :=
  g rho _ _ (Ev.lay n) (l.lay n) (.tup (SqT.of upd_same) (r.mono (Ev.lay n)))
theorem GO.lstN {xs : List W} {ys : List V} {p : Addr} (g : GO S rho H Q (some (.ref h.length, h ++ [.lst xs]))) (l : Rl S rho h H) (r : RVs S rho H xs ys) (n : H p = none) : Q (.ref p) (upd H p (.lst ys)) :=
  g _ _ _ (Ev.new l n) (l.new n (.lst upd_same (r.mono (Ev.new l n)))) (.ref (last_new l))
/-- a list that is read -/
theorem lst_of (l : Rl S rho h H) {i : Nat} {p : Addr} {xs : List W} (e : rho[i]? = some p) (o : h[i]? = some (.lst xs)) : ∃ ys, H p = some (.lst ys) ∧ RVs S rho H xs ys := by
  cases l.obj i _ p o e with
  | lst e r => exact ⟨_, e, r⟩
theorem dic_of (l : Rl S rho h H) {i : Nat} {p : Addr} {xs : List (Key × W)} (e : rho[i]? = some p) (o : h[i]? = some (.dic xs)) : ∃ ys, H p = some (.dK ys) ∧ RD S rho H xs ys := by
  cases l.obj i _ p o e with
  | dic e r => exact ⟨_, e, r⟩
theorem ins_of (l : Rl S rho h H) {i c : Nat} {p : Addr} {xs : List (Nat × W)} (e : rho[i]? = some p) (o : h[i]? = some (.ins c xs)) : ∃ dx ys, H p = some (.ins (S.ca c) dx ys) ∧ RF S rho H xs ys := by
  cases l.obj i _ p o e with
  | ins e r => exact ⟨_, _, e, r⟩
/-- a list or the script, read -/
def rdL (h : HA) (i : Nat) : Option (List W) := match h[i]? with
  | some (.lst xs) => some xs
  | _ => none
theorem rdL_of (K : S.K = X.K) (l : Rl S rho h H) {i : Nat} {p : Addr} {xs : List W} (e : rho[i]? = some p) (o : rdL h i = some xs) : ∃ ys, SqL X.K H p ys ∧ RVs S rho H xs ys := by
  unfold rdL at o
  split at o
  · rename_i xs' e1
    cases o
    obtain ⟨ys, a, b⟩ := lst_of l e e1
    exact ⟨ys, SqL.of a, b⟩
  · cases o
end

theorem de_var {i : Nat} {x : Str} (hN : X.N[i]? = some x) (hv : Vis X.env.scope x) (hd : (x == ("__debug__" : Str)) = false := by decide) (hcd : (x == ("__classdict__" : Str)) = false := by decide) : DE S X Wx (.Name x pos) (eVar i) := by
  refine pe_imp (pe_var hN hv hd hcd) fun sg H Q q => ?_
  obtain ⟨rho, h, ta, l, r, g⟩ := q
  unfold eVar at g
  split at g
  · rename_i w e
    obtain ⟨v, e1, rv⟩ := r.at_ i w e
    split at g
    · rename_i nx
      rcases rv with rv | ⟨c, fs, a, dd, gs, rfl, _⟩
      · exact ⟨v, e1, g rho H v Ev.rfl' l rv⟩
      · cases nx
    · exact g.elim
  · exact g.elim
theorem de_c {t : V} {w : W} (h : PE X e (tC t)) (r : ∀ rho H, RV S rho H w t) : DE S X Wx e (eC w) := by
  refine pe_imp h fun sg H Q q => ?_
  obtain ⟨rho, h, ta, l, _, g⟩ := q
  exact g rho H t Ev.rfl' l (r _ _)
theorem de_int {i j} : DE S X Wx (.Constant (.int i) j pos) (eC (.int i)) := de_c pe_int fun _ _ => .int _
theorem de_bl {i j} : DE S X Wx (.Constant (.bool i) j pos) (eC (.bl i)) := de_c pe_bl fun _ _ => .bl _
theorem de_non {j} : DE S X Wx (.Constant .none j pos) (eC .non) := de_c pe_non fun _ _ => .non
theorem de_str {i j} : DE S X Wx (.Constant (.str i) j pos) (eC (.str i)) := de_c pe_str fun _ _ => .str _
/-- a module's constant -/
theorem de_glI {x : Str} {i : Int} {t : Tok} (hg : Gl X x) (hm : X.mg x = some (.int i t)) (hd : (x == ("__debug__" : Str)) = false := by decide) : DE S X Wx (.Name x pos) (eC (.int i)) := de_c (pe_glob (v := .int i) hg hm ⟨t, rfl⟩ hd) fun _ _ => .int _
theorem de_glS {x : Str} {i : Str} {t : Tok} (hg : Gl X x) (hm : X.mg x = some (.str i t)) (hd : (x == ("__debug__" : Str)) = false := by decide) : DE S X Wx (.Name x pos) (eC (.str i)) := de_c (pe_glob (v := .str i) hg hm ⟨t, rfl⟩ hd) fun _ _ => .str _

/-- one part, then a rest -/
theorem tE_bind {sg : L2.St} {H : Hp} {Q Q1 : VK} {k : En → W → HA → Res W} (q : tE S Wx (fun ta h => (m1 ta h).bind (k ta)) sg H Q)
    (f : ∀ rho1 H1 ta v1 w1 h1, Rl S rho1 h1 H1 → RS S Wx rho1 H1 ta sg → RV S rho1 H1 w1 v1 → GE S Wx sg rho1 H1 Q (k ta w1 h1) → Q1 v1 H1) : tE S Wx m1 sg H Q1 := by
  obtain ⟨rho, h, ta, l, r, g⟩ := q
  exact ⟨rho, h, ta, l, r, GE.of_bind g fun rho1 H1 v1 w1 h1 e l1 r1 g1 => f rho1 H1 ta v1 w1 h1 l1 (r.mono e) r1 g1⟩
theorem two {sg : L2.St} {H : Hp} {Q : VK} {k : W → W → HA → Res W} {R : V → V → Hp → Prop} (q : tE S Wx (fun ta h => (m1 ta h).bind fun x h1 => (m2 ta h1).bind fun y h2 => k x y h2) sg H Q)
    (f : ∀ rho H x y a b h, Rl S rho h H → RV S rho H a x → RV S rho H b y → GE S Wx sg rho H Q (k a b h) → R x y H) : tE S Wx m1 sg H fun x H1 => tE S Wx m2 sg H1 fun y H2 => R x y H2 := by
  refine tE_bind (k := fun ta x h1 => (m2 ta h1).bind fun y h2 => k x y h2) q fun rho1 H1 ta v1 w1 h1 l1 rs r1 g1 => ?_
  refine ⟨rho1, h1, ta, l1, rs, GE.of_bind g1 fun rho2 H2 v2 w2 h2 e l2 r2 g2 => ?_⟩
  exact f rho2 H2 v1 v2 w1 w2 h2 l2 (r1.mono e) r2 g2
theorem GO.of {sg : L2.St} {rho : List Addr} {H : Hp} {Q : VK} {r : Option (W × HA)} (g : GE S Wx sg rho H Q (ofO r)) : GO S rho H Q r := by
  cases r with
  | none => exact g
  | some p => obtain ⟨w, h⟩ := p; exact g
theorem de_op {op : Operator} {o : W → W → HA → Option (W × HA)} (ho : OpR X (binaryOp op) (rA S o)) (ha : DE S X Wx a m1) (hb : DE S X Wx b m2) : DE S X Wx (.BinOp a op b pos) (eOp o m1 m2) :=
  pe_imp (pe_op ho ha hb) fun sg H Q q => two q fun rho H x y a b h l rx ry g => ⟨rho, h, a, b, l, rx, ry, GO.of g⟩
theorem de_cmp {op : CmpOp} {o : W → W → HA → Option (W × HA)} (ho : OpR X (compareOp op) (rA S o)) (ha : DE S X Wx a m1) (hb : DE S X Wx b m2) (hm : behindInMarks op b = false := by first | exact nomark _ | rfl) : DE S X Wx (.Compare a [op] [b] pos) (eOp o m1 m2) :=
  pe_imp (pe_cmpR ho ha hb hm) fun sg H Q q => two q fun rho H x y a b h l rx ry g => ⟨rho, h, a, b, l, rx, ry, GO.of g⟩
theorem de_ix {o : W → W → HA → Option (W × HA)} (ho : IxR X (rA S o)) (ha : DE S X Wx a m1) (hb : DE S X Wx b m2) (hs : PlainIx b := by exact fun _ _ => rfl) : DE S X Wx (.Subscript a b pos) (eOp o m1 m2) :=
  pe_imp (pe_ix ho ha hb hs) fun sg H Q q => two q fun rho H x y a b h l rx ry g => ⟨rho, h, a, b, l, rx, ry, GO.of g⟩
theorem de_un {op : UnaryOp} {o : W → HA → Option (W × HA)} (ho : UnR X (unaryOp op) (rAu S o)) (ha : DE S X Wx a m1) : DE S X Wx (.UnaryOp op a pos) (eUn o m1) :=
  pe_imp (pe_un ho ha) fun sg H Q q => tE_bind (k := fun _ x h1 => ofO (o x h1)) q fun rho H1 ta x w h l _ rx g => ⟨rho, h, w, l, rx, GO.of g⟩

/-! ### operators -/
def oI (g : Int → Int → Option W) : W → W → HA → Option (W × HA) := fun x y h => match x, y with
  | .int i, .int j => (g i j).map fun w => (w, h)
  | _, _ => none
theorem oI_of {f : Value → Value → Sem Value} {C : Int → Int → Prop} {g : Int → Int → Option W} {gv : Int → Int → V} (R : OpR X f (rI C gv)) (hg : ∀ i j w, g i j = some w → C i j ∧ ∀ rho H, RV S rho H w (gv i j)) : OpR X f (rA S (oI g)) := by
  refine opr_imp R fun x y H Q q => ?_
  obtain ⟨rho, h, a, b, l, rx, ry, g1⟩ := q
  unfold oI at g1
  split at g1
  · rename_i i j
    cases rx
    cases ry
    cases e : g i j with
    | none => rw [e] at g1; exact g1.elim
    | some w =>
      rw [e] at g1
      obtain ⟨c, rv⟩ := hg i j w e
      exact ⟨i, j, rfl, rfl, c, g1.here l (rv _ _)⟩
  · exact g1.elim
theorem oI0_of {f : Value → Value → Sem Value} {g : Int → Int → W} {gv : Int → Int → V} (R : OpR X f (rI0 gv)) (hg : ∀ i j rho H, RV S rho H (g i j) (gv i j)) : OpR X f (rA S (oI fun i j => some (g i j))) := by
  refine opr_imp R fun x y H Q q => ?_
  obtain ⟨rho, h, a, b, l, rx, ry, g1⟩ := q
  unfold oI at g1
  split at g1
  · rename_i i j
    cases rx
    cases ry
    exact ⟨i, j, rfl, rfl, GO.here g1 l (hg _ _ _ _)⟩
  · exact g1.elim
def oSub := oI fun i j => some (.int (i - j))
theorem ok_sub : OpR X (binaryOp .Sub) (rA S oSub) := oI0_of op_sub fun _ _ _ _ => .int _
/-- a product of numbers whose sizes are seen -/
def mulOk (i j : Int) : Bool := decide (-(2 ^ 64) < i ∧ i < 2 ^ 64) || decide (-(2 ^ 64) < j ∧ j < 2 ^ 64)
def oMul := oI fun i j => if mulOk i j = true then some (.int (i * j)) else none
theorem log2_lt {n k : Nat} (h : n < 2 ^ k) (hk : 0 < k) : n.log2 < k := PySem.Flt.log2_lt_of hk h
theorem ok_mul : OpR X (binaryOp .Mult) (rA S oMul) := by
  refine oI_of (gv := fun i j => .int (i * j)) op_mul fun i j w e => ?_
  by_cases c : mulOk i j = true
  · rw [if_pos c] at e
    cases e
    refine ⟨?_, fun _ _ => .int _⟩
    unfold mulOk at c
    simp only [Bool.or_eq_true, decide_eq_true_eq] at c
    exact c
  · rw [if_neg c] at e; cases e
def oDiv := oI fun i j => if 0 < j ∧ j < 2 ^ 64 then some (.int (i / j)) else none
theorem ok_div : OpR X (binaryOp .FloorDiv) (rA S oDiv) := oI_of op_fdivW fun i j w e => by
  by_cases c : 0 < j ∧ j < 2 ^ 64
  · rw [if_pos c] at e
    cases e
    exact ⟨⟨c.1, by have := log2_lt (n := j.natAbs) (k := 64) (by omega) (by decide); omega⟩, fun _ _ => .int _⟩
  · rw [if_neg c] at e; cases e
def oMod := oI fun i j => if 0 < j then some (.int (i % j)) else none
theorem ok_mod : OpR X (binaryOp .Mod) (rA S oMod) := oI_of op_mod fun i j w e => by
  by_cases c : 0 < j
  · rw [if_pos c] at e; cases e; exact ⟨c, fun _ _ => .int _⟩
  · rw [if_neg c] at e; cases e
def oPow := oI fun i j => if 0 ≤ j ∧ j ≤ 1000000 ∧ i.natAbs < 2 ^ 64 then some (.int (i ^ j.toNat)) else none
theorem ok_pow : OpR X (binaryOp .Pow) (rA S oPow) := oI_of op_pow fun i j w e => by
  by_cases c : 0 ≤ j ∧ j ≤ 1000000 ∧ i.natAbs < 2 ^ 64
  · rw [if_pos c] at e; cases e; exact ⟨c, fun _ _ => .int _⟩
  · rw [if_neg c] at e; cases e
def oLt := oI fun i j => some (.bl (decide (i < j)))
def oLe := oI fun i j => some (.bl (decide (i ≤ j)))
def oGt := oI fun i j => some (.bl (decide (j < i)))
def oGe := oI fun i j => some (.bl (decide (j ≤ i)))
theorem ok_lt : OpR X (compareOp .Lt) (rA S oLt) := oI0_of op_lt fun _ _ _ _ => .bl _
theorem ok_le : OpR X (compareOp .LtE) (rA S oLe) := oI0_of op_le fun _ _ _ _ => .bl _
theorem ok_gt : OpR X (compareOp .Gt) (rA S oGt) := oI0_of op_gt fun _ _ _ _ => .bl _
theorem ok_ge : OpR X (compareOp .GtE) (rA S oGe) := oI0_of op_ge fun _ _ _ _ => .bl _
def oNeg : W → HA → Option (W × HA) := fun x h => match x with
  | .int i => some (.int (-i), h)
  | _ => none
theorem ok_neg : UnR X (unaryOp .USub) (rAu S oNeg) := by
  refine unr_imp un_neg fun x H Q q => ?_
  obtain ⟨rho, h, a, l, rx, g⟩ := q
  unfold oNeg at g
  split at g
  · cases rx
    exact ⟨_, rfl, GO.here g l (.int _)⟩
  · exact g.elim
/-- a + b: ints, texts, tuples, lists -/
def oAdd : W → W → HA → Option (W × HA) := fun x y h => match x, y with
  | .int i, .int j => some (.int (i + j), h)
  | .str i, .str j => if i.length + j.length ≤ sizeLine then some (.str (i ++ j), h) else none
  | .tup xs, .tup ys => if xs ≠ [] ∧ xs.length + ys.length ≤ sizeLine then some (.tup (xs ++ ys), h) else none
  | .ref i, .ref j => match h[i]?, h[j]? with
    | some (.lst xs), some (.lst ys) => if xs.length + ys.length ≤ sizeLine then some (.ref h.length, h ++ [.lst (xs ++ ys)]) else none
    | _, _ => none
  | _, _ => none
theorem ok_add (K : S.K = X.K) : OpR X (binaryOp .Add) (rA S oAdd) := by
  refine opr_imp (opr_or op_add (opr_or op_add_str (opr_or op_catT op_cat))) fun x y H Q q => ?_
  obtain ⟨rho, h, a, b, l, rx, ry, g⟩ := q
  unfold oAdd at g
  split at g
  · cases rx
    cases ry
    exact .inl ⟨_, _, rfl, rfl, GO.here g l (.int _)⟩
  · cases rx
    cases ry
    split at g
    · rename_i c
      exact .inr (.inl ⟨_, _, rfl, rfl, c, GO.here g l (.str _)⟩)
    · exact g.elim
  · cases rx with
    | tup hx rx =>
      cases ry with
      | tup hy ry =>
        split at g
        · rename_i c
          rw [K] at hx hy
          have e1 := rx.length
          have e2 := ry.length
          refine .inr (.inr (.inl ⟨_, _, _, _, rfl, rfl, hx, hy, fun z => ?_, by omega, fun z => ?_, fun z p n => g.tupN l (rx.append ry) n⟩))
          · subst z
            exact c.1 (List.length_eq_zero_iff.mp e1)
          · subst z
            have z2 := List.length_eq_zero_iff.mp e2
            subst z2
            rw [List.append_nil] at g
            exact GO.here g l (.tup (by rw [K]; exact hx) rx)
        · exact g.elim
  · cases rx with
    | ref ei =>
      cases ry with
      | ref ej =>
        split at g
        · rename_i o1 o2
          obtain ⟨zs, z1, z2⟩ := lst_of l ei o1
          obtain ⟨us, u1, u2⟩ := lst_of l ej o2
          split at g
          · rename_i c
            refine .inr (.inr (.inr ⟨_, _, _, _, rfl, rfl, z1, u1, by rw [← z2.length, ← u2.length]; exact c, fun p n => g.lstN l (z2.append u2) n⟩))
          · exact g.elim
        · exact g.elim
  · exact g.elim
end

/-! ### data: equality -/
def mapO {α β : Type} (f : α → Option β) : List α → Option (List β)
  | [] => some []
  | a :: r => match f a, mapO f r with
    | some b, some bs => some (b :: bs)
    | _, _ => none
def toD : Nat → HA → W → Option PyData
  | _, _, .non => some .none
  | _, _, .bl b => some (.bool b)
  | _, _, .int i => some (.int i)
  | _, _, .str x => some (.str x)
  | _, _, .xcp _ _ => none
  | n + 1, h, .tup xs => (mapO (toD n h) xs).map .tuple
  | n + 1, h, .cst xs => (mapO (toD n h) xs).map .list
  | n + 1, h, .ref i => match rdL h i with
    | some xs => (mapO (toD n h) xs).map .list
    | none => none
  | 0, _, _ => none
section
variable {X : Cx} {S : Sta} {rho : List Addr} {H : Hp} {h : HA}
theorem mapO_dp {f : W → Option PyData} (hf : ∀ w v d, RV S rho H w v → f w = some d → Dp X.K H v d) : ∀ {ws : List W} {vs : List V} {ds : List PyData}, RVs S rho H ws vs → mapO f ws = some ds → DpAll X.K H vs ds
  | _, _, ds, .nil, e => by cases e; exact .nil
  | w :: ws, v :: vs, ds, .cons r t, e => by
    unfold mapO at e
    split at e
    · rename_i b bs e1 e2
      cases e
      exact .cons (hf w v b r e1) (mapO_dp hf t e2)
    · cases e
theorem dp_of (K : S.K = X.K) (l : Rl S rho h H) : ∀ (n : Nat) (w : W) (v : V) (d : PyData), RV S rho H w v → toD n h w = some d → Dp X.K H v d := by
  intro n
  induction n with
  | zero =>
    intro w v d r e
    cases w with
    | non => cases r; cases e; exact .non
    | bl b => cases r; cases e; exact .bl _
    | int b => cases r; cases e; exact .int _
    | str b => cases r; cases e; exact .str _
    | tup xs => simp [toD] at e
    | ref i => simp [toD] at e
    | cst i => simp [toD] at e
    | xcp _ _ => cases r
  | succ n ih =>
    intro w v d r e
    cases w with
    | non => cases r; cases e; exact .non
    | bl b => cases r; cases e; exact .bl _
    | int b => cases r; cases e; exact .int _
    | str b => cases r; cases e; exact .str _
    | tup xs =>
      cases r with
      | tup hp rs =>
        unfold toD at e
        cases q : mapO (toD n h) xs with
        | none => rw [q] at e; cases e
        | some ds =>
          rw [q] at e
          cases e
          exact .tup (by rw [← K]; exact hp) (mapO_dp (fun w v d r e => ih w v d r e) rs q)
    | cst xs =>
      cases r with
      | cst hp rs =>
        unfold toD at e
        cases q : mapO (toD n h) xs with
        | none => rw [q] at e; cases e
        | some ds =>
          rw [q] at e
          cases e
          exact .lst (by rw [← K]; exact hp.sq) (mapO_dp (fun w v d r e => ih w v d r e) rs q)
    | ref i =>
      cases r with
      | ref hp =>
        unfold toD at e
        cases z : rdL h i with
        | none => rw [z] at e; cases e
        | some xs =>
          rw [z] at e
          obtain ⟨ys, a, b⟩ := rdL_of K l hp z
          cases q : mapO (toD n h) xs with
          | none => simp [q] at e
          | some ds =>
            simp [q] at e
            subst e
            exact .lst a (mapO_dp (fun w v d r e => ih w v d r e) b q)
    | xcp _ _ => cases r
end
/-- == of what needs no look at the heap -/
def scW : W → W → Option Bool
  | .non, .non => some true | .non, .int _ => some false | .int _, .non => some false | .non, .bl _ => some false | .bl _, .non => some false | .non, .str _ => some false | .str _, .non => some false
  | .int i, .int j => some (decide (i = j)) | .bl i, .bl j => some (decide (i = j)) | .str i, .str j => some (decide (i = j))
  | .int _, .str _ => some false | .str _, .int _ => some false | .bl _, .str _ => some false | .str _, .bl _ => some false
  | _, _ => none
def dEq (x y : W) (h : HA) : Option Bool := match toD 9 h x, toD 9 h y with
  | some d, some e => if SeqAt.shaped d = true ∧ SeqAt.shaped e = true then some (PyData.eqv d e) else none
  | _, _ => none
def eqW (x y : W) (h : HA) : Option Bool := match scW x y with
  | some b => some b
  | none => dEq x y h
def oEq : W → W → HA → Option (W × HA) := fun x y h => (eqW x y h).map fun b => (.bl b, h)
def oNe : W → W → HA → Option (W × HA) := fun x y h => (eqW x y h).map fun b => (.bl (!b), h)
section
variable {X : Cx} {S : Sta} {rho : List Addr} {H : Hp} {h : HA}
theorem scW_ok {a b : W} {x y : V} {k : Bool} (rx : RV S rho H a x) (ry : RV S rho H b y) (e : scW a b = some k) : scal x y = true ∧ decide (x = y) = k := by
  cases a <;> cases b <;> first | (simp [scW] at e; done) | skip
  all_goals (cases rx; cases ry; simp [scW] at e; subst e; refine ⟨rfl, ?_⟩; simp)
theorem dEq_ok (K : S.K = X.K) (l : Rl S rho h H) {a b : W} {x y : V} {k : Bool} (rx : RV S rho H a x) (ry : RV S rho H b y) (e : dEq a b h = some k) :
    ∃ d e, Dp X.K H x d ∧ Dp X.K H y e ∧ SeqAt.shaped d = true ∧ SeqAt.shaped e = true ∧ PyData.eqv d e = k := by
  unfold dEq at e
  split at e
  · rename_i d f e1 e2
    split at e
    · rename_i c
      cases e
      exact ⟨d, f, dp_of K l _ _ _ _ rx e1, dp_of K l _ _ _ _ ry e2, c.1, c.2, rfl⟩
    · cases e
  · cases e
theorem ok_eq (K : S.K = X.K) (hu : X.A.units + 64 < cLine) : OpR X (compareOp .Eq) (rA S oEq) := by
  refine opr_imp (opr_or op_eq (op_eqD hu)) fun x y H Q q => ?_
  obtain ⟨rho, h, a, b, l, rx, ry, g⟩ := q
  unfold oEq eqW at g
  split at g
  · rename_i k e
    obtain ⟨e1, e2⟩ := scW_ok rx ry e
    refine .inl ⟨e1, ?_⟩
    rw [e2]
    exact GO.here g l (.bl _)
  · cases e : dEq a b h with
    | none => rw [e] at g; exact g.elim
    | some k =>
      rw [e] at g
      obtain ⟨d, f, h1, h2, h3, h4, h5⟩ := dEq_ok K l rx ry e
      refine .inr ⟨d, f, h1, h2, h3, h4, ?_⟩
      rw [h5]
      exact GO.here g l (.bl _)
theorem ok_ne (K : S.K = X.K) (hu : X.A.units + 64 < cLine) : OpR X (compareOp .NotEq) (rA S oNe) := by
  refine opr_imp (opr_or op_ne (op_neD hu)) fun x y H Q q => ?_
  obtain ⟨rho, h, a, b, l, rx, ry, g⟩ := q
  unfold oNe eqW at g
  split at g
  · rename_i k e
    obtain ⟨e1, e2⟩ := scW_ok rx ry e
    refine .inl ⟨e1, ?_⟩
    rw [e2]
    exact GO.here g l (.bl _)
  · cases e : dEq a b h with
    | none => rw [e] at g; exact g.elim
    | some k =>
      rw [e] at g
      obtain ⟨d, f, h1, h2, h3, h4, h5⟩ := dEq_ok K l rx ry e
      refine .inr ⟨d, f, h1, h2, h3, h4, ?_⟩
      rw [h5]
      exact GO.here g l (.bl _)
/-- is, is not: None, True, False on the right side -/
def isW : W → W → Option Bool
  | .non, .non => some true
  | _, .non => some false
  | .bl a, .bl b => some (decide (a = b))
  | _, _ => none
def oIs : W → W → HA → Option (W × HA) := fun x y h => (isW x y).map fun b => (.bl b, h)
def oIsN : W → W → HA → Option (W × HA) := fun x y h => (isW x y).map fun b => (.bl (!b), h)
theorem ok_is : OpR X (compareOp .Is) (rA S oIs) := by
  refine opr_imp (opr_or op_isN op_is_bl) fun x y H Q q => ?_
  obtain ⟨rho, h, a, b, l, rx, ry, g⟩ := q
  unfold oIs at g
  cases a <;> cases b <;> first | exact g.elim | skip
  all_goals (cases rx <;> cases ry)
  all_goals first
    | exact .inl ⟨rfl, GO.here g l (.bl _)⟩
    | exact .inr ⟨_, _, rfl, rfl, GO.here g l (.bl _)⟩
theorem ok_isn : OpR X (compareOp .IsNot) (rA S oIsN) := by
  refine opr_imp (opr_or op_notN op_isnot_bl) fun x y H Q q => ?_
  obtain ⟨rho, h, a, b, l, rx, ry, g⟩ := q
  unfold oIsN at g
  cases a <;> cases b <;> first | exact g.elim | skip
  all_goals (cases rx <;> cases ry)
  all_goals first
    | exact .inl ⟨rfl, GO.here g l (.bl _)⟩
    | exact .inr ⟨_, _, rfl, rfl, GO.here g l (.bl _)⟩
end
end J

namespace J
open PySem PySem.Spec PyProof.Rows L2

/-! ### truth -/
def truW (x : W) (h : HA) : Option Bool := match x with
  | .non => some false
  | .bl b => some b
  | .int i => some (i != 0)
  | .str y => if y.length ≤ sizeLine then some ((y.length : Int) != 0) else none
  | .tup xs => some (!xs.isEmpty)
  | .cst xs => some (!xs.isEmpty)
  | .ref i => match h[i]? with
    | some (.lst xs) => some (!xs.isEmpty)
    | some (.dic xs) => some (!xs.isEmpty)
    | _ => none
  | .xcp _ _ => none
section
variable {X : Cx} {S : Sta} {Wx : Wi} {e a b : Expr} {es rest : List Expr} {m m1 m2 : Ex} {ms : Ax} {t u : Tx} {pos : Pos}
theorem rvs_emp {rho : List Addr} {H : Hp} : ∀ {xs : List W} {ys : List V}, RVs S rho H xs ys → (!ys.isEmpty) = !xs.isEmpty
  | _, _, .nil => rfl
  | _, _, .cons _ _ => rfl
theorem rd_emp {rho : List Addr} {H : Hp} : ∀ {xs : List (Key × W)} {ys : List (Key × V)}, RD S rho H xs ys → (!ys.isEmpty) = !xs.isEmpty
  | _, _, .nil => rfl
  | _, _, .cons _ _ => rfl
theorem truW_ok (K : S.K = X.K) {rho : List Addr} {H : Hp} {h : HA} (l : Rl S rho h H) {w : W} {v : V} {k : Bool} (r : RV S rho H w v) (e : truW w h = some k) : TruV X.K v H k := by
  cases r with
  | non => cases e; rfl
  | bl b => cases e; rfl
  | int i => cases e; rfl
  | str x =>
    unfold truW at e
    dsimp only at e
    split at e
    · rename_i c
      cases e
      exact ⟨c, rfl⟩
    · cases e
  | tup hp rs => cases e; exact .inr (.inl ⟨_, by rw [← K]; exact hp, (rvs_emp rs).symm⟩)
  | cst hp rs => cases e; exact .inl ⟨_, by rw [← K]; exact hp.sq, (rvs_emp rs).symm⟩
  | ref hp =>
    unfold truW at e
    dsimp only at e
    split at e
    · rename_i o
      cases e
      obtain ⟨ys, a1, a2⟩ := lst_of l hp o
      exact .inl ⟨ys, SqL.of a1, (rvs_emp a2).symm⟩
    · rename_i o
      cases e
      obtain ⟨ys, a1, a2⟩ := dic_of l hp o
      exact .inr (.inr ⟨ys, a1, (rd_emp a2).symm⟩)
    · cases e
def ofB (r : Option Bool) (h : HA) : Res Bool := match r with
  | some b => .ok b h
  | none => .stuck
/-- a value as a test -/
def xTru (m : Ex) : Tx := fun ta h => (m ta h).bind fun x h1 => ofB (truW x h1) h1
def xAnd (t u : Tx) : Tx := fun ta h => (t ta h).bind fun b h1 => if b = true then u ta h1 else .ok false h1
def xOr (t u : Tx) : Tx := fun ta h => (t ta h).bind fun b h1 => if b = true then .ok true h1 else u ta h1
def xNot (t : Tx) : Tx := fun ta h => (t ta h).bind fun b h1 => .ok (!b) h1
def eAnd (m1 m2 : Ex) : Ex := fun ta h => (m1 ta h).bind fun x h1 => match truW x h1 with
  | some true => m2 ta h1
  | some false => .ok x h1
  | none => .stuck
def eOr (m1 m2 : Ex) : Ex := fun ta h => (m1 ta h).bind fun x h1 => match truW x h1 with
  | some true => .ok x h1
  | some false => m2 ta h1
  | none => .stuck
def eNot (m : Ex) : Ex := fun ta h => (m ta h).bind fun x h1 => match truW x h1 with
  | some b => .ok (.bl (!b)) h1
  | none => .stuck
def eIf (t : Tx) (m1 m2 : Ex) : Ex := fun ta h => (t ta h).bind fun b h1 => if b = true then m1 ta h1 else m2 ta h1
def DW (S : Sta) (X : Cx) (Wx : Wi) (e : Expr) (m : Tx) : Prop := PW X e (tT S Wx m)
theorem tT_bindE {sg : L2.St} {H : Hp} {Q : Bool → Hp → Prop} {Q1 : VK} {k : En → W → HA → Res Bool} (q : tT S Wx (fun ta h => (m1 ta h).bind (k ta)) sg H Q)
    (f : ∀ rho1 H1 ta v1 w1 h1, Rl S rho1 h1 H1 → RS S Wx rho1 H1 ta sg → RV S rho1 H1 w1 v1 → GB S Wx sg rho1 H1 Q (k ta w1 h1) → Q1 v1 H1) : tE S Wx m1 sg H Q1 := by
  obtain ⟨rho, h, ta, l, r, g⟩ := q
  exact ⟨rho, h, ta, l, r, GB.of_bind g fun rho1 H1 v1 w1 h1 e l1 r1 g1 => f rho1 H1 ta v1 w1 h1 l1 (r.mono e) r1 g1⟩
theorem tT_bindB {sg : L2.St} {H : Hp} {Q Q1 : Bool → Hp → Prop} {k : En → Bool → HA → Res Bool} (q : tT S Wx (fun ta h => (t ta h).bind (k ta)) sg H Q)
    (f : ∀ rho1 H1 ta w1 h1, Rl S rho1 h1 H1 → RS S Wx rho1 H1 ta sg → GB S Wx sg rho1 H1 Q (k ta w1 h1) → Q1 w1 H1) : tT S Wx t sg H Q1 := by
  obtain ⟨rho, h, ta, l, r, g⟩ := q
  exact ⟨rho, h, ta, l, r, GB.of_bindB g fun rho1 H1 w1 h1 e l1 g1 => f rho1 H1 ta w1 h1 l1 (r.mono e) g1⟩
theorem tE_bindB {sg : L2.St} {H : Hp} {Q : VK} {Q1 : Bool → Hp → Prop} {k : En → Bool → HA → Res W} (q : tE S Wx (fun ta h => (t ta h).bind (k ta)) sg H Q)
    (f : ∀ rho1 H1 ta w1 h1, Rl S rho1 h1 H1 → RS S Wx rho1 H1 ta sg → GE S Wx sg rho1 H1 Q (k ta w1 h1) → Q1 w1 H1) : tT S Wx t sg H Q1 := by
  obtain ⟨rho, h, ta, l, r, g⟩ := q
  exact ⟨rho, h, ta, l, r, GB.of_bindE g fun rho1 H1 w1 h1 e l1 g1 => f rho1 H1 ta w1 h1 l1 (r.mono e) g1⟩
theorem tE_bindA {sg : L2.St} {H : Hp} {Q : VK} {Q1 : List V → Hp → Prop} {k : En → List W → HA → Res W} (q : tE S Wx (fun ta h => (ms ta h).bind (k ta)) sg H Q)
    (f : ∀ rho1 H1 ta v1 w1 h1, Rl S rho1 h1 H1 → RS S Wx rho1 H1 ta sg → RVs S rho1 H1 w1 v1 → GE S Wx sg rho1 H1 Q (k ta w1 h1) → Q1 v1 H1) : tA S Wx ms sg H Q1 := by
  obtain ⟨rho, h, ta, l, r, g⟩ := q
  exact ⟨rho, h, ta, l, r, GA.of_bindE g fun rho1 H1 v1 w1 h1 e l1 r1 g1 => f rho1 H1 ta v1 w1 h1 l1 (r.mono e) r1 g1⟩
/-- any expression as a test -/
theorem dt_tru (K : S.K = X.K) (h : DE S X Wx e m) (he : ∀ whole, isTrue e X.env whole = (do let v ← whole; standAt e.pos; holding [v] (truthy v)) := by intro _; rfl) : DT S X Wx e (xTru m) :=
  pt_imp (pt_truth h he) fun sg H Q q => tT_bindE (k := fun _ x h1 => ofB (truW x h1) h1) q fun rho H1 ta v w h1 l rs r g => by
    cases e1 : truW w h1 with
    | none => rw [e1] at g; exact g.elim
    | some k => rw [e1] at g; exact ⟨k, truW_ok K l r e1, g rho H1 Ev.rfl' l⟩
theorem dw_pt (h : DW S X Wx e t) : DT S X Wx e t := PW.pt h
theorem dw_and1 (h : DT S X Wx e t) : DW S X Wx (.BoolOp .And [e] pos) t := pw_and1 h
theorem dw_or1 (h : DT S X Wx e t) : DW S X Wx (.BoolOp .Or [e] pos) t := pw_or1 h
theorem pw_imp {t t' : TT} (h : PW X e t) (f : ∀ sg H Q, t' sg H Q → t sg H Q) : PW X e t' := ⟨fun wh pins s sg H Q I q => h.run wh pins s sg H Q I (f _ _ _ q)⟩
theorem dw_and (h : DT S X Wx a t) (k : DW S X Wx (.BoolOp .And (b :: rest) pos) u) : DW S X Wx (.BoolOp .And (a :: b :: rest) pos) (xAnd t u) :=
  pw_imp (pw_and h k) fun sg H Q q => tT_bindB (k := fun ta b h1 => if b = true then u ta h1 else .ok false h1) q fun rho H1 ta w h1 l rs g => by
    cases w with
    | true => exact ⟨rho, h1, ta, l, rs, g⟩
    | false => exact g rho H1 Ev.rfl' l
theorem dw_or (h : DT S X Wx a t) (k : DW S X Wx (.BoolOp .Or (b :: rest) pos) u) : DW S X Wx (.BoolOp .Or (a :: b :: rest) pos) (xOr t u) :=
  pw_imp (pw_or h k) fun sg H Q q => tT_bindB (k := fun ta b h1 => if b = true then .ok true h1 else u ta h1) q fun rho H1 ta w h1 l rs g => by
    cases w with
    | true => exact g rho H1 Ev.rfl' l
    | false => exact ⟨rho, h1, ta, l, rs, g⟩
theorem dt_not (h : DT S X Wx a t) : DT S X Wx (.UnaryOp .Not a pos) (xNot t) :=
  pt_imp (pt_not h) fun sg H Q q => tT_bindB (k := fun ta b h1 => .ok (!b) h1) q fun rho H1 ta w h1 l rs g => g rho H1 Ev.rfl' l
theorem de_one {op} (h : DE S X Wx a m) : DE S X Wx (.BoolOp op [a] pos) m := pe_one h
theorem de_and (K : S.K = X.K) (h : DE S X Wx a m1) (k : DE S X Wx (.BoolOp .And (b :: rest) pos) m2) : DE S X Wx (.BoolOp .And (a :: b :: rest) pos) (eAnd m1 m2) :=
  pe_imp (pe_andT h k) fun sg H Q q => tE_bind (k := fun ta x h1 => match truW x h1 with | some true => m2 ta h1 | some false => .ok x h1 | none => .stuck) q fun rho H1 ta v w h1 l rs r g => by
    split at g
    · rename_i e1
      exact ⟨true, truW_ok K l r e1, ⟨rho, h1, ta, l, rs, g⟩⟩
    · rename_i e1
      exact ⟨false, truW_ok K l r e1, g rho H1 v Ev.rfl' l r⟩
    · exact g.elim
theorem de_or (K : S.K = X.K) (h : DE S X Wx a m1) (k : DE S X Wx (.BoolOp .Or (b :: rest) pos) m2) : DE S X Wx (.BoolOp .Or (a :: b :: rest) pos) (eOr m1 m2) :=
  pe_imp (pe_orT h k) fun sg H Q q => tE_bind (k := fun ta x h1 => match truW x h1 with | some true => .ok x h1 | some false => m2 ta h1 | none => .stuck) q fun rho H1 ta v w h1 l rs r g => by
    split at g
    · rename_i e1
      exact ⟨true, truW_ok K l r e1, g rho H1 v Ev.rfl' l r⟩
    · rename_i e1
      exact ⟨false, truW_ok K l r e1, ⟨rho, h1, ta, l, rs, g⟩⟩
    · exact g.elim
theorem de_not (K : S.K = X.K) (h : DE S X Wx a m) : DE S X Wx (.UnaryOp .Not a pos) (eNot m) :=
  pe_imp (pe_notT h) fun sg H Q q => tE_bind (k := fun ta x h1 => match truW x h1 with | some b => .ok (.bl (!b)) h1 | none => .stuck) q fun rho H1 ta v w h1 l rs r g => by
    split at g
    · rename_i b e1
      exact ⟨b, truW_ok K l r e1, g rho H1 _ Ev.rfl' l (.bl _)⟩
    · exact g.elim
theorem de_if {c : Expr} (hc : DT S X Wx c t) (ha : DE S X Wx a m1) (hb : DE S X Wx b m2) : DE S X Wx (.IfExp c a b pos) (eIf t m1 m2) :=
  pe_imp (pe_ifExp hc ha hb) fun sg H Q q => tE_bindB (k := fun ta b h1 => if b = true then m1 ta h1 else m2 ta h1) q fun rho H1 ta w h1 l rs g => by
    cases w with
    | true => exact ⟨rho, h1, ta, l, rs, g⟩
    | false => exact ⟨rho, h1, ta, l, rs, g⟩

/-- a < b < c: b asked once -/
def eChain (o o' : W → W → HA → Option (W × HA)) (m1 m2 m3 : Ex) : Ex := fun ta h => (m1 ta h).bind fun x h1 => (m2 ta h1).bind fun y h2 => match o x y h2 with
  | some (.bl true, h3) => (m3 ta h3).bind fun z h4 => ofO (o' y z h4)
  | some (.bl false, h3) => .ok (.bl false) h3
  | _ => .stuck
theorem RV_bl {rho : List Addr} {H : Hp} {k : Bool} {v : V} (r : RV S rho H (.bl k) v) : v = .bl k := by cases r; rfl

/-! ### argument lists, displays -/
def aNil : Ax := fun _ h => .ok [] h
def aCons (m : Ex) (r : Ax) : Ax := fun ta h => (m ta h).bind fun x h1 => (r ta h1).bind fun xs h2 => .ok (x :: xs) h2
theorem da_nil : DA S X Wx [] aNil := pa_imp pa_nil fun sg H Q q => by
  obtain ⟨rho, h, ta, l, _, g⟩ := q
  exact g rho H [] Ev.rfl' l .nil
theorem da_cons (ha : DE S X Wx e m) (hr : DA S X Wx es ms) (hs : starEach (e :: es) X.env = (false, eval e X.env) :: starEach es X.env := by rfl) : DA S X Wx (e :: es) (aCons m ms) :=
  pa_imp (pa_cons ha hr hs) fun sg H Q q => by
    obtain ⟨rho, h, ta, l, r, g⟩ := q
    refine ⟨rho, h, ta, l, r, GA.of_bind (k := fun x h1 => (ms ta h1).bind fun xs h2 => .ok (x :: xs) h2) g fun rho1 H1 v1 w1 h1 ev l1 r1 g1 => ?_⟩
    refine ⟨rho1, h1, ta, l1, r.mono ev, ?_⟩
    cases e1 : ms ta h1 with
    | ok ws h2 =>
      rw [e1] at g1
      exact fun rho2 H2 vs ev2 l2 r2 => g1 rho2 H2 _ ev2 l2 (.cons (r1.mono ev2) r2)
    | exc c fs h2 => rw [e1] at g1; exact g1
    | stuck => rw [e1] at g1; exact g1
def eTup (ms : Ax) : Ex := fun ta h => (ms ta h).bind fun xs h1 => if xs.length ≤ sizeLine then .ok (.tup xs) h1 else .stuck
def eLst (ms : Ax) : Ex := fun ta h => (ms ta h).bind fun xs h1 => if xs.length ≤ sizeLine then .ok (.ref h1.length) (h1 ++ [.lst xs]) else .stuck
theorem de_tup {x1} (ha : DA S X Wx es ms) : DE S X Wx (.Tuple es x1 pos) (eTup ms) :=
  pe_imp (pe_tup ha) fun sg H Q q => tE_bindA (k := fun ta xs h1 => if xs.length ≤ sizeLine then .ok (.tup xs) h1 else .stuck) q fun rho H1 ta vs ws h1 l rs r g => by
    by_cases c : ws.length ≤ sizeLine
    · rw [if_pos c] at g
      refine ⟨by rw [← r.length]; exact c, fun p n => ?_⟩
      exact GO.tupN (S := S) (h := h1) g l r n
    · rw [if_neg c] at g; exact g.elim
theorem de_lst (ha : DA S X Wx es ms) : DE S X Wx (.List es pos) (eLst ms) :=
  pe_imp (pe_lst ha) fun sg H Q q => tE_bindA (k := fun ta xs h1 => if xs.length ≤ sizeLine then .ok (.ref h1.length) (h1 ++ [O.lst xs]) else .stuck) q fun rho H1 ta vs ws h1 l rs r g => by
    by_cases c : ws.length ≤ sizeLine
    · rw [if_pos c] at g
      refine ⟨by rw [← r.length]; exact c, fun p n => ?_⟩
      exact GO.lstN (S := S) (h := h1) g l r n
    · rw [if_neg c] at g; exact g.elim

/-! ### built-ins by name -/
def eFn (o : List W → HA → Option (W × HA)) (ms : Ax) : Ex := fun ta h => (ms ta h).bind fun xs h1 => ofO (o xs h1)
theorem de_callB {x : Str} {p : Pos} {id : String} {o : List W → HA → Option (W × HA)} (ho : CallR X (.builtin id) (rAs S o)) (hg : Gl X x) (hm : X.mg x = none) (hv : bootBuiltins x = some (.builtin id)) (ha : DA S X Wx (e :: es) ms)
    (hn : x ≠ "__name__" := by decide) (hdb : (x == ("__debug__" : Str)) = false := by decide)
    (he : starEach (e :: es) X.env = (false, eval e X.env) :: starEach es X.env := by rfl) (hpl : (backTo pos (starEach es X.env)).any (·.1) = false := by rfl) : DE S X Wx (.Call (.Name x p) (e :: es) [] pos) (eFn o ms) :=
  pe_imp (pe_callB ho hg hm hv ha hn hdb he hpl) fun sg H Q q => tE_bindA (k := fun ta xs h1 => ofO (o xs h1)) q fun rho H1 ta vs ws h1 l rs r g => ⟨rho, h1, ws, l, r, GO.of g⟩
theorem de_callTy {x : Str} {p : Pos} {id : String} {o : List W → HA → Option (W × HA)} (ho : CallR X (.type id) (rAs S o)) (hg : Gl X x) (hm : X.mg x = none) (hv : bootBuiltins x = some (.type id)) (ha : DA S X Wx (e :: es) ms)
    (hn : x ≠ "__name__" := by decide) (hdb : (x == ("__debug__" : Str)) = false := by decide)
    (he : starEach (e :: es) X.env = (false, eval e X.env) :: starEach es X.env := by rfl) (hpl : (backTo pos (starEach es X.env)).any (·.1) = false := by rfl) : DE S X Wx (.Call (.Name x p) (e :: es) [] pos) (eFn o ms) :=
  pe_imp (pe_callTy ho hg hm hv ha hn hdb he hpl) fun sg H Q q => tE_bindA (k := fun ta xs h1 => ofO (o xs h1)) q fun rho H1 ta vs ws h1 l rs r g => ⟨rho, h1, ws, l, r, GO.of g⟩

section
variable {rho : List Addr} {H : Hp} {h : HA}
theorem RVs_one {w : W} {vs : List V} (r : RVs S rho H [w] vs) : ∃ v, vs = [v] ∧ RV S rho H w v := by
  cases r with
  | cons a b => cases b; exact ⟨_, rfl, a⟩
theorem RVs_two {w z : W} {vs : List V} (r : RVs S rho H [w, z] vs) : ∃ v u, vs = [v, u] ∧ RV S rho H w v ∧ RV S rho H z u := by
  cases r with
  | cons a b =>
    cases b with
    | cons c d => cases d; exact ⟨_, _, rfl, a, c⟩
theorem ref_of {i : Nat} {v : V} (r : RV S rho H (.ref i) v) : ∃ p, v = .ref p ∧ rho[i]? = some p := by cases r with | ref e => exact ⟨_, rfl, e⟩
end
/-- the items of a list or a tuple -/
def itW (h : HA) : W → Option (List W)
  | .tup xs => some xs
  | .cst xs => some xs
  | .ref i => rdL h i
  | _ => none
theorem itW_ok (K : S.K = X.K) {rho : List Addr} {H : Hp} {h : HA} (l : Rl S rho h H) {w : W} {v : V} {xs : List W} (r : RV S rho H w v) (e : itW h w = some xs) : ∃ p ys, v = .ref p ∧ (SqL X.K H p ys ∨ SqT X.K H p ys) ∧ RVs S rho H xs ys := by
  cases r with
  | tup a b => cases e; exact ⟨_, _, rfl, .inr (by rw [← K]; exact a), b⟩
  | cst a b => cases e; exact ⟨_, _, rfl, .inl (by rw [← K]; exact a.sq), b⟩
  | ref a =>
    obtain ⟨ys, a1, a2⟩ := rdL_of K l a e
    exact ⟨_, ys, rfl, .inl a1, a2⟩
  | non => cases e
  | bl _ => cases e
  | int _ => cases e
  | str _ => cases e
def fLen : List W → HA → Option (W × HA) := fun xs h => match xs with
  | [.str x] => if x.length ≤ sizeLine then some (.int x.length, h) else none
  | [w] => (itW h w).map fun ys => (.int ys.length, h)
  | _ => none
theorem ok_len (K : S.K = X.K) : CallR X (.builtin "len") (rAs S fLen) := by
  refine clr_imp (clr_or call_len_seq call_len_str) fun xs H Q q => ?_
  obtain ⟨rho, h, as, l, r, g⟩ := q
  unfold fLen at g
  split at g
  · obtain ⟨v, rfl, rv⟩ := RVs_one r
    cases rv
    split at g
    · rename_i c
      exact .inr ⟨_, rfl, c, GO.here g l (.int _)⟩
    · exact g.elim
  · rename_i w _
    obtain ⟨v, rfl, rv⟩ := RVs_one r
    cases e : itW h w with
    | none => rw [e] at g; exact g.elim
    | some ys =>
      rw [e] at g
      obtain ⟨p, zs, rfl, a, b⟩ := itW_ok K l rv e
      exact .inl ⟨p, zs, rfl, a, by rw [← b.length]; exact GO.here g l (.int _)⟩
  · exact g.elim
def fList : List W → HA → Option (W × HA) := fun xs h => match xs with
  | [w] => (itW h w).map fun ys => (.ref h.length, h ++ [.lst ys])
  | _ => none
theorem ok_list (K : S.K = X.K) : CallR X (.type "list") (rAs S fList) := by
  refine clr_imp call_list_of fun xs H Q q => ?_
  obtain ⟨rho, h, as, l, r, g⟩ := q
  unfold fList at g
  split at g
  · rename_i w
    obtain ⟨v, rfl, rv⟩ := RVs_one r
    cases e : itW h w with
    | none => rw [e] at g; exact g.elim
    | some ys =>
      rw [e] at g
      obtain ⟨p, zs, rfl, a, b⟩ := itW_ok K l rv e
      exact ⟨p, zs, rfl, a, fun q n => GO.lstN g l b n⟩
  · exact g.elim
def fTuple : List W → HA → Option (W × HA) := fun xs h => match xs with
  | [w] => (itW h w).map fun ys => (.tup ys, h)
  | _ => none
theorem ok_tuple (K : S.K = X.K) : CallR X (.type "tuple") (rAs S fTuple) := by
  refine clr_imp call_tuple_of fun xs H Q q => ?_
  obtain ⟨rho, h, as, l, r, g⟩ := q
  unfold fTuple at g
  split at g
  · rename_i w
    obtain ⟨v, rfl, rv⟩ := RVs_one r
    cases e : itW h w with
    | none => rw [e] at g; exact g.elim
    | some ys =>
      rw [e] at g
      obtain ⟨p, zs, rfl, a, b⟩ := itW_ok K l rv e
      refine ⟨p, zs, rfl, ?_⟩
      rcases a with a | a
      · exact .inl ⟨a, fun q n => GO.tupN g l b n⟩
      · exact .inr ⟨a, GO.here g l (.tup (by rw [K]; exact a) b)⟩
  · exact g.elim
def fAbs : List W → HA → Option (W × HA) := fun xs h => match xs with
  | [.int i] => some (.int (if i < 0 then -i else i), h)
  | _ => none
theorem ok_abs : CallR X (.builtin "abs") (rAs S fAbs) := by
  refine clr_imp call_abs fun xs H Q q => ?_
  obtain ⟨rho, h, as, l, r, g⟩ := q
  unfold fAbs at g
  split at g
  · obtain ⟨v, rfl, rv⟩ := RVs_one r
    cases rv
    exact ⟨_, rfl, GO.here g l (.int _)⟩
  · exact g.elim
def fInt : List W → HA → Option (W × HA) := fun xs h => match xs with
  | [.int i] => some (.int i, h)
  | [.bl k] => some (.int (if k then 1 else 0), h)
  | _ => none
theorem ok_int : CallR X (.type "int") (rAs S fInt) := by
  refine clr_imp call_int1 fun xs H Q q => ?_
  obtain ⟨rho, h, as, l, r, g⟩ := q
  unfold fInt at g
  split at g
  · obtain ⟨v, rfl, rv⟩ := RVs_one r
    cases rv
    exact .inl ⟨_, rfl, GO.here g l (.int _)⟩
  · obtain ⟨v, rfl, rv⟩ := RVs_one r
    cases rv
    exact .inr ⟨_, rfl, GO.here g l (.int _)⟩
  · exact g.elim

/-! ### subscripts -/
def oIx : W → W → HA → Option (W × HA) := fun x y h => match x, y with
  | .str z, .int i => if z.length ≤ sizeLine then (atI z.cps.toList i).map fun c => (.str ⟨#[c]⟩, h) else none
  | w, .int i => match itW h w with
    | some xs => (atI xs i).map fun v => (v, h)
    | none => none
  | _, _ => none
theorem atI_rv {rho : List Addr} {H : Hp} {xs : List W} {ys : List V} {i : Int} {w : W} (r : RVs S rho H xs ys) (e : atI xs i = some w) : ∃ v, atI ys i = some v ∧ RV S rho H w v := by
  unfold atI at e ⊢
  rw [← r.length]
  cases q : ixN xs.length i with
  | none => rw [q] at e; cases e
  | some j =>
    rw [q] at e
    obtain ⟨v, a, b⟩ := r.get (show xs[j]? = some w from e)
    exact ⟨v, a, b⟩
theorem ok_ix (K : S.K = X.K) : IxR X (rA S oIx) := by
  refine ixr_imp ix_seq fun x y H Q q => ?_
  obtain ⟨rho, h, a, b, l, rx, ry, g⟩ := q
  unfold oIx at g
  split at g
  · cases rx
    cases ry
    split at g
    · rename_i z i c
      cases e : atI z.cps.toList i with
      | none => rw [e] at g; exact g.elim
      | some d =>
        rw [e] at g
        exact .inr (.inr ⟨_, _, d, rfl, rfl, c, e, GO.here g l (.str _)⟩)
    · exact g.elim
  · rename_i i _
    cases ry
    split at g
    · rename_i xs e
      obtain ⟨p, ys, rfl, c, d⟩ := itW_ok K l rx e
      cases e2 : atI xs i with
      | none => rw [e2] at g; exact g.elim
      | some w =>
        rw [e2] at g
        obtain ⟨v, e3, rv⟩ := atI_rv d e2
        rcases c with c | c
        · exact .inl ⟨p, ys, i, v, rfl, rfl, c, e3, GO.here g l rv⟩
        · exact .inr (.inl ⟨p, ys, i, v, rfl, rfl, c, e3, GO.here g l rv⟩)
    · exact g.elim
  · exact g.elim
end
end J

namespace J
open PySem PySem.Spec PyProof.Rows L2

/-! ### isinstance -/
inductive Tg where
  | non | bl | int | str | tup | lst | dic | ins (c : Nat)
def tgW (x : W) (h : HA) : Option Tg := match x with
  | .non => some .non
  | .bl _ => some .bl
  | .int _ => some .int
  | .str _ => some .str
  | .tup _ => some .tup
  | .cst _ => some .lst
  | .ref i => match h[i]? with
    | some (.lst _) => some .lst
    | some (.dic _) => some .dic
    | some (.ins c _) => some (.ins c)
    | _ => none
  | .xcp _ _ => none
def tgV (S : Sta) : Tg → Value
  | .non => .type "NoneType" | .bl => .type "bool" | .int => .type "int" | .str => .type "str" | .tup => .type "tuple" | .lst => .type "list" | .dic => .type "dict"
  | .ins c => .ref (S.ca c)
/-- what the written part must say of a class whose instances are looked at -/
structure Ck (K : PySem.W.Frag) (C : Addr) : Prop where
  cl : Cls K C
  ha : PySem.W.findIn K (.ref C) "__class__" = some (some (.builtin "object.__class__"))
  hn : PySem.W.specialIn K (.builtin "object.__class__") "__get__" = some (some (.builtin "getset_descriptor.__get__"))
  ht : PySem.W.takesIn K (.builtin "object.__class__") = some true
  hm : PySem.W.mroIn K C (.type "object") = some true
section
variable {X : Cx} {S : Sta} {Wx : Wi} {e a b : Expr} {es rest : List Expr} {m m1 m2 : Ex} {ms : Ax} {t u : Tx} {pos : Pos}
/-- the tag of a value, of one of the classes cs where it is an instance -/
def tgC (cs : List Nat) (x : W) (h : HA) : Option Tg := match tgW x h with
  | some (.ins c) => if c ∈ cs then some (.ins c) else none
  | r => r
def eIsi (cs : List Nat) (f : Tg → Option Bool) (m : Ex) : Ex := fun ta h => (m ta h).bind fun x h1 => match tgC cs x h1 with
  | some g => (match f g with
    | some b => .ok (.bl b) h1
    | none => .stuck)
  | none => .stuck
theorem ty_of (K : S.K = X.K) {cs : List Nat} (ck : ∀ c ∈ cs, Ck X.K (S.ca c)) {rho : List Addr} {H : Hp} {h : HA} (l : Rl S rho h H) {w : W} {v : V} {g : Tg} (r : RV S rho H w v) (e : tgC cs w h = some g) : TyX X.K H v (tgV S g) := by
  unfold tgC at e
  cases r with
  | non => cases e; exact .base .non
  | bl b => cases e; exact .base (.bl _)
  | int b => cases e; exact .base (.int _)
  | str b => cases e; exact .base (.str _)
  | tup hp _ =>
    cases e
    rw [K] at hp
    rcases hp with (hp | ⟨o, hp⟩) | ⟨o, its, n, h1, h2, _⟩
    · exact .base (.tup hp)
    · exact .fTuple hp
    · exact .kTuple h1 h2
  | cst hp _ =>
    cases e
    rw [K] at hp
    rcases hp with ⟨o, hp⟩ | ⟨o, its, n, h1, h2, _⟩
    · exact .base (.frz hp)
    · exact .kList h1 h2
  | ref hp =>
    rename_i i p
    obtain ⟨o, ho, ro⟩ := l.lt hp
    cases ro with
    | lst a1 _ => simp [tgW, ho] at e; subst e; exact .base (.lst a1)
    | dic a1 _ => simp [tgW, ho] at e; subst e; exact .base (.dK a1)
    | ins a1 _ =>
      simp [tgW, ho] at e
      obtain ⟨hc, rfl⟩ := e
      have k := ck _ hc
      exact .base (.ins a1 k.cl k.ha k.hn k.ht k.hm)
/-- isinstance(e, T), one class -/
theorem de_isi {cx : Expr} {p : Pos} {cv : V} {u : Value} {cs : List Nat} {f : Tg → Option Bool} (K : S.K = X.K) (ck : ∀ c ∈ cs, Ck X.K (S.ca c)) (hcx : PE X cx (tC cv)) (kc : ClsV cv u) (hf : ∀ g b, f g = some b → PySem.W.kitOne X.K (tgV S g) u = some b)
    (hg : Gl X "isinstance") (hm : X.mg "isinstance" = none) (he : DE S X Wx e m)
    (h1 : starEach (e :: [cx]) X.env = (false, eval e X.env) :: starEach [cx] X.env := by rfl) (h2 : starEach (cx :: []) X.env = (false, eval cx X.env) :: starEach [] X.env := by rfl) (hpl : (backTo pos (starEach [cx] X.env)).any (·.1) = false := by rfl) :
    DE S X Wx (.Call (.Name "isinstance" p) [e, cx] [] pos) (eIsi cs f m) :=
  pe_imp (pe_callB call_isi hg hm PyProof.Rows.boot_isinstance (pa_cons he (pa_cons hcx pa_nil h2) h1) (by decide) (by decide) h1 hpl) fun sg H Q q =>
    tE_bind (k := fun _ x h1 => match tgC cs x h1 with
      | some g => (match f g with
        | some b => .ok (.bl b) h1
        | none => .stuck)
      | none => .stuck) q fun rho H1 ta v w h1 l rs r g => by
      split at g
      · rename_i tg e1
        split at g
        · rename_i b e2
          exact ⟨v, cv, tgV S tg, u, b, rfl, kc, ty_of K ck l r e1, hf _ _ e2, g rho H1 _ Ev.rfl' l (.bl _)⟩
        · exact g.elim
      · exact g.elim
/-- isinstance(e, (T1, T2, ..)) -/
theorem de_isiT {cx : List Expr} {p p2 : Pos} {x1} {cvs : List V} {us : List Value} {cs : List Nat} {f : Tg → Option Bool} (K : S.K = X.K) (ck : ∀ c ∈ cs, Ck X.K (S.ca c)) (hcx : PA X cx (fun _ H Q => Q cvs H)) (kc : Paired ClsV cvs us) (hl : cvs.length ≤ sizeLine)
    (hf : ∀ g b, f g = some b → PySem.W.kitAny X.K (tgV S g) us = some b)
    (hg : Gl X "isinstance") (hm : X.mg "isinstance" = none) (he : DE S X Wx e m)
    (h1 : starEach (e :: [.Tuple cx x1 p2]) X.env = (false, eval e X.env) :: starEach [.Tuple cx x1 p2] X.env := by rfl) (h2 : starEach (.Tuple cx x1 p2 :: []) X.env = (false, eval (.Tuple cx x1 p2) X.env) :: starEach [] X.env := by rfl) (hpl : (backTo pos (starEach [.Tuple cx x1 p2] X.env)).any (·.1) = false := by rfl) :
    DE S X Wx (.Call (.Name "isinstance" p) [e, .Tuple cx x1 p2] [] pos) (eIsi cs f m) :=
  pe_imp (pe_callB call_isiT hg hm PyProof.Rows.boot_isinstance (pa_cons he (pa_cons (pe_tup hcx) pa_nil h2) h1) (by decide) (by decide) h1 hpl) fun sg H Q q =>
    tE_bind (k := fun _ x h1 => match tgC cs x h1 with
      | some g => (match f g with
        | some b => .ok (.bl b) h1
        | none => .stuck)
      | none => .stuck) q fun rho H1 ta v w h1 l rs r g => by
      split at g
      · rename_i tg e1
        split at g
        · rename_i b e2
          refine ⟨hl, fun tp n => ?_⟩
          have ev : Ev S rho H1 rho (upd H1 tp (.tup cvs)) := Ev.lay n
          exact ⟨v, tp, cvs, tgV S tg, us, b, rfl, upd_same, kc, ty_of K ck (l.lay n) (r.mono ev) e1, hf _ _ e2, g rho _ _ ev (l.lay n) (.bl _)⟩
        · exact g.elim
      · exact g.elim
theorem pc_nil : PA X [] (fun _ H Q => Q [] H) := pa_nil
theorem pc_cons {cx : Expr} {cxs : List Expr} {c : V} {cs : List V} (h : PE X cx (tC c)) (k : PA X cxs (fun _ H Q => Q cs H)) (hs : starEach (cx :: cxs) X.env = (false, eval cx X.env) :: starEach cxs X.env := by rfl) : PA X (cx :: cxs) (fun _ H Q => Q (c :: cs) H) := pa_cons h k hs
theorem pc_ty {x : Str} {T : String} (hg : Gl X x) (hm : X.mg x = none) (hv : bootBuiltins x = some (.type T)) (hn : x ≠ "__name__" := by decide) (hd : (x == ("__debug__" : Str)) = false := by decide) : PE X (.Name x pos) (tC (.ty T)) := pe_bltn hg hm hv rfl hn hd
theorem pc_own {x : Str} {C : Addr} (hg : Gl X x) (hm : X.mg x = some (.ref C)) (hd : (x == ("__debug__" : Str)) = false := by decide) : PE X (.Name x pos) (tC (.ref C)) := pe_glob hg hm rfl hd
/-! the built-in classes -/
def isInt : Tg → Option Bool | .int => some true | .bl => some true | .ins _ => none | _ => some false
def isBool : Tg → Option Bool | .bl => some true | .ins _ => none | _ => some false
def isStr : Tg → Option Bool | .str => some true | .ins _ => none | _ => some false
def isTup : Tg → Option Bool | .tup => some true | .ins _ => none | _ => some false
def isLst : Tg → Option Bool | .lst => some true | .ins _ => none | _ => some false
def isLT : Tg → Option Bool | .lst => some true | .tup => some true | .ins _ => none | _ => some false
theorem isInt_ok (K : PySem.W.Frag) (g : Tg) (b : Bool) (e : isInt g = some b) : PySem.W.kitOne K (tgV S g) (.type "int") = some b := by
  cases g <;> cases e <;> exact kit_ty (by decide +kernel)
theorem isBool_ok (K : PySem.W.Frag) (g : Tg) (b : Bool) (e : isBool g = some b) : PySem.W.kitOne K (tgV S g) (.type "bool") = some b := by
  cases g <;> cases e <;> exact kit_ty (by decide +kernel)
theorem isStr_ok (K : PySem.W.Frag) (g : Tg) (b : Bool) (e : isStr g = some b) : PySem.W.kitOne K (tgV S g) (.type "str") = some b := by
  cases g <;> cases e <;> exact kit_ty (by decide +kernel)
theorem isTup_ok (K : PySem.W.Frag) (g : Tg) (b : Bool) (e : isTup g = some b) : PySem.W.kitOne K (tgV S g) (.type "tuple") = some b := by
  cases g <;> cases e <;> exact kit_ty (by decide +kernel)
theorem isLst_ok (K : PySem.W.Frag) (g : Tg) (b : Bool) (e : isLst g = some b) : PySem.W.kitOne K (tgV S g) (.type "list") = some b := by
  cases g <;> cases e <;> exact kit_ty (by decide +kernel)
def kitAB (a : String) : List String → Option Bool
  | [] => some false
  | n :: r => match kitB a n with
    | some true => some true
    | some false => kitAB a r
    | none => none
theorem kitAB_ok {K : PySem.W.Frag} {a : String} : ∀ {ns : List String} {b : Bool}, kitAB a ns = some b → PySem.W.kitAny K (.type a) (ns.map Value.type) = some b
  | [], _, e => by cases e; rfl
  | n :: r, b, e => by
    unfold kitAB at e
    split at e
    · rename_i q
      cases e
      exact kitAny_cons (b := true) (kit_ty q) (fun z => by cases z) (fun _ => rfl)
    · rename_i q
      exact kitAny_cons (b := false) (kit_ty q) (fun _ => kitAB_ok e) (fun z => by cases z)
    · cases e
theorem isLT_ok (K : PySem.W.Frag) (g : Tg) (b : Bool) (e : isLT g = some b) : PySem.W.kitAny K (tgV S g) [.type "list", .type "tuple"] = some b := by
  cases g <;> cases e <;> exact kitAB_ok (ns := ["list", "tuple"]) (by decide +kernel)
theorem paired_lt : Paired ClsV [.ty "list", .ty "tuple"] [.type "list", .type "tuple"] := .cons (.ty _) (.cons (.ty _) .nil)

/-! ### slices -/
def cutL {α : Type} (xs : List α) (lo hi : Option Int) : List α := (xs.drop (HT.sIx xs.length 0 lo)).take (HT.sIx xs.length xs.length hi - HT.sIx xs.length 0 lo)
def oSl (x : W) (lo hi : Option Int) (h : HA) : Option (W × HA) := match x with
  | .str z => if z.length ≤ sizeLine then some (.str (cutS z lo hi), h) else none
  | .tup xs => if HT.sIx xs.length 0 lo = 0 ∧ HT.sIx xs.length xs.length hi = xs.length then none else some (.tup (cutL xs lo hi), h)
  | .ref i => match rdL h i with
    | some xs => some (.ref h.length, h ++ [O.lst (cutL xs lo hi)])
    | none => none
  | _ => none
def rSl (S : Sta) (o : W → Option Int → Option Int → HA → Option (W × HA)) : V → Option Int → Option Int → Hp → VK → Prop := fun x lo hi H Q => ∃ rho h a, Rl S rho h H ∧ RV S rho H a x ∧ GO S rho H Q (o a lo hi h)
theorem RVs_cut {rho : List Addr} {H : Hp} {xs : List W} {ys : List V} (r : RVs S rho H xs ys) (lo hi : Option Int) : RVs S rho H (cutL xs lo hi) (cutV ys lo hi) := by
  unfold cutL cutV
  rw [r.length]
  exact (r.drop _).take _
theorem slr_imp {r r' : V → Option Int → Option Int → Hp → VK → Prop} (h : SlR X r) (i : ∀ x lo hi H Q, r' x lo hi H Q → r x lo hi H Q) : SlR X r' := fun pins s sg H x v vl vu lo hi sl Q I rx hs pl pu q => h pins s sg H x v vl vu lo hi sl Q I rx hs pl pu (i _ _ _ _ _ q)
theorem ok_sl (K : S.K = X.K) : SlR X (rSl S oSl) := by
  refine slr_imp (SlR.or sl_list (SlR.or sl_tup sl_str)) fun x lo hi H Q q => ?_
  obtain ⟨rho, h, a, l, rx, g⟩ := q
  unfold oSl at g
  split at g
  · cases rx
    split at g
    · rename_i c
      exact .inr (.inr ⟨_, rfl, c, GO.here g l (.str _)⟩)
    · exact g.elim
  · cases rx with
    | tup hp r =>
      split at g
      · exact g.elim
      · rename_i c
        refine .inr (.inl ⟨_, _, rfl, by rw [← K]; exact hp, by rw [← r.length]; exact c, fun p n => ?_⟩)
        exact GO.tupN g l (RVs_cut r lo hi) n
  · cases rx with
    | ref hp =>
      split at g
      · rename_i xs e
        obtain ⟨ys, a1, a2⟩ := rdL_of K l hp e
        exact .inl ⟨_, ys, rfl, a1, fun p n => GO.lstN g l (RVs_cut a2 lo hi) n⟩
      · exact g.elim
  · exact g.elim
def toI (x : W) (h1 : HA) : Res (Option Int) := match x with
  | .int i => .ok (some i) h1
  | _ => .stuck
def partV (lo : Option Ex) : En → HA → Res (Option Int) := match lo with
  | none => fun _ h => .ok none h
  | some m => fun ta h => (m ta h).bind toI
theorem Res.bind_assoc {α β γ : Type} (r : Res α) (f : α → HA → Res β) (k : β → HA → Res γ) : (r.bind f).bind k = r.bind fun a h => (f a h).bind k := by
  cases r <;> rfl
def eSl (m : Ex) (lo hi : Option Ex) : Ex := fun ta h => (m ta h).bind fun x h1 => (partV lo ta h1).bind fun l h2 => (partV hi ta h2).bind fun u h3 => ofO (oSl x l u h3)
def tPt (S : Sta) (Wx : Wi) (lo : Option Ex) : TO := match lo with
  | none => tNoPart
  | some m => tPart (tE S Wx m)
def DP (S : Sta) (X : Cx) (Wx : Wi) (e : Option Expr) (lo : Option Ex) : Prop := PO X e (tPt S Wx lo)
theorem dp_none : DP S X Wx none none := po_none
theorem dp_some (h : DE S X Wx e m) : DP S X Wx (some e) (some m) := po_some h
theorem part_of {sg : L2.St} {lo : Option Ex} {ta : En} {rho : List Addr} {H : Hp} {h : HA} {Q : VK} {k : Option Int → HA → Res W} {R : Option Int → Hp → Prop} (l : Rl S rho h H) (rs : RS S Wx rho H ta sg) (g : GE S Wx sg rho H Q ((partV lo ta h).bind k))
    (f : ∀ rho1 H1 o h1, Ev S rho H rho1 H1 → Rl S rho1 h1 H1 → GE S Wx sg rho1 H1 Q (k o h1) → R o H1) : tPt S Wx lo sg H R := by
  cases lo with
  | none => exact f rho H none h Ev.rfl' l g
  | some m =>
    have g' : GE S Wx sg rho H Q (((m ta h).bind toI).bind k) := g
    rw [Res.bind_assoc] at g'
    refine ⟨rho, h, ta, l, rs, GE.of_bind g' fun rho1 H1 v1 w1 h1 ev l1 r1 g1 => ?_⟩
    cases w1 with
    | int i => cases r1; exact ⟨_, rfl, f rho1 H1 _ h1 ev l1 g1⟩
    | _ => exact g1.elim
theorem de_sl {lo hi : Option Expr} {l u : Option Ex} {p2 : Pos} (K : S.K = X.K) (he : DE S X Wx e m) (hl : DP S X Wx lo l) (hu : DP S X Wx hi u) : DE S X Wx (.Subscript e (.Slice lo hi none p2) pos) (eSl m l u) :=
  pe_imp (pe_slice (ok_sl K) he hl hu) fun sg H Q q => tE_bind (k := fun ta x h1 => (partV l ta h1).bind fun l h2 => (partV u ta h2).bind fun u h3 => ofO (oSl x l u h3)) q fun rho H1 ta v w h1 ll rs r g =>
    part_of (S := S) ll rs g fun rho2 H2 o2 h2 ev2 l2 g2 => part_of l2 (rs.mono ev2) g2 fun rho3 H3 o3 h3 ev3 l3 g3 => ⟨rho3, h3, w, l3, (r.mono ev2).mono ev3, GO.of g3⟩

/-! ### attributes -/
theorem RF_len {rho : List Addr} {H : Hp} : ∀ {fs : List (Nat × W)} {gs : List (Str × V)}, RF S rho H fs gs → fs.length = gs.length
  | _, _, .nil => rfl
  | _, _, .cons _ _ t => by rw [List.length_cons, List.length_cons, RF_len t]
theorem nm_inj (nd : S.nm.Nodup) {i j : Nat} {x : Str} (a : S.nm[i]? = some x) (b : S.nm[j]? = some x) : i = j := nd_ix nd a b
theorem RF_get {rho : List Addr} {H : Hp} (nd : S.nm.Nodup) {f : Nat} {x : Str} (hx : S.nm[f]? = some x) : ∀ {fs : List (Nat × W)} {gs : List (Str × V)} {w : W}, RF S rho H fs gs → fs.lookup f = some w → ∃ v, gs.lookup x = some v ∧ RV S rho H w v
  | _, _, _, .nil, e => by cases e
  | _, _, _, .cons (i := i) (x := y) (fs := fs) hn r t, e => by
    by_cases q : f = i
    · subst q
      have : x = y := Option.some.inj (hx.symm.trans hn)
      subst this
      rw [List.lookup_cons_self] at e
      cases e
      exact ⟨_, List.lookup_cons_self, r⟩
    · have q1 : (f == i) = false := by simpa using q
      have q2 : (x == y) = false := by
        have z : x ≠ y := fun z => q (nm_inj nd hx (z ▸ hn))
        simpa using z
      rw [List.lookup_cons, q1] at e
      rw [List.lookup_cons, q2]
      exact RF_get nd hx t e
theorem RF_no {rho : List Addr} {H : Hp} {x : Str} : ∀ {fs : List (Nat × W)} {gs : List (Str × V)}, RF S rho H fs gs → (∀ (i : Nat) (y : Str), S.nm[i]? = some y → y ≠ x) → gs.lookup x = none
  | _, _, .nil, _ => rfl
  | _, _, .cons (x := y) hn r t, h => by
    have q2 : (x == y) = false := by
      have z : x ≠ y := fun z => h _ _ hn z.symm
      simpa using z
    rw [List.lookup_cons, q2]
    exact RF_no t h
def putA (f : Nat) (w : W) : List (Nat × W) → List (Nat × W)
  | [] => [(f, w)]
  | (g, x) :: r => if g = f then (g, w) :: r else (g, x) :: putA f w r
theorem RF_put {rho : List Addr} {H : Hp} (nd : S.nm.Nodup) {f : Nat} {x : Str} (hx : S.nm[f]? = some x) {w : W} {v : V} (rv : RV S rho H w v) : ∀ {fs : List (Nat × W)} {gs : List (Str × V)}, RF S rho H fs gs → RF S rho H (putA f w fs) (putF x v gs)
  | _, _, .nil => .cons hx rv .nil
  | _, _, .cons (i := i) (x := y) hn r t => by
    unfold putA putF
    by_cases q : i = f
    · subst q
      have : x = y := Option.some.inj (hx.symm.trans hn)
      subst this
      rw [if_pos rfl, if_pos rfl]
      exact .cons hn rv t
    · rw [if_neg q, if_neg (fun z : y = x => q (nm_inj nd hn (by rw [z]; exact hx)))]
      exact .cons hn r (RF_put nd hx rv t)
/-- an attribute is read, of an instance of one of the classes cs -/
def oFld (cs : List Nat) (f : Nat) : W → HA → Option (W × HA) := fun x h => match x with
  | .ref i => match h[i]? with
    | some (.ins c fs) => if c ∈ cs then (fs.lookup f).map fun w => (w, h) else none
    | _ => none
  | _ => none
theorem de_fld {x : Str} {f : Nat} {cs : List Nat} (nd : S.nm.Nodup) (hx : S.nm[f]? = some x) (ck : ∀ c ∈ cs, Cls X.K (S.ca c) ∧ NoAttr X.K (S.ca c) x) (he : DE S X Wx e m) (hb : attributeBase e x X.env (eval e X.env) = eval e X.env := by rfl) : DE S X Wx (.Attribute e x pos) (eUn (oFld cs f) m) :=
  pe_imp (pe_fld he hb) fun sg H Q q => tE_bind (k := fun _ x h1 => ofO (oFld cs f x h1)) q fun rho H1 ta v w h1 l rs r g => by
    have g := GO.of g
    unfold oFld at g
    split at g
    · rename_i i
      split at g
      · rename_i c fs o
        split at g
        · rename_i hc
          cases e1 : fs.lookup f with
          | none => rw [e1] at g; exact g.elim
          | some z =>
            rw [e1] at g
            cases r with
            | ref hp =>
              obtain ⟨dx, gs, a1, a2⟩ := ins_of l hp o
              obtain ⟨v, e2, rv⟩ := RF_get nd hx a2 e1
              exact ⟨_, _, dx, gs, v, rfl, a1, (ck c hc).1, (ck c hc).2, e2, GO.here g l rv⟩
        · exact g.elim
      · exact g.elim
    · exact g.elim
end
end J

namespace J
open PySem PySem.Spec PyProof.Rows L2

/-! ### defs as functions -/
abbrev Mir := List W → HA → Res W
def wishX (E : XK) : Wi := ⟨fun c d _ H => E c d H, none⟩
/-- the promise: as the function g says; n parameters -/
def spM (S : Sta) (n : Nat) (g : Mir) : Sp := fun vs H Q E => vs.length = n ∧ ∃ rho h ws, Rl S rho h H ∧ RVs S rho H ws vs ∧ GE S (wishX E) [] rho H Q (g ws h)
/-- the def at f runs as g; ds: the values of its last parameters where they are left out -/
structure FnM (P : Program) (w : World) (K : PySem.W.Frag) (mg : Str → Option Value) (base : Heap) (S : Sta) (k : Nat) (f : Addr) (n : Nat) (g : Mir) (ds : List W) : Prop where
  ex : ∃ (fd : FuncData) (ps : List Str) (dus : List Value) (dvs : List V), ps.length = n ∧ FnOk P w K mg base (L2.CX P w) k f fd ps (spM S n g) ∧ Binds K fd ps dus ∧ Vals dvs dus ∧ ∀ rho H, RVs S rho H ds dvs
section
variable {X : Cx} {S : Sta} {Wx : Wi} {e a b o : Expr} {es rest : List Expr} {m m1 m2 : Ex} {ms : Ax} {t u : Tx} {pos p apos : Pos} {k n : Nat} {f : Addr} {g : Mir} {ds : List W} {x : Str}
theorem GE_wish {sg : L2.St} {rho : List Addr} {H : Hp} {Q : VK} {r : Res W} (h : GE S Wx sg rho H Q r) : GE S (wishX fun c d H => Wx.wx c d sg H) [] rho H Q r := by
  cases r with
  | ok w h' => exact h
  | exc c fs h' => exact h
  | stuck => exact h
/-- a callee runs, with values -/
theorem run_m {pins : List (Addr × Obj)} {sg : L2.St} {H : Hp} {s : Shared} {Q : VK} {us : List Value} {vs : List V} {ws : List W} {rho : List Addr} {h : HA} (G : FnM X.prog X.w X.K X.mg X.base S k f n g ds) (hr : Room k X.A) (tk : Takes X Wx.wx)
    (I : Inv X pins sg H s) (r : Vals vs us) (l : Rl S rho h H) (rw : RVs S rho H ws vs) (hn : ws.length + ds.length = n) (q : GE S Wx sg rho H Q (g (ws ++ ds) h)) : wpAny (model X.prog X.w) X.A (call (.ref f) us) (EP X pins sg Q) X.xe s := by
  obtain ⟨fd, ps, dus, dvs, hp, F, hb, hd, hR⟩ := G.ex
  have hall := rw.append (hR rho H)
  have hlen : (vs ++ dvs).length = n := by rw [← hall.length, List.length_append]; exact hn
  have hv := r.append hd
  have hu : (us ++ dus).length = ps.length := by rw [← hv.length, hlen, hp]
  have hs : spM S n g (vs ++ dvs) H Q (WE Wx.wx sg) := ⟨hlen, rho, h, ws ++ ds, l, hall, GE_wish q⟩
  refine wpAny_call (codeAny_mono (F.run X.A X.stack s H ⟨us, []⟩ (us ++ dus) (vs ++ dvs) Q (WE Wx.wx sg) hr I.env0 (hb s us I.kIn hu) hv hs) fun res s2 z => ?_)
  cases res with
  | error er => exact passAt tk sg pins H s er s2 I z
  | ok fl => cases fl with
    | ret rv => exact I.after z
    | _ => exact z.elim
/-- a def of the text, by its name -/
structure Df (P : Program) (w : World) (K : PySem.W.Frag) (mg : Str → Option Value) (base : Heap) (S : Sta) (k : Nat) (x : Str) (n : Nat) (g : Mir) (ds : List W) : Prop where
  ex : ∃ f, mg x = some (.ref f) ∧ PySem.W.keepIn K (.ref f) = true ∧ FnM P w K mg base S k f n g ds
def eCall (g : Mir) (n : Nat) (ds : List W) (ms : Ax) : Ex := fun ta h => (ms ta h).bind fun ws h1 => if ws.length + ds.length = n then g (ws ++ ds) h1 else .stuck
theorem de_call (G : Df X.prog X.w X.K X.mg X.base S k x n g ds) (hr : Room k X.A) (tk : Takes X Wx.wx) (hg : Gl X x) (ha : DA S X Wx (e :: es) ms) (hdb : (x == ("__debug__" : Str)) = false := by decide)
    (he : starEach (e :: es) X.env = (false, eval e X.env) :: starEach es X.env := by rfl) (hpl : (backTo pos (starEach es X.env)).any (·.1) = false := by rfl) : DE S X Wx (.Call (.Name x p) (e :: es) [] pos) (eCall g n ds ms) := by
  obtain ⟨f, hm, hk, F⟩ := G.ex
  refine ⟨fun pins s sg H Q I q => wpAny_Call_Name_kw (ld_glob I hg hm ?_ hdb)⟩
  have q' := tE_bindA (k := fun ta ws h1 => if ws.length + ds.length = n then g (ws ++ ds) h1 else .stuck) (Q1 := fun vs H1 => ∃ rho h ws, Rl S rho h H1 ∧ RVs S rho H1 ws vs ∧ GE S Wx sg rho H1 Q (if ws.length + ds.length = n then g (ws ++ ds) h else .stuck)) q fun rho1 H1 ta v1 w1 h1 l1 rs r1 g1 => ⟨rho1, h1, w1, l1, r1, g1⟩
  refine PySem.W.callWith_K (h₀ := X.base) I.ok.mod.kin hk (thn (ha.run pos pins s sg H _ I q') fun us s1 ⟨vs, H1, I1, r, rho, h, ws, l, rw', g1⟩ => ⟨I1.kIn, ?_⟩) he hpl
  by_cases c : ws.length + ds.length = n
  · rw [if_pos c] at g1
    exact run_m F hr tk I1 r l rw' c g1
  · rw [if_neg c] at g1; exact g1.elim
theorem de_call0 (G : Df X.prog X.w X.K X.mg X.base S k x n g ds) (hr : Room k X.A) (tk : Takes X Wx.wx) (hg : Gl X x) (hn : ds.length = n) (hdb : (x == ("__debug__" : Str)) = false := by decide) : DE S X Wx (.Call (.Name x p) [] [] pos) (fun _ h => g ds h) := by
  obtain ⟨f, hm, hk, F⟩ := G.ex
  refine ⟨fun pins s sg H Q I q => wpAny_Call_Name_kw (ld_glob I hg hm ?_ hdb)⟩
  obtain ⟨rho, h, ta, l, rs, g1⟩ := q
  exact PySem.W.callWith_K0 I.kIn hk (run_m (us := []) (ws := []) F hr tk I .nil l .nil (by simpa using hn) g1)

/-! ### methods -/
/-- a method m of the class numbered c -/
structure Mt (P : Program) (w : World) (K : PySem.W.Frag) (mg : Str → Option Value) (base : Heap) (S : Sta) (k : Nat) (c : Nat) (m : Str) (n : Nat) (g : Mir) (ds : List W) : Prop where
  cl : Cls K (S.ca c)
  ex : ∃ f, Meth K (S.ca c) m f ∧ FnM P w K mg base S k f n g ds
/-- which method of which class: by the classes' numbers -/
structure Alt where
  c : Nat
  n : Nat
  g : Mir
  ds : List W
def altAt (c : Nat) : List Alt → Option Alt
  | [] => none
  | a :: r => if a.c = c then some a else altAt c r
theorem altAt_ok {c : Nat} {a : Alt} {P : Alt → Prop} : ∀ {l : List Alt}, (∀ b ∈ l, P b) → altAt c l = some a → P a ∧ a.c = c
  | [], _, e => by cases e
  | b :: r, h, e => by
    unfold altAt at e
    split at e
    · rename_i q
      cases e
      exact ⟨h _ List.mem_cons_self, q⟩
    · exact altAt_ok (fun b hb => h b (List.mem_cons_of_mem _ hb)) e
def clsOf (h : HA) : W → Option Nat
  | .ref i => match h[i]? with
    | some (.ins c _) => some c
    | _ => none
  | _ => none
def eMeth (al : List Alt) (m : Ex) (ms : Ax) : Ex := fun ta h => (m ta h).bind fun x h1 => match clsOf h1 x with
  | some c => (match altAt c al with
    | some a => (ms ta h1).bind fun ws h2 => if (x :: ws).length + a.ds.length = a.n then a.g (x :: ws ++ a.ds) h2 else .stuck
    | none => .stuck)
  | none => .stuck
theorem cls_of {rho : List Addr} {H : Hp} {h : HA} {w : W} {v : V} {c : Nat} (l : Rl S rho h H) (r : RV S rho H w v) (e : clsOf h w = some c) : ∃ a dx fs gs, v = .ref a ∧ H a = some (.ins (S.ca c) dx gs) ∧ RF S rho H fs gs := by
  unfold clsOf at e
  split at e
  · rename_i i
    split at e
    · rename_i c' fs o
      cases e
      cases r with
      | ref hp =>
        obtain ⟨dx, gs, a1, a2⟩ := ins_of l hp o
        exact ⟨_, dx, fs, gs, rfl, a1, a2⟩
    · cases e
  · cases e
theorem de_meth {mn : Str} {al : List Alt} {pl : Sem Bool} (ho : DE S X Wx o m) (G : ∀ a ∈ al, Mt X.prog X.w X.K X.mg X.base S k a.c mn a.n a.g a.ds) (hr : Room k X.A) (tk : Takes X Wx.wx) (hno : ∀ (i : Nat) (y : Str), S.nm[i]? = some y → y ≠ mn) (ha : DA S X Wx (e :: es) ms)
    (hst : starEach (e :: es) X.env = (false, eval e X.env) :: starEach es X.env := by rfl) (hpl : (backTo pos (starEach es X.env)).any (·.1) = false := by rfl)
    (ht : eval (.Call (.Attribute o mn apos) (e :: es) [] pos) X.env = (do
      let ov ← eval o X.env
      standAt apos.atName
      let (f, first) ← holding [ov] (getMethod ov mn pl)
      callWith pos f first (backTo pos (starEach (e :: es) X.env)) (backToKw pos (keywordEach [] X.env))) := by rfl) : DE S X Wx (.Call (.Attribute o mn apos) (e :: es) [] pos) (eMeth al m ms) := by
  refine ⟨fun pins s sg H Q I q => PySem.W.methodCall_KW (pl := pl) (thn (ho.run pins s sg H (fun x1 H1 => ∃ rho h ta w c, Rl S rho h H1 ∧ RS S Wx rho H1 ta sg ∧ RV S rho H1 w x1 ∧ clsOf h w = some c ∧ GE S Wx sg rho H1 Q (match altAt c al with
    | some a => (ms ta h).bind fun ws h2 => if (w :: ws).length + a.ds.length = a.n then a.g (w :: ws ++ a.ds) h2 else .stuck
    | none => .stuck)) I ?_) fun uo s1 hh => ?_) ht⟩
  · refine tE_bind (k := fun ta x h1 => match clsOf h1 x with
      | some c => (match altAt c al with
        | some a => (ms ta h1).bind fun ws h2 => if (x :: ws).length + a.ds.length = a.n then a.g (x :: ws ++ a.ds) h2 else .stuck
        | none => .stuck)
      | none => .stuck) q fun rho1 H1 ta v1 w1 h1 l1 rs r1 g1 => ?_
    split at g1
    · rename_i c hc
      exact ⟨rho1, h1, ta, w1, c, l1, rs, r1, hc, g1⟩
    · exact g1.elim
  · obtain ⟨x1, H1, I1, rx, rho, h, ta, w, c, l, rs, r, hc, g1⟩ := hh
    obtain ⟨ad, dx, fs, gs, rfl, ea, ef⟩ := cls_of l r hc
    obtain rfl : uo = Value.ref ad := rx
    split at g1
    · rename_i al1 hal
      obtain ⟨M, rfl⟩ := altAt_ok (P := fun a => Mt X.prog X.w X.K X.mg X.base S k a.c mn a.n a.g a.ds) G hal
      obtain ⟨f, hM, F⟩ := M.ex
      refine getmeth_ok I1 ea M.cl hM (RF_no ef hno) ?_
      have q' : tA S Wx ms sg H1 fun vs H2 => ∃ rho h ws, Rl S rho h H2 ∧ RVs S rho H2 (w :: ws) (V.ref ad :: vs) ∧ GE S Wx sg rho H2 Q (if (w :: ws).length + al1.ds.length = al1.n then al1.g (w :: ws ++ al1.ds) h else .stuck) :=
        ⟨rho, h, ta, l, rs, GA.of_bindE (k := fun ws h2 => if (w :: ws).length + al1.ds.length = al1.n then al1.g (w :: ws ++ al1.ds) h2 else .stuck) g1 fun rho2 H2 v2 w2 h2 ev l2 r2 g2 => ⟨rho2, h2, w2, l2, .cons (r.mono ev) r2, g2⟩⟩
      refine PySem.W.callWith_K (first := [.ref ad]) (h₀ := X.base) I.ok.mod.kin hM.kp (thn (ha.run pos pins s1 sg H1 _ I1 q') fun us s2 ⟨vs, H2, I2, rr, rho2, h2, ws, l2, r2, g2⟩ => ⟨I2.kIn, ?_⟩) hst hpl
      by_cases cc : (w :: ws).length + al1.ds.length = al1.n
      · rw [if_pos cc] at g2
        exact run_m (us := .ref ad :: us) (vs := .ref ad :: vs) F hr tk I2 (.cons rfl rr) l2 r2 cc g2
      · rw [if_neg cc] at g2; exact g2.elim
    · exact g1.elim
def eMeth0 (al : List Alt) (m : Ex) : Ex := fun ta h => (m ta h).bind fun x h1 => match clsOf h1 x with
  | some c => (match altAt c al with
    | some a => if 1 + a.ds.length = a.n then a.g ([x] ++ a.ds) h1 else .stuck
    | none => .stuck)
  | none => .stuck
theorem de_meth0 {mn : Str} {al : List Alt} {pl : Sem Bool} (ho : DE S X Wx o m) (G : ∀ a ∈ al, Mt X.prog X.w X.K X.mg X.base S k a.c mn a.n a.g a.ds) (hr : Room k X.A) (tk : Takes X Wx.wx) (hno : ∀ (i : Nat) (y : Str), S.nm[i]? = some y → y ≠ mn)
    (ht : eval (.Call (.Attribute o mn apos) [] [] pos) X.env = (do
      let ov ← eval o X.env
      standAt apos.atName
      let (f, first) ← holding [ov] (getMethod ov mn pl)
      callWith pos f first (backTo pos (starEach [] X.env)) (backToKw pos (keywordEach [] X.env))) := by rfl) : DE S X Wx (.Call (.Attribute o mn apos) [] [] pos) (eMeth0 al m) := by
  refine ⟨fun pins s sg H Q I q => PySem.W.methodCall_KW (pl := pl) (thn (ho.run pins s sg H (fun x1 H1 => ∃ rho h w c, Rl S rho h H1 ∧ RV S rho H1 w x1 ∧ clsOf h w = some c ∧ GE S Wx sg rho H1 Q (match altAt c al with
    | some a => if 1 + a.ds.length = a.n then a.g ([w] ++ a.ds) h else .stuck
    | none => .stuck)) I ?_) fun uo s1 hh => ?_) ht⟩
  · refine tE_bind (k := fun ta x h1 => match clsOf h1 x with
      | some c => (match altAt c al with
        | some a => if 1 + a.ds.length = a.n then a.g ([x] ++ a.ds) h1 else .stuck
        | none => .stuck)
      | none => .stuck) q fun rho1 H1 ta v1 w1 h1 l1 rs r1 g1 => ?_
    split at g1
    · rename_i c hc
      exact ⟨rho1, h1, w1, c, l1, r1, hc, g1⟩
    · exact g1.elim
  · obtain ⟨x1, H1, I1, rx, rho, h, w, c, l, r, hc, g1⟩ := hh
    obtain ⟨ad, dx, fs, gs, rfl, ea, ef⟩ := cls_of l r hc
    obtain rfl : uo = Value.ref ad := rx
    split at g1
    · rename_i al1 hal
      obtain ⟨M, rfl⟩ := altAt_ok (P := fun a => Mt X.prog X.w X.K X.mg X.base S k a.c mn a.n a.g a.ds) G hal
      obtain ⟨f, hM, F⟩ := M.ex
      refine getmeth_ok I1 ea M.cl hM (RF_no ef hno) ?_
      by_cases cc : 1 + al1.ds.length = al1.n
      · rw [if_pos cc] at g1
        exact PySem.W.callWith_K0 (first := [.ref ad]) I1.kIn hM.kp (run_m (us := [.ref ad]) (vs := [.ref ad]) F hr tk I1 (.cons rfl .nil) l (.cons r .nil) (by simpa using cc) g1)
      · rw [if_neg cc] at g1; exact g1.elim
    · exact g1.elim

/-! ### new instances -/
structure Nw (P : Program) (w : World) (K : PySem.W.Frag) (mg : Str → Option Value) (base : Heap) (S : Sta) (k : Nat) (c : Nat) (x : Str) (n : Nat) (g : Mir) (ds : List W) : Prop where
  at_ : mg x = some (.ref (S.ca c))
  ex : ∃ f, Mk K (S.ca c) f ∧ FnM P w K mg base S k f n g ds
def newC (c : Nat) (n : Nat) (g : Mir) (ds : List W) (ws : List W) (h : HA) : Res W := if (1 + ws.length) + ds.length = n then (match g (.ref h.length :: ws ++ ds) (h ++ [O.ins c []]) with
    | .ok .non h2 => .ok (.ref h.length) h2
    | .ok _ _ => .stuck
    | .exc e fs h2 => .exc e fs h2
    | .stuck => .stuck) else .stuck
def eNew (c : Nat) (n : Nat) (g : Mir) (ds : List W) (ms : Ax) : Ex := fun ta h => (ms ta h).bind (newC c n g ds)
theorem run_new {pins : List (Addr × Obj)} {sg : L2.St} {H : Hp} {s : Shared} {Q : VK} {us : List Value} {vs : List V} {ws : List W} {rho : List Addr} {h : HA} {c : Nat} (M : Mk X.K (S.ca c) f) (G : FnM X.prog X.w X.K X.mg X.base S k f n g ds) (hr : Room (k + 1) X.A) (tk : Takes X Wx.wx)
    (I : Inv X pins sg H s) (r : Vals vs us) (l : Rl S rho h H) (rw : RVs S rho H ws vs) (q : GE S Wx sg rho H Q (newC c n g ds ws h)) : wpAny (model X.prog X.w) X.A (call (.ref (S.ca c)) us) (EP X pins sg Q) X.xe s := by
  unfold newC at q
  by_cases hn : (1 + ws.length) + ds.length = n
  · rw [if_pos hn] at q
    obtain ⟨fd, ps, dus, dvs, hp, F, hb, hd, hR⟩ := G.ex
    have f0 : H s.heap.objs.size = none := I.hok.fresh (Nat.le_refl _)
    have f1 : H (s.heap.objs.size + 1) = none := I.hok.fresh (Nat.le_succ _)
    have l0 := l.lay (o := .own (s.heap.objs.size + 1)) f0
    have f1' : upd H s.heap.objs.size (.own (s.heap.objs.size + 1)) (s.heap.objs.size + 1) = none := by rw [upd_ne (Nat.succ_ne_self _)]; exact f1
    have ev0 : Ev S rho H rho (upd H s.heap.objs.size (.own (s.heap.objs.size + 1))) := Ev.lay f0
    have ev1 := Ev.new (u := HO.ins (S.ca c) s.heap.objs.size []) l0 f1'
    have ev := ev0.trans ev1
    have l1 := l0.new (u := HO.ins (S.ca c) s.heap.objs.size []) (o := O.ins c []) f1' (.ins upd_same .nil)
    have hall : RVs S (rho ++ [s.heap.objs.size + 1]) _ (.ref h.length :: ws ++ ds) (V.ref (s.heap.objs.size + 1) :: (vs ++ dvs)) := .cons (.ref (last_new l0)) ((rw.mono ev).append (hR _ _))
    have hv : Vals (V.ref (s.heap.objs.size + 1) :: (vs ++ dvs)) (Value.ref (s.heap.objs.size + 1) :: (us ++ dus)) := .cons rfl (r.append hd)
    have hlen : (V.ref (s.heap.objs.size + 1) :: (vs ++ dvs)).length = n := by rw [← hall.length]; simp; omega
    have hu : (Value.ref (s.heap.objs.size + 1) :: us ++ dus).length = ps.length := by
      rw [hp, ← hlen]; exact hv.length.symm
    have I2 := Inv.made (C := S.ca c) I
    have hs : spM S n g (V.ref (s.heap.objs.size + 1) :: (vs ++ dvs)) (upd (upd H s.heap.objs.size (.own (s.heap.objs.size + 1))) (s.heap.objs.size + 1) (.ins (S.ca c) s.heap.objs.size [])) (fun v H2 => v = .non ∧ Q (.ref (s.heap.objs.size + 1)) H2) (WE Wx.wx sg) := by
      refine ⟨hlen, _, _, _, l1, hall, ?_⟩
      cases z : g (.ref h.length :: ws ++ ds) (h ++ [O.ins c []]) with
      | ok w2 h2 =>
        rw [z] at q
        cases w2 with
        | non => exact fun rho2 H2 v2 e2 l2 r2 => by cases r2; exact ⟨rfl, q rho2 H2 _ (ev.trans e2) l2 (.ref (e2.at (last_new l0)))⟩
        | _ => exact q.elim
      | exc e fs h2 => rw [z] at q; exact fun rho2 H2 d e2 l2 x2 => q rho2 H2 d (ev.trans e2) l2 x2
      | stuck => rw [z] at q; exact q.elim
    refine wpAny_call (make_map (f := f) I.kIn M.makes M.init (beq_iff_eq.mp M.fn) (codeAny_mono (F.run _ X.stack _ _ ⟨Value.ref (s.heap.objs.size + 1) :: us, []⟩ (Value.ref (s.heap.objs.size + 1) :: (us ++ dus)) _ _ (WE Wx.wx sg) (hr.make (S.ca c) us [])
      (I2.env0.make (S.ca c) us []) (hb _ (Value.ref (s.heap.objs.size + 1) :: us) I2.kIn hu) hv hs) fun res s2 z => ?_))
    cases res with
    | error er => exact passAt tk sg pins _ _ er s2 I2 z
    | ok fl => cases fl with
      | ret rv =>
        obtain ⟨v, H', I3, rr, ev', q3⟩ := I2.after z
        subst ev'
        exact ⟨rr, ⟨V.ref (s.heap.objs.size + 1), H', I3, rfl, q3⟩⟩
      | _ => exact z.elim
  · rw [if_neg hn] at q; exact q.elim
theorem de_new {c : Nat} (G : Nw X.prog X.w X.K X.mg X.base S k c x n g ds) (hr : Room (k + 1) X.A) (tk : Takes X Wx.wx) (hg : Gl X x) (ha : DA S X Wx (e :: es) ms) (hdb : (x == ("__debug__" : Str)) = false := by decide)
    (he : starEach (e :: es) X.env = (false, eval e X.env) :: starEach es X.env := by rfl) (hpl : (backTo pos (starEach es X.env)).any (·.1) = false := by rfl) : DE S X Wx (.Call (.Name x p) (e :: es) [] pos) (eNew c n g ds ms) := by
  obtain ⟨f, M, F⟩ := G.ex
  refine ⟨fun pins s sg H Q I q => wpAny_Call_Name_kw (ld_glob I hg G.at_ ?_ hdb)⟩
  have q' := tE_bindA (k := fun _ => newC c n g ds) (Q1 := fun vs H1 => ∃ rho h ws, Rl S rho h H1 ∧ RVs S rho H1 ws vs ∧ GE S Wx sg rho H1 Q (newC c n g ds ws h)) q fun rho1 H1 ta v1 w1 h1 l1 rs r1 g1 => ⟨rho1, h1, w1, l1, r1, g1⟩
  refine PySem.W.callWith_K (h₀ := X.base) I.ok.mod.kin M.kp (thn (ha.run pos pins s sg H _ I q') fun us s1 ⟨vs, H1, I1, r, rho, h, ws, l, rw', g1⟩ => ⟨I1.kIn, ?_⟩) he hpl
  exact run_new M F hr tk I1 r l rw' g1
theorem de_new0 {c : Nat} (G : Nw X.prog X.w X.K X.mg X.base S k c x n g ds) (hr : Room (k + 1) X.A) (tk : Takes X Wx.wx) (hg : Gl X x) (hdb : (x == ("__debug__" : Str)) = false := by decide) : DE S X Wx (.Call (.Name x p) [] [] pos) (fun _ h => newC c n g ds [] h) := by
  obtain ⟨f, M, F⟩ := G.ex
  refine ⟨fun pins s sg H Q I q => wpAny_Call_Name_kw (ld_glob I hg G.at_ ?_ hdb)⟩
  obtain ⟨rho, h, ta, l, rs, g1⟩ := q
  exact PySem.W.callWith_K0 I.kIn M.kp (run_new (us := []) (ws := []) M F hr tk I .nil l .nil g1)
end
end J

namespace J
open PySem PySem.Spec PyProof.Rows L2

/-! ### statements -/
inductive SR where
  | nx (ta : En) (h : HA) | rt (w : W) (h : HA) | bk (ta : En) (h : HA) | ct (ta : En) (h : HA)
  | exc (c : Nat) (fs : List (Nat × W)) (ta : En) (h : HA) | stuck
abbrev Sx := En → HA → SR
def SR.then (r : SR) (k : Sx) : SR := match r with
  | .nx ta h => k ta h
  | .rt w h => .rt w h
  | .bk ta h => .bk ta h
  | .ct ta h => .ct ta h
  | .exc c fs ta h => .exc c fs ta h
  | .stuck => .stuck
/-- an expression's value, then a statement -/
def Res.to {α : Type} (r : Res α) (ta : En) (k : α → HA → SR) : SR := match r with
  | .ok w h => k w h
  | .exc c fs h => .exc c fs ta h
  | .stuck => .stuck
section
variable (S : Sta)
def GSX (Wx : Wi) (rho : List Addr) (H : Hp) (c : Nat) (fs : List (Nat × W)) (ta : En) (h' : HA) : Prop :=
  ∀ rho' H' sg d, Ev S rho H rho' H' → Rl S rho' h' H' → RS S Wx rho' H' ta sg → RX S rho' H' d fs → Wx.wx (.ref (S.ca c)) d sg H'
def GS (Wx : Wi) (D : Ends) (rho : List Addr) (H : Hp) : SR → Prop
  | .nx ta h' => ∀ rho' H' sg, Ev S rho H rho' H' → Rl S rho' h' H' → RS S Wx rho' H' ta sg → D.nx sg H'
  | .rt w h' => ∀ rho' H' v, Ev S rho H rho' H' → Rl S rho' h' H' → RV S rho' H' w v → D.rt v H'
  | .bk ta h' => ∀ rho' H' sg, Ev S rho H rho' H' → Rl S rho' h' H' → RS S Wx rho' H' ta sg → D.bk sg H'
  | .ct ta h' => ∀ rho' H' sg, Ev S rho H rho' H' → Rl S rho' h' H' → RS S Wx rho' H' ta sg → D.ct sg H'
  | .exc c fs ta h' => GSX S Wx rho H c fs ta h'
  | .stuck => False
def tS (Wx : Wi) (m : Sx) : TS := fun D sg H => ∃ rho h ta, Rl S rho h H ∧ RS S Wx rho H ta sg ∧ GS S Wx D rho H (m ta h)
def DS (X : Cx) (Wx : Wi) (st : Stmt) (m : Sx) : Prop := PS X st (tS S Wx m)
def DB (X : Cx) (Wx : Wi) (st : List Stmt) (m : Sx) : Prop := PSs X st (tS S Wx m)
end
section
variable {X : Cx} {S : Sta} {Wx : Wi} {e a b o : Expr} {es rest : List Expr} {st : Stmt} {sts bd : List Stmt} {m m1 m2 : Ex} {ms : Ax} {t : Tx} {s1 s2 : Sx} {pos p pos' : Pos} {rho rho' : List Addr} {H H' : Hp} {D D' : Ends} {sg : L2.St} {ta : En} {h : HA}
theorem GS.mono {r : SR} (e : Ev S rho H rho' H') (g : GS S Wx D rho H r) : GS S Wx D rho' H' r := by
  cases r with
  | nx ta h => exact fun r2 H2 sg e2 l rs => g r2 H2 sg (e.trans e2) l rs
  | rt ta h => exact fun r2 H2 sg e2 l rs => g r2 H2 sg (e.trans e2) l rs
  | bk ta h => exact fun r2 H2 sg e2 l rs => g r2 H2 sg (e.trans e2) l rs
  | ct ta h => exact fun r2 H2 sg e2 l rs => g r2 H2 sg (e.trans e2) l rs
  | exc c fs ta h => exact fun r2 H2 sg d e2 l rs x => g r2 H2 sg d (e.trans e2) l rs x
  | stuck => exact g
/-- an expression within a statement -/
theorem GS.of_to {r : Res W} {k : W → HA → SR} {Q1 : VK} (rs : RS S Wx rho H ta sg) (g : GS S Wx D rho H (r.to ta k))
    (f : ∀ rho1 H1 v1 w1 h1, Ev S rho H rho1 H1 → Rl S rho1 h1 H1 → RV S rho1 H1 w1 v1 → GS S Wx D rho1 H1 (k w1 h1) → Q1 v1 H1) : GE S Wx sg rho H Q1 r := by
  cases r with
  | ok w h => exact fun r2 H2 v e l rv => f r2 H2 v w h e l rv (GS.mono e g)
  | exc c fs h => exact fun r2 H2 d e l x => g r2 H2 sg d e l (rs.mono e) x
  | stuck => exact g
theorem GS.of_toB {r : Res Bool} {k : Bool → HA → SR} {Q1 : Bool → Hp → Prop} (rs : RS S Wx rho H ta sg) (g : GS S Wx D rho H (r.to ta k))
    (f : ∀ rho1 H1 w1 h1, Ev S rho H rho1 H1 → Rl S rho1 h1 H1 → GS S Wx D rho1 H1 (k w1 h1) → Q1 w1 H1) : GB S Wx sg rho H Q1 r := by
  cases r with
  | ok w h => exact fun r2 H2 e l => f r2 H2 w h e l (GS.mono e g)
  | exc c fs h => exact fun r2 H2 d e l x => g r2 H2 sg d e l (rs.mono e) x
  | stuck => exact g
theorem tS_to {k : En → W → HA → SR} {Q1 : VK} (q : tS S Wx (fun ta h => (m ta h).to ta (k ta)) D sg H)
    (f : ∀ rho1 H1 ta v1 w1 h1, Rl S rho1 h1 H1 → RS S Wx rho1 H1 ta sg → RV S rho1 H1 w1 v1 → GS S Wx D rho1 H1 (k ta w1 h1) → Q1 v1 H1) : tE S Wx m sg H Q1 := by
  obtain ⟨rho, h, ta, l, r, g⟩ := q
  exact ⟨rho, h, ta, l, r, GS.of_to r g fun rho1 H1 v1 w1 h1 e l1 r1 g1 => f rho1 H1 ta v1 w1 h1 l1 (r.mono e) r1 g1⟩
theorem tS_toB {k : En → Bool → HA → SR} {Q1 : Bool → Hp → Prop} (q : tS S Wx (fun ta h => (t ta h).to ta (k ta)) D sg H)
    (f : ∀ rho1 H1 ta w1 h1, Rl S rho1 h1 H1 → RS S Wx rho1 H1 ta sg → GS S Wx D rho1 H1 (k ta w1 h1) → Q1 w1 H1) : tT S Wx t sg H Q1 := by
  obtain ⟨rho, h, ta, l, r, g⟩ := q
  exact ⟨rho, h, ta, l, r, GS.of_toB r g fun rho1 H1 w1 h1 e l1 g1 => f rho1 H1 ta w1 h1 l1 (r.mono e) g1⟩
/-- from one end to another -/
theorem GS.ends {r : SR} (g : GS S Wx D rho H r) (fn : ∀ ta h, r = .nx ta h → ∀ rho' H' sg, Ev S rho H rho' H' → Rl S rho' h H' → RS S Wx rho' H' ta sg → D.nx sg H' → D'.nx sg H')
    (ft : ∀ v H', D.rt v H' → D'.rt v H') (fb : ∀ sg H', D.bk sg H' → D'.bk sg H') (fc : ∀ sg H', D.ct sg H' → D'.ct sg H') : GS S Wx D' rho H r := by
  cases r with
  | nx ta h => exact fun r2 H2 sg e2 l rs => fn ta h rfl r2 H2 sg e2 l rs (g r2 H2 sg e2 l rs)
  | rt ta h => exact fun r2 H2 sg e2 l rs => ft _ _ (g r2 H2 sg e2 l rs)
  | bk ta h => exact fun r2 H2 sg e2 l rs => fb _ _ (g r2 H2 sg e2 l rs)
  | ct ta h => exact fun r2 H2 sg e2 l rs => fc _ _ (g r2 H2 sg e2 l rs)
  | exc c fs ta h => exact g
  | stuck => exact g
theorem GS.of_then {r : SR} {k : Sx} (g : GS S Wx D rho H (r.then k)) : GS S Wx { D with nx := tS S Wx k D } rho H r := by
  cases r with
  | nx ta h => exact fun r2 H2 sg e2 l rs => ⟨r2, h, ta, l, rs, GS.mono e2 g⟩
  | rt ta h => exact g
  | bk ta h => exact g
  | ct ta h => exact g
  | exc c fs ta h => exact g
  | stuck => exact g

/-! ### plain statements -/
def sPass : Sx := fun ta h => .nx ta h
def sBrk : Sx := fun ta h => .bk ta h
def sCnt : Sx := fun ta h => .ct ta h
def sSeq (s1 s2 : Sx) : Sx := fun ta h => (s1 ta h).then s2
def sExp (m : Ex) : Sx := fun ta h => (m ta h).to ta fun _ h1 => .nx ta h1
def sRet (m : Ex) : Sx := fun ta h => (m ta h).to ta fun w h1 => .rt w h1
def sRetN : Sx := fun _ h => .rt .non h
def sIf (t : Tx) (s1 s2 : Sx) : Sx := fun ta h => (t ta h).to ta fun b h1 => if b = true then s1 ta h1 else s2 ta h1
theorem db_nil : DB S X Wx [] sPass := pss_imp pss_nil fun D sg H q => by
  obtain ⟨rho, h, ta, l, r, g⟩ := q
  exact g rho H sg Ev.rfl' l r
theorem db_cons (h1 : DS S X Wx st s1) (h2 : DB S X Wx sts s2) : DB S X Wx (st :: sts) (sSeq s1 s2) := pss_imp (pss_cons h1 h2) fun D sg H q => by
  obtain ⟨rho, h, ta, l, r, g⟩ := q
  exact ⟨rho, h, ta, l, r, GS.of_then g⟩
theorem db_one (h1 : DS S X Wx st s1) : DB S X Wx [st] s1 := pss_one h1
theorem ds_pass : DS S X Wx (.Pass pos) sPass := ps_imp ps_pass fun D sg H q => by
  obtain ⟨rho, h, ta, l, r, g⟩ := q
  exact g rho H sg Ev.rfl' l r
theorem ds_brk : DS S X Wx (.Break pos) sBrk := ps_imp ps_break fun D sg H q => by
  obtain ⟨rho, h, ta, l, r, g⟩ := q
  exact g rho H sg Ev.rfl' l r
theorem ds_cnt : DS S X Wx (.Continue pos) sCnt := ps_imp ps_continue fun D sg H q => by
  obtain ⟨rho, h, ta, l, r, g⟩ := q
  exact g rho H sg Ev.rfl' l r
theorem ds_exp (he : DE S X Wx e m) (hs : swapsWith e none pos.line X.env = pure false := by rfl) : DS S X Wx (.Expr e pos) (sExp m) := ps_imp (ps_expr he hs) fun D sg H q =>
  tS_to (k := fun ta _ h1 => .nx ta h1) q fun rho1 H1 ta v1 w1 h1 l rs r g => g rho1 H1 sg Ev.rfl' l rs
theorem ds_ret (he : DE S X Wx e m) : DS S X Wx (.Return (some e) pos) (sRet m) := ps_imp (ps_ret he) fun D sg H q =>
  tS_to (k := fun ta w h1 => .rt w h1) q fun rho1 H1 ta v1 w1 h1 l rs r g => g rho1 H1 v1 Ev.rfl' l r
theorem ds_retN : DS S X Wx (.Return none pos) sRetN := ps_imp ps_retN fun D sg H q => by
  obtain ⟨rho, h, ta, l, r, g⟩ := q
  exact g rho H .non Ev.rfl' l .non
theorem ds_if {c : Expr} {x y : List Stmt} (hc : DT S X Wx c t) (ha : DB S X Wx x s1) (hb : DB S X Wx y s2) : DS S X Wx (.If c x y pos) (sIf t s1 s2) := ps_imp (ps_if hc ha hb) fun D sg H q =>
  tS_toB (k := fun ta b h1 => if b = true then s1 ta h1 else s2 ta h1) q fun rho1 H1 ta w h1 l rs g => by
    cases w with
    | true => exact ⟨rho1, h1, ta, l, rs, g⟩
    | false => exact ⟨rho1, h1, ta, l, rs, g⟩

/-! ### targets -/
abbrev Tgt := W → En → HA → Option (En × HA)
abbrev Tgs := List W → En → HA → Option (En × HA)
def GG (S : Sta) (Wx : Wi) (rho : List Addr) (H : Hp) (Q : L2.St → Hp → Prop) : Option (En × HA) → Prop
  | some (ta, h') => ∀ rho' H' sg', Ev S rho H rho' H' → Rl S rho' h' H' → RS S Wx rho' H' ta sg' → Q sg' H'
  | none => False
def tG (S : Sta) (Wx : Wi) (g : Tgt) : TG := fun v sg H Q => ∃ rho h ta w, Rl S rho h H ∧ RS S Wx rho H ta sg ∧ RV S rho H w v ∧ GG S Wx rho H Q (g w ta h)
def tGs (S : Sta) (Wx : Wi) (g : Tgs) : TGs := fun vs sg H Q => ∃ rho h ta ws, Rl S rho h H ∧ RS S Wx rho H ta sg ∧ RVs S rho H ws vs ∧ GG S Wx rho H Q (g ws ta h)
def DG (S : Sta) (X : Cx) (Wx : Wi) (e : Expr) (g : Tgt) : Prop := PG X e (tG S Wx g)
def DGs (S : Sta) (X : Cx) (Wx : Wi) (es : List Expr) (g : Tgs) : Prop := PGs X es (tGs S Wx g)
def gNm (i : Nat) : Tgt := fun w ta h => some (ta.set i (some w), h)
def gsNil : Tgs := fun ws ta h => match ws with
  | [] => some (ta, h)
  | _ => none
def gsCons (g : Tgt) (r : Tgs) : Tgs := fun ws ta h => match ws with
  | w :: ws => (match g w ta h with
    | some (ta1, h1) => r ws ta1 h1
    | none => none)
  | [] => none
/-- a, b, .. = a tuple of that length -/
def gTp (n : Nat) (r : Tgs) : Tgt := fun w ta h => match w with
  | .tup xs => if xs.length = n then r xs ta h else none
  | _ => none
/-- .. a list or a tuple of that length -/
def gLT (n : Nat) (r : Tgs) : Tgt := fun w ta h => match itW h w with
  | some xs => if xs.length = n then r xs ta h else none
  | none => none
theorem pg_imp {x : Expr} {g g' : TG} (q : PG X x g) (f : ∀ v sg H Q, g' v sg H Q → g v sg H Q) : PG X x g' := ⟨fun pins s sg H v u Q I r z => q.run pins s sg H v u Q I r (f _ _ _ _ z)⟩
theorem pgs_imp {x : List Expr} {g g' : TGs} (q : PGs X x g) (f : ∀ v sg H Q, g' v sg H Q → g v sg H Q) : PGs X x g' := ⟨fun pins s sg H v u Q I r z => q.run pins s sg H v u Q I r (f _ _ _ _ z)⟩
theorem GG.mono {Q : L2.St → Hp → Prop} {r : Option (En × HA)} (e : Ev S rho H rho' H') (g : GG S Wx rho H Q r) : GG S Wx rho' H' Q r := by
  cases r with
  | some p => obtain ⟨ta, h⟩ := p; exact fun r2 H2 sg e2 l rs => g r2 H2 sg (e.trans e2) l rs
  | none => exact g
theorem dg_name {i : Nat} {x : Str} (hN : X.N.Nodup) (hi : X.N[i]? = some x) (hx : Loc X.env.scope x) (hf : X.fn x = true ∨ X.env.scope.names.lookup x = some .local := by first | exact .inl rfl | exact .inr rfl | assumption) : DG S X Wx (.Name x pos) (gNm i) :=
  pg_imp (pg_name hN hi hx hf) fun v sg H Q q => by
    obtain ⟨rho, h, ta, w, l, rs, r, g⟩ := q
    exact g rho H _ Ev.rfl' l (rs.set r)
theorem dgs_nil : DGs S X Wx [] gsNil := pgs_imp pgs_nil fun v sg H Q q => by
  obtain ⟨rho, h, ta, w, l, rs, r, g⟩ := q
  cases r with
  | nil => exact ⟨rfl, g rho H _ Ev.rfl' l rs⟩
  | cons _ _ => exact g.elim
theorem dgs_cons {g : Tgt} {r : Tgs} (hg : DG S X Wx e g) (k : DGs S X Wx es r) (hs : (assignEach (e :: es) X.env).map (·.2) = assign e X.env :: (assignEach es X.env).map (·.2) := by rfl) : DGs S X Wx (e :: es) (gsCons g r) :=
  pgs_imp (pgs_cons hg k hs) fun v sg H Q q => by
    obtain ⟨rho, h, ta, ws, l, rs, rv, g0⟩ := q
    cases rv with
    | nil => exact g0.elim
    | cons r1 r2 =>
      rename_i w ws v vs
      refine ⟨v, vs, rfl, ⟨rho, h, ta, w, l, rs, r1, ?_⟩⟩
      cases z : g w ta h with
      | none => simp only [gsCons, z] at g0; exact g0
      | some p =>
        obtain ⟨ta1, h1⟩ := p
        simp only [gsCons, z] at g0
        exact fun rho1 H1 sg1 ev l1 rs1 => ⟨rho1, h1, ta1, ws, l1, rs1, r2.mono ev, GG.mono ev g0⟩
theorem dg_tup {k n : Nat} {r : Tgs} (K : S.K = X.K) (hc : X.calm = true) (hr : DGs S X Wx es r) (hn : (assignEach es X.env).length = n := by rfl) (hst : (assignEach es X.env).findIdx? (·.1) = none := by rfl) : DG S X Wx (.Tuple es k pos) (gTp n r) :=
  pg_imp (pg_tup hc hr hn hst) fun v sg H Q q => by
    obtain ⟨rho, h, ta, w, l, rs, rv, g⟩ := q
    cases rv with
    | tup hp r1 =>
      unfold gTp at g
      dsimp only at g
      split at g
      · rename_i c
        exact ⟨_, _, rfl, by rw [← K]; exact hp, by rw [← r1.length]; exact c, ⟨rho, h, ta, _, l, rs, r1, g⟩⟩
      · exact g.elim
    | _ => exact g.elim
theorem pg_or {x : Expr} {g g' : TG} (q : PG X x g) (q' : PG X x g') : PG X x (fun v sg H Q => g v sg H Q ∨ g' v sg H Q) := ⟨fun pins s sg H v u Q I r z => z.elim (fun z => q.run pins s sg H v u Q I r z) fun z => q'.run pins s sg H v u Q I r z⟩
theorem dg_lt {k n : Nat} {r : Tgs} (K : S.K = X.K) (hc : X.calm = true) (hr : DGs S X Wx es r) (hn : (assignEach es X.env).length = n := by rfl) (hst : (assignEach es X.env).findIdx? (·.1) = none := by rfl) : DG S X Wx (.Tuple es k pos) (gLT n r) :=
  pg_imp (pg_or (pg_tup hc hr hn hst) (pg_unl hc hr hn hst)) fun v sg H Q q => by
    obtain ⟨rho, h, ta, w, l, rs, rv, g⟩ := q
    unfold gLT at g
    split at g
    · rename_i xs e
      split at g
      · rename_i c
        obtain ⟨p, ys, rfl, a, b⟩ := itW_ok K l rv e
        rcases a with a | a
        · exact .inr ⟨p, ys, rfl, a, by rw [← b.length]; exact c, ⟨rho, h, ta, xs, l, rs, b, g⟩⟩
        · exact .inl ⟨p, ys, rfl, a, by rw [← b.length]; exact c, ⟨rho, h, ta, xs, l, rs, b, g⟩⟩
      · exact g.elim
    · exact g.elim
/-- o[i] = w, o a list -/
def setW (o i w : W) (h : HA) : Option HA := match o, i with
  | .ref a, .int k => (match h[a]? with
    | some (.lst xs) => (match ixN xs.length k with
      | some j => some (h.set a (.lst (xs.set j w)))
      | none => none)
    | _ => none)
  | _, _ => none
def gSb (m1 m2 : Ex) : Tgt := fun w ta h => match m1 ta h with
  | .ok o h1 => (match m2 ta h1 with
    | .ok i h2 => (match setW o i w h2 with
      | some h3 => some (ta, h3)
      | none => none)
    | _ => none)
  | _ => none
theorem dg_sub (ho : DE S X Wx o m1) (hi : DE S X Wx a m2) (ha : ∀ v, assign (.Subscript o a pos) X.env v = (do
      let ov ← holding [v] (eval o X.env)
      let iv ← holding [v, ov] (eval a X.env)
      standAt pos
      holding [v, ov, iv] (setItem ov iv v)
      release [v, ov, iv] []) := by intro _; rfl) : DG S X Wx (.Subscript o a pos) (gSb m1 m2) :=
  pg_imp (pg_sub ho hi set_list ha) fun v sg H Q q => by
    obtain ⟨rho, h, ta, w, l, rs, rv, g⟩ := q
    unfold gSb at g
    split at g
    · rename_i o1 h1 e1
      split at g
      · rename_i i1 h2 e2
        split at g
        · rename_i h3 e3
          refine ⟨rho, h, ta, l, rs, ?_⟩
          rw [e1]
          intro rho1 H1 v1 ev1 l1 r1
          refine ⟨rho1, h1, ta, l1, rs.mono ev1, ?_⟩
          rw [e2]
          intro rho2 H2 v2 ev2 l2 r2
          unfold setW at e3
          split at e3
          · rename_i a1 k1
            split at e3
            · rename_i xs ox
              split at e3
              · rename_i j ej
                cases e3
                cases r2
                obtain ⟨p, rfl, hp⟩ := ref_of (r1.mono ev2)
                obtain ⟨ys, b1, b2⟩ := lst_of l2 hp ox
                refine ⟨p, ys, k1, j, rfl, rfl, b1, by rw [← b2.length]; exact ej, ?_⟩
                have ev3 := Ev.put (u := HO.lst (ys.set j v)) l2 hp
                have rv2 := (rv.mono (ev1.trans ev2))
                exact g rho2 _ sg ((ev1.trans ev2).trans ev3) (l2.put hp (.lst upd_same ((b2.set rv2 j).mono ev3))) (rs.mono ((ev1.trans ev2).trans ev3))
              · cases e3
            · cases e3
          · cases e3
        · exact g.elim
      · exact g.elim
    · exact g.elim
/-! ### assignments -/
def sAsg (m : Ex) (g : Tgt) : Sx := fun ta h => (m ta h).to ta fun w h1 => match g w ta h1 with
  | some (ta1, h2) => .nx ta1 h2
  | none => .stuck
def sSet (i : Nat) (m : Ex) : Sx := fun ta h => (m ta h).to ta fun w h1 => .nx (ta.set i (some w)) h1
theorem ds_asg {tg : Expr} {g : Tgt} (he : DE S X Wx e m) (hg : DG S X Wx tg g) (hs : swapsWithSole [tg] e pos.line X.env = pure false := by rfl) (hw : swappedStores [tg] e X.env = pure none := by rfl)
    (h1 : (assignEach [tg] X.env).map (·.2) = [assign tg X.env] := by rfl) : DS S X Wx (.Assign [tg] e pos) (sAsg m g) := ps_imp (ps_asg he hg hs hw h1) fun D sg H q =>
  tS_to (k := fun ta w h1 => match g w ta h1 with | some (ta1, h2) => .nx ta1 h2 | none => .stuck) q fun rho1 H1 ta v1 w1 h1 l rs r g1 => by
    refine ⟨rho1, h1, ta, w1, l, rs, r, ?_⟩
    cases z : g w1 ta h1 with
    | none => rw [z] at g1; exact g1
    | some p => obtain ⟨ta1, h2⟩ := p; rw [z] at g1; exact g1
theorem ds_set {i : Nat} {x : Str} (hN : X.N.Nodup) (hi : X.N[i]? = some x) (hx : Loc X.env.scope x) (he : DE S X Wx e m) (hs : swapsWith e (some (.Name x pos')) pos.line X.env = pure false := by rfl)
    (hf : X.fn x = true ∨ X.env.scope.names.lookup x = some .local := by first | exact .inl rfl | exact .inr rfl | assumption) : DS S X Wx (.Assign [.Name x pos'] e pos) (sSet i m) := ps_imp (ps_set hN hi hx he hs hf) fun D sg H q =>
  tS_to (k := fun ta w h1 => .nx (ta.set i (some w)) h1) q fun rho1 H1 ta v1 w1 h1 l rs r g1 => g1 rho1 H1 _ Ev.rfl' l (rs.set r)
/-- o.x = e -/
def setF (f : Nat) (o w : W) (h : HA) : Option HA := match o with
  | .ref i => (match h[i]? with
    | some (.ins c fs) => if fs.length < 1000 then some (h.set i (.ins c (putA f w fs))) else none
    | _ => none)
  | _ => none
def sFd (cs : List Nat) (f : Nat) (mo mv : Ex) : Sx := fun ta h => (mv ta h).to ta fun w h1 => (mo ta h1).to ta fun o h2 => match clsOf h2 o with
  | some c => if c ∈ cs then (match setF f o w h2 with
    | some h3 => .nx ta h3
    | none => .stuck) else .stuck
  | none => .stuck
theorem ds_fld {x : Str} {f : Nat} {cs : List Nat} (nd : S.nm.Nodup) (hx : S.nm[f]? = some x) (ck : ∀ c ∈ cs, Cls X.K (S.ca c) ∧ NoAttr X.K (S.ca c) x) (ho : DE S X Wx o m1) (hv : DE S X Wx e m2)
    (hs : swapsWith e (some (.Attribute o x pos')) pos.line X.env = pure false := by rfl) : DS S X Wx (.Assign [.Attribute o x pos'] e pos) (sFd cs f m1 m2) := ps_imp (ps_fld ho hv hs) fun D sg H q => by
  refine tS_to (k := fun ta w h1 => (m1 ta h1).to ta fun o h2 => match clsOf h2 o with
    | some c => if c ∈ cs then (match setF f o w h2 with
      | some h3 => .nx ta h3
      | none => .stuck) else .stuck
    | none => .stuck) q fun rho1 H1 ta v1 w1 h1 l rs r g1 => ?_
  refine ⟨rho1, h1, ta, l, rs, GS.of_to rs g1 fun rho2 H2 v2 w2 h2 ev l2 r2 g2 => ?_⟩
  split at g2
  · rename_i c hc
    split at g2
    · rename_i hcc
      split at g2
      · rename_i h3 e3
        unfold setF at e3
        split at e3
        · rename_i i
          split at e3
          · rename_i c' fs oi
            have : c' = c := by
              simp only [clsOf, oi] at hc
              exact Option.some.inj hc
            subst this
            split at e3
            · rename_i lt
              cases e3
              obtain ⟨p, rfl, hp⟩ := ref_of r2
              obtain ⟨dx, gs, a1, a2⟩ := ins_of l2 hp oi
              refine ⟨p, S.ca c', dx, gs, rfl, a1, (ck _ hcc).1, (ck _ hcc).2, by rw [← RF_len a2]; exact lt, ?_⟩
              have ev3 := Ev.put (u := HO.ins (S.ca c') dx (putF x v1 gs)) l2 hp
              exact g2 rho2 _ sg ev3 (l2.put hp (.ins upd_same ((RF_put nd hx (r.mono ev) a2).mono ev3))) ((rs.mono ev).mono ev3)
            · cases e3
          · cases e3
        · cases e3
      · exact g2.elim
    · exact g2.elim
  · exact g2.elim
end
end J

namespace J
open PySem PySem.Spec PyProof.Rows L2
section
variable {X : Cx} {S : Sta} {Wx : Wi} {e a b o : Expr} {es rest : List Expr} {st : Stmt} {sts bd : List Stmt} {m m1 m2 : Ex} {ms : Ax} {t : Tx} {s1 s2 : Sx} {pos p pos' : Pos} {rho rho' : List Addr} {H H' : Hp} {D D' : Ends} {sg : L2.St} {ta : En} {h : HA}

/-! ### loops over items that stand -/
/-- one turn's end -/
def SR.turn (r : SR) (k : En → HA → SR) : SR := match r with
  | .nx ta h => k ta h
  | .ct ta h => k ta h
  | .bk ta h => .nx ta h
  | .rt w h => .rt w h
  | .exc c fs ta h => .exc c fs ta h
  | .stuck => .stuck
/-- for w in items: body -/
def forT (g : Tgt) (b : Sx) : List W → Sx
  | [], ta, h => .nx ta h
  | w :: ws, ta, h => match g w ta h with
    | some (ta1, h1) => (b ta1 h1).turn (forT g b ws)
    | none => .stuck
/-- for w in the list at i, as it stands at each turn; mk k w: what the turn is handed -/
def forL (i : Nat) (mk : Nat → W → W) (g : Tgt) (b : Sx) : Nat → Nat → Sx
  | 0, k, ta, h => match rdL h i with
    | some xs => if xs.length ≤ k then .nx ta h else .stuck
    | none => .stuck
  | n + 1, k, ta, h => match rdL h i with
    | some xs => (match xs[k]? with
      | some w => (match g (mk k w) ta h with
        | some (ta1, h1) => (b ta1 h1).turn (forL i mk g b n (k + 1))
        | none => .stuck)
      | none => .stuck)
    | none => .stuck
theorem GS.of_turn {r : SR} {k : Sx} (g : GS S Wx D rho H (r.turn k)) : GS S Wx { D with nx := tS S Wx k D, ct := tS S Wx k D, bk := D.nx } rho H r := by
  cases r with
  | nx ta h => exact fun r2 H2 sg e2 l rs => ⟨r2, h, ta, l, rs, GS.mono e2 g⟩
  | ct ta h => exact fun r2 H2 sg e2 l rs => ⟨r2, h, ta, l, rs, GS.mono e2 g⟩
  | rt ta h => exact g
  | bk ta h => exact g
  | exc c fs ta h => exact g
  | stuck => exact g
/-- what ps_for asks of the loop over J -/
def LoopG (J : It) (g : TG) (tb : TS) (D : Ends) (sg : L2.St) (H1 : Hp) : Prop := ∃ W : Nat → Nat → L2.St → Hp → Prop, (∃ m, W 0 m sg H1) ∧ ∀ i m sg H, W i m sg H →
  (J.stop i H ∧ D.nx sg H) ∨ (J.go i H ∧ ∃ N : L2.St → Hp → Prop, (∀ sg' H', N sg' H' → ∃ m', m' < m ∧ W (i + 1) m' sg' H') ∧ ∀ x H', J.yld i H x H' → g x sg H' fun sg2 H2 => tb { D with nx := N, ct := N, bk := D.nx } sg2 H2)
/-- one turn, the rest k of the loop, a fact F that stays -/
theorem turn_of {F : List Addr → Hp → Prop} (mono : ∀ rho H rho' H', Ev S rho H rho' H' → F rho H → F rho' H') {g : Tgt} {b k : Sx} {w : W} {x : V} {N : L2.St → Hp → Prop} (l : Rl S rho h H) (rs : RS S Wx rho H ta sg) (r : RV S rho H w x) (f : F rho H)
    (q : GS S Wx D rho H (match g w ta h with | some (ta1, h1) => (b ta1 h1).turn k | none => .stuck))
    (hN : ∀ rho' H' h' ta' sg', Rl S rho' h' H' → RS S Wx rho' H' ta' sg' → F rho' H' → GS S Wx D rho' H' (k ta' h') → N sg' H') : tG S Wx g x sg H fun sg2 H2 => tS S Wx b { D with nx := N, ct := N, bk := D.nx } sg2 H2 := by
  refine ⟨rho, h, ta, w, l, rs, r, ?_⟩
  cases z : g w ta h with
  | none => rw [z] at q; exact q
  | some p =>
    obtain ⟨ta1, h1⟩ := p
    rw [z] at q
    intro rho2 H2 sg2 ev2 l2 rs2
    refine ⟨rho2, h1, ta1, l2, rs2, ?_⟩
    have q2 : GS S Wx D rho2 H2 ((b ta1 h1).turn k) := GS.mono ev2 q
    have f2 := mono _ _ _ _ ev2 f
    cases y : b ta1 h1 with
    | nx ta3 h3 => rw [y] at q2; exact fun r3 H3 sg3 e3 l3 rs3 => hN r3 H3 h3 ta3 sg3 l3 rs3 (mono _ _ _ _ e3 f2) (GS.mono e3 q2)
    | ct ta3 h3 => rw [y] at q2; exact fun r3 H3 sg3 e3 l3 rs3 => hN r3 H3 h3 ta3 sg3 l3 rs3 (mono _ _ _ _ e3 f2) (GS.mono e3 q2)
    | rt ta3 h3 => rw [y] at q2; exact q2
    | bk ta3 h3 => rw [y] at q2; exact q2
    | exc c fs ta3 h3 => rw [y] at q2; exact q2
    | stuck => rw [y] at q2; exact q2
theorem loopT {J : It} {g : Tgt} {b : Sx} {xs : List W} (F : List Addr → Hp → Prop) (mono : ∀ rho H rho' H', Ev S rho H rho' H' → F rho H → F rho' H')
    (hgo : ∀ i rho H, F rho H → i < xs.length → J.go i H) (hst : ∀ rho H, F rho H → J.stop xs.length H)
    (hy : ∀ i rho h H x H' w, Rl S rho h H → F rho H → xs[i]? = some w → J.yld i H x H' → ∃ rho', Ev S rho H rho' H' ∧ Rl S rho' h H' ∧ RV S rho' H' w x)
    (l : Rl S rho h H) (rs : RS S Wx rho H ta sg) (f : F rho H) (q : GS S Wx D rho H (forT g b xs ta h)) : LoopG J (tG S Wx g) (tS S Wx b) D sg H := by
  refine ⟨fun i m sg H => ∃ rho h ta, Rl S rho h H ∧ RS S Wx rho H ta sg ∧ F rho H ∧ i ≤ xs.length ∧ m = xs.length - i ∧ GS S Wx D rho H (forT g b (xs.drop i) ta h), ⟨xs.length, rho, h, ta, l, rs, f, Nat.zero_le _, rfl, by simpa using q⟩, ?_⟩
  rintro i m sg H ⟨rho, h, ta, l, rs, f, hi, rfl, q⟩
  by_cases hlt : i < xs.length
  · refine .inr ⟨hgo i rho H f hlt, fun sg' H' => ∃ rho h ta, Rl S rho h H' ∧ RS S Wx rho H' ta sg' ∧ F rho H' ∧ GS S Wx D rho H' (forT g b (xs.drop (i + 1)) ta h), ?_, fun x H' y => ?_⟩
    · rintro sg' H' ⟨rho', h', ta', l', rs', f', q'⟩
      exact ⟨xs.length - (i + 1), by omega, rho', h', ta', l', rs', f', hlt, rfl, q'⟩
    · rw [List.drop_eq_getElem_cons hlt] at q
      obtain ⟨rho', ev, l', r⟩ := hy i rho h H x H' xs[i] l f (List.getElem?_eq_getElem hlt) y
      exact turn_of mono l' (rs.mono ev) r (mono _ _ _ _ ev f) (GS.mono ev q) fun rho2 H2 h2 ta2 sg2 l2 rs2 f2 q2 => ⟨rho2, h2, ta2, l2, rs2, f2, q2⟩
  · have e : i = xs.length := by omega
    subst e
    rw [List.drop_length] at q
    exact .inl ⟨hst rho H f, q rho H sg Ev.rfl' l rs⟩
theorem loopL {J : It} {g : Tgt} {b : Sx} {i0 n : Nat} {mk : Nat → W → W} (F : List Addr → Hp → Prop) (mono : ∀ rho H rho' H', Ev S rho H rho' H' → F rho H → F rho' H')
    (hgo : ∀ i rho h H xs w, Rl S rho h H → F rho H → rdL h i0 = some xs → xs[i]? = some w → J.go i H) (hst : ∀ i rho h H xs, Rl S rho h H → F rho H → rdL h i0 = some xs → xs.length ≤ i → J.stop i H)
    (hy : ∀ i rho h H x H' xs w, Rl S rho h H → F rho H → rdL h i0 = some xs → xs[i]? = some w → J.yld i H x H' → ∃ rho', Ev S rho H rho' H' ∧ Rl S rho' h H' ∧ RV S rho' H' (mk i w) x)
    (l : Rl S rho h H) (rs : RS S Wx rho H ta sg) (f : F rho H) (q : GS S Wx D rho H (forL i0 mk g b n 0 ta h)) : LoopG J (tG S Wx g) (tS S Wx b) D sg H := by
  refine ⟨fun i m sg H => ∃ rho h ta, Rl S rho h H ∧ RS S Wx rho H ta sg ∧ F rho H ∧ GS S Wx D rho H (forL i0 mk g b m i ta h), ⟨n, rho, h, ta, l, rs, f, q⟩, ?_⟩
  rintro i m sg H ⟨rho, h, ta, l, rs, f, q⟩
  cases m with
  | zero =>
    unfold forL at q
    split at q
    · rename_i xs e
      split at q
      · rename_i c
        exact .inl ⟨hst i rho h H xs l f e c, q rho H sg Ev.rfl' l rs⟩
      · exact q.elim
    · exact q.elim
  | succ m =>
    unfold forL at q
    split at q
    · rename_i xs e
      split at q
      · rename_i w ew
        refine .inr ⟨hgo i rho h H xs w l f e ew, fun sg' H' => ∃ rho h ta, Rl S rho h H' ∧ RS S Wx rho H' ta sg' ∧ F rho H' ∧ GS S Wx D rho H' (forL i0 mk g b m (i + 1) ta h), ?_, fun x H' y => ?_⟩
        · rintro sg' H' ⟨rho', h', ta', l', rs', f', q'⟩
          exact ⟨m, Nat.lt_succ_self _, rho', h', ta', l', rs', f', q'⟩
        · obtain ⟨rho', ev, l', r⟩ := hy i rho h H x H' xs w l f e ew y
          exact turn_of mono l' (rs.mono ev) r (mono _ _ _ _ ev f) (GS.mono ev q) fun rho2 H2 h2 ta2 sg2 l2 rs2 f2 q2 => ⟨rho2, h2, ta2, l2, rs2, f2, q2⟩
      · exact q.elim
    · exact q.elim
/-- over a list (as it stands at each turn), or over a tuple -/
def iSeq (K : PySem.W.Frag) (tl : TE) : TI := fun sg H R => tl sg H fun x H1 => ∃ a, x = .ref a ∧ (((∃ xs, SqL K H1 a xs) ∧ R (Itl K a) H1) ∨ ((∃ xs, SqT K H1 a xs) ∧ R (Itt K a) H1))
theorem pi_seq {tg l : Expr} {tl : TE} (hl : PE X l tl) : PI X tg l (iSeq X.K tl) := by
  refine ⟨fun pins s sg H R I q => thn (hl.run pins s sg H _ I q) fun v s1 hh => ?_⟩
  obtain ⟨x, H1, I1, r1, a, e, q1⟩ := hh
  subst e
  cases r1
  have fp : ∀ b ∈ [s1.heap.objs.size], FpOk X pins H1 b := fun b hb => by
    obtain rfl : b = s1.heap.objs.size := by simpa using hb
    exact I1.fpOk (Nat.le_refl _) (I1.hok.fresh (Nat.le_refl _))
  rcases q1 with ⟨⟨xs, hq⟩, q2⟩ | ⟨⟨xs, hq⟩, q2⟩
  · obtain ⟨its, rv, pl, hz⟩ := I1.list hq
    exact wpAny_pyIter_list pl.isList ⟨_, [s1.heap.objs.size], _, _, H1, rfl, I1.kept (t' := s1.toks) (fun b o q => Heap.get?_push_of_some _ q), turn_list a _, ⟨_, Heap.get?_push_size _ rfl, rfl, rfl⟩, fp, q2⟩
  · obtain ⟨its, rv, pl, hz⟩ := I1.tuple hq
    exact wpAny_pyIter_tuple (show s1.heap.IsTuple a its.toArray from pl) ⟨_, [s1.heap.objs.size], _, _, H1, rfl, I1.kept (t' := s1.toks) (fun b o q => Heap.get?_push_of_some _ q), turn_tuple a _, ⟨_, Heap.get?_push_size _ rfl, rfl, rfl⟩, fp, q2⟩
/-- for x in e: e a list or a tuple -/
def sFor (m : Ex) (g : Tgt) (b : Sx) : Sx := fun ta h => (m ta h).to ta fun w h1 => match w with
  | .tup xs => forT g b xs ta h1
  | .cst xs => forT g b xs ta h1
  | .ref i => (match rdL h1 i with
    | some xs => forL i (fun _ w => w) g b xs.length 0 ta h1
    | none => .stuck)
  | _ => .stuck
theorem ds_for {tg it : Expr} {g : Tgt} {b : Sx} (K : S.K = X.K) (hp : PassesOwn (model X.prog X.w) X.A X.env X.xe) (hc : X.calm = true) (he : DE S X Wx it m) (hg : DG S X Wx tg g) (hb : DB S X Wx bd b)
    (hs : ∀ x, foldedSetIterable it X.env x = pure x := by intro _; rfl) : DS S X Wx (.For tg it bd [] pos) (sFor m g b) := ps_imp (ps_for hp hc (pi_seq he) hg hb hs) fun D sg H q => by
  refine tS_to (k := fun ta w h1 => match w with
    | .tup xs => forT g b xs ta h1
    | .cst xs => forT g b xs ta h1
    | .ref i => (match rdL h1 i with
      | some xs => forL i (fun _ w => w) g b xs.length 0 ta h1
      | none => .stuck)
    | _ => .stuck) q fun rho1 H1 ta v1 w1 h1 l rs r g1 => ?_
  split at g1
  · rename_i xs
    cases r with
    | tup hp r1 =>
      rename_i p ys
      rw [K] at hp
      refine ⟨p, rfl, .inr ⟨⟨ys, hp⟩, loopT (S := S) (Wx := Wx) (xs := xs) (fun rho H => SqT X.K H p ys ∧ RVs S rho H xs ys) (fun rho H rho' H' ev f => ⟨by rw [← K]; exact ev.tup _ _ (by rw [K]; exact f.1), f.2.mono ev⟩) (fun i rho H f hi => ?_) (fun rho H f => ?_) (fun i rho h H x H' w l f hw y => ?_) l rs ⟨hp, r1⟩ g1⟩⟩
      · obtain ⟨v, e1, _⟩ := f.2.get (List.getElem?_eq_getElem hi)
        exact ⟨ys, v, f.1, e1⟩
      · exact ⟨ys, f.1, by rw [← f.2.length]; exact Nat.le_refl _⟩
      · obtain ⟨rfl, y⟩ := y
        obtain ⟨v, e1, rv⟩ := f.2.get hw
        have := y ys f.1
        rw [e1] at this
        cases this
        exact ⟨rho, Ev.rfl', l, rv⟩
  · rename_i xs
    cases r with
    | cst hp r1 =>
      rename_i p ys
      refine ⟨p, rfl, .inl ⟨⟨ys, by rw [← K]; exact hp.sq⟩, loopT (S := S) (Wx := Wx) (xs := xs) (fun rho H => SqK S.K H p ys ∧ RVs S rho H xs ys) (fun rho H rho' H' ev f => ⟨ev.cst _ _ f.1, f.2.mono ev⟩) (fun i rho H f hi => ?_) (fun rho H f => ?_) (fun i rho h H x H' w l f hw y => ?_) l rs ⟨hp, r1⟩ g1⟩⟩
      · obtain ⟨v, e1, _⟩ := f.2.get (List.getElem?_eq_getElem hi)
        exact ⟨ys, v, by rw [← K]; exact f.1.sq, e1⟩
      · exact ⟨ys, by rw [← K]; exact f.1.sq, by rw [← f.2.length]; exact Nat.le_refl _⟩
      · obtain ⟨rfl, y⟩ := y
        obtain ⟨v, e1, rv⟩ := f.2.get hw
        have := y ys (by rw [← K]; exact f.1.sq)
        rw [e1] at this
        cases this
        exact ⟨rho, Ev.rfl', l, rv⟩
  · rename_i i
    split at g1
    · rename_i xs e
      obtain ⟨p, rfl, hp⟩ := ref_of r
      obtain ⟨ys, a1, a2⟩ := rdL_of K l hp e
      refine ⟨p, rfl, .inl ⟨⟨ys, a1⟩, loopL (S := S) (Wx := Wx) (fun rho H => rho[i]? = some p) (fun rho H rho' H' ev f => ev.at f) (fun k rho h H xs w l f e ew => ?_) (fun k rho h H xs l f e ew => ?_) (fun k rho h H x H' xs w l f e ew y => ?_) l rs hp g1⟩⟩
      · obtain ⟨ys, a1, a2⟩ := rdL_of K l f e
        obtain ⟨v, e1, _⟩ := a2.get ew
        exact ⟨ys, v, a1, e1⟩
      · obtain ⟨ys, a1, a2⟩ := rdL_of K l f e
        exact ⟨ys, a1, by rw [← a2.length]; exact ew⟩
      · obtain ⟨rfl, y⟩ := y
        obtain ⟨ys, a1, a2⟩ := rdL_of K l f e
        obtain ⟨v, e1, rv⟩ := a2.get ew
        have := y ys a1
        rw [e1] at this
        cases this
        exact ⟨rho, Ev.rfl', l, rv⟩
    · exact g1.elim
  · exact g1.elim
/-- lo, lo + 1, .. -/
def numW (lo : Int) : Nat → List W
  | 0 => []
  | n + 1 => .int lo :: numW (lo + 1) n
theorem numW_len : ∀ (n : Nat) (lo : Int), (numW lo n).length = n
  | 0, _ => rfl
  | n + 1, lo => by unfold numW; rw [List.length_cons, numW_len n]
theorem numW_at : ∀ (n : Nat) (lo : Int) (i : Nat) (w : W), (numW lo n)[i]? = some w → w = .int (lo + i) ∧ i < n
  | 0, _, i, w, e => by simp [numW] at e
  | n + 1, lo, 0, w, e => by simp [numW] at e; subst e; exact ⟨by simp, by omega⟩
  | n + 1, lo, i + 1, w, e => by
    unfold numW at e
    obtain ⟨a, b⟩ := numW_at n (lo + 1) i w (by simpa using e)
    refine ⟨?_, by omega⟩
    rw [a]
    congr 1
    omega
/-- the numbers of range(..) -/
def rng1 : List W → Option (List W)
  | [.int j] => if -(2 ^ 62) ≤ j ∧ j < 2 ^ 62 then some (numW 0 j.toNat) else none
  | _ => none
def rng2 : List W → Option (List W)
  | [.int i, .int j] => if -(2 ^ 62) ≤ i ∧ i < 2 ^ 62 ∧ -(2 ^ 62) ≤ j ∧ j < 2 ^ 62 then some (numW i (j - i).toNat) else none
  | _ => none
def sForR (rng : List W → Option (List W)) (ms : Ax) (g : Tgt) (b : Sx) : Sx := fun ta h => (ms ta h).to ta fun ws h1 => match rng ws with
  | some xs => forT g b xs ta h1
  | none => .stuck
theorem loopR {g : Tgt} {b : Sx} {lo : Int} {n : Nat} (l : Rl S rho h H) (rs : RS S Wx rho H ta sg) (q : GS S Wx D rho H (forT g b (numW lo n) ta h)) : LoopG (Itr lo n) (tG S Wx g) (tS S Wx b) D sg H :=
  loopT (S := S) (Wx := Wx) (fun _ _ => True) (fun _ _ _ _ _ _ => trivial) (fun i _ _ _ hi => by rw [numW_len] at hi; exact hi) (fun _ _ _ => by rw [numW_len]; exact Nat.le_refl _) (fun i rho h H x H' w l f hw y => by
    obtain ⟨rfl, rfl⟩ := y
    obtain ⟨rfl, _⟩ := numW_at _ _ _ _ hw
    exact ⟨rho, Ev.rfl', l, .int _⟩) l rs trivial q
theorem GS.of_toA {r : Res (List W)} {k : List W → HA → SR} {Q1 : List V → Hp → Prop} (rs : RS S Wx rho H ta sg) (g : GS S Wx D rho H (r.to ta k))
    (f : ∀ rho1 H1 v1 w1 h1, Ev S rho H rho1 H1 → Rl S rho1 h1 H1 → RVs S rho1 H1 w1 v1 → GS S Wx D rho1 H1 (k w1 h1) → Q1 v1 H1) : GA S Wx sg rho H Q1 r := by
  cases r with
  | ok w h => exact fun r2 H2 v e l rv => f r2 H2 v w h e l rv (GS.mono e g)
  | exc c fs h => exact fun r2 H2 d e l x => g r2 H2 sg d e l (rs.mono e) x
  | stuck => exact g
theorem tS_toA {k : En → List W → HA → SR} {Q1 : List V → Hp → Prop} (q : tS S Wx (fun ta h => (ms ta h).to ta (k ta)) D sg H)
    (f : ∀ rho1 H1 ta v1 w1 h1, Rl S rho1 h1 H1 → RS S Wx rho1 H1 ta sg → RVs S rho1 H1 w1 v1 → GS S Wx D rho1 H1 (k ta w1 h1) → Q1 v1 H1) : tA S Wx ms sg H Q1 := by
  obtain ⟨rho, h, ta, l, r, g⟩ := q
  exact ⟨rho, h, ta, l, r, GS.of_toA r g fun rho1 H1 v1 w1 h1 e l1 r1 g1 => f rho1 H1 ta v1 w1 h1 l1 (r.mono e) r1 g1⟩
theorem ds_forR1 {tg : Expr} {g : Tgt} {b : Sx} (hp : PassesOwn (model X.prog X.w) X.A X.env X.xe) (hc : X.calm = true) (hgl : Gl X "range") (hm : X.mg "range" = none) (ha : DA S X Wx [a] ms) (hg : DG S X Wx tg g) (hb : DB S X Wx bd b)
    (h1 : starEach [a] X.env = [(false, eval a X.env)] := by rfl) (hs : ∀ x, foldedSetIterable (.Call (.Name "range" p) [a] [] pos') X.env x = pure x := by intro _; rfl) : DS S X Wx (.For tg (.Call (.Name "range" p) [a] [] pos') bd [] pos) (sForR rng1 ms g b) := ps_imp (ps_for hp hc (pi_range1 hgl hm ha h1) hg hb hs) fun D sg H q =>
  tS_toA (k := fun ta ws h1 => match rng1 ws with
    | some xs => forT g b xs ta h1
    | none => .stuck) q fun rho1 H1 ta v1 w1 h1 l rs r g1 => by
    split at g1
    · rename_i xs e
      unfold rng1 at e
      split at e
      · split at e
        · rename_i c
          cases e
          obtain ⟨v, rfl, rv⟩ := RVs_one r
          cases rv
          exact ⟨_, rfl, c.1, c.2, loopR l rs g1⟩
        · cases e
      · cases e
    · exact g1.elim
theorem ds_forR2 {tg : Expr} {g : Tgt} {bb : Sx} (hp : PassesOwn (model X.prog X.w) X.A X.env X.xe) (hc : X.calm = true) (hgl : Gl X "range") (hm : X.mg "range" = none) (ha : DA S X Wx [a, b] ms) (hg : DG S X Wx tg g) (hb : DB S X Wx bd bb)
    (h1 : starEach [a, b] X.env = [(false, eval a X.env), (false, eval b X.env)] := by rfl) (h2 : starEach [b] X.env = [(false, eval b X.env)] := by rfl) (hs : ∀ x, foldedSetIterable (.Call (.Name "range" p) [a, b] [] pos') X.env x = pure x := by intro _; rfl) : DS S X Wx (.For tg (.Call (.Name "range" p) [a, b] [] pos') bd [] pos) (sForR rng2 ms g bb) := ps_imp (ps_for hp hc (pi_range2 hgl hm ha h1 h2) hg hb hs) fun D sg H q =>
  tS_toA (k := fun ta ws h1 => match rng2 ws with
    | some xs => forT g bb xs ta h1
    | none => .stuck) q fun rho1 H1 ta v1 w1 h1 l rs r g1 => by
    split at g1
    · rename_i xs e
      unfold rng2 at e
      split at e
      · split at e
        · rename_i c
          cases e
          obtain ⟨v, u, rfl, rv, ru⟩ := RVs_two r
          cases rv
          cases ru
          exact ⟨_, _, rfl, c, loopR l rs g1⟩
        · cases e
      · cases e
    · exact g1.elim
/-- (0, x), (1, y), .. -/
def enumW : Nat → List W → List W
  | _, [] => []
  | k, x :: xs => .tup [.int (k : Nat), x] :: enumW (k + 1) xs
theorem enumW_len : ∀ (xs : List W) (k : Nat), (enumW k xs).length = xs.length
  | [], _ => rfl
  | x :: xs, k => by unfold enumW; rw [List.length_cons, List.length_cons, enumW_len xs]
theorem enumW_at : ∀ (xs : List W) (k i : Nat) (w : W), (enumW k xs)[i]? = some w → ∃ x, xs[i]? = some x ∧ w = .tup [.int ((k + i : Nat) : Int), x]
  | [], _, i, w, e => by simp [enumW] at e
  | x :: xs, k, 0, w, e => by simp [enumW] at e; subst e; exact ⟨x, rfl, rfl⟩
  | x :: xs, k, i + 1, w, e => by
    unfold enumW at e
    obtain ⟨y, a, b⟩ := enumW_at xs (k + 1) i w (by simpa using e)
    refine ⟨y, by simpa using a, ?_⟩
    rw [b, show k + 1 + i = k + (i + 1) by omega]
/-- for k, x in enumerate(list) -/
def sForE (ms : Ax) (g : Tgt) (b : Sx) : Sx := fun ta h => (ms ta h).to ta fun ws h1 => match ws with
  | [.ref i] => (match rdL h1 i with
    | some xs => forL i (fun k w => .tup [.int (k : Nat), w]) g b xs.length 0 ta h1
    | none => .stuck)
  | [.cst xs] => forT g b (enumW 0 xs) ta h1
  | _ => .stuck
theorem ds_forE {elts : List Expr} {kk : Nat} {tpos : Pos} {g : Tgt} {b : Sx} (K : S.K = X.K) (hp : PassesOwn (model X.prog X.w) X.A X.env X.xe) (hc : X.calm = true) (hgl : Gl X "enumerate") (hm : X.mg "enumerate" = none) (ha : DA S X Wx [a] ms) (hg : DG S X Wx (.Tuple elts kk tpos) g) (hb : DB S X Wx bd b)
    (h1 : starEach [a] X.env = [(false, eval a X.env)] := by rfl) (hs : ∀ x, foldedSetIterable (.Call (.Name "enumerate" p) [a] [] pos') X.env x = pure x := by intro _; rfl) : DS S X Wx (.For (.Tuple elts kk tpos) (.Call (.Name "enumerate" p) [a] [] pos') bd [] pos) (sForE ms g b) := ps_imp (ps_for hp hc (pi_enum hgl hm ha h1) hg hb hs) fun D sg H q =>
  tS_toA (k := fun ta ws h1 => match ws with
    | [.ref i] => (match rdL h1 i with
      | some xs => forL i (fun k w => .tup [.int (k : Nat), w]) g b xs.length 0 ta h1
      | none => .stuck)
    | [.cst xs] => forT g b (enumW 0 xs) ta h1
    | _ => .stuck) q fun rho1 H1 ta v1 w1 h1 l rs r g1 => by
    split at g1
    · rename_i i
      split at g1
      · rename_i xs e
        obtain ⟨v, rfl, rv⟩ := RVs_one r
        obtain ⟨p, rfl, hp⟩ := ref_of rv
        obtain ⟨ys, a1, a2⟩ := rdL_of K l hp e
        refine ⟨p, ys, rfl, a1, loopL (S := S) (Wx := Wx) (fun rho H => rho[i]? = some p) (fun rho H rho' H' ev f => ev.at f) (fun k rho h H xs w l f e ew => ?_) (fun k rho h H xs l f e ew => ?_) (fun k rho h H x H' xs w l f e ew y => ?_) l rs hp g1⟩
        · obtain ⟨ys, a1, a2⟩ := rdL_of K l f e
          obtain ⟨v, e1, _⟩ := a2.get ew
          exact ⟨ys, v, a1, e1⟩
        · obtain ⟨ys, a1, a2⟩ := rdL_of K l f e
          exact ⟨ys, a1, by rw [← a2.length]; exact ew⟩
        · obtain ⟨T, z, rfl, hn, rfl, y⟩ := y
          obtain ⟨ys, a1, a2⟩ := rdL_of K l f e
          obtain ⟨v, e1, rv⟩ := a2.get ew
          have := y ys a1
          rw [e1] at this
          cases this
          exact ⟨rho, Ev.lay hn, l.lay hn, .tup (SqT.of upd_same) (.cons (.int _) (.cons (rv.mono (Ev.lay hn)) .nil))⟩
      · exact g1.elim
    · rename_i xs
      obtain ⟨v, rfl, rv⟩ := RVs_one r
      cases rv with
      | cst hp r1 =>
        rename_i p ys
        refine ⟨p, ys, rfl, by rw [← K]; exact hp.sq, loopT (S := S) (Wx := Wx) (xs := enumW 0 xs) (fun rho H => SqK S.K H p ys ∧ RVs S rho H xs ys) (fun rho H rho' H' ev f => ⟨ev.cst _ _ f.1, f.2.mono ev⟩) (fun i rho H f hi => ?_) (fun rho H f => ?_) (fun i rho h H x H' w l f hw y => ?_) l rs ⟨hp, r1⟩ g1⟩
        · rw [enumW_len] at hi
          obtain ⟨v, e1, _⟩ := f.2.get (List.getElem?_eq_getElem hi)
          exact ⟨ys, v, by rw [← K]; exact f.1.sq, e1⟩
        · exact ⟨ys, by rw [← K]; exact f.1.sq, by rw [enumW_len, ← f.2.length]; exact Nat.le_refl _⟩
        · obtain ⟨T, z, rfl, hn, rfl, y⟩ := y
          obtain ⟨x0, hx0, rfl⟩ := enumW_at _ _ _ _ hw
          obtain ⟨v, e1, rv⟩ := f.2.get hx0
          have := y ys (by rw [← K]; exact f.1.sq)
          rw [e1] at this
          cases this
          exact ⟨rho, Ev.lay hn, l.lay hn, .tup (SqT.of upd_same) (.cons (by rw [Nat.zero_add]; exact .int _) (.cons (rv.mono (Ev.lay hn)) .nil))⟩
    · exact g1.elim
end
end J

namespace J
open PySem PySem.Spec PyProof.Rows L2
section
variable {X : Cx} {S : Sta} {Wx : Wi} {e a b o : Expr} {es rest : List Expr} {st : Stmt} {sts bd : List Stmt} {m m1 m2 : Ex} {ms : Ax} {t : Tx} {s1 s2 : Sx} {pos p pos' : Pos} {rho rho' : List Addr} {H H' : Hp} {D D' : Ends} {sg : L2.St} {ta : En} {h : HA}

/-! ### comprehensions -/
def wipeA (ta : En) : List Nat → En
  | [] => ta
  | v :: vs => (wipeA ta vs).set v none
theorem RS_wipe (r : RS S Wx rho H ta sg) : ∀ vs : List Nat, RS S Wx rho H (wipeA ta vs) (wipe sg vs)
  | [] => r
  | v :: vs => (RS_wipe r vs).drop
def W0 : Wi := ⟨fun _ _ _ _ => False, none⟩
/-- no caught exception is named in a block -/
def clrX (ta : En) : En := ta.map fun o => match o with
  | some w => if noX w = true then some w else none
  | none => none
theorem RS_clr (r : RS S Wx rho H ta sg) : RS S W0 rho H (clrX ta) sg := by
  refine ⟨by unfold clrX; rw [List.length_map]; exact r.len, fun i w q => ?_⟩
  unfold clrX at q
  rw [List.getElem?_map] at q
  cases z : ta[i]? with
  | none => rw [z] at q; cases q
  | some o =>
    rw [z] at q
    cases o with
    | none => cases q
    | some w' =>
      simp only [Option.map_some] at q
      split at q
      · rename_i c
        cases q
        obtain ⟨v, e1, r1⟩ := r.at_ i w z
        rcases r1 with r1 | ⟨c', fs, a, dd, gs, rfl, _⟩
        · exact ⟨v, e1, .inl r1⟩
        · cases c
      · cases q
theorem RS_W0 (hcur : Wx.cur = none) (r : RS S Wx rho H ta sg) : RS S W0 rho H ta sg := ⟨r.len, fun i w q => by
  obtain ⟨v, e1, r1⟩ := r.at_ i w q
  rcases r1 with r1 | ⟨_, _, _, _, _, _, _, z, _⟩
  · exact ⟨v, e1, .inl r1⟩
  · rw [hcur] at z; cases z⟩
/-- targets that store nothing beyond the slots vs -/
def GGv (S : Sta) (Wx : Wi) (vs : List Nat) (sg : L2.St) (rho : List Addr) (H : Hp) (Q : L2.St → Hp → Prop) : Option (En × HA) → Prop
  | some (ta, h') => ∀ rho' H' sg', Ev S rho H rho' H' → Rl S rho' h' H' → RS S Wx rho' H' ta sg' → wipe sg' vs = wipe sg vs → Q sg' H'
  | none => False
def tGv (S : Sta) (Wx : Wi) (vs : List Nat) (g : Tgt) : TG := fun v sg H Q => ∃ rho h ta w, Rl S rho h H ∧ RS S Wx rho H ta sg ∧ RV S rho H w v ∧ GGv S Wx vs sg rho H Q (g w ta h)
def tGsv (S : Sta) (Wx : Wi) (vs : List Nat) (g : Tgs) : TGs := fun v sg H Q => ∃ rho h ta w, Rl S rho h H ∧ RS S Wx rho H ta sg ∧ RVs S rho H w v ∧ GGv S Wx vs sg rho H Q (g w ta h)
def DGv (S : Sta) (X : Cx) (Wx : Wi) (vs : List Nat) (e : Expr) (g : Tgt) : Prop := PG X e (tGv S Wx vs g)
def DGsv (S : Sta) (X : Cx) (Wx : Wi) (vs : List Nat) (es : List Expr) (g : Tgs) : Prop := PGs X es (tGsv S Wx vs g)
theorem set_comm' {α : Type} (l : List α) {i j : Nat} (x y : α) (h : i ≠ j) : (l.set i x).set j y = (l.set j y).set i x := List.set_comm x y h
theorem wipe_set {i : Nat} {x : Option V} : ∀ {vs : List Nat} {sg : L2.St}, i ∈ vs → wipe (sg.set i x) vs = wipe sg vs
  | [], _, h => by cases h
  | v :: vs, sg, h => by
    unfold wipe
    by_cases hv : i ∈ vs
    · rw [wipe_set hv]
    · have e : i = v := by
        rcases List.mem_cons.mp h with z | z
        · exact z
        · exact absurd z hv
      subst e
      have aux : ∀ (us : List Nat), i ∉ us → wipe (sg.set i x) us = (wipe sg us).set i x := by
        intro us
        induction us with
        | nil => intro _; rfl
        | cons u us ih =>
          intro hn
          unfold wipe
          rw [ih (fun z => hn (List.mem_cons_of_mem _ z)), List.set_comm _ _ (fun z => hn (by rw [z]; exact List.mem_cons_self))]
      rw [aux vs hv, List.set_set]
theorem dgv_name {i : Nat} {x : Str} {vs : List Nat} (hN : X.N.Nodup) (hi : X.N[i]? = some x) (hx : Loc X.env.scope x) (hv : i ∈ vs := by decide) (hf : X.fn x = true ∨ X.env.scope.names.lookup x = some .local := by first | exact .inl rfl | exact .inr rfl | assumption) : DGv S X Wx vs (.Name x pos) (gNm i) :=
  pg_imp (pg_name hN hi hx hf) fun v sg H Q q => by
    obtain ⟨rho, h, ta, w, l, rs, r, g⟩ := q
    exact g rho H _ Ev.rfl' l (rs.set r) (wipe_set hv)
theorem dgsv_nil {vs : List Nat} : DGsv S X Wx vs [] gsNil := pgs_imp pgs_nil fun v sg H Q q => by
  obtain ⟨rho, h, ta, w, l, rs, r, g⟩ := q
  cases r with
  | nil => exact ⟨rfl, g rho H _ Ev.rfl' l rs rfl⟩
  | cons _ _ => exact g.elim
theorem dgsv_cons {vs : List Nat} {g : Tgt} {r : Tgs} (hg : DGv S X Wx vs e g) (k : DGsv S X Wx vs es r) (hs : (assignEach (e :: es) X.env).map (·.2) = assign e X.env :: (assignEach es X.env).map (·.2) := by rfl) : DGsv S X Wx vs (e :: es) (gsCons g r) :=
  pgs_imp (pgs_cons hg k hs) fun v sg H Q q => by
    obtain ⟨rho, h, ta, ws, l, rs, rv, g0⟩ := q
    cases rv with
    | nil => exact g0.elim
    | cons r1 r2 =>
      rename_i w ws v vs
      refine ⟨v, vs, rfl, ⟨rho, h, ta, w, l, rs, r1, ?_⟩⟩
      cases z : g w ta h with
      | none => simp only [gsCons, z] at g0; exact g0
      | some p =>
        obtain ⟨ta1, h1⟩ := p
        simp only [gsCons, z] at g0
        intro rho1 H1 sg1 ev l1 rs1 ew
        refine ⟨rho1, h1, ta1, ws, l1, rs1, r2.mono ev, ?_⟩
        cases y : r ws ta1 h1 with
        | none => rw [y] at g0; exact g0
        | some p2 =>
          obtain ⟨ta2, h2⟩ := p2
          rw [y] at g0
          exact fun rho2 H2 sg2 ev2 l2 rs2 ew2 => g0 rho2 H2 sg2 (ev.trans ev2) l2 rs2 (ew2.trans ew)
theorem dgv_tup {vs : List Nat} {k n : Nat} {r : Tgs} (K : S.K = X.K) (hc : X.calm = true) (hr : DGsv S X Wx vs es r) (hn : (assignEach es X.env).length = n := by rfl) (hst : (assignEach es X.env).findIdx? (·.1) = none := by rfl) : DGv S X Wx vs (.Tuple es k pos) (gTp n r) :=
  pg_imp (pg_tup hc hr hn hst) fun v sg H Q q => by
    obtain ⟨rho, h, ta, w, l, rs, rv, g⟩ := q
    cases rv with
    | tup hp r1 =>
      unfold gTp at g
      dsimp only at g
      split at g
      · rename_i c
        exact ⟨_, _, rfl, by rw [← K]; exact hp, by rw [← r1.length]; exact c, ⟨rho, h, ta, _, l, rs, r1, g⟩⟩
      · exact g.elim
    | _ => exact g.elim
/-- a clause's tests -/
def DTs (S : Sta) (X : Cx) (Wx : Wi) (ifs : List Expr) (t : Tx) : Prop := PTs X ifs (tT S Wx t)
def xYes : Tx := fun _ h => .ok true h
theorem pts_imp {ifs : List Expr} {t t' : TT} (h : PTs X ifs t) (f : ∀ sg H Q, t' sg H Q → t sg H Q) : PTs X ifs t' := ⟨fun pins s sg H Q I q => h.run pins s sg H Q I (f _ _ _ q)⟩
theorem dts_nil : DTs S X Wx [] xYes := pts_imp pts_nil fun sg H Q q => by
  obtain ⟨rho, h, ta, l, rs, g⟩ := q
  exact g rho H Ev.rfl' l
theorem dts_one (h : DT S X Wx e t) : DTs S X Wx [e] t := pts_one h
/-- the new list's items, item by item; acc: those so far -/
def lcT (g : Tgt) (t : Tx) (el : Ex) (ta : En) : List W → List W → HA → Option (List W × HA)
  | [], acc, h => some (acc, h)
  | w :: ws, acc, h => match g w ta h with
    | some (ta1, h1) => (match t ta1 h1 with
      | .ok true h2 => (match el ta1 h2 with
        | .ok y h3 => if acc.length < sizeLine then lcT g t el ta ws (acc ++ [y]) h3 else none
        | _ => none)
      | .ok false h2 => lcT g t el ta ws acc h2
      | _ => none)
    | none => none
/-- .. over the list at i as it stands -/
def lcL (i : Nat) (mk : Nat → W → W) (g : Tgt) (t : Tx) (el : Ex) (ta : En) : Nat → Nat → List W → HA → Option (List W × HA)
  | 0, k, acc, h => match rdL h i with
    | some xs => if xs.length ≤ k then some (acc, h) else none
    | none => none
  | n + 1, k, acc, h => match rdL h i with
    | some xs => (match xs[k]? with
      | some w => (match g (mk k w) ta h with
        | some (ta1, h1) => (match t ta1 h1 with
          | .ok true h2 => (match el ta1 h2 with
            | .ok y h3 => if acc.length < sizeLine then lcL i mk g t el ta n (k + 1) (acc ++ [y]) h3 else none
            | _ => none)
          | .ok false h2 => lcL i mk g t el ta n (k + 1) acc h2
          | _ => none)
        | none => none)
      | none => none)
    | none => none
/-- the end: the new list -/
def lcE (r : Option (List W × HA)) : Res W := match r with
  | some (acc, h) => .ok (.ref h.length) (h ++ [O.lst acc])
  | none => .stuck
def LcG (J : It) (g : TG) (tt : TT) (te : TE) (vs : List Nat) (sg : L2.St) (H1 : Hp) (Q : VK) : Prop := ∀ D, H1 D = none → ∃ W : Nat → Nat → Hp → Prop, (∃ m, W 0 m (upd H1 D (.lst []))) ∧ ∀ i m H, W i m H →
  (J.stop i H ∧ Q (.ref D) H) ∨ (J.go i H ∧ ∃ Nx : Hp → Prop, (∀ H', Nx H' → ∃ m', m' < m ∧ W (i + 1) m' H') ∧ ∀ x H', J.yld i H x H' → g x (wipe sg vs) H' fun sg2 H2 => wipe sg2 vs = wipe sg vs ∧ tt sg2 H2 fun b H3 =>
    if b = true then te sg2 H3 fun y H4 => ∃ acc, H4 D = some (.lst acc) ∧ acc.length < sizeLine ∧ Nx (upd H4 D (.lst (acc ++ [y]))) else Nx H3)
theorem wipe_wipe (sg : L2.St) (vs : List Nat) : wipe (wipe sg vs) vs = wipe sg vs := by
  induction vs with
  | nil => rfl
  | cons v vs ih =>
    have aux : ∀ us : List Nat, ∀ l : L2.St, l[v]? = some none ∨ l[v]? = none → (wipe l us)[v]? = some none ∨ (wipe l us)[v]? = none := by
      intro us
      induction us with
      | nil => intro l q; exact q
      | cons u us ih2 =>
        intro l q
        unfold wipe
        by_cases z : u = v
        · subst z
          rw [List.getElem?_set]
          simp
          by_cases zz : u < (wipe l us).length
          · exact .inl zz
          · exact .inr (by omega)
        · rw [List.getElem?_set_ne z]; exact ih2 l q
    have e1 : ∀ us : List Nat, ∀ l : L2.St, wipe (l.set v none) us = (wipe l us).set v none := by
      intro us
      induction us with
      | nil => intro l; rfl
      | cons u us ih2 =>
        intro l
        unfold wipe
        rw [ih2]
        by_cases z : u = v
        · subst z; rfl
        · rw [List.set_comm _ _ (fun q => z q.symm)]
    show (wipe ((wipe sg vs).set v none) vs).set v none = (wipe sg vs).set v none
    rw [e1, List.set_set, ih]
/-- one turn of a block -/
theorem lc_turn {F : List Addr → Hp → Prop} (mono : ∀ rho H rho' H', Tv S rho H rho' H' → F rho H → F rho' H') {g : Tgt} {el : Ex} {w : W} {x : V} {vs : List Nat} {rho0 : List Addr} {H1 : Hp} {Dn : Addr} {acc : List W} {av : List V} {Nx : Hp → Prop}
    {k : List W → HA → Option (List W × HA)} {Z : Option (List W × HA) → Prop}
    (l : Rl S rho h H) (rs : RS S W0 rho H ta (wipe sg vs)) (r : RV S rho H w x) (f : F rho H) (ev : Ev S rho0 H1 rho H) (n1 : H1 Dn = none) (nr : Dn ∉ rho) (hD : H Dn = some (.lst av)) (ra : RVs S rho H acc av)
    (q : Z (match g w ta h with
      | some (ta1, h1) => (match t ta1 h1 with
        | .ok true h2 => (match el ta1 h2 with
          | .ok y h3 => if acc.length < sizeLine then k (acc ++ [y]) h3 else none
          | _ => none)
        | .ok false h2 => k acc h2
        | _ => none)
      | none => none)) (zn : ¬ Z none)
    (hN : ∀ rho' H' h' acc' av', Rl S rho' h' H' → F rho' H' → Ev S rho0 H1 rho' H' → Dn ∉ rho' → H' Dn = some (.lst av') → RVs S rho' H' acc' av' → (∀ (i : Nat) (w : W), (ta[i]? = some (some w)) → ∃ v, (wipe sg vs)[i]? = some (some v) ∧ RV S rho' H' w v) → Z (k acc' h') → Nx H') :
    tGv S W0 vs g x (wipe sg vs) H fun sg2 H2 => wipe sg2 vs = wipe sg vs ∧ tT S W0 t sg2 H2 fun b H3 =>
      if b = true then tE S W0 el sg2 H3 fun y H4 => ∃ acc, H4 Dn = some (.lst acc) ∧ acc.length < sizeLine ∧ Nx (upd H4 Dn (.lst (acc ++ [y]))) else Nx H3 := by
  have env : ∀ {rho' H'}, Ev S rho H rho' H' → ∀ (i : Nat) (w : W), ta[i]? = some (some w) → ∃ v, (wipe sg vs)[i]? = some (some v) ∧ RV S rho' H' w v := fun {rho' H'} e i w z => by
    obtain ⟨v, e1, r1⟩ := rs.at_ i w z
    rcases r1 with r1 | ⟨_, _, _, _, _, _, _, z2, _⟩
    · exact ⟨v, e1, r1.mono e⟩
    · cases z2
  have ne : ∀ {rho' H'}, Ev S rho H rho' H' → Dn ∉ rho' := fun {rho' H'} e hm => by
    rcases e.fresh _ hm with z | z
    · exact nr z
    · rw [hD] at z; cases z
  refine ⟨rho, h, ta, w, l, rs, r, ?_⟩
  cases z1 : g w ta h with
  | none => rw [z1] at q; exact zn q
  | some p =>
    obtain ⟨ta1, h1⟩ := p
    rw [z1] at q
    intro rho2 H2 sg2 ev2 l2 rs2 ew
    rw [wipe_wipe] at ew
    refine ⟨ew, rho2, h1, ta1, l2, rs2, ?_⟩
    dsimp only at q
    cases z2 : t ta1 h1 with
    | exc _ _ _ => rw [z2] at q; exact absurd q zn
    | stuck => rw [z2] at q; exact absurd q zn
    | ok bb h2 =>
      rw [z2] at q
      intro rho3 H3 ev3 l3
      have ev23 := ev2.trans ev3
      cases bb with
      | false =>
        exact hN rho3 H3 h2 acc av l3 (mono _ _ _ _ ev23.tv f) (ev.trans ev23) (ne ev23) (ev23.out _ _ hD nr) (ra.mono ev23) (env ev23) q
      | true =>
        refine ⟨rho3, h2, ta1, l3, rs2.mono ev3, ?_⟩
        dsimp only at q
        cases z3 : el ta1 h2 with
        | exc _ _ _ => rw [z3] at q; exact absurd q zn
        | stuck => rw [z3] at q; exact absurd q zn
        | ok y h3 =>
          rw [z3] at q
          dsimp only at q
          split at q
          · rename_i lt
            intro rho4 H4 v4 ev4 l4 r4
            have ev24 := ev23.trans ev4
            have hD4 := ev24.out _ _ hD nr
            have nt : Free H4 Dn := ⟨by
              rintro ys (c | ⟨ob, c⟩) <;> (rw [hD4] at c; cases c), fun o u c => by rw [hD4] at c; cases c⟩
            have tv : Tv S rho4 H4 rho4 (upd H4 Dn (.lst (av ++ [v4]))) := Tv.side nt
            refine ⟨av, hD4, by rw [← ra.length]; exact lt, ?_⟩
            refine hN rho4 _ h3 (acc ++ [y]) (av ++ [v4]) (l4.side (ne ev24) nt) ?_ ((ev.trans ev24).side n1 nt) (ne ev24) upd_same (((ra.mono ev24).append (.cons r4 .nil)).monoT tv) (fun i w c => ?_) q
            · exact mono _ _ _ _ tv (mono _ _ _ _ ev24.tv f)
            · obtain ⟨v, c1, c2⟩ := env ev24 i w c
              exact ⟨v, c1, c2.monoT tv⟩
          · exact absurd q zn
/-- the frame's values hold on -/
def EnvH (S : Sta) (ta : En) (sg : L2.St) (rho : List Addr) (H : Hp) : Prop := ∀ (i : Nat) (w : W), ta[i]? = some (some w) → ∃ v, sg[i]? = some (some v) ∧ RV S rho H w v
theorem EnvH.rs (hl : ta.length = sg.length) (q : EnvH S ta sg rho H) : RS S W0 rho H ta sg := ⟨hl, fun i w z => let ⟨v, a, b⟩ := q i w z; ⟨v, a, .inl b⟩⟩
theorem lc_end {rho0 : List Addr} {H1 : Hp} {Dn : Addr} {acc : List W} {av : List V} {Q : VK} {sg0 : L2.St} (l : Rl S rho h H) (ev : Ev S rho0 H1 rho H) (n1 : H1 Dn = none) (nr : Dn ∉ rho) (hD : H Dn = some (.lst av)) (ra : RVs S rho H acc av)
    (q : GE S Wx sg0 rho0 H1 Q (lcE (some (acc, h)))) : Q (.ref Dn) H :=
  q (rho ++ [Dn]) H (.ref Dn) (ev.add n1) (l.add nr (.lst hD (ra.monoT Tv.add))) (.ref (last_new l))
theorem lcLoopT {J : It} {g : Tgt} {el : Ex} {xs : List W} {vs : List Nat} {Q : VK} {sg0 : L2.St} (F : List Addr → Hp → Prop) (mono : ∀ rho H rho' H', Tv S rho H rho' H' → F rho H → F rho' H')
    (hgo : ∀ i rho H, F rho H → i < xs.length → J.go i H) (hst : ∀ rho H, F rho H → J.stop xs.length H)
    (hy : ∀ i rho h H x H' w, Rl S rho h H → F rho H → xs[i]? = some w → J.yld i H x H' → ∃ rho', Ev S rho H rho' H' ∧ Rl S rho' h H' ∧ RV S rho' H' w x)
    (l : Rl S rho h H) (rs : RS S W0 rho H ta (wipe sg vs)) (f : F rho H) (q : GE S Wx sg0 rho H Q (lcE (lcT g t el ta xs [] h))) : LcG J (tGv S W0 vs g) (tT S W0 t) (tE S W0 el) vs sg H Q := by
  intro Dn n1
  have env0 : EnvH S ta (wipe sg vs) rho H := fun i w z => by
    obtain ⟨v, e1, r1⟩ := rs.at_ i w z
    rcases r1 with r1 | ⟨_, _, _, _, _, _, _, z2, _⟩
    · exact ⟨v, e1, r1⟩
    · cases z2
  refine ⟨fun i m H2 => ∃ rho2 h2 acc av, Rl S rho2 h2 H2 ∧ EnvH S ta (wipe sg vs) rho2 H2 ∧ F rho2 H2 ∧ Ev S rho H rho2 H2 ∧ Dn ∉ rho2 ∧ H2 Dn = some (.lst av) ∧ RVs S rho2 H2 acc av ∧ i ≤ xs.length ∧ m = xs.length - i ∧
    GE S Wx sg0 rho H Q (lcE (lcT g t el ta (xs.drop i) acc h2)), ⟨xs.length, rho, h, [], [], l.lay n1, fun i w z => ?_, mono _ _ _ _ (Ev.lay n1).tv f, Ev.lay n1, l.fresh n1, upd_same, .nil, Nat.zero_le _, rfl, by simpa using q⟩, ?_⟩
  · obtain ⟨v, a, b⟩ := env0 i w z
    exact ⟨v, a, b.mono (Ev.lay n1)⟩
  rintro i m H2 ⟨rho2, h2, acc, av, l2, en2, f2, ev2, nr2, hD2, ra2, hi, rfl, q2⟩
  by_cases hlt : i < xs.length
  · refine .inr ⟨hgo i rho2 H2 f2 hlt, fun H' => ∃ rho3 h3 acc av, Rl S rho3 h3 H' ∧ EnvH S ta (wipe sg vs) rho3 H' ∧ F rho3 H' ∧ Ev S rho H rho3 H' ∧ Dn ∉ rho3 ∧ H' Dn = some (.lst av) ∧ RVs S rho3 H' acc av ∧ GE S Wx sg0 rho H Q (lcE (lcT g t el ta (xs.drop (i + 1)) acc h3)), ?_, fun x H' y => ?_⟩
    · rintro H' ⟨rho3, h3, acc3, av3, l3, en3, f3, ev3, nr3, hD3, ra3, q3⟩
      exact ⟨xs.length - (i + 1), by omega, rho3, h3, acc3, av3, l3, en3, f3, ev3, nr3, hD3, ra3, hlt, rfl, q3⟩
    · rw [List.drop_eq_getElem_cons hlt] at q2
      obtain ⟨rho', ev, l', r⟩ := hy i rho2 h2 H2 x H' xs[i] l2 f2 (List.getElem?_eq_getElem hlt) y
      have nr' : Dn ∉ rho' := fun hm => by
        rcases ev.fresh _ hm with z | z
        · exact nr2 z
        · rw [hD2] at z; cases z
      refine lc_turn (S := S) (k := lcT g t el ta (xs.drop (i + 1))) (Z := fun r => GE S Wx sg0 rho H Q (lcE r)) mono l' ((EnvH.rs rs.len (fun i w z => let ⟨v, a, b⟩ := en2 i w z; ⟨v, a, b.mono ev⟩))) r (mono _ _ _ _ ev.tv f2) (ev2.trans ev) n1 nr' (ev.out _ _ hD2 nr2) (ra2.mono ev) q2 (fun z => z) fun rho3 H3 h3 acc3 av3 l3 f3 ev3 nr3 hD3 ra3 en3 q3 => ⟨rho3, h3, acc3, av3, l3, en3, f3, ev3, nr3, hD3, ra3, q3⟩
  · have e : i = xs.length := by omega
    subst e
    rw [List.drop_length] at q2
    exact .inl ⟨hst rho2 H2 f2, lc_end l2 ev2 n1 nr2 hD2 ra2 q2⟩
theorem lcLoopL {J : It} {g : Tgt} {el : Ex} {i0 n : Nat} {mk : Nat → W → W} {vs : List Nat} {Q : VK} {sg0 : L2.St} (F : List Addr → Hp → Prop) (mono : ∀ rho H rho' H', Tv S rho H rho' H' → F rho H → F rho' H')
    (hgo : ∀ i rho h H xs w, Rl S rho h H → F rho H → rdL h i0 = some xs → xs[i]? = some w → J.go i H) (hst : ∀ i rho h H xs, Rl S rho h H → F rho H → rdL h i0 = some xs → xs.length ≤ i → J.stop i H)
    (hy : ∀ i rho h H x H' xs w, Rl S rho h H → F rho H → rdL h i0 = some xs → xs[i]? = some w → J.yld i H x H' → ∃ rho', Ev S rho H rho' H' ∧ Rl S rho' h H' ∧ RV S rho' H' (mk i w) x)
    (l : Rl S rho h H) (rs : RS S W0 rho H ta (wipe sg vs)) (f : F rho H) (q : GE S Wx sg0 rho H Q (lcE (lcL i0 mk g t el ta n 0 [] h))) : LcG J (tGv S W0 vs g) (tT S W0 t) (tE S W0 el) vs sg H Q := by
  intro Dn n1
  have env0 : EnvH S ta (wipe sg vs) rho H := fun i w z => by
    obtain ⟨v, e1, r1⟩ := rs.at_ i w z
    rcases r1 with r1 | ⟨_, _, _, _, _, _, _, z2, _⟩
    · exact ⟨v, e1, r1⟩
    · cases z2
  refine ⟨fun i m H2 => ∃ rho2 h2 acc av, Rl S rho2 h2 H2 ∧ EnvH S ta (wipe sg vs) rho2 H2 ∧ F rho2 H2 ∧ Ev S rho H rho2 H2 ∧ Dn ∉ rho2 ∧ H2 Dn = some (.lst av) ∧ RVs S rho2 H2 acc av ∧
    GE S Wx sg0 rho H Q (lcE (lcL i0 mk g t el ta m i acc h2)), ⟨n, rho, h, [], [], l.lay n1, fun i w z => ?_, mono _ _ _ _ (Ev.lay n1).tv f, Ev.lay n1, l.fresh n1, upd_same, .nil, q⟩, ?_⟩
  · obtain ⟨v, a, b⟩ := env0 i w z
    exact ⟨v, a, b.mono (Ev.lay n1)⟩
  rintro i m H2 ⟨rho2, h2, acc, av, l2, en2, f2, ev2, nr2, hD2, ra2, q2⟩
  cases m with
  | zero =>
    unfold lcL at q2
    cases e : rdL h2 i0 with
    | none => rw [e] at q2; exact q2.elim
    | some xs =>
      rw [e] at q2
      dsimp only at q2
      split at q2
      · rename_i c
        exact .inl ⟨hst i rho2 h2 H2 xs l2 f2 e c, lc_end l2 ev2 n1 nr2 hD2 ra2 q2⟩
      · exact q2.elim
  | succ m =>
    unfold lcL at q2
    cases e : rdL h2 i0 with
    | none => rw [e] at q2; exact q2.elim
    | some xs =>
      rw [e] at q2
      dsimp only at q2
      cases ew : xs[i]? with
      | none => rw [ew] at q2; exact q2.elim
      | some w =>
        rw [ew] at q2
        dsimp only at q2
        refine .inr ⟨hgo i rho2 h2 H2 xs w l2 f2 e ew, fun H' => ∃ rho3 h3 acc av, Rl S rho3 h3 H' ∧ EnvH S ta (wipe sg vs) rho3 H' ∧ F rho3 H' ∧ Ev S rho H rho3 H' ∧ Dn ∉ rho3 ∧ H' Dn = some (.lst av) ∧ RVs S rho3 H' acc av ∧ GE S Wx sg0 rho H Q (lcE (lcL i0 mk g t el ta m (i + 1) acc h3)), ?_, fun x H' y => ?_⟩
        · rintro H' ⟨rho3, h3, acc3, av3, l3, en3, f3, ev3, nr3, hD3, ra3, q3⟩
          exact ⟨m, Nat.lt_succ_self _, rho3, h3, acc3, av3, l3, en3, f3, ev3, nr3, hD3, ra3, q3⟩
        · obtain ⟨rho', ev, l', r⟩ := hy i rho2 h2 H2 x H' xs w l2 f2 e ew y
          have nr' : Dn ∉ rho' := fun hm => by
            rcases ev.fresh _ hm with z | z
            · exact nr2 z
            · rw [hD2] at z; cases z
          refine lc_turn (S := S) (k := lcL i0 mk g t el ta m (i + 1)) (Z := fun r => GE S Wx sg0 rho H Q (lcE r)) mono l' ((EnvH.rs rs.len (fun i w z => let ⟨v, a, b⟩ := en2 i w z; ⟨v, a, b.mono ev⟩))) r (mono _ _ _ _ ev.tv f2) (ev2.trans ev) n1 nr' (ev.out _ _ hD2 nr2) (ra2.mono ev) q2 (fun z => z) fun rho3 H3 h3 acc3 av3 l3 f3 ev3 nr3 hD3 ra3 en3 q3 => ⟨rho3, h3, acc3, av3, l3, en3, f3, ev3, nr3, hD3, ra3, q3⟩
/-- what is walked: a value's items -/
def eLc (m : Ex) (g : Tgt) (t : Tx) (el : Ex) (vs : List Nat) : Ex := fun ta h => (m ta h).bind fun w h1 => match w with
  | .tup xs => lcE (lcT g t el (wipeA ta vs) xs [] h1)
  | .cst xs => lcE (lcT g t el (wipeA ta vs) xs [] h1)
  | .ref i => (match rdL h1 i with
    | some xs => lcE (lcL i (fun _ w => w) g t el (wipeA ta vs) xs.length 0 [] h1)
    | none => .stuck)
  | _ => .stuck
def eLcR (rng : List W → Option (List W)) (ms : Ax) (g : Tgt) (t : Tx) (el : Ex) (vs : List Nat) : Ex := fun ta h => (ms ta h).bind fun ws h1 => match rng ws with
  | some xs => lcE (lcT g t el (wipeA ta vs) xs [] h1)
  | none => .stuck
def eLcE (ms : Ax) (g : Tgt) (t : Tx) (el : Ex) (vs : List Nat) : Ex := fun ta h => (ms ta h).bind fun ws h1 => match ws with
  | [.ref i] => (match rdL h1 i with
    | some xs => lcE (lcL i (fun k w => .tup [.int (k : Nat), w]) g t el (wipeA ta vs) xs.length 0 [] h1)
    | none => .stuck)
  | _ => .stuck
/-- the reading of a walk over a list or a tuple, in a block -/
theorem tLc_seq {g : Tgt} {el : Ex} {vs : List Nat} (K : S.K = X.K) (hcur : Wx.cur = none) {Q : VK} (q : tE S Wx (eLc m g t el vs) sg H Q) : tLc (iSeq X.K (tE S Wx m)) (tGv S W0 vs g) (tT S W0 t) (tE S W0 el) vs sg H Q := by
  refine tE_bind (k := fun ta w h1 => match w with
    | .tup xs => lcE (lcT g t el (wipeA ta vs) xs [] h1)
    | .cst xs => lcE (lcT g t el (wipeA ta vs) xs [] h1)
    | .ref i => (match rdL h1 i with
      | some xs => lcE (lcL i (fun _ w => w) g t el (wipeA ta vs) xs.length 0 [] h1)
      | none => .stuck)
    | _ => .stuck) q fun rho1 H1 ta v1 w1 h1 l rs r g1 => ?_
  have rs' := RS_W0 hcur (RS_wipe rs vs)
  split at g1
  · rename_i xs
    cases r with
    | tup hp r1 =>
      rename_i p ys
      rw [K] at hp
      refine ⟨p, rfl, .inr ⟨⟨ys, hp⟩, lcLoopT (S := S) (Wx := Wx) (xs := xs) (fun rho H => SqT X.K H p ys ∧ RVs S rho H xs ys) (fun rho H rho' H' ev f => ⟨by rw [← K]; exact ev.tup _ _ (by rw [K]; exact f.1), f.2.monoT ev⟩) (fun i rho H f hi => ?_) (fun rho H f => ?_) (fun i rho h H x H' w l f hw y => ?_) l rs' ⟨hp, r1⟩ g1⟩⟩
      · obtain ⟨v, e1, _⟩ := f.2.get (List.getElem?_eq_getElem hi)
        exact ⟨ys, v, f.1, e1⟩
      · exact ⟨ys, f.1, by rw [← f.2.length]; exact Nat.le_refl _⟩
      · obtain ⟨rfl, y⟩ := y
        obtain ⟨v, e1, rv⟩ := f.2.get hw
        have := y ys f.1
        rw [e1] at this
        cases this
        exact ⟨rho, Ev.rfl', l, rv⟩
  · rename_i xs
    cases r with
    | cst hp r1 =>
      rename_i p ys
      refine ⟨p, rfl, .inl ⟨⟨ys, by rw [← K]; exact hp.sq⟩, lcLoopT (S := S) (Wx := Wx) (xs := xs) (fun rho H => SqK S.K H p ys ∧ RVs S rho H xs ys) (fun rho H rho' H' ev f => ⟨ev.cst _ _ f.1, f.2.monoT ev⟩) (fun i rho H f hi => ?_) (fun rho H f => ?_) (fun i rho h H x H' w l f hw y => ?_) l rs' ⟨hp, r1⟩ g1⟩⟩
      · obtain ⟨v, e1, _⟩ := f.2.get (List.getElem?_eq_getElem hi)
        exact ⟨ys, v, by rw [← K]; exact f.1.sq, e1⟩
      · exact ⟨ys, by rw [← K]; exact f.1.sq, by rw [← f.2.length]; exact Nat.le_refl _⟩
      · obtain ⟨rfl, y⟩ := y
        obtain ⟨v, e1, rv⟩ := f.2.get hw
        have := y ys (by rw [← K]; exact f.1.sq)
        rw [e1] at this
        cases this
        exact ⟨rho, Ev.rfl', l, rv⟩
  · rename_i i
    cases e : rdL h1 i with
    | none => rw [e] at g1; exact g1.elim
    | some xs =>
      rw [e] at g1
      obtain ⟨p, rfl, hp⟩ := ref_of r
      obtain ⟨ys, a1, a2⟩ := rdL_of K l hp e
      refine ⟨p, rfl, .inl ⟨⟨ys, a1⟩, lcLoopL (S := S) (Wx := Wx) (fun rho H => rho[i]? = some p) (fun rho H rho' H' ev f => ev.at_ _ _ f) (fun k rho h H xs w l f e ew => ?_) (fun k rho h H xs l f e ew => ?_) (fun k rho h H x H' xs w l f e ew y => ?_) l rs' hp g1⟩⟩
      · obtain ⟨ys, a1, a2⟩ := rdL_of K l f e
        obtain ⟨v, e1, _⟩ := a2.get ew
        exact ⟨ys, v, a1, e1⟩
      · obtain ⟨ys, a1, a2⟩ := rdL_of K l f e
        exact ⟨ys, a1, by rw [← a2.length]; exact ew⟩
      · obtain ⟨rfl, y⟩ := y
        obtain ⟨ys, a1, a2⟩ := rdL_of K l f e
        obtain ⟨v, e1, rv⟩ := a2.get ew
        have := y ys a1
        rw [e1] at this
        cases this
        exact ⟨rho, Ev.rfl', l, rv⟩
  · exact g1.elim
theorem lcR_ok {g : Tgt} {el : Ex} {vs : List Nat} {lo : Int} {n : Nat} {Q : VK} {sg0 : L2.St} (l : Rl S rho h H) (rs : RS S W0 rho H ta (wipe sg vs)) (q : GE S Wx sg0 rho H Q (lcE (lcT g t el ta (numW lo n) [] h))) : LcG (Itr lo n) (tGv S W0 vs g) (tT S W0 t) (tE S W0 el) vs sg H Q :=
  lcLoopT (S := S) (Wx := Wx) (fun _ _ => True) (fun _ _ _ _ _ _ => trivial) (fun i _ _ _ hi => by rw [numW_len] at hi; exact hi) (fun _ _ _ => by rw [numW_len]; exact Nat.le_refl _) (fun i rho h H x H' w l f hw y => by
    obtain ⟨rfl, rfl⟩ := y
    obtain ⟨rfl, _⟩ := numW_at _ _ _ _ hw
    exact ⟨rho, Ev.rfl', l, .int _⟩) l rs trivial q
theorem tLc_r1 {g : Tgt} {el : Ex} {vs : List Nat} (hcur : Wx.cur = none) {Q : VK} (q : tE S Wx (eLcR rng1 ms g t el vs) sg H Q) : tLc (iRng1 (tA S Wx ms)) (tGv S W0 vs g) (tT S W0 t) (tE S W0 el) vs sg H Q := by
  refine tE_bindA (k := fun ta ws h1 => match rng1 ws with
    | some xs => lcE (lcT g t el (wipeA ta vs) xs [] h1)
    | none => .stuck) q fun rho1 H1 ta v1 w1 h1 l rs r g1 => ?_
  have rs' := RS_W0 hcur (RS_wipe rs vs)
  cases e : rng1 w1 with
  | none => rw [e] at g1; exact g1.elim
  | some xs =>
    rw [e] at g1
    unfold rng1 at e
    split at e
    · split at e
      · rename_i c
        cases e
        obtain ⟨v, rfl, rv⟩ := RVs_one r
        cases rv
        exact ⟨_, rfl, c.1, c.2, lcR_ok l rs' g1⟩
      · cases e
    · cases e
theorem tLc_r2 {g : Tgt} {el : Ex} {vs : List Nat} (hcur : Wx.cur = none) {Q : VK} (q : tE S Wx (eLcR rng2 ms g t el vs) sg H Q) : tLc (iRng2 (tA S Wx ms)) (tGv S W0 vs g) (tT S W0 t) (tE S W0 el) vs sg H Q := by
  refine tE_bindA (k := fun ta ws h1 => match rng2 ws with
    | some xs => lcE (lcT g t el (wipeA ta vs) xs [] h1)
    | none => .stuck) q fun rho1 H1 ta v1 w1 h1 l rs r g1 => ?_
  have rs' := RS_W0 hcur (RS_wipe rs vs)
  cases e : rng2 w1 with
  | none => rw [e] at g1; exact g1.elim
  | some xs =>
    rw [e] at g1
    unfold rng2 at e
    split at e
    · split at e
      · rename_i c
        cases e
        obtain ⟨v, u, rfl, rv, ru⟩ := RVs_two r
        cases rv
        cases ru
        exact ⟨_, _, rfl, c, lcR_ok l rs' g1⟩
      · cases e
    · cases e
theorem tLc_en {g : Tgt} {el : Ex} {vs : List Nat} (K : S.K = X.K) (hcur : Wx.cur = none) {Q : VK} (q : tE S Wx (eLcE ms g t el vs) sg H Q) : tLc (iEnum X.K (tA S Wx ms)) (tGv S W0 vs g) (tT S W0 t) (tE S W0 el) vs sg H Q := by
  refine tE_bindA (k := fun ta ws h1 => match ws with
    | [.ref i] => (match rdL h1 i with
      | some xs => lcE (lcL i (fun k w => .tup [.int (k : Nat), w]) g t el (wipeA ta vs) xs.length 0 [] h1)
      | none => .stuck)
    | _ => .stuck) q fun rho1 H1 ta v1 w1 h1 l rs r g1 => ?_
  have rs' := RS_W0 hcur (RS_wipe rs vs)
  split at g1
  · rename_i i
    cases e : rdL h1 i with
    | none => rw [e] at g1; exact g1.elim
    | some xs =>
      rw [e] at g1
      obtain ⟨v, rfl, rv⟩ := RVs_one r
      obtain ⟨p, rfl, hp⟩ := ref_of rv
      obtain ⟨ys, a1, a2⟩ := rdL_of K l hp e
      refine ⟨p, ys, rfl, a1, lcLoopL (S := S) (Wx := Wx) (fun rho H => rho[i]? = some p) (fun rho H rho' H' ev f => ev.at_ _ _ f) (fun k rho h H xs w l f e ew => ?_) (fun k rho h H xs l f e ew => ?_) (fun k rho h H x H' xs w l f e ew y => ?_) l rs' hp g1⟩
      · obtain ⟨ys, a1, a2⟩ := rdL_of K l f e
        obtain ⟨v, e1, _⟩ := a2.get ew
        exact ⟨ys, v, a1, e1⟩
      · obtain ⟨ys, a1, a2⟩ := rdL_of K l f e
        exact ⟨ys, a1, by rw [← a2.length]; exact ew⟩
      · obtain ⟨T, z, rfl, hn, rfl, y⟩ := y
        obtain ⟨ys, a1, a2⟩ := rdL_of K l f e
        obtain ⟨v, e1, rv⟩ := a2.get ew
        have := y ys a1
        rw [e1] at this
        cases this
        exact ⟨rho, Ev.lay hn, l.lay hn, .tup (SqT.of upd_same) (.cons (.int _) (.cons (rv.mono (Ev.lay hn)) .nil))⟩
  · exact g1.elim
end
end J

namespace J
open PySem PySem.Spec PyProof.Rows L2
section
variable {X : Cx} {S : Sta} {Wx : Wi} {e a b o : Expr} {es rest : List Expr} {st : Stmt} {sts bd : List Stmt} {m m1 m2 : Ex} {ms : Ax} {t : Tx} {s1 s2 : Sx} {pos p pos' : Pos} {rho rho' : List Addr} {H H' : Hp} {D D' : Ends} {sg : L2.St} {ta : En} {h : HA}
/-- the block of a comprehension, in the parts that its rules ask -/
abbrev Blk (X : Cx) (scope : Scope) (s : Shared) (H : Hp) (C : Addr) (cl : List (Str × Addr)) (fp : List Addr) : Cx := X.blk s H scope (compEnvC scope cl C X.env) fp
theorem de_lc {elt tg it : Expr} {ifs : List Expr} {scope : Scope} {own : List (Str × Nat)} {g : Tgt} {t : Tx} {el : Ex} (K : S.K = X.K) (hcur : Wx.cur = none) (hc : X.calm = true) (hN : X.N.Nodup) (hi : DE S X Wx it m) (ok : BlkOk X.N X.env.scope scope own)
    (hg : ∀ s H C cl fp, DGv S (Blk X scope s H C cl fp) W0 (own.map (·.2)) tg g) (ht : ∀ s H C cl fp, DTs S (Blk X scope s H C cl fp) W0 ifs t) (he : ∀ s H C cl fp, DE S (Blk X scope s H C cl fp) W0 elt el)
    (hs : ∀ x, foldedSetIterable it X.env x = pure x := by intro _; rfl) : DE S X Wx (.ListComp elt [⟨tg, it, ifs, 0⟩] scope pos) (eLc m g t el (own.map (·.2))) :=
  pe_imp (pe_lc hc hN (pi_seq hi) ok hg ht he hs) fun sg H Q q => tLc_seq K hcur q
theorem de_lcR1 {elt tg : Expr} {ifs : List Expr} {scope : Scope} {own : List (Str × Nat)} {g : Tgt} {t : Tx} {el : Ex} (hcur : Wx.cur = none) (hc : X.calm = true) (hN : X.N.Nodup) (hgl : Gl X "range") (hm : X.mg "range" = none) (ha : DA S X Wx [a] ms) (ok : BlkOk X.N X.env.scope scope own)
    (hg : ∀ s H C cl fp, DGv S (Blk X scope s H C cl fp) W0 (own.map (·.2)) tg g) (ht : ∀ s H C cl fp, DTs S (Blk X scope s H C cl fp) W0 ifs t) (he : ∀ s H C cl fp, DE S (Blk X scope s H C cl fp) W0 elt el)
    (h1 : starEach [a] X.env = [(false, eval a X.env)] := by rfl) (hs : ∀ x, foldedSetIterable (.Call (.Name "range" p) [a] [] pos') X.env x = pure x := by intro _; rfl) : DE S X Wx (.ListComp elt [⟨tg, .Call (.Name "range" p) [a] [] pos', ifs, 0⟩] scope pos) (eLcR rng1 ms g t el (own.map (·.2))) :=
  pe_imp (pe_lc hc hN (pi_range1 hgl hm ha h1) ok hg ht he hs) fun sg H Q q => tLc_r1 hcur q
theorem de_lcR2 {elt tg : Expr} {ifs : List Expr} {scope : Scope} {own : List (Str × Nat)} {g : Tgt} {t : Tx} {el : Ex} (hcur : Wx.cur = none) (hc : X.calm = true) (hN : X.N.Nodup) (hgl : Gl X "range") (hm : X.mg "range" = none) (ha : DA S X Wx [a, b] ms) (ok : BlkOk X.N X.env.scope scope own)
    (hg : ∀ s H C cl fp, DGv S (Blk X scope s H C cl fp) W0 (own.map (·.2)) tg g) (ht : ∀ s H C cl fp, DTs S (Blk X scope s H C cl fp) W0 ifs t) (he : ∀ s H C cl fp, DE S (Blk X scope s H C cl fp) W0 elt el)
    (h1 : starEach [a, b] X.env = [(false, eval a X.env), (false, eval b X.env)] := by rfl) (h2 : starEach [b] X.env = [(false, eval b X.env)] := by rfl) (hs : ∀ x, foldedSetIterable (.Call (.Name "range" p) [a, b] [] pos') X.env x = pure x := by intro _; rfl) : DE S X Wx (.ListComp elt [⟨tg, .Call (.Name "range" p) [a, b] [] pos', ifs, 0⟩] scope pos) (eLcR rng2 ms g t el (own.map (·.2))) :=
  pe_imp (pe_lc hc hN (pi_range2 hgl hm ha h1 h2) ok hg ht he hs) fun sg H Q q => tLc_r2 hcur q
theorem de_lcE {elt : Expr} {elts : List Expr} {kk : Nat} {tpos : Pos} {ifs : List Expr} {scope : Scope} {own : List (Str × Nat)} {g : Tgt} {t : Tx} {el : Ex} (K : S.K = X.K) (hcur : Wx.cur = none) (hc : X.calm = true) (hN : X.N.Nodup) (hgl : Gl X "enumerate") (hm : X.mg "enumerate" = none) (ha : DA S X Wx [a] ms) (ok : BlkOk X.N X.env.scope scope own)
    (hg : ∀ s H C cl fp, DGv S (Blk X scope s H C cl fp) W0 (own.map (·.2)) (.Tuple elts kk tpos) g) (ht : ∀ s H C cl fp, DTs S (Blk X scope s H C cl fp) W0 ifs t) (he : ∀ s H C cl fp, DE S (Blk X scope s H C cl fp) W0 elt el)
    (h1 : starEach [a] X.env = [(false, eval a X.env)] := by rfl) (hs : ∀ x, foldedSetIterable (.Call (.Name "enumerate" p) [a] [] pos') X.env x = pure x := by intro _; rfl) : DE S X Wx (.ListComp elt [⟨.Tuple elts kk tpos, .Call (.Name "enumerate" p) [a] [] pos', ifs, 0⟩] scope pos) (eLcE ms g t el (own.map (·.2))) :=
  pe_imp (pe_lc hc hN (pi_enum hgl hm ha h1) ok hg ht he hs) fun sg H Q q => tLc_en K hcur q
/-! .. given to a name -/
theorem ds_setLc {i : Nat} {y : Str} {py : Pos} {elt tg it : Expr} {ifs : List Expr} {scope : Scope} {own : List (Str × Nat)} {g : Tgt} {t : Tx} {el : Ex} {spos : Pos} (K : S.K = X.K) (hcur : Wx.cur = none) (hc : X.calm = true) (hN : X.N.Nodup) (hy : X.N[i]? = some y) (hyl : X.env.scope.names.lookup y = some .local)
    (hsw : swapsWith (.ListComp elt [⟨tg, it, ifs, 0⟩] scope pos) (some (.Name y py)) spos.line X.env = pure true) (hi : DE S X Wx it m) (ok : BlkOk X.N X.env.scope scope own)
    (hg : ∀ s H C cl fp, DGv S (Blk X scope s H C cl fp) W0 (own.map (·.2)) tg g) (ht : ∀ s H C cl fp, DTs S (Blk X scope s H C cl fp) W0 ifs t) (he : ∀ s H C cl fp, DE S (Blk X scope s H C cl fp) W0 elt el)
    (hs : ∀ x, foldedSetIterable it X.env x = pure x := by intro _; rfl) : DS S X Wx (.Assign [.Name y py] (.ListComp elt [⟨tg, it, ifs, 0⟩] scope pos) spos) (sSet i (eLc m g t el (own.map (·.2)))) :=
  ps_imp (ps_setLc hc hN hy hyl hsw (pi_seq hi) ok hg ht he hs) fun D sg H q => tLc_seq K hcur (Q := fun x H1 => D.nx (sg.set i (some x)) H1) (tS_to (k := fun ta w h1 => .nx (ta.set i (some w)) h1) q fun rho1 H1 ta v1 w1 h1 l rs r g1 => g1 rho1 H1 _ Ev.rfl' l (rs.set r))
theorem ds_setLcR1 {i : Nat} {y : Str} {py : Pos} {elt tg : Expr} {ifs : List Expr} {scope : Scope} {own : List (Str × Nat)} {g : Tgt} {t : Tx} {el : Ex} {spos : Pos} (hcur : Wx.cur = none) (hc : X.calm = true) (hN : X.N.Nodup) (hy : X.N[i]? = some y) (hyl : X.env.scope.names.lookup y = some .local)
    (hsw : swapsWith (.ListComp elt [⟨tg, .Call (.Name "range" p) [a] [] pos', ifs, 0⟩] scope pos) (some (.Name y py)) spos.line X.env = pure true) (hgl : Gl X "range") (hm : X.mg "range" = none) (ha : DA S X Wx [a] ms) (ok : BlkOk X.N X.env.scope scope own)
    (hg : ∀ s H C cl fp, DGv S (Blk X scope s H C cl fp) W0 (own.map (·.2)) tg g) (ht : ∀ s H C cl fp, DTs S (Blk X scope s H C cl fp) W0 ifs t) (he : ∀ s H C cl fp, DE S (Blk X scope s H C cl fp) W0 elt el)
    (h1 : starEach [a] X.env = [(false, eval a X.env)] := by rfl) (hs : ∀ x, foldedSetIterable (.Call (.Name "range" p) [a] [] pos') X.env x = pure x := by intro _; rfl) : DS S X Wx (.Assign [.Name y py] (.ListComp elt [⟨tg, .Call (.Name "range" p) [a] [] pos', ifs, 0⟩] scope pos) spos) (sSet i (eLcR rng1 ms g t el (own.map (·.2)))) :=
  ps_imp (ps_setLc hc hN hy hyl hsw (pi_range1 hgl hm ha h1) ok hg ht he hs) fun D sg H q => tLc_r1 hcur (Q := fun x H1 => D.nx (sg.set i (some x)) H1) (tS_to (k := fun ta w h1 => .nx (ta.set i (some w)) h1) q fun rho1 H1 ta v1 w1 h1 l rs r g1 => g1 rho1 H1 _ Ev.rfl' l (rs.set r))
theorem ds_setLcR2 {i : Nat} {y : Str} {py : Pos} {elt tg : Expr} {ifs : List Expr} {scope : Scope} {own : List (Str × Nat)} {g : Tgt} {t : Tx} {el : Ex} {spos : Pos} (hcur : Wx.cur = none) (hc : X.calm = true) (hN : X.N.Nodup) (hy : X.N[i]? = some y) (hyl : X.env.scope.names.lookup y = some .local)
    (hsw : swapsWith (.ListComp elt [⟨tg, .Call (.Name "range" p) [a, b] [] pos', ifs, 0⟩] scope pos) (some (.Name y py)) spos.line X.env = pure true) (hgl : Gl X "range") (hm : X.mg "range" = none) (ha : DA S X Wx [a, b] ms) (ok : BlkOk X.N X.env.scope scope own)
    (hg : ∀ s H C cl fp, DGv S (Blk X scope s H C cl fp) W0 (own.map (·.2)) tg g) (ht : ∀ s H C cl fp, DTs S (Blk X scope s H C cl fp) W0 ifs t) (he : ∀ s H C cl fp, DE S (Blk X scope s H C cl fp) W0 elt el)
    (h1 : starEach [a, b] X.env = [(false, eval a X.env), (false, eval b X.env)] := by rfl) (h2 : starEach [b] X.env = [(false, eval b X.env)] := by rfl) (hs : ∀ x, foldedSetIterable (.Call (.Name "range" p) [a, b] [] pos') X.env x = pure x := by intro _; rfl) : DS S X Wx (.Assign [.Name y py] (.ListComp elt [⟨tg, .Call (.Name "range" p) [a, b] [] pos', ifs, 0⟩] scope pos) spos) (sSet i (eLcR rng2 ms g t el (own.map (·.2)))) :=
  ps_imp (ps_setLc hc hN hy hyl hsw (pi_range2 hgl hm ha h1 h2) ok hg ht he hs) fun D sg H q => tLc_r2 hcur (Q := fun x H1 => D.nx (sg.set i (some x)) H1) (tS_to (k := fun ta w h1 => .nx (ta.set i (some w)) h1) q fun rho1 H1 ta v1 w1 h1 l rs r g1 => g1 rho1 H1 _ Ev.rfl' l (rs.set r))
theorem ds_setLcE {i : Nat} {y : Str} {py : Pos} {elt : Expr} {elts : List Expr} {kk : Nat} {tpos : Pos} {ifs : List Expr} {scope : Scope} {own : List (Str × Nat)} {g : Tgt} {t : Tx} {el : Ex} {spos : Pos} (K : S.K = X.K) (hcur : Wx.cur = none) (hc : X.calm = true) (hN : X.N.Nodup) (hy : X.N[i]? = some y) (hyl : X.env.scope.names.lookup y = some .local)
    (hsw : swapsWith (.ListComp elt [⟨.Tuple elts kk tpos, .Call (.Name "enumerate" p) [a] [] pos', ifs, 0⟩] scope pos) (some (.Name y py)) spos.line X.env = pure true) (hgl : Gl X "enumerate") (hm : X.mg "enumerate" = none) (ha : DA S X Wx [a] ms) (ok : BlkOk X.N X.env.scope scope own)
    (hg : ∀ s H C cl fp, DGv S (Blk X scope s H C cl fp) W0 (own.map (·.2)) (.Tuple elts kk tpos) g) (ht : ∀ s H C cl fp, DTs S (Blk X scope s H C cl fp) W0 ifs t) (he : ∀ s H C cl fp, DE S (Blk X scope s H C cl fp) W0 elt el)
    (h1 : starEach [a] X.env = [(false, eval a X.env)] := by rfl) (hs : ∀ x, foldedSetIterable (.Call (.Name "enumerate" p) [a] [] pos') X.env x = pure x := by intro _; rfl) : DS S X Wx (.Assign [.Name y py] (.ListComp elt [⟨.Tuple elts kk tpos, .Call (.Name "enumerate" p) [a] [] pos', ifs, 0⟩] scope pos) spos) (sSet i (eLcE ms g t el (own.map (·.2)))) :=
  ps_imp (ps_setLc hc hN hy hyl hsw (pi_enum hgl hm ha h1) ok hg ht he hs) fun D sg H q => tLc_en K hcur (Q := fun x H1 => D.nx (sg.set i (some x)) H1) (tS_to (k := fun ta w h1 => .nx (ta.set i (some w)) h1) q fun rho1 H1 ta v1 w1 h1 l rs r g1 => g1 rho1 H1 _ Ev.rfl' l (rs.set r))

/-! ### methods of lists -/
def isL (h : HA) : W → Bool
  | .ref i => (rdL h i).isSome
  | _ => false
def eLm (f : W → List W → HA → Option (W × HA)) (m : Ex) (ms : Ax) : Ex := fun ta h => (m ta h).bind fun x h1 => if isL h1 x = true then (ms ta h1).bind fun ws h2 => ofO (f x ws h2) else .stuck
theorem isL_ok (K : S.K = X.K) (l : Rl S rho h H) {w : W} {v : V} (r : RV S rho H w v) (c : isL h w = true) : tyV X.K "list" v H := by
  unfold isL at c
  split at c
  · obtain ⟨p, rfl, hp⟩ := ref_of r
    obtain ⟨xs, e⟩ := Option.isSome_iff_exists.mp c
    obtain ⟨ys, a1, _⟩ := rdL_of K l hp e
    exact .inl ⟨rfl, ys, a1⟩
  · cases c
theorem de_lm {name : Str} {id : String} {apos cpos : Pos} {f : W → List W → HA → Option (W × HA)} (K : S.K = X.K) (slot : Slot "list" name id) (hty : typeOf (.builtin id) = pure (.type "method_descriptor")) (hm : MtR X id (rAm S f)) (ho : DE S X Wx o m) (ha : DA S X Wx (e :: es) ms)
    (hbase : attributeBase o name X.env (eval o X.env) = eval o X.env := by rfl)
    (hfew : ((backTo cpos (starEach (e :: es) X.env)).all (fun x => !x.1) && (backToKw cpos (keywordEach [] X.env)).all (fun x => x.1.isSome)
      && decide ((e :: es).length + ([] : List Keyword).length + (if ([] : List Keyword).isEmpty then 0 else 1) < 30)) = true := by rfl)
    (hline : (apos.endLine == cpos.line) = true := by rfl) (hs : starEach (e :: es) X.env = (false, eval e X.env) :: starEach es X.env := by rfl) (hplain : (backTo cpos (starEach es X.env)).any (·.1) = false := by rfl) : DE S X Wx (.Call (.Attribute o name apos) (e :: es) [] cpos) (eLm f m ms) :=
  pe_imp (pe_bm PySem.F.plainAttrs_list slot hty hm ho ha hbase hfew hline hs hplain) fun sg H Q q =>
    tE_bind (k := fun ta x h1 => if isL h1 x = true then (ms ta h1).bind fun ws h2 => ofO (f x ws h2) else .stuck) q fun rho H1 ta v w h1 l rs r g => by
      by_cases c : isL h1 w = true
      · rw [if_pos c] at g
        refine ⟨isL_ok K l r c, rho, h1, ta, l, rs, GA.of_bindE g fun rho2 H2 v2 w2 h2 ev l2 r2 g2 => ⟨rho2, h2, w, w2, l2, r.mono ev, r2, GO.of g2⟩⟩
      · rw [if_neg c] at g; exact g.elim
theorem de_lm0 {name : Str} {id : String} {apos cpos : Pos} {f : W → List W → HA → Option (W × HA)} (K : S.K = X.K) (slot : Slot "list" name id) (hty : typeOf (.builtin id) = pure (.type "method_descriptor")) (hm : MtR X id (rAm S f)) (ho : DE S X Wx o m)
    (hbase : attributeBase o name X.env (eval o X.env) = eval o X.env := by rfl) (hline : (apos.endLine == cpos.line) = true := by rfl) : DE S X Wx (.Call (.Attribute o name apos) [] [] cpos) (eLm f m aNil) :=
  pe_imp (pe_bm0 PySem.F.plainAttrs_list slot hty hm ho hbase hline) fun sg H Q q =>
    tE_bind (k := fun ta x h1 => if isL h1 x = true then (aNil ta h1).bind fun ws h2 => ofO (f x ws h2) else .stuck) q fun rho H1 ta v w h1 l rs r g => by
      by_cases c : isL h1 w = true
      · rw [if_pos c] at g
        exact ⟨isL_ok K l r c, ⟨rho, h1, w, [], l, r, .nil, GO.of g⟩⟩
      · rw [if_neg c] at g; exact g.elim
/-- a list that may be written -/
def wrL (h : HA) (i : Nat) : Option (List W) := match h[i]? with
  | some (.lst xs) => some xs
  | _ => none
theorem wrL_of (l : Rl S rho h H) {i : Nat} {p : Addr} {xs : List W} (e : rho[i]? = some p) (c : wrL h i = some xs) : ∃ ys, H p = some (.lst ys) ∧ RVs S rho H xs ys := by
  unfold wrL at c
  split at c
  · rename_i o
    cases c
    exact lst_of l e o
  · cases c
theorem GO.put {Q : VK} {i : Nat} {p : Addr} {w : W} {v : V} {xs : List W} {ys : List V} (g : GO S rho H Q (some (w, h.set i (.lst xs)))) (l : Rl S rho h H) (e : rho[i]? = some p) (r : RV S rho H w v) (rs : RVs S rho H xs ys) : Q v (upd H p (.lst ys)) := by
  have ev := Ev.put (u := HO.lst ys) l e
  exact g rho _ v ev (l.put e (.lst upd_same (rs.mono ev))) (r.mono ev)
def mAppend : W → List W → HA → Option (W × HA) := fun x ws h => match x, ws with
  | .ref i, [w] => (match wrL h i with
    | some xs => if xs.length < sizeLine then some (.non, h.set i (.lst (xs ++ [w]))) else none
    | none => none)
  | _, _ => none
theorem ok_append : MtR X "list.append" (rAm S mAppend) := mtr_imp mt_append fun x xs H Q q => by
  obtain ⟨rho, h, a, as, l, r, rs, g⟩ := q
  unfold mAppend at g
  split at g
  · rename_i i w
    obtain ⟨p, rfl, hp⟩ := ref_of r
    obtain ⟨v, rfl, rv⟩ := RVs_one rs
    split at g
    · rename_i xs e
      obtain ⟨ys, a1, a2⟩ := wrL_of l hp e
      split at g
      · rename_i lt
        exact ⟨p, ys, v, rfl, rfl, a1, by rw [← a2.length]; exact lt, GO.put g l hp .non (a2.append (.cons rv .nil))⟩
      · exact g.elim
    · exact g.elim
  · exact g.elim
def mExtend : W → List W → HA → Option (W × HA) := fun x ws h => match x, ws with
  | .ref i, [.ref j] => (match wrL h i, wrL h j with
    | some xs, some ys => if xs.length + ys.length ≤ sizeLine then some (.non, h.set i (.lst (xs ++ ys))) else none
    | _, _ => none)
  | _, _ => none
theorem ok_extend : MtR X "list.extend" (rAm S mExtend) := mtr_imp mt_extend fun x xs H Q q => by
  obtain ⟨rho, h, a, as, l, r, rs, g⟩ := q
  unfold mExtend at g
  split at g
  · rename_i i j
    obtain ⟨p, rfl, hp⟩ := ref_of r
    obtain ⟨v, rfl, rv⟩ := RVs_one rs
    obtain ⟨p2, rfl, hp2⟩ := ref_of rv
    split at g
    · rename_i xs ys e e2
      obtain ⟨zs, a1, a2⟩ := wrL_of l hp e
      obtain ⟨us, b1, b2⟩ := wrL_of l hp2 e2
      split at g
      · rename_i lt
        exact ⟨p, p2, zs, us, rfl, rfl, a1, b1, by rw [← a2.length, ← b2.length]; exact lt, GO.put g l hp .non (a2.append b2)⟩
      · exact g.elim
    · exact g.elim
  · exact g.elim
/-- pop(), pop(i) -/
def mPop : W → List W → HA → Option (W × HA) := fun x ws h => match x, ws with
  | .ref i, [] => (match wrL h i with
    | some xs => (match xs[xs.length - 1]? with
      | some y => some (y, h.set i (.lst xs.dropLast))
      | none => none)
    | none => none)
  | _, _ => none
theorem ok_pop : MtR X "list.pop" (rAm S mPop) := mtr_imp mt_pop fun x xs H Q q => by
  obtain ⟨rho, h, a, as, l, r, rs, g⟩ := q
  unfold mPop at g
  split at g
  · rename_i i
    obtain ⟨p, rfl, hp⟩ := ref_of r
    cases rs
    split at g
    · rename_i xs e
      obtain ⟨ys, a1, a2⟩ := wrL_of l hp e
      split at g
      · rename_i y ey
        obtain ⟨v, e1, rv⟩ := a2.get ey
        exact ⟨p, ys, v, rfl, rfl, a1, by rw [← a2.length]; exact e1, GO.put g l hp rv a2.dropLast⟩
      · exact g.elim
    · exact g.elim
  · exact g.elim
def mPopAt : W → List W → HA → Option (W × HA) := fun x ws h => match x, ws with
  | .ref i, [.int k] => (match wrL h i with
    | some xs => if 0 ≤ k ∧ k < 2 ^ 63 then (match xs[k.toNat]? with
      | some y => some (y, h.set i (.lst (xs.eraseIdx k.toNat)))
      | none => none) else none
    | none => none)
  | _, _ => none
theorem ok_popAt : MtR X "list.pop" (rAm S mPopAt) := mtr_imp mt_popAt fun x xs H Q q => by
  obtain ⟨rho, h, a, as, l, r, rs, g⟩ := q
  unfold mPopAt at g
  split at g
  · rename_i i k
    obtain ⟨p, rfl, hp⟩ := ref_of r
    obtain ⟨v, rfl, rv⟩ := RVs_one rs
    cases rv
    split at g
    · rename_i xs e
      obtain ⟨ys, a1, a2⟩ := wrL_of l hp e
      split at g
      · rename_i c
        split at g
        · rename_i y ey
          obtain ⟨v, e1, rv⟩ := a2.get ey
          have lt : k.toNat < xs.length := (List.getElem?_eq_some_iff.mp ey).1
          refine ⟨p, ys, k, k.toNat, v, rfl, rfl, a1, by omega, c.2, ?_, e1, GO.put g l hp rv (a2.eraseIdx _)⟩
          exact seqIndex_of c.1 (by rw [← a2.length]; omega)
        · exact g.elim
      · exact g.elim
    · exact g.elim
  · exact g.elim
def mInsert : W → List W → HA → Option (W × HA) := fun x ws h => match x, ws with
  | .ref i, [.int k, w] => (match wrL h i with
    | some xs => if xs.length < sizeLine ∧ 0 ≤ k ∧ k < 2 ^ 63 then some (.non, h.set i (.lst (xs.take k.toNat ++ [w] ++ xs.drop k.toNat))) else none
    | none => none)
  | _, _ => none
theorem ok_insert : MtR X "list.insert" (rAm S mInsert) := mtr_imp mt_insert fun x xs H Q q => by
  obtain ⟨rho, h, a, as, l, r, rs, g⟩ := q
  unfold mInsert at g
  split at g
  · rename_i i k w
    obtain ⟨p, rfl, hp⟩ := ref_of r
    obtain ⟨v, u, rfl, rv, ru⟩ := RVs_two rs
    cases rv
    split at g
    · rename_i xs e
      obtain ⟨ys, a1, a2⟩ := wrL_of l hp e
      split at g
      · rename_i c
        exact ⟨p, ys, k, u, rfl, rfl, a1, by rw [← a2.length]; exact c.1, c.2.1, c.2.2, GO.put g l hp .non (((a2.take _).append (.cons ru .nil)).append (a2.drop _))⟩
      · exact g.elim
    · exact g.elim
  · exact g.elim

/-! ### a def, by its body -/
def startA (n : Nat) (ws : List W) : En := ws.map some ++ List.replicate (n - ws.length) none
def runB (b : Sx) (n : Nat) : Mir := fun ws h => match b (startA n ws) h with
  | .nx _ h' => .ok .non h'
  | .rt w h' => .ok w h'
  | .exc c fs _ h' => .exc c fs h'
  | _ => .stuck
theorem RS_start {ws : List W} {vs : List V} (N : List Str) (r : RVs S rho H ws vs) : RS S Wx rho H (startA N.length ws) (L2.start N vs) := by
  refine ⟨by unfold startA L2.start; simp [r.length], fun i w e => ?_⟩
  unfold startA at e
  by_cases hi : i < ws.length
  · rw [List.getElem?_append_left (by simpa using hi), List.getElem?_map] at e
    cases z : ws[i]? with
    | none => rw [z] at e; cases e
    | some w' =>
      rw [z] at e
      cases e
      obtain ⟨v, e1, rv⟩ := r.get z
      refine ⟨v, ?_, .inl rv⟩
      unfold L2.start
      rw [List.getElem?_append_left (by rw [List.length_map, ← r.length]; exact hi), List.getElem?_map, e1]
      rfl
  · rw [List.getElem?_append_right (by simpa using hi), List.getElem?_replicate] at e
    split at e <;> cases e
/-- a def of the text without defaults -/
abbrev FnP (K : PySem.W.Frag) (x qual : Str) (st : Stmt) (f : Addr) (fd : FuncData) : Prop := FunD K x qual (defArgs st) (defBody st) (defScope st) [] [] f fd
/-- what stands around a def's body -/
abbrev Bx (P : Program) (w : World) (K : PySem.W.Frag) (mg : Str → Option Value) (base : Heap) (N : List Str) (qual : Str) (st : Stmt) (f : Addr) (cdv : Value) (A : Around) (outer : List Env) (s : Shared) (H : Hp) (E : XK) : Cx :=
  cxOf (L2.CX P w) P w K mg base N qual (defScope st) f cdv A outer s H E
theorem fnok_of {P : Program} {w : World} {K : PySem.W.Frag} {mg : Str → Option Value} {base : Heap} {x qual : Str} {st : Stmt} {dfl : List V} {f : Addr} {fd : FuncData} {N ps : List Str} {k n : Nat} {b : Sx} (F : FunD K x qual (defArgs st) (defBody st) (defScope st) dfl [] f fd) (Sc : FnScope N ps (defScope st)) (hn : ps.length = n)
    (hbody : ∀ (cdv : Value) (A : Around) (outer : List Env) (s : Shared) (H : Hp) (E : XK), Room k (A.deeper (envOfC qual (defScope st) s.heap.objs.size f cdv)) → DB S (Bx P w K mg base N qual st f cdv A outer s H E) (wishX E) (defBody st) b) :
    FnOk P w K mg base (L2.CX P w) (k + 1) f fd ps (spM S n (runB b N.length)) := by
  refine F.ok Sc (fun vs H Q E h => h.1.trans hn.symm) (fun cdv A outer s H vs Q E hr h => ⟨_, hbody cdv A outer s H E hr, ?_⟩)
  obtain ⟨hl, rho, ha, ws, l, r, g⟩ := h
  refine ⟨rho, ha, startA N.length ws, l, RS_start N r, ?_⟩
  unfold runB at g
  cases z : b (startA N.length ws) ha with
  | nx ta h2 => rw [z] at g; exact fun r2 H2 sg e2 l2 rs => g r2 H2 .non e2 l2 .non
  | rt w2 h2 => rw [z] at g; exact g
  | bk _ _ => rw [z] at g; exact g.elim
  | ct _ _ => rw [z] at g; exact g.elim
  | exc c fs ta h2 => rw [z] at g; exact fun r2 H2 sg d e2 l2 rs x => g r2 H2 d e2 l2 x
  | stuck => rw [z] at g; exact g.elim
theorem fnm_of {P : Program} {w : World} {K : PySem.W.Frag} {mg : Str → Option Value} {base : Heap} {x qual : Str} {st : Stmt} {f : Addr} {fd : FuncData} {N ps : List Str} {k n : Nat} {b : Sx} (F : FnP K x qual st f fd) (Sc : FnScope N ps (defScope st)) (hn : ps.length = n) (hb : Binds K fd ps [])
    (hbody : ∀ (cdv : Value) (A : Around) (outer : List Env) (s : Shared) (H : Hp) (E : XK), Room k (A.deeper (envOfC qual (defScope st) s.heap.objs.size f cdv)) → DB S (Bx P w K mg base N qual st f cdv A outer s H E) (wishX E) (defBody st) b) :
    FnM P w K mg base S (k + 1) f n (runB b N.length) [] := ⟨fd, ps, [], [], hn, fnok_of F Sc hn hbody, hb, .nil, fun _ _ => .nil⟩
theorem takes_body {P : Program} {w : World} {K : PySem.W.Frag} {mg : Str → Option Value} {base : Heap} {N : List Str} {qual : Str} {st : Stmt} {f : Addr} {cdv : Value} {A : Around} {outer : List Env} {s : Shared} {H : Hp} {E : XK} :
    Takes (Bx P w K mg base N qual st f cdv A outer s H E) (wishX E).wx := takes_of rfl rfl rfl rfl
theorem passes_body {P : Program} {w : World} {K : PySem.W.Frag} {mg : Str → Option Value} {base : Heap} {N : List Str} {qual : Str} {st : Stmt} {f : Addr} {cdv : Value} {A : Around} {outer : List Env} {s : Shared} {H : Hp} {E : XK} :
    PassesOwn (model (Bx P w K mg base N qual st f cdv A outer s H E).prog (Bx P w K mg base N qual st f cdv A outer s H E).w) (Bx P w K mg base N qual st f cdv A outer s H E).A (Bx P w K mg base N qual st f cdv A outer s H E).env (Bx P w K mg base N qual st f cdv A outer s H E).xe := passes_of rfl
end
end J

namespace J
open PySem PySem.Spec PyProof.Rows L2
/-! ### own exceptions with attributes -/
/-- self.x = x, .. for the names xs -/
def xfs (xs : List Str) (ws : List V) : List (Str × V) := (xs.zip ws).reverse
/-- the promise of such an __init__ -/
def spI (C : Addr) (xs : List Str) : Sp := fun vs H Q _ => ∃ (a : Addr) (ws : List V), vs = .ref a :: ws ∧ ws.length = xs.length ∧ H a = some (exo a C none) ∧
  ∀ (d : Addr) (H' : Hp), H d = none → d ≠ a → H' a = some (exo a C (some d)) → H' d = some (exd d (xfs xs ws)) → (∀ b, b ≠ a → b ≠ d → H' b = H b) → Q .non H'
section
variable {P : Program} {w : World} {K : PySem.W.Frag} {mg : Str → Option Value} {base : Heap} {CX : CXT} {C : Addr}
theorem exo_exd {a d C : Addr} {fs : List (Str × V)} : exo a C (some d) ≠ exd d fs → True := fun _ => trivial
theorem ok_xinit1 {x qual : Str} {st : Stmt} {f : Addr} {fd : FuncData} {p1 p2 p3 p4 : Pos} (F : FnP K "__init__" qual st f fd) (Sc : FnScope ["self", x] ["self", x] (defScope st)) (T : OexC K C) (h1 : PySem.W.findIn K (.ref C) x = some none)
    (hb : defBody st = [.Assign [.Attribute (.Name "self" p1) x p2] (.Name x p3) p4])
    (hx : (x == ("__debug__" : Str)) = false := by decide) (hx2 : (x == ("__classdict__" : Str)) = false := by decide)
    (v0 : (defScope st).names.lookup ("self" : Str) = some .local := by rfl) (v1 : (defScope st).names.lookup x = some .local := by rfl) : FnOk P w K mg base (L2.CX P w) 1 f fd ["self", x] (spI C [x]) := by
  refine F.ok Sc (fun vs H Q E h => ?_) (fun cdv A outer s H vs Q E hr h => ?_)
  · obtain ⟨a, ws, rfl, hl, _⟩ := h
    simp [hl]
  · obtain ⟨a, ws, rfl, hl, ha, k⟩ := h
    match ws, hl with
    | [y], _ =>
      rw [hb]
      refine ⟨_, pss_one (ps_ost (pe_var (i := 0) rfl (.inl v0) (by decide) (by decide)) (pe_var (i := 1) rfl (.inl v1) hx hx2)), ?_⟩
      refine ⟨_, rfl, _, rfl, a, C, rfl, T, h1, .inl ⟨ha, fun d hd ne => ?_⟩⟩
      exact k d _ hd ne upd_same (by rw [upd_ne ne, upd_same]; rfl) fun b hb hb2 => by rw [upd_ne hb, upd_ne hb2]
theorem ok_xinit2 {x y qual : Str} {st : Stmt} {f : Addr} {fd : FuncData} {p1 p2 p3 p4 q1 q2 q3 q4 : Pos} (F : FnP K "__init__" qual st f fd) (Sc : FnScope ["self", x, y] ["self", x, y] (defScope st)) (T : OexC K C) (h1 : PySem.W.findIn K (.ref C) x = some none) (h2 : PySem.W.findIn K (.ref C) y = some none)
    (hb : defBody st = [.Assign [.Attribute (.Name "self" p1) x p2] (.Name x p3) p4, .Assign [.Attribute (.Name "self" q1) y q2] (.Name y q3) q4])
    (hx : (x == ("__debug__" : Str)) = false := by decide) (hx2 : (x == ("__classdict__" : Str)) = false := by decide) (hy : (y == ("__debug__" : Str)) = false := by decide) (hy2 : (y == ("__classdict__" : Str)) = false := by decide)
    (v0 : (defScope st).names.lookup ("self" : Str) = some .local := by rfl) (v1 : (defScope st).names.lookup x = some .local := by rfl) (v2 : (defScope st).names.lookup y = some .local := by rfl) : FnOk P w K mg base (L2.CX P w) 1 f fd ["self", x, y] (spI C [x, y]) := by
  refine F.ok Sc (fun vs H Q E h => ?_) (fun cdv A outer s H vs Q E hr h => ?_)
  · obtain ⟨a, ws, rfl, hl, _⟩ := h
    simp [hl]
  · obtain ⟨a, ws, rfl, hl, ha, k⟩ := h
    match ws, hl with
    | [u, v], _ =>
      rw [hb]
      refine ⟨_, pss_cons (ps_ost (pe_var (i := 0) rfl (.inl v0) (by decide) (by decide)) (pe_var (i := 1) rfl (.inl v1) hx hx2)) (pss_one (ps_ost (pe_var (i := 0) rfl (.inl v0) (by decide) (by decide)) (pe_var (i := 2) rfl (.inl v2) hy hy2))), ?_⟩
      refine ⟨_, rfl, _, rfl, a, C, rfl, T, h1, .inl ⟨ha, fun d hd ne => ?_⟩⟩
      refine ⟨_, rfl, _, rfl, a, C, rfl, T, h2, .inr ⟨d, [(x, u)], upd_same, by rw [upd_ne ne, upd_same], by simp, ?_⟩⟩
      exact k d _ hd ne (by rw [upd_ne (Ne.symm ne), upd_same]) upd_same fun b hb hb2 => by rw [upd_ne hb2, upd_ne hb, upd_ne hb2]
theorem ok_xinit3 {x y z qual : Str} {st : Stmt} {f : Addr} {fd : FuncData} {p1 p2 p3 p4 q1 q2 q3 q4 r1 r2 r3 r4 : Pos} (F : FnP K "__init__" qual st f fd) (Sc : FnScope ["self", x, y, z] ["self", x, y, z] (defScope st)) (T : OexC K C) (h1 : PySem.W.findIn K (.ref C) x = some none) (h2 : PySem.W.findIn K (.ref C) y = some none) (h3 : PySem.W.findIn K (.ref C) z = some none)
    (hb : defBody st = [.Assign [.Attribute (.Name "self" p1) x p2] (.Name x p3) p4, .Assign [.Attribute (.Name "self" q1) y q2] (.Name y q3) q4, .Assign [.Attribute (.Name "self" r1) z r2] (.Name z r3) r4])
    (hx : (x == ("__debug__" : Str)) = false := by decide) (hx2 : (x == ("__classdict__" : Str)) = false := by decide) (hy : (y == ("__debug__" : Str)) = false := by decide) (hy2 : (y == ("__classdict__" : Str)) = false := by decide) (hz : (z == ("__debug__" : Str)) = false := by decide) (hz2 : (z == ("__classdict__" : Str)) = false := by decide)
    (v0 : (defScope st).names.lookup ("self" : Str) = some .local := by rfl) (v1 : (defScope st).names.lookup x = some .local := by rfl) (v2 : (defScope st).names.lookup y = some .local := by rfl) (v3 : (defScope st).names.lookup z = some .local := by rfl) : FnOk P w K mg base (L2.CX P w) 1 f fd ["self", x, y, z] (spI C [x, y, z]) := by
  refine F.ok Sc (fun vs H Q E h => ?_) (fun cdv A outer s H vs Q E hr h => ?_)
  · obtain ⟨a, ws, rfl, hl, _⟩ := h
    simp [hl]
  · obtain ⟨a, ws, rfl, hl, ha, k⟩ := h
    match ws, hl with
    | [u, v, w], _ =>
      rw [hb]
      refine ⟨_, pss_cons (ps_ost (pe_var (i := 0) rfl (.inl v0) (by decide) (by decide)) (pe_var (i := 1) rfl (.inl v1) hx hx2)) (pss_cons (ps_ost (pe_var (i := 0) rfl (.inl v0) (by decide) (by decide)) (pe_var (i := 2) rfl (.inl v2) hy hy2)) (pss_one (ps_ost (pe_var (i := 0) rfl (.inl v0) (by decide) (by decide)) (pe_var (i := 3) rfl (.inl v3) hz hz2)))), ?_⟩
      refine ⟨_, rfl, _, rfl, a, C, rfl, T, h1, .inl ⟨ha, fun d hd ne => ?_⟩⟩
      refine ⟨_, rfl, _, rfl, a, C, rfl, T, h2, .inr ⟨d, [(x, u)], upd_same, by rw [upd_ne ne, upd_same], by simp, ?_⟩⟩
      refine ⟨_, rfl, _, rfl, a, C, rfl, T, h3, .inr ⟨d, [(y, v), (x, u)], by rw [upd_ne (Ne.symm ne), upd_same], upd_same, by simp, ?_⟩⟩
      exact k d _ hd ne (by rw [upd_ne (Ne.symm ne), upd_ne (Ne.symm ne), upd_same]) upd_same fun b hb hb2 => by rw [upd_ne hb2, upd_ne hb2, upd_ne hb, upd_ne hb2]
/-- what a raise of such a class asks -/
structure Xc (P : Program) (w : World) (K : PySem.W.Frag) (mg : Str → Option Value) (base : Heap) (S : Sta) (k c : Nat) (x : Str) (fids : List Nat) : Prop where
  at_ : mg x = some (.ref (S.ca c))
  T : OexC K (S.ca c)
  ex : ∃ (fI : Addr) (fd : FuncData) (ps xs : List Str), PySem.W.findIn K (.ref (S.ca c)) "__init__" = some (some (.ref fI)) ∧ PySem.W.typeIn K (.ref fI) = some (.type "function") ∧ FnOk P w K mg base (L2.CX P w) k fI fd ps (spI (S.ca c) xs) ∧ Binds K fd ps [] ∧
    xs.length = fids.length ∧ ∀ (i : Nat) (x : Str), xs[i]? = some x → ∃ j : Nat, fids[i]? = some j ∧ S.nm[j]? = some x
end
section
variable {X : Cx} {S : Sta} {Wx : Wi} {e a b o : Expr} {es rest : List Expr} {st : Stmt} {sts bd : List Stmt} {m m1 m2 : Ex} {ms : Ax} {t : Tx} {s1 s2 : Sx} {pos p pos' : Pos} {rho rho' : List Addr} {H H' : Hp} {D D' : Ends} {sg : L2.St} {ta : En} {h : HA}
theorem RF_zip {fids : List Nat} : ∀ {xs : List Str} {ws : List W} {vs : List V} {fs : List Nat} , RVs S rho H ws vs → xs.length = fs.length → (∀ (i : Nat) (x : Str), xs[i]? = some x → ∃ j : Nat, fs[i]? = some j ∧ S.nm[j]? = some x) → RF S rho H (fs.zip ws) (xs.zip vs)
  | [], ws, vs, [], _, _, _ => by cases ws <;> cases vs <;> exact .nil
  | x :: xs, [], vs, f :: fs, r, _, _ => by cases r; exact .nil
  | x :: xs, w :: ws, [], f :: fs, r, _, _ => by cases r
  | x :: xs, w :: ws, v :: vs, f :: fs, r, hl, h => by
    cases r with
    | cons r1 r2 =>
      obtain ⟨j, e1, e2⟩ := h 0 x rfl
      simp at e1
      subst e1
      exact .cons e2 r1 (RF_zip (fids := fids) r2 (by simpa using hl) fun i y q => by simpa using h (i + 1) y (by simpa using q))
theorem RF_app {fs fs' : List (Nat × W)} {gs gs' : List (Str × V)} (r : RF S rho H fs gs) (q : RF S rho H fs' gs') : RF S rho H (fs ++ fs') (gs ++ gs') := by
  induction r with
  | nil => exact q
  | cons n v t ih => exact .cons n v ih
theorem RF_rev {fs : List (Nat × W)} {gs : List (Str × V)} (r : RF S rho H fs gs) : RF S rho H fs.reverse gs.reverse := by
  induction r with
  | nil => exact .nil
  | cons n v t ih => rw [List.reverse_cons, List.reverse_cons]; exact RF_app ih (.cons n v .nil)
def sRaise (c : Nat) (fids : List Nat) (ms : Ax) : Sx := fun ta h => (ms ta h).to ta fun ws h1 => if ws.length = fids.length ∧ ws.length ≤ 1000 then .exc c (fids.zip ws).reverse ta h1 else .stuck
theorem ds_raise {k c : Nat} {x : Str} {fids : List Nat} (K : S.K = X.K) (hc : X.calm = true) (tk : Takes X Wx.wx) (Xk : Xc X.prog X.w X.K X.mg X.base S k c x fids) (hr : Room (k + 1) X.A) (hg : Gl X x) (ha : DA S X Wx (e :: es) ms) (hdb : (x == ("__debug__" : Str)) = false := by decide)
    (he : starEach (e :: es) X.env = (false, eval e X.env) :: starEach es X.env := by rfl) (hpl : (backTo pos (starEach es X.env)).any (·.1) = false := by rfl) : DS S X Wx (.Raise (some (.Call (.Name x p) (e :: es) [] pos)) none pos') (sRaise c fids ms) := by
  obtain ⟨fI, fd, ps, xs, iC, tI, F1, hb, hl, hnm⟩ := Xk.ex
  refine ps_imp (ps_raise hc tk (pmk_oex Xk.T iC tI F1 hr hb .nil passL hg Xk.at_ ha hdb he hpl)) fun D sg H q => ?_
  refine tS_toA (k := fun ta ws h1 => if ws.length = fids.length ∧ ws.length ≤ 1000 then .exc c (fids.zip ws).reverse ta h1 else .stuck) q fun rho1 H1 ta v1 w1 h1 l rs r g1 => ?_
  split at g1
  · rename_i lw
    have lv := r.length
    refine ⟨by omega, fun ad hn => ⟨ad, v1, by simp, by rw [← lv, lw.1, hl], upd_same, fun d H2 hd ne e1 e2 e3 => ?_⟩⟩
    have hd1 : H1 d = none := by rw [upd_ne ne] at hd; exact hd
    refine ⟨rfl, d, xfs xs v1, e1, e2, hd1, ?_⟩
    have eq : upd (del H2 ad) d (.xd (xfs xs v1)) = upd H1 d (.xd (xfs xs v1)) := by
      funext b
      by_cases hb : b = d
      · subst hb; rw [upd_same, upd_same]
      · rw [upd_ne hb, upd_ne hb]
        by_cases hb2 : b = ad
        · subst hb2; rw [del_same, hn]
        · rw [del_ne hb2, e3 b hb2 hb, upd_ne hb2]
    rw [eq]
    have ev : Ev S rho1 H1 rho1 (upd H1 d (.xd (xfs xs v1))) := Ev.lay hd1
    refine g1 rho1 _ sg (some d) ev (l.lay hd1) (rs.mono ev) (.inr ⟨d, xfs xs v1, rfl, l.fresh hd1, upd_same, ?_⟩)
    exact RF_rev (RF_zip (fids := fids) (r.mono ev) hl hnm)
  · exact g1.elim

/-! ### try .. except C as n -/
/-- the suite's end: the name is gone -/
def SR.drop (r : SR) (i : Nat) : SR := match r with
  | .nx ta h => .nx ((clrX ta).set i none) h
  | .rt w h => .rt w h
  | .bk ta h => .bk ((clrX ta).set i none) h
  | .ct ta h => .ct ((clrX ta).set i none) h
  | _ => .stuck
def sTry (mt : Nat → Option Bool) (i : Nat) (b hd : Sx) : Sx := fun ta h => match b ta h with
  | .exc c fs ta1 h1 => (match mt c with
    | some true => if fs.isEmpty = true then (hd (ta1.set i none) h1).drop i else (hd (ta1.set i (some (.xcp c fs))) h1).drop i
    | some false => .exc c fs ta1 h1
    | none => .stuck)
  | r => r
theorem RS_out {Wx' : Wi} {i : Nat} (r : RS S Wx' rho H ta sg) : RS S Wx rho H ((clrX ta).set i none) (sg.set i none) := by
  have q := RS_clr r
  refine RS.drop ⟨q.len, fun j w z => ?_⟩
  obtain ⟨v, e1, r1⟩ := q.at_ j w z
  rcases r1 with r1 | ⟨_, _, _, _, _, _, _, z2, _⟩
  · exact ⟨v, e1, .inl r1⟩
  · cases z2
theorem GS.drop {r : SR} {i : Nat} {Wx' : Wi} (g : GS S Wx D rho H (r.drop i)) : GS S Wx' { nx := fun sg' H' => D.nx (sg'.set i none) H', rt := D.rt, bk := fun sg' H' => D.bk (sg'.set i none) H', ct := fun sg' H' => D.ct (sg'.set i none) H' } rho H r := by
  cases r with
  | nx ta h => exact fun r2 H2 sg e2 l rs => g r2 H2 _ e2 l (RS_out rs)
  | rt w h => exact g
  | bk ta h => exact fun r2 H2 sg e2 l rs => g r2 H2 _ e2 l (RS_out rs)
  | ct ta h => exact fun r2 H2 sg e2 l rs => g r2 H2 _ e2 l (RS_out rs)
  | exc c fs ta h => exact g.elim
  | stuck => exact g.elim
/-- the wish within the suite of the caught exception at a -/
def Wsu (cur : Option (Addr × Nat × Addr)) : Wi := ⟨fun _ _ _ _ => False, cur⟩
/-- what stands at a, where the caught one is told -/
def CurOk (S : Sta) (a : Addr) (oe : Obj) (cur : Option (Addr × Nat × Addr)) : Prop := (∃ vs, oe.data = .fields vs) ∧ ∀ a' c dd, cur = some (a', c, dd) → a' = a ∧ Zc (.ref (S.ca c)) (some dd) oe
theorem ds_try {x n : Str} {cc : Addr} {i : Nat} {bb hd : Sx} {b0 : Stmt} {suite : List Stmt} {np : Pos} {mt : Nat → Option Bool} (K : S.K = X.K) (hcur : Wx.cur = none) (hs : X.stack = X.env :: X.outer) (hf : X.env.frame = some X.env.locals) (hN : X.N.Nodup) (hi : X.N[i]? = some n) (hln : X.env.kindOf n = some .local)
    (hc : Names X x (.ref cc)) (hmt : ∀ c b, mt c = some b → PySem.W.exmOne X.K (.ref (S.ca c)) (.ref cc) = some b) (tk : Takes X Wx.wx)
    (hb : ∀ (W : WX) (pn : List (Addr × Obj)) (xe : Value → Shared → Prop), Takes (X.tr pn xe) W → PassesOwn (model X.prog X.w) X.A X.env xe → DB S (X.tr pn xe) ⟨W, none⟩ bd bb)
    (hsu : ∀ (a : Addr) (oe : Obj) (cur : Option (Addr × Nat × Addr)) (pn : List (Addr × Obj)), CurOk S a oe cur → DB S (X.suite a ((a, oe) :: pn)) (Wsu cur) (b0 :: suite) hd) :
    DS S X Wx (.Try bd [.ExceptHandler (some (.Name x np)) (some n) (b0 :: suite) pos'] [] [] pos) (sTry mt i bb hd) := by
  have base := ps_try_as (X := X) (x := x) (n := n) (c := .ref cc) (i := i) (body := bd) (suite := suite) (b₀ := b0) (np := np) (pos := pos) (pos' := pos') (tb := fun W => tS S ⟨W, none⟩ bb)
    (ts := fun a cls d D sg H => ∃ c, cls = .ref (S.ca c) ∧ ∃ cur, (∀ a' c' dd, cur = some (a', c', dd) → a' = a ∧ c' = c ∧ d = some dd) ∧ tS S (Wsu cur) hd D sg H)
    hs hf hN hi hln hc tk (fun W pn xe t1 t2 => hb W pn xe t1 t2) (fun a oe cls d pn hz hfd => ?_)
  · refine ps_imp base fun D sg H q => ?_
    obtain ⟨rho, h, ta, l, rs, g⟩ := q
    refine ⟨rho, h, ta, l, ⟨rs.len, fun j w z => ?_⟩, ?_⟩
    · obtain ⟨v, e1, r1⟩ := rs.at_ j w z
      rcases r1 with r1 | ⟨_, _, _, _, _, _, _, z2, _⟩
      · exact ⟨v, e1, .inl r1⟩
      · rw [hcur] at z2; cases z2
    have cv : ∀ {rho' H' ta' sg'} {W : WX}, RS S ⟨W, none⟩ rho' H' ta' sg' → RS S Wx rho' H' ta' sg' := fun {rho' H' ta' sg' W} r => ⟨r.len, fun j w z => by
      obtain ⟨v, e1, r1⟩ := r.at_ j w z
      rcases r1 with r1 | ⟨_, _, _, _, _, _, _, z2, _⟩
      · exact ⟨v, e1, .inl r1⟩
      · cases z2⟩
    unfold sTry at g
    cases z : bb ta h with
    | nx ta1 h1 => rw [z] at g; exact fun r2 H2 sg2 e2 l2 rs2 => g r2 H2 sg2 e2 l2 (cv rs2)
    | rt w1 h1 => rw [z] at g; exact g
    | bk ta1 h1 => rw [z] at g; exact fun r2 H2 sg2 e2 l2 rs2 => g r2 H2 sg2 e2 l2 (cv rs2)
    | ct ta1 h1 => rw [z] at g; exact fun r2 H2 sg2 e2 l2 rs2 => g r2 H2 sg2 e2 l2 (cv rs2)
    | stuck => rw [z] at g; exact g
    | exc c fs ta1 h1 =>
      rw [z] at g
      dsimp only at g
      intro rho2 H2 sg2 d ev2 l2 rs2 x2
      cases zm : mt c with
      | none => rw [zm] at g; exact g.elim
      | some bm =>
        rw [zm] at g
        refine ⟨bm, hmt c bm zm, fun hbm a0 ha0 => ?_, fun hbm => ?_⟩
        · subst hbm
          dsimp only at g
          rcases x2 with ⟨rfl, rfl⟩ | ⟨dd, gs, rfl, nd, hd2, rf2⟩
          · rw [if_pos (show ([] : List (Nat × W)).isEmpty = true from rfl)] at g
            refine ⟨c, rfl, none, (fun a' c' dd q => by cases q), rho2, h1, ta1.set i none, l2, ?_, ?_⟩
            · have r3 := (RS.drop (i := i) (z := some (.ref a0)) rs2)
              exact ⟨r3.len, fun j w q => by
                obtain ⟨v, e1, r1⟩ := r3.at_ j w q
                rcases r1 with r1 | ⟨_, _, _, _, _, _, _, z2, _⟩
                · exact ⟨v, e1, .inl r1⟩
                · cases z2⟩
            · exact GS.drop (GS.mono ev2 g)
          · by_cases hfs : fs.isEmpty = true
            · rw [if_pos hfs] at g
              refine ⟨c, rfl, none, (fun a' c' dd q => by cases q), rho2, h1, ta1.set i none, l2, ?_, ?_⟩
              · have r3 := (RS.drop (i := i) (z := some (.ref a0)) rs2)
                exact ⟨r3.len, fun j w q => by
                  obtain ⟨v, e1, r1⟩ := r3.at_ j w q
                  rcases r1 with r1 | ⟨_, _, _, _, _, _, _, z2, _⟩
                  · exact ⟨v, e1, .inl r1⟩
                  · cases z2⟩
              · exact GS.drop (GS.mono ev2 g)
            · rw [if_neg hfs] at g
              refine ⟨c, rfl, some (a0, c, dd), (fun a' c' dd' q => by cases q; exact ⟨rfl, rfl, rfl⟩), rho2, h1, ta1.set i (some (.xcp c fs)), l2, ?_, GS.drop (GS.mono ev2 g)⟩
              refine ⟨by rw [List.length_set, List.length_set]; exact rs2.len, fun j w q => ?_⟩
              by_cases hj : i = j
              · subst hj
                by_cases hl : i < ta1.length
                · rw [List.getElem?_set_self hl] at q
                  cases q
                  exact ⟨.ref a0, List.getElem?_set_self (by rw [← rs2.len]; exact hl), .inr ⟨c, fs, a0, dd, gs, rfl, rfl, rfl, nd, hd2, rf2⟩⟩
                · rw [List.getElem?_eq_none (by simpa using hl)] at q; cases q
              · rw [List.getElem?_set_ne hj] at q
                rw [List.getElem?_set_ne hj]
                obtain ⟨v, e1, r1⟩ := rs2.at_ j w q
                rcases r1 with r1 | ⟨_, _, _, _, _, _, _, z2, _⟩
                · exact ⟨v, e1, .inl r1⟩
                · cases z2
        · subst hbm
          exact g rho2 H2 sg2 d ev2 l2 (cv rs2) x2
  · refine ⟨fun pins s sg H D I q => ?_⟩
    obtain ⟨c, rfl, cur, hcu, q⟩ := q
    refine (hsu a oe cur pn ⟨hfd, fun a' c' dd e => ?_⟩).run pins s sg H D I q
    obtain ⟨rfl, rfl, rfl⟩ := hcu a' c' dd e
    exact ⟨rfl, hz⟩
/-- e.f within the suite, e the caught exception of one of the classes cs -/
def eXf (i : Nat) (cs : List Nat) (f : Nat) : Ex := fun ta h => match ta[i]? with
  | some (some (.xcp c fs)) => if c ∈ cs then (match fs.lookup f with
    | some w => .ok w h
    | none => .stuck) else .stuck
  | _ => .stuck
theorem de_xf {a0 : Addr} {oe : Obj} {cur : Option (Addr × Nat × Addr)} {pn : List (Addr × Obj)} {x n : Str} {i f : Nat} {cs : List Nat} {np : Pos} (cok : CurOk S a0 oe cur) (nd : S.nm.Nodup) (hf : S.nm[f]? = some n)
    (ck : ∀ c ∈ cs, XfC X.K (S.ca c) ∧ PySem.W.findIn X.K (.ref (S.ca c)) n = some none) (hN : X.N[i]? = some x) (hv : Vis X.env.scope x)
    (hd : (x == ("__debug__" : Str)) = false := by decide) (hcd : (x == ("__classdict__" : Str)) = false := by decide)
    (hb : attributeBase (.Name x np) n X.env (eval (.Name x np) X.env) = eval (.Name x np) X.env := by rfl) : DE S (X.suite a0 ((a0, oe) :: pn)) (Wsu cur) (.Attribute (.Name x np) n pos) (eXf i cs f) := by
  refine ⟨fun pins s sg H Q I q => ?_⟩
  obtain ⟨rho, h, ta, l, rs, g⟩ := q
  unfold eXf at g
  split at g
  · rename_i c fs e
    split at g
    · rename_i hc
      cases z : fs.lookup f with
      | none => rw [z] at g; exact g.elim
      | some w =>
        rw [z] at g
        obtain ⟨v, e1, r1⟩ := rs.at_ i _ e
        rcases r1 with r1 | ⟨c', fs', a', dd, gs, q1, rfl, q3, q4, q5, q6⟩
        · cases r1
        · cases q1
          obtain ⟨rfl, hz⟩ := cok.2 a' c dd q3
          obtain ⟨y, y1, y2⟩ := RF_get nd hf q6 z
          exact (pe_xf (X := X) (a := a') (C := S.ca c) (oe := oe) (cls := .ref (S.ca c)) (d := some dd) (pn := pn) (n := n) (ck c hc).1 (ck c hc).2 hz cok.1 (pe_var (X := X.suite a' ((a', oe) :: pn)) (i := i) hN hv hd hcd) hb).run pins s sg H Q I ⟨.ref a', e1, rfl, rfl, dd, gs, y, rfl, q5, y1, g rho H y Ev.rfl' l y2⟩
    · exact g.elim
  · exact g.elim
/-! ### while -/
def sWhile (t : Tx) (b : Sx) : Nat → Sx
  | 0, _, _ => .stuck
  | n + 1, ta, h => (t ta h).to ta fun k h1 => if k = true then (b ta h1).turn (sWhile t b n) else .nx ta h1
theorem ds_while {c : Expr} {b : Sx} {n : Nat} (hp : PassesOwn (model X.prog X.w) X.A X.env X.xe) (hc : DT S X Wx c t) (hb : DB S X Wx bd b) : DS S X Wx (.While c bd [] pos) (sWhile t b n) := ps_imp (ps_while hp hc hb) fun D sg H q => by
  refine ⟨fun m sg H => tS S Wx (sWhile t b m) D sg H, ⟨n, q⟩, fun m sg H q => ?_⟩
  cases m with
  | zero => obtain ⟨_, _, _, _, _, g⟩ := q; exact g.elim
  | succ m =>
    refine tS_toB (k := fun ta k h1 => if k = true then (b ta h1).turn (sWhile t b m) else .nx ta h1) q fun rho1 H1 ta w h1 l rs g => ?_
    cases w with
    | false => exact g rho1 H1 sg Ev.rfl' l rs
    | true => exact ⟨tS S Wx (sWhile t b m) D, fun sg' H' z => ⟨m, Nat.lt_succ_self _, z⟩, rho1, h1, ta, l, rs, GS.of_turn g⟩
end
end J

namespace J
open PySem PySem.Spec PyProof.Rows L2
section
variable {X : Cx} {S : Sta} {Wx : Wi} {e a b o : Expr} {es rest : List Expr} {m m1 m2 : Ex} {ms : Ax} {pos p apos : Pos} {k n : Nat} {f : Addr} {g : Mir} {ds : List W}
/-! ### a == b, a an instance of a class with an own __eq__ -/
/-- the type of the right one is no class below the left one's -/
def rightOk (K : PySem.W.Frag) (S : Sta) (cs : List Nat) (C : Addr) : Prop := ∀ g : Tg, (∀ c, g = .ins c → c ∈ cs) → PySem.W.notFirst K C (tgV S g) = true
structure Eqo (P : Program) (w : World) (K : PySem.W.Frag) (mg : Str → Option Value) (base : Heap) (S : Sta) (k : Nat) (cs : List Nat) (c : Nat) (g : Mir) : Prop where
  nf : rightOk K S cs (S.ca c)
  ex : ∃ f, PySem.W.findIn K (.ref (S.ca c)) "__eq__" = some (some (.ref f)) ∧ PySem.W.isFn K (.ref f) = true ∧ FnM P w K mg base S k f 2 g []
/-- data: as ever; an instance of the class c0: its own __eq__ -/
def eqC (cs : List Nat) (c0 : Nat) (g : Mir) (neg : Bool) (x y : W) (h : HA) : Res W := match clsOf h x with
  | some c => if c = c0 ∧ neg = false then (match tgC cs y h with
    | some _ => g [x, y] h
    | none => .stuck) else .stuck
  | none => ofO (if neg = true then oNe x y h else oEq x y h)
def eEqC (cs : List Nat) (c0 : Nat) (g : Mir) (m1 m2 : Ex) : Ex := fun ta h => (m1 ta h).bind fun x h1 => (m2 ta h1).bind fun y h2 => eqC cs c0 g false x y h2
theorem kit_type {pins : List (Addr × Obj)} {sg : L2.St} {H : Hp} {s : Shared} (K : S.K = X.K) {cs : List Nat} (ck : ∀ c ∈ cs, Ck X.K (S.ca c)) (I : Inv X pins sg H s) {v : V} {u : Value} {tg : Tg} (ru : RelV v u) (ty : TyX X.K H v (tgV S tg)) : PySem.W.Looks (model X.prog X.w) s.heap (typeOf u) (tgV S tg) := by
  obtain ⟨Pr, kx, hp, _⟩ := kit_of I ru ty
  exact kx.ty _ _ I.kIn hp
theorem pc_eqC {cs : List Nat} {c0 : Nat} (K : S.K = X.K) (ck : ∀ c ∈ cs, Ck X.K (S.ca c)) (G : Eqo X.prog X.w X.K X.mg X.base S k cs c0 g) (hr : Room k X.A) (tk : Takes X Wx.wx) (ha : DE S X Wx a m1) (hb : DE S X Wx b m2) : PC X .Eq a b (tE S Wx (eEqC cs c0 g m1 m2)) := by
  obtain ⟨f, hs, hf, F⟩ := G.ex
  refine ⟨fun pins s sg H Q I q => ?_⟩
  obtain ⟨rho, h, ta, l, rs, g0⟩ := q
  have q1 : tE S Wx m1 sg H fun x H1 => ∃ rho h w, Rl S rho h H1 ∧ RS S Wx rho H1 ta sg ∧ RV S rho H1 w x ∧ GE S Wx sg rho H1 Q ((m2 ta h).bind fun y h2 => eqC cs c0 g false w y h2) :=
    ⟨rho, h, ta, l, rs, GE.of_bind g0 fun rho1 H1 v1 w1 h1 e l1 r1 g1 => ⟨rho1, h1, w1, l1, rs.mono e, r1, g1⟩⟩
  refine thn (ha.run pins s sg H _ I q1) fun v s1 hh => ?_
  obtain ⟨x, H1, I1, rx, rho1, h1, w1, l1, rs1, r1, g1⟩ := hh
  have q2 : tE S Wx m2 sg H1 fun y H2 => ∃ rho h w2, Rl S rho h H2 ∧ RV S rho H2 w1 x ∧ RV S rho H2 w2 y ∧ GE S Wx sg rho H2 Q (eqC cs c0 g false w1 w2 h) :=
    ⟨rho1, h1, ta, l1, rs1, GE.of_bind g1 fun rho2 H2 v2 w2 h2 e l2 r2 g2 => ⟨rho2, h2, w2, l2, r1.mono e, r2, g2⟩⟩
  refine thn (hb.run pins s1 sg H1 _ I1 q2) fun u s2 hh => ?_
  obtain ⟨y, H2, I2, ry, rho2, h2, w2, l2, rx2, ry2, g2⟩ := hh
  unfold eqC at g2
  split at g2
  · rename_i c hc
    split at g2
    · rename_i hcc
      obtain ⟨rfl, _⟩ := hcc
      split at g2
      · rename_i tg ht
        have ty := ty_of K ck l2 ry2 ht
        obtain ⟨ad, dx, fs, gs, rfl, ea, ef⟩ := cls_of l2 rx2 hc
        obtain rfl : v = Value.ref ad := rx
        obtain ⟨mA, J0, _⟩ := ins_get I2.hok ea
        obtain ⟨od, J1, _⟩ := J0.look
        obtain ⟨mm, hF⟩ := I2.fr
        have ok2 := G.nf tg fun c' e' => by
          subst e'
          unfold tgC at ht
          split at ht
          · split at ht
            · cases ht; assumption
            · cases ht
          · rename_i hno
            exact absurd ht (hno c')
        refine PySem.W.cmp_K (op := .Eq) hr.units0 hF I2.ok.mod.kin J1 (kit_type K ck I2 ry ty) ok2 hs hf ?_
        refine thn (run_m (us := [.ref ad, u]) (vs := [.ref ad, y]) (ws := [w1, w2]) F hr tk I2 (.cons (show L2.RelV (V.ref ad) (Value.ref ad) from rfl) (.cons ry .nil)) l2 (.cons rx2 (.cons ry2 .nil)) rfl (by simpa using g2)) fun r s3 hh => ?_
        obtain ⟨z, H3, I3, rz, qz⟩ := hh
        have fin : EP X pins sg Q r s3 := ⟨z, H3, I3, rz, qz⟩
        cases z <;> first
          | (cases rz; exact fin)
          | (obtain ⟨tt, rfl⟩ := rz; exact fin)
      · exact g2.elim
    · exact g2.elim
  · exact ok_eq K hr.units pins s2 sg H2 x y v u Q I2 rx ry ⟨rho2, h2, w1, w2, l2, rx2, ry2, GO.of g2⟩
theorem de_eqC {cs : List Nat} {c0 : Nat} (K : S.K = X.K) (ck : ∀ c ∈ cs, Ck X.K (S.ca c)) (G : Eqo X.prog X.w X.K X.mg X.base S k cs c0 g) (hr : Room k X.A) (tk : Takes X Wx.wx) (ha : DE S X Wx a m1) (hb : DE S X Wx b m2)
    (hm : behindInMarks .Eq b = false := by first | exact nomark _ | rfl) : DE S X Wx (.Compare a [.Eq] [b] pos) (eEqC cs c0 g m1 m2) := pe_cmp (pc_eqC K ck G hr tk ha hb) hm
end
/-! ### the law's end -/
/-- what the law promises -/
def spL (K : PySem.W.Frag) : Sp := fun vs H Q _ => ∃ (a : Addr) (ns : List Int), vs = [.ref a] ∧ SqL K H a (ns.map V.int) ∧ ns.length ≤ 63 ∧ (∀ z ∈ ns, Builtin.Int.intBits z ≤ 1048576) ∧ Only H ∧ ∀ H', Q (.bl true) H'
theorem rvs_ints {S : Sta} {rho : List Addr} {H : Hp} : ∀ ns : List Int, RVs S rho H (ns.map W.int) (ns.map V.int)
  | [] => .nil
  | n :: ns => .cons (.int n) (rvs_ints ns)
theorem law_of {P : Program} {w : World} {K : PySem.W.Frag} {mg : Str → Option Value} {base : Heap} {S : Sta} {k : Nat} {f : Addr} {fd : FuncData} {ps : List Str} {g : Mir} (hK : S.K = K) (F : FnOk P w K mg base (L2.CX P w) k f fd ps (spM S 1 g))
    (hg : ∀ ns : List Int, ns.length ≤ 63 → (∀ z ∈ ns, Builtin.Int.intBits z ≤ 1048576) → ∃ h', g [.cst (ns.map W.int)] [] = .ok (.bl true) h') : FnOk P w K mg base (L2.CX P w) k f fd ps (spL K) := by
  refine F.imp fun vs H Q E hh => ?_
  obtain ⟨a, ns, rfl, hS, hl, hb, hO, hQ⟩ := hh
  obtain ⟨h', e⟩ := hg ns hl hb
  refine ⟨rfl, [], [], [.cst (ns.map W.int)], ⟨rfl, List.nodup_nil, fun i o p z => by cases i <;> cases z⟩, .cons (.cst ?_ (rvs_ints ns)) .nil, ?_⟩
  · rw [hK]
    rcases hS with (z | ⟨o, z⟩) | z
    · rcases hO a with c | ⟨o, xs, c⟩
      · rw [c] at z; cases z
      · rw [c] at z; cases z
    · exact .inl ⟨o, z⟩
    · exact .inr z
  · rw [e]
    intro rho' H' v _ _ rv
    cases rv
    exact hQ H'
theorem walk_J {l : PySem.W.OpenLaw} {k : Nat} {q : Program} {loose : List Str} {XP : (Str → Option Value) → Heap → Prop} {YP : World → Heap → Prop} {d : DefRec} {x : Str}
    (hn : l.most = some 63) (hdf : d.params.defaults = []) (hr : Room k callerA)
    (F : ∀ (w : World) (mg : Str → Option Value) (fa : Addr) (h : Heap), YP w h → h.Ns mainGlobals mg → mg d.name = some (.ref fa) →
      ∃ (K : PySem.W.Frag) (fd : FuncData), K.In h ∧ (∀ (s : Shared) (u : Value), BindsTo s fd ⟨[u], []⟩ [(x, u)]) ∧
        ∀ base : Heap, K.In base → base.Ns mainGlobals mg → FnOk l.prog w K mg base (L2.CX l.prog w) k fa fd [x] (spL K)) :
    PySem.W.WalkO q loose XP YP l.row.toRowW d [] (fun f vs => PySem.call f vs) := by
  refine Att.attach_callB hn hdf fun w s0 s1 mg mb fa o pm cd doc a vs ns G Y ho hd hcd hmg hobj hints hlen hbits hg => ?_
  obtain ⟨K, fd, KX, hb, hF⟩ := F w mg fa _ Y G.T.g hmg
  exact law_call KX G.T.g G.T.b G.T.builtins G.T.nolimit hg hobj hints (Nat.le_trans hlen (by decide)) hr hF hb (fun H hO hS => ⟨a, ns, rfl, hS, hlen, hbits, hO, fun _ => rfl⟩) fun H e s' z => by
    obtain ⟨_, _, _, _, _, _, _, _, _, _, _, _, c⟩ := z
    exact c
end J

namespace J
open PySem PySem.Spec PyProof.Rows L2
section
variable {X : Cx} {S : Sta} {Wx : Wi} {e a b c o : Expr} {es rest : List Expr} {m m1 m2 m3 : Ex} {ms : Ax} {pos p pos' : Pos} {rho : List Addr} {H : Hp} {h : HA}
theorem chain_imp {f f' : W → W → HA → Option (W × HA)} {sg : L2.St} {Q : VK} (q : tE S Wx (eChain f f' m1 m2 m3) sg H Q) : tChain (rA S f) (rA S f') (tE S Wx m1) (tE S Wx m2) (tE S Wx m3) sg H Q := by
    refine tE_bind (k := fun ta x h1 => (m2 ta h1).bind fun y h2 => match f x y h2 with
      | some (.bl true, h3) => (m3 ta h3).bind fun z h4 => ofO (f' y z h4)
      | some (.bl false, h3) => .ok (.bl false) h3
      | _ => .stuck) q fun rho1 H1 ta v1 w1 h1 l1 rs r1 g1 => ?_
    refine ⟨rho1, h1, ta, l1, rs, GE.of_bind g1 fun rho2 H2 v2 w2 h2 ev l2 r2 g2 => ?_⟩
    refine ⟨rho2, h2, w1, w2, l2, r1.mono ev, r2, ?_⟩
    cases z : f w1 w2 h2 with
    | none => rw [z] at g2; exact g2.elim
    | some pr =>
      obtain ⟨d, h3⟩ := pr
      rw [z] at g2
      intro rho3 H3 v3 ev3 l3 r3
      cases d with
      | bl k =>
        cases r3
        refine ⟨k, rfl, ?_⟩
        cases k with
        | true =>
          refine ⟨rho3, h3, ta, l3, rs.mono (ev.trans ev3), GE.of_bind (GE.mono ev3 g2) fun rho4 H4 v4 w4 h4 ev4 l4 r4 g4 => ?_⟩
          exact ⟨rho4, h4, w2, w4, l4, (r2.mono ev3).mono ev4, r4, GO.of g4⟩
        | false => exact g2 rho3 H3 _ ev3 l3 (.bl _)
      | _ => exact g2.elim
theorem de_chain {op op' : CmpOp} {f f' : W → W → HA → Option (W × HA)} (ho : OpR X (compareOp op) (rA S f)) (ho' : OpR X (compareOp op') (rA S f')) (ha : DE S X Wx a m1) (hb : DE S X Wx b m2) (hc : DE S X Wx c m3)
    (hm : lastMarks [op, op'] [b, c] = false := by with_unfolding_all rfl) : DE S X Wx (.Compare a [op, op'] [b, c] pos) (eChain f f' m1 m2 m3) :=
  pe_imp (pe_chain ho ho' ha hb hc hm) fun sg H Q q => chain_imp q
/-! ### comparisons as tests -/
def xTb (m : Ex) : Tx := fun ta h => (m ta h).bind fun x h1 => match x with
  | .bl b => .ok b h1
  | _ => .stuck
theorem xTb_imp {sg : L2.St} {Q : Bool → Hp → Prop} (q : tT S Wx (xTb m) sg H Q) : tE S Wx m sg H fun x H' => ∃ k, x = .bl k ∧ Q k H' :=
  tT_bindE (k := fun _ x h1 => match x with
    | .bl b => .ok b h1
    | _ => .stuck) q fun rho H1 ta v w h l rs r g => by
    cases w with
    | bl b =>
      cases r
      exact ⟨b, rfl, g rho H1 Ev.rfl' l⟩
    | _ => exact g.elim
theorem dt_cmp {op : CmpOp} {o : W → W → HA → Option (W × HA)} (ho : OpR X (compareOp op) (rA S o)) (ha : DE S X Wx a m1) (hb : DE S X Wx b m2) (hm : behindInMarks op b = false := by first | exact nomark _ | rfl) : DT S X Wx (.Compare a [op] [b] pos) (xTb (eOp o m1 m2)) :=
  pt_imp (pt_cmpR ho ha hb hm) fun sg H Q q => two (xTb_imp q) fun rho H x y a b h l rx ry g => ⟨rho, h, a, b, l, rx, ry, GO.of g⟩
theorem dt_chain {op op' : CmpOp} {f f' : W → W → HA → Option (W × HA)} (ho : OpR X (compareOp op) (rA S f)) (ho' : OpR X (compareOp op') (rA S f')) (ha : DE S X Wx a m1) (hb : DE S X Wx b m2) (hc : DE S X Wx c m3)
    (hm : lastMarks [op, op'] [b, c] = false := by with_unfolding_all rfl) : DT S X Wx (.Compare a [op, op'] [b, c] pos) (xTb (eChain f f' m1 m2 m3)) :=
  pt_imp (pt_chain ho ho' ha hb hc hm) fun sg H Q q => chain_imp (xTb_imp q)
theorem dt_eqC {cs : List Nat} {c0 k : Nat} {g : Mir} (K : S.K = X.K) (ck : ∀ c ∈ cs, Ck X.K (S.ca c)) (G : Eqo X.prog X.w X.K X.mg X.base S k cs c0 g) (hr : Room k X.A) (tk : Takes X Wx.wx) (ha : DE S X Wx a m1) (hb : DE S X Wx b m2)
    (hm : behindInMarks .Eq b = false := by first | exact nomark _ | rfl) : DT S X Wx (.Compare a [.Eq] [b] pos) (xTb (eEqC cs c0 g m1 m2)) :=
  pt_imp (pt_cmp (pc_eqC K ck G hr tk ha hb) hm) fun sg H Q q => xTb_imp q
/-! ### list(range(..)) -/
theorem cr_range1 : CallR X (.type "range") (fun vs H Q => ∃ j, vs = [V.int j] ∧ ∀ p, H p = none → Q (.ref p) (upd H p (.rng 0 j))) := by
  intro pins s sg H vs us Q I r q
  obtain ⟨j, rfl, q⟩ := q
  obtain ⟨u1, rfl, ri⟩ := vals1 r
  obtain ⟨t, rfl⟩ := ri
  refine call_range_1 ⟨.ref s.heap.objs.size, upd H s.heap.objs.size (.rng 0 j), I.laid (t' := s.toks + 1 + 1) (fun b o e => Heap.get?_push_of_some _ e) (Nat.le_refl _) ?_, rfl, q _ (I.hok.fresh (Nat.le_refl _))⟩
  exact ⟨s.toks, t, s.toks + 1, Heap.get?_push_size _ rfl⟩
def numV (lo : Int) : Nat → List V
  | 0 => []
  | n + 1 => .int lo :: numV (lo + 1) n
theorem numV_len : ∀ (n : Nat) (lo : Int), (numV lo n).length = n
  | 0, _ => rfl
  | n + 1, lo => by unfold numV; rw [List.length_cons, numV_len n]
theorem num_rv : ∀ (n : Nat) (lo : Int), RVs S rho H (numW lo n) (numV lo n)
  | 0, _ => .nil
  | n + 1, lo => .cons (.int lo) (num_rv n (lo + 1))
theorem num_vals : ∀ (n : Nat) (lo : Int) (us : List Value), us.length = n → (∀ (i : Nat) (v : Value), us[i]? = some v → ∃ t, v = .int (lo + i) t) → Vals (numV lo n) us
  | 0, _, us, hl, _ => by cases us <;> first | exact .nil | cases hl
  | n + 1, lo, [], hl, _ => by cases hl
  | n + 1, lo, u :: us, hl, hv => by
    obtain ⟨t, e⟩ := hv 0 u rfl
    refine .cons ⟨t, by rw [e]; simp⟩ (num_vals n (lo + 1) us (by simpa using hl) fun i v q => ?_)
    obtain ⟨t, e⟩ := hv (i + 1) v (by simpa using q)
    refine ⟨t, ?_⟩
    rw [e]
    congr 1
    omega
theorem call_listR (hc : X.calm = true) : CallR X (.type "list") (fun xs H Q => ∃ (r : Addr) (lo hi : Int), xs = [.ref r] ∧ H r = some (.rng lo hi) ∧ (-(2 ^ 62) ≤ lo ∧ lo < 2 ^ 62 ∧ -(2 ^ 62) ≤ hi ∧ hi < 2 ^ 62) ∧ (hi - lo).toNat ≤ sizeLine ∧ ∀ l, H l = none → Q (.ref l) (upd H l (.lst (numV lo (hi - lo).toNat)))) := by
  intro pins s sg H xs us Q I r q
  obtain ⟨ra, lo, hi, rfl, hr, ⟨c1, c2, c3, c4⟩, hz, q⟩ := q
  obtain ⟨u, rfl, ru⟩ := vals1 r
  obtain rfl : u = Value.ref ra := ru
  obtain ⟨t, u, v, e⟩ := I.hok ra _ hr
  have hsz : Builtin.Range.rangeSize lo hi 1 = (((hi - lo).toNat : Nat) : Int) := by rw [rangeSize_one]; split <;> omega
  rw [sizeLine_eq] at hz
  refine call_list_range (I.ok.hd hc) (show IsRange s.heap ra lo hi 1 t u v from e) (small_one c1 c2 c3 c4) hsz (by omega) fun h' tk acc' c' hk hS hit => ?_
  have hl : acc'.toList.length = (hi - lo).toNat := by rw [Array.length_toList]; exact hit.1
  have rv : Vals (numV lo (hi - lo).toNat) acc'.toList := num_vals _ _ _ hl fun i v q => by
    obtain ⟨t, e⟩ := hit.2 i v (by simpa using q)
    exact ⟨t, by rw [e, Int.mul_one]⟩
  refine ⟨.ref s.heap.objs.size, upd H s.heap.objs.size (.lst (numV lo (hi - lo).toNat)), I.laid (t' := tk) hk (Nat.le_refl _) ?_, rfl, q _ (I.hok.fresh (Nat.le_refl _))⟩
  refine ⟨by rw [numV_len, sizeLine_eq]; exact hz, acc'.toList, c', rv, ?_⟩
  rw [hS]
def eListR (rng : List W → Option (List W)) (ms : Ax) : Ex := fun ta h => (ms ta h).bind fun ws h1 => match rng ws with
  | some xs => if xs.length ≤ sizeLine then .ok (.ref h1.length) (h1 ++ [O.lst xs]) else .stuck
  | none => .stuck
theorem de_listR1 {p2 : Pos} (hc : X.calm = true) (hg : Gl X "list") (hm : X.mg "list" = none) (hg2 : Gl X "range") (hm2 : X.mg "range" = none) (ha : DA S X Wx [a] ms)
    (h1 : starEach [a] X.env = (false, eval a X.env) :: starEach [] X.env := by rfl) (hp1 : (backTo pos' (starEach [] X.env)).any (·.1) = false := by rfl)
    (h2 : starEach (.Call (.Name "range" p2) [a] [] pos' :: []) X.env = (false, eval (.Call (.Name "range" p2) [a] [] pos') X.env) :: starEach [] X.env := by rfl) (hp2 : (backTo pos (starEach [] X.env)).any (·.1) = false := by rfl) :
    DE S X Wx (.Call (.Name "list" p) [.Call (.Name "range" p2) [a] [] pos'] [] pos) (eListR rng1 ms) :=
  pe_imp (pe_callTy (call_listR hc) hg hm PyProof.Rows.boot_list (pa_cons (pe_callTy cr_range1 hg2 hm2 PyProof.Rows.boot_range ha (by decide) (by decide) h1 hp1) pa_nil h2) (by decide) (by decide) h2 hp2) fun sg H Q q =>
    tE_bindA (k := fun ta ws h1 => match rng1 ws with
      | some xs => if xs.length ≤ sizeLine then .ok (.ref h1.length) (h1 ++ [O.lst xs]) else .stuck
      | none => .stuck) q fun rho1 H1 ta v1 w1 h1 l rs r g1 => by
      split at g1
      · rename_i xs e
        unfold rng1 at e
        split at e
        · rename_i j
          split at e
          · rename_i cc
            cases e
            obtain ⟨v, rfl, rv⟩ := RVs_one r
            cases rv
            split at g1
            · rename_i lz
              rw [numW_len] at lz
              refine ⟨j, rfl, fun pr n => ⟨pr, 0, j, rfl, upd_same, ⟨by decide, by decide, cc.1, cc.2⟩, by rw [Int.sub_zero]; exact lz, fun pl nl => ?_⟩⟩
              rw [Int.sub_zero]
              have ev0 : Ev S rho1 H1 rho1 (upd H1 pr (.rng 0 j)) := Ev.lay n
              have l0 := l.lay (o := .rng 0 j) n
              exact g1 _ _ _ (ev0.trans (Ev.new l0 nl)) (l0.new nl (.lst upd_same (num_rv _ _))) (.ref (last_new l0))
            · exact g1.elim
          · cases e
        · cases e
      · exact g1.elim
/-! ### {i: j, k: l} -/
def eDic2 (i j k l : Int) : Ex := fun _ h => .ok (.ref h.length) (h ++ [O.dic [(.inl i, .int j), (.inl k, .int l)]])
theorem de_dic2 {i j k l : Int} {q1 q2 q3 q4 : Pos} {x1 x2 x3 x4} (hik : i ≠ k) : DE S X Wx (.Dict [some (.Constant (.int i) x1 q1), some (.Constant (.int k) x2 q2)] [.Constant (.int j) x3 q3, .Constant (.int l) x4 q4] pos) (eDic2 i j k l) :=
  pe_imp (pe_disp (pps_cons pe_int pe_int (pps_cons pe_int pe_int pps_nil)) rfl rfl (by simp) (by simp)) fun sg H Q q => by
    obtain ⟨rho, h, ta, lr, rs, g⟩ := q
    intro p n
    refine ⟨upd_same, [(.inl i, .int j), (.inl k, .int l)], rfl, by simp, ?_⟩
    have e : mergeK [] [((.inl i : Key), V.int j), (.inl k, .int l)] = [(.inl i, .int j), (.inl k, .int l)] := by
      have hk : ¬ ((Sum.inl i : Key) = .inl k) := fun z => hik (Sum.inl.inj z)
      simp [mergeK, putK, hk]
    rw [e]
    have e2 : upd (upd H p (.dK [])) p (.dK [((.inl i : Key), V.int j), (.inl k, .int l)]) = upd H p (.dK [(.inl i, .int j), (.inl k, .int l)]) := upd_upd
    rw [e2]
    exact g _ _ _ (Ev.new lr n) (lr.new n (.dic upd_same (.cons (.int _) (.cons (.int _) .nil)))) (.ref (last_new lr))
end
end J

namespace J
open PySem PySem.Spec PyProof.Rows L2
/-! ### facts of the written part, decided -/
def oexB (K : PySem.W.Frag) (C : Addr) : Bool := (match K.lookup C with
    | some ⟨.type c, _, .cls cd, sl⟩ => c == "type" && ((match cd.mro with
      | .ref C' :: bm => C' == C && PySem.HandSPX.refsVE bm
      | _ => false) && (cd.hasDict && (!cd.hasDel && (match sl.toList with
      | [_, _, _, _, some (.builtin n), _] => n == "ValueError.__new__"
      | _ => false))))
    | _ => false) && (He.eqO (PySem.W.findIn K (.ref C) "__setattr__") (some (some (.builtin "object.__setattr__"))) && (decide (PySem.W.subIn K (.ref C) (.type "BaseException") = some true) && (decide (PySem.W.typeIn K (.ref C) = some (.type "type")) && PySem.W.keepIn K (.ref C))))
theorem oexB_ok {K : PySem.W.Frag} {C : Addr} (h : oexB K C = true) : OexC K C := by
  unfold oexB at h
  obtain ⟨h1, h⟩ := He.ba h
  obtain ⟨h2, h⟩ := He.ba h
  obtain ⟨h3, h⟩ := He.ba h
  obtain ⟨h4, h5⟩ := He.ba h
  refine ⟨?_, He.eqO_ok h2, of_decide_eq_true h3, of_decide_eq_true h4, h5⟩
  split at h1
  · rename_i c dd cd sl ho
    obtain ⟨e1, h1⟩ := He.ba h1
    obtain ⟨e2, h1⟩ := He.ba h1
    obtain ⟨e3, h1⟩ := He.ba h1
    obtain ⟨e4, e5⟩ := He.ba h1
    obtain ⟨nm, bs, mro, ns, q, hd, sn, sub, ab, col, del⟩ := cd
    dsimp only at e2 e3 e4
    cases mro with
    | nil => cases e2
    | cons v bm =>
      obtain ⟨C', rfl⟩ : ∃ C', v = .ref C' := by
        cases v <;> first | exact ⟨_, rfl⟩ | cases e2
      obtain ⟨f1, f2⟩ := He.ba e2
      have g1 : c = "type" := beq_iff_eq.mp e1
      have g2 : C' = C := beq_iff_eq.mp f1
      have g3 : hd = true := e3
      have g4 : del = false := by
        cases del with
        | false => rfl
        | true => cases e4
      subst g1 g2 g3 g4
      split at e5
      · rename_i k0 k1 k2 k3 n k5 hs
        have g5 : n = "ValueError.__new__" := beq_iff_eq.mp e5
        subst g5
        have hsl : sl = #[k0, k1, k2, k3, some (.builtin "ValueError.__new__"), k5] := by
          have := congrArg List.toArray hs
          simpa using this
        subst hsl
        exact ⟨nm, q, ns, bs, bm, sn, sub, ab, col, dd, k0, k1, k2, k3, k5, ho, f2⟩
      · cases e5
  · cases h1
def ckB (K : PySem.W.Frag) (C : Addr) : Bool := He.eqO (PySem.W.findIn K (.ref C) "__class__") (some (some (.builtin "object.__class__"))) &&
  (He.eqO (PySem.W.specialIn K (.builtin "object.__class__") "__get__") (some (some (.builtin "getset_descriptor.__get__"))) && (decide (PySem.W.takesIn K (.builtin "object.__class__") = some true) && decide (PySem.W.mroIn K C (.type "object") = some true)))
theorem ckB_ok {K : PySem.W.Frag} {C : Addr} (c : Cls K C) (h : ckB K C = true) : Ck K C := by
  obtain ⟨h1, h⟩ := He.ba h
  obtain ⟨h2, h⟩ := He.ba h
  obtain ⟨h3, h4⟩ := He.ba h
  exact ⟨c, He.eqO_ok h1, He.eqO_ok h2, of_decide_eq_true h3, of_decide_eq_true h4⟩
/-- the tags of the built-in kinds -/
def tgs : List Tg := [.non, .bl, .int, .str, .tup, .lst, .dic]
theorem tgs_all {p : Tg → Bool} (h : tgs.all p = true) (g : Tg) (hg : ∀ c, g ≠ .ins c) : p g = true := by
  have := List.all_eq_true.mp h
  cases g with
  | ins c => exact absurd rfl (hg c)
  | _ => exact this _ (by simp [tgs])
def rightB (K : PySem.W.Frag) (S : Sta) (cs : List Nat) (C : Addr) : Bool := tgs.all (fun g => PySem.W.notFirst K C (tgV S g)) && cs.all fun c => PySem.W.notFirst K C (.ref (S.ca c))
theorem rightB_ok {K : PySem.W.Frag} {S : Sta} {cs : List Nat} {C : Addr} (h : rightB K S cs C = true) : rightOk K S cs C := fun g hg => by
  obtain ⟨h1, h2⟩ := He.ba h
  cases g with
  | ins c => exact List.all_eq_true.mp h2 c (hg c rfl)
  | _ => exact tgs_all (p := fun g => PySem.W.notFirst K C (tgV S g)) h1 _ (fun c z => by cases z)
/-- isinstance of an own class: cs the classes looked at, su those below it -/
def isOwn (cs su : List Nat) : Tg → Option Bool
  | .ins c => if c ∈ cs then some (decide (c ∈ su)) else none
  | _ => some false
def ownB (K : PySem.W.Frag) (S : Sta) (cs su : List Nat) (C : Addr) : Bool := tgs.all (fun g => decide (PySem.W.kitOne K (tgV S g) (.ref C) = some false)) && cs.all fun c => decide (PySem.W.kitOne K (.ref (S.ca c)) (.ref C) = some (decide (c ∈ su)))
theorem ownB_ok {K : PySem.W.Frag} {S : Sta} {cs su : List Nat} {C : Addr} (h : ownB K S cs su C = true) : ∀ g b, isOwn cs su g = some b → PySem.W.kitOne K (tgV S g) (.ref C) = some b := fun g b e => by
  obtain ⟨h1, h2⟩ := He.ba h
  have key : ∀ g : Tg, (∀ c, g ≠ .ins c) → PySem.W.kitOne K (tgV S g) (.ref C) = some false := fun g hg => of_decide_eq_true (tgs_all (p := fun g => decide (PySem.W.kitOne K (tgV S g) (.ref C) = some false)) h1 g hg)
  cases g with
  | ins c =>
    have e1 : (if c ∈ cs then some (decide (c ∈ su)) else none) = some b := e
    by_cases hc : c ∈ cs
    · rw [if_pos hc] at e1
      rw [← Option.some.inj e1]
      exact of_decide_eq_true (List.all_eq_true.mp h2 c hc)
    · rw [if_neg hc] at e1
      exact absurd e1 (by simp)
  | _ =>
    cases e
    exact key _ (fun c z => by cases z)
/-- a list of facts, each by its place -/
abbrev Exs : Type := List (PySem.W.Frag → Bool)
def exAll (l : Exs) (K : PySem.W.Frag) : Bool := l.all fun f => f K
theorem ex_at {l : Exs} {K : PySem.W.Frag} (h : exAll l K = true) (i : Nat) {f : PySem.W.Frag → Bool} (e : l[i]? = some f := by rfl) : f K = true := List.all_eq_true.mp h f (List.mem_of_getElem? e)
theorem no_mem {α : Type} {p : α → Prop} : ∀ c ∈ ([] : List α), p c := fun _ h => nomatch h
theorem mem_cons' {α : Type} {p : α → Prop} {a : α} {l : List α} (h : p a) (k : ∀ c ∈ l, p c) : ∀ c ∈ a :: l, p c := fun c hc => by
  rcases List.mem_cons.mp hc with rfl | hc
  · exact h
  · exact k c hc
theorem lookup_mem' {β : Type} {c : Nat} {b : β} : ∀ {l : List (Nat × β)}, l.lookup c = some b → (c, b) ∈ l
  | [], h => by cases h
  | (d, u) :: r, h => by
    rw [List.lookup_cons] at h
    cases q : (c == d) with
    | true =>
      rw [q] at h
      rw [← Option.some.inj h, beq_iff_eq.mp q]
      exact List.mem_cons_self
    | false =>
      rw [q] at h
      exact List.mem_cons_of_mem _ (lookup_mem' h)
/-- which classes an except clause takes -/
def mtB (K : PySem.W.Frag) (S : Sta) (l : List (Nat × Bool)) (C : Addr) : Bool := l.all fun p => decide (PySem.W.exmOne K (.ref (S.ca p.1)) (.ref C) = some p.2)
theorem mtB_ok {K : PySem.W.Frag} {S : Sta} {l : List (Nat × Bool)} {C : Addr} (h : mtB K S l C = true) : ∀ c b, l.lookup c = some b → PySem.W.exmOne K (.ref (S.ca c)) (.ref C) = some b := fun c b e =>
  of_decide_eq_true (List.all_eq_true.mp h (c, b) (lookup_mem' e))
/-- promises of fewer levels -/
theorem tk0 {X : Cx} : Takes X (W0).wx := fun u s' x => by
  obtain ⟨_, _, _, _, _, _, _, _, _, _, _, _, _, _, _, _, z⟩ := x
  exact z.elim
theorem FnM.up {P : Program} {w : World} {K : PySem.W.Frag} {mg : Str → Option Value} {base : Heap} {S : Sta} {k k' : Nat} {f : Addr} {n : Nat} {g : Mir} {ds : List W} (h : FnM P w K mg base S k f n g ds) (hk : k ≤ k') : FnM P w K mg base S k' f n g ds := by
  obtain ⟨fd, ps, dus, dvs, hp, F, hb, hd, hR⟩ := h.ex
  exact ⟨fd, ps, dus, dvs, hp, F.mono hk, hb, hd, hR⟩
end J

namespace JP
open PySem PySem.Spec PyProof.Rows L2 J
def b__law_hand : Sx := (sSeq (sSet 1 (eC (.int 0))) (sSeq (sForE (aCons (eVar 0) aNil) (gTp 2 (gsCons (gNm 2) (gsCons (gNm 3) gsNil))) (sSet 1 (eOp oMod (eFn fInt (aCons (eOp oAdd (eOp oMul (eVar 1) (eC (.int 31))) (eOp oMul (eFn fInt (aCons (eVar 3) aNil)) (eOp oAdd (eVar 2) (eC (.int 7))))) aNil)) (eC (.int 2147483629))))) (sRet (eLst (aCons (eLc (eVar 0) (gNm 3) xYes (eFn fAbs (aCons (eFn fInt (aCons (eVar 3) aNil)) aNil)) [3]) (aCons (eC (.int 0)) (aCons (eC (.int 0)) (aCons (eVar 1) aNil))))))))
def m__law_hand : Mir := runB b__law_hand 4
def b__law_mix : Sx := (sSeq (sSet 2 (eOp oMod (eFn fInt (aCons (eOp oAdd (eOp oAdd (eOp oMul (eVar 0) (eC (.int 48271))) (eOp oMul (eVar 1) (eC (.int 16807)))) (eC (.int 11))) aNil)) (eC (.int 2147483647)))) (sSeq (sSet 3 (eOp oMod (eFn fInt (aCons (eOp oAdd (eOp oAdd (eOp oMul (eVar 2) (eVar 2)) (eOp oMul (eOp oDiv (eVar 2) (eC (.int 127))) (eC (.int 40692)))) (eOp oMul (eVar 1) (eC (.int 69621)))) aNil)) (eC (.int 2147483399)))) (sRet (eOp oDiv (eOp oMod (eFn fInt (aCons (eOp oAdd (eOp oDiv (eOp oMul (eVar 3) (eVar 3)) (eC (.int 1009))) (eVar 2)) aNil)) (eC (.int 2147483563))) (eC (.int 16))))))
def m__law_mix : Mir := runB b__law_mix 4
def b__law_draw : Sx := (sSeq (sIf (xAnd (xTb (eOp oEq (eOp oIx (eVar 0) (eC (.int 2))) (eC (.int 0)))) (xTb (eOp oLt (eOp oIx (eVar 0) (eC (.int 1))) (eFn fLen (aCons (eOp oIx (eVar 0) (eC (.int 0))) aNil))))) (sSeq (sSet 2 (eOp oIx (eOp oIx (eVar 0) (eC (.int 0))) (eOp oIx (eVar 0) (eC (.int 1))))) (sSeq (sAsg (eOp oAdd (eOp oIx (eVar 0) (eC (.int 1))) (eC (.int 1))) (gSb (eVar 0) (eC (.int 1)))) (sSeq (sIf (xTb (eOp oLt (eVar 2) (eOp oPow (eC (.int 10)) (eC (.int 18))))) (sRet (eOp oMod (eFn fInt (aCons (eCall m__law_mix 2 [] (aCons (eOp oMod (eFn fInt (aCons (eVar 2) aNil)) (eC (.int 2147483647))) (aCons (eOp oIx (eVar 0) (eC (.int 1))) aNil))) aNil)) (eVar 1))) sPass) (sAsg (eVar 2) (gSb (eVar 0) (eC (.int 2))))))) sPass) (sSeq (sIf (xTb (eOp oGt (eOp oIx (eVar 0) (eC (.int 2))) (eC (.int 0)))) (sSeq (sSet 3 (eOp oIx (eVar 0) (eC (.int 2)))) (sSeq (sAsg (eOp oDiv (eVar 3) (eVar 1)) (gSb (eVar 0) (eC (.int 2)))) (sRet (eOp oMod (eFn fInt (aCons (eVar 3) aNil)) (eVar 1))))) sPass) (sSeq (sAsg (eOp oMod (eFn fInt (aCons (eOp oAdd (eOp oIx (eVar 0) (eC (.int 3))) (eC (.int 1))) aNil)) (eC (.int 2147483629))) (gSb (eVar 0) (eC (.int 3)))) (sRet (eOp oMod (eFn fInt (aCons (eCall m__law_mix 2 [] (aCons (eOp oIx (eVar 0) (eC (.int 3))) (aCons (eOp oIx (eVar 0) (eC (.int 1))) aNil))) aNil)) (eVar 1))))))
def m__law_draw : Mir := runB b__law_draw 4
def b__law_backs : Sx := (sSeq (sSet 2 (eListR rng1 (aCons (eVar 1) aNil))) (sSeq (sSet 3 (eListR rng1 (aCons (eVar 1) aNil))) (sSeq (sForR rng1 (aCons (eOp oDiv (eVar 1) (eC (.int 2))) aNil) (gNm 4) (sIf (xTb (eOp oEq (eCall m__law_draw 2 [] (aCons (eVar 0) (aCons (eC (.int 3)) aNil))) (eC (.int 0)))) (sSeq (sSet 5 (eLm mPopAt (eVar 3) (aCons (eCall m__law_draw 2 [] (aCons (eVar 0) (aCons (eFn fLen (aCons (eVar 3) aNil)) aNil))) aNil))) (sSeq (sSet 6 (eLm mPopAt (eVar 3) (aCons (eCall m__law_draw 2 [] (aCons (eVar 0) (aCons (eFn fLen (aCons (eVar 3) aNil)) aNil))) aNil))) (sSeq (sAsg (eVar 6) (gSb (eVar 2) (eVar 5))) (sAsg (eVar 5) (gSb (eVar 2) (eVar 6)))))) sPass)) (sRet (eVar 2)))))
def m__law_backs : Mir := runB b__law_backs 7
def b_is_whole : Sx := (sRet (eAnd (eIsi [] isInt (eVar 0)) (eAnd (eNot (eIsi [] isBool (eVar 0))) (eChain oLe oLe (eVar 1) (eVar 0) (eVar 2)))))
def m_is_whole : Mir := runB b_is_whole 3
def b_Ties_zzinitzz : Sx := (sSeq (sIf (xNot (xTru (eIsi [] isLT (eVar 1)))) (sRaise 1 [0] (aCons (eC (.str "row")) aNil)) sPass) (sSeq (sIf (xNot (xTb (eChain oLe oLe (eC (.int 2)) (eFn fLen (aCons (eVar 1) aNil)) (eC (.int 4))))) (sRaise 1 [0] (aCons (eC (.str "count")) aNil)) sPass) (sSeq (sFor (eVar 1) (gNm 2) (sIf (xNot (xTru (eCall m_is_whole 3 [] (aCons (eVar 2) (aCons (eC (.int 0)) (aCons (eOp oSub (eFn fLen (aCons (eVar 1) aNil)) (eC (.int 1))) aNil)))))) (sRaise 1 [0] (aCons (eC (.str "tie")) aNil)) sPass)) (sSeq (sForR rng1 (aCons (eFn fLen (aCons (eVar 1) aNil)) aNil) (gNm 3) (sIf (xTb (eOp oNe (eOp oIx (eVar 1) (eOp oIx (eVar 1) (eVar 3))) (eVar 3))) (sRaise 1 [0] (aCons (eC (.str "back")) aNil)) sPass)) (sSeq (sFd [57] 17 (eVar 0) (eFn fTuple (aCons (eVar 1) aNil))) (sFd [57] 18 (eVar 0) (eFn fLen (aCons (eVar 1) aNil))))))))
def m_Ties_zzinitzz : Mir := runB b_Ties_zzinitzz 4
def b__law_says : Sx := (sRet (eAnd (eIsi [] isBool (eVar 0)) (eOp oEq (eVar 0) (eVar 1))))
def m__law_says : Mir := runB b__law_says 2
def b_is_label : Sx := (sRet (eCall m_is_whole 3 [] (aCons (eVar 0) (aCons (eC (.int 0)) (aCons (eC (.int 1000000000)) aNil)))))
def m_is_label : Mir := runB b_is_label 1
def b_Ties_back : Sx := (sSeq (sIf (xNot (xTru (eCall m_is_whole 3 [] (aCons (eVar 1) (aCons (eC (.int 0)) (aCons (eOp oSub (eUn (oFld [57] 18) (eVar 0)) (eC (.int 1))) aNil)))))) (sRaise 2 [1] (aCons (eVar 1) aNil)) sPass) (sRet (eOp oIx (eUn (oFld [57] 17) (eVar 0)) (eVar 1))))
def m_Ties_back : Mir := runB b_Ties_back 2
def b_Ties_one_way : Sx := (sRet (eOp oNe (eMeth [⟨57, 2, m_Ties_back, []⟩] (eVar 0) (aCons (eVar 1) aNil)) (eVar 1)))
def m_Ties_one_way : Mir := runB b_Ties_one_way 2
def b_Ties_zzeqzz : Sx := (sRet (eAnd (eIsi [57] (isOwn [57] [57]) (eVar 1)) (eOp oEq (eUn (oFld [57] 17) (eVar 0)) (eUn (oFld [57] 17) (eVar 1)))))
def m_Ties_zzeqzz : Mir := runB b_Ties_zzeqzz 2
end JP

namespace J
open PySem PySem.Spec PyProof.Rows L2
/-! ### plain reading: what an outcome meets -/
abbrev XP : Type := Nat → List (Nat × W) → HA → Prop
def nox : XP := fun _ _ _ => False
/-- a mark that keeps simp from the rest of a run -/
inductive Tk {α : Type} (Q : α → HA → Prop) (X : XP) : Type where
  | tk
@[irreducible] def RW {α : Type} (r : Res α) (Q : α → HA → Prop) (X : XP) (d : Tk Q X := .tk) : Prop := match r with
  | .ok a h => Q a h
  | .exc c fs h => X c fs h
  | .stuck => False
structure Pt where
  n : En → HA → Prop
  r : W → HA → Prop
  b : En → HA → Prop
  c : En → HA → Prop
  x : Nat → List (Nat × W) → En → HA → Prop
inductive Ts (p : Pt) : Type where
  | tk
@[irreducible] def SW (r : SR) (p : Pt) (d : Ts p := .tk) : Prop := match r with
  | .nx ta h => p.n ta h
  | .rt w h => p.r w h
  | .bk ta h => p.b ta h
  | .ct ta h => p.c ta h
  | .exc c fs ta h => p.x c fs ta h
  | .stuck => False
section
variable {α β : Type} {Q Q' : α → HA → Prop} {X X' : XP} {h : HA} {ta : En} {p p' : Pt} {m m1 m2 m3 : Ex} {t u : Tx} {ms : Ax} {s1 s2 : Sx}
@[simp] theorem RW_ok {a : α} : RW (.ok a h) Q X = Q a h := by unfold RW; rfl
@[simp] theorem RW_exc {c : Nat} {fs : List (Nat × W)} : RW (.exc c fs h : Res α) Q X = X c fs h := by unfold RW; rfl
@[simp] theorem RW_stuck : RW (.stuck : Res α) Q X = False := by unfold RW; rfl
@[simp] theorem RW_bind {r : Res β} {k : β → HA → Res α} : RW (r.bind k) Q X = RW r (fun a h => RW (k a h) Q X) X := by cases r <;> simp only [RW_ok, RW_exc, RW_stuck, Res.bind]
theorem RW.imp {r : Res α} (h : RW r Q X) (f : ∀ a h, Q a h → Q' a h) (g : ∀ c fs h, X c fs h → X' c fs h := by exact fun _ _ _ z => z) : RW r Q' X' := by
  unfold RW at h ⊢
  cases r with
  | ok a h' => exact f _ _ h
  | exc c fs h' => exact g _ _ _ h
  | stuck => exact h
theorem RW.get {r : Res α} (h : RW r Q nox) : ∃ a h', r = .ok a h' ∧ Q a h' := by
  unfold RW at h
  cases r with
  | ok a h' => exact ⟨a, h', rfl, h⟩
  | exc c fs h' => exact h.elim
  | stuck => exact h.elim
theorem RW.of {r : Res α} {a : α} (e : r = .ok a h) (q : Q a h) : RW r Q X := by rw [e, RW_ok]; exact q
@[simp] theorem SW_nx : SW (.nx ta h) p = p.n ta h := by unfold SW; rfl
@[simp] theorem SW_rt {w : W} : SW (.rt w h) p = p.r w h := by unfold SW; rfl
@[simp] theorem SW_bk : SW (.bk ta h) p = p.b ta h := by unfold SW; rfl
@[simp] theorem SW_ct : SW (.ct ta h) p = p.c ta h := by unfold SW; rfl
@[simp] theorem SW_exc {c : Nat} {fs : List (Nat × W)} : SW (.exc c fs ta h) p = p.x c fs ta h := by unfold SW; rfl
@[simp] theorem SW_stuck : SW .stuck p = False := by unfold SW; rfl
@[simp] theorem SW_then {r : SR} {k : Sx} : SW (r.then k) p = SW r { p with n := fun ta h => SW (k ta h) p } := by cases r <;> simp only [SW_nx, SW_rt, SW_bk, SW_ct, SW_exc, SW_stuck, SR.then]
@[simp] theorem SW_to {r : Res α} {k : α → HA → SR} : SW (r.to ta k) p = RW r (fun a h => SW (k a h) p) (fun c fs h => p.x c fs ta h) := by cases r <;> simp only [RW_ok, RW_exc, RW_stuck, Res.to, SW_exc, SW_stuck]
@[simp] theorem SW_turn {r : SR} {k : Sx} : SW (r.turn k) p = SW r { p with n := fun ta h => SW (k ta h) p, c := fun ta h => SW (k ta h) p, b := p.n } := by cases r <;> simp only [SW_nx, SW_rt, SW_bk, SW_ct, SW_exc, SW_stuck, SR.turn]
theorem SW.imp {r : SR} (h : SW r p) (n : ∀ ta h, p.n ta h → p'.n ta h) (rr : ∀ w h, p.r w h → p'.r w h) (b : ∀ ta h, p.b ta h → p'.b ta h) (c : ∀ ta h, p.c ta h → p'.c ta h) (x : ∀ c fs ta h, p.x c fs ta h → p'.x c fs ta h) : SW r p' := by
  unfold SW at h ⊢
  cases r with
  | nx ta h' => exact n _ _ h
  | rt w h' => exact rr _ _ h
  | bk ta h' => exact b _ _ h
  | ct ta h' => exact c _ _ h
  | exc c fs ta h' => exact x _ _ _ _ h
  | stuck => exact h
theorem bind_congr {r r' : Res β} {k : β → HA → Res α} (e : r = r') : r.bind k = r'.bind k := by rw [e]
theorem to_congr {r r' : Res α} {k : α → HA → SR} (e : r = r') : r.to ta k = r'.to ta k := by rw [e]
theorem then_congr {r r' : SR} {k : Sx} (e : r = r') : r.then k = r'.then k := by rw [e]
theorem turn_congr {r r' : SR} {k : Sx} (e : r = r') : r.turn k = r'.turn k := by rw [e]
/-! ### expressions -/
theorem RW_eVar {i : Nat} {Q : W → HA → Prop} : RW (eVar i ta h) Q X = ∃ w, ta[i]? = some (some w) ∧ noX w = true ∧ Q w h := by
  unfold eVar
  split
  · rename_i w e
    rw [e]
    by_cases c : noX w = true
    · simp [c]
    · simp [c]
  · rename_i q
    apply propext
    constructor
    · intro z; rw [RW_stuck] at z; exact z.elim
    · rintro ⟨w, e, _⟩; exact (q w e).elim
theorem eVar_ok {i : Nat} {w : W} (e : ta[i]? = some (some w)) (n : noX w = true) : eVar i ta h = .ok w h := by unfold eVar; rw [e]; simp [n]
def gv (o : Option (Option W)) (h : HA) : Res W := match o with
  | some (some w) => if noX w = true then .ok w h else .stuck
  | _ => .stuck
@[simp] theorem eVar_eq {i : Nat} : eVar i ta h = gv ta[i]? h := (rfl)
theorem gv_ok {w : W} (n : noX w = true) : gv (some (some w)) h = .ok w h := if_pos n
@[simp] theorem gv_non : gv (some (some .non)) h = .ok .non h := (rfl)
@[simp] theorem gv_bl {a : Bool} : gv (some (some (.bl a))) h = .ok (.bl a) h := (rfl)
@[simp] theorem gv_int {a : Int} : gv (some (some (.int a))) h = .ok (.int a) h := (rfl)
@[simp] theorem gv_str {a : Str} : gv (some (some (.str a))) h = .ok (.str a) h := (rfl)
@[simp] theorem gv_tup {a : List W} : gv (some (some (.tup a))) h = .ok (.tup a) h := (rfl)
@[simp] theorem gv_cst {a : List W} : gv (some (some (.cst a))) h = .ok (.cst a) h := (rfl)
@[simp] theorem gv_ref {a : Nat} : gv (some (some (.ref a))) h = .ok (.ref a) h := (rfl)
@[simp] theorem noX_non : noX .non = true := (rfl)
@[simp] theorem noX_bl {b : Bool} : noX (.bl b) = true := (rfl)
@[simp] theorem noX_int {b : Int} : noX (.int b) = true := (rfl)
@[simp] theorem noX_str {b : Str} : noX (.str b) = true := (rfl)
@[simp] theorem noX_tup {b : List W} : noX (.tup b) = true := (rfl)
@[simp] theorem noX_ref {b : Nat} : noX (.ref b) = true := (rfl)
@[simp] theorem noX_cst {b : List W} : noX (.cst b) = true := (rfl)
@[simp] theorem eC_eq {w : W} : eC w ta h = .ok w h := (rfl)
@[simp] theorem ofO_some {w : W} : ofO (some (w, h)) = .ok w h := (rfl)
@[simp] theorem ofO_none : ofO none = .stuck := (rfl)
@[simp] theorem bind_ok {a : β} {k : β → HA → Res α} : Res.bind (.ok a h) k = k a h := (rfl)
@[simp] theorem bind_exc {c : Nat} {fs : List (Nat × W)} {k : β → HA → Res α} : Res.bind (.exc c fs h) k = .exc c fs h := (rfl)
@[simp] theorem bind_stuck {k : β → HA → Res α} : Res.bind .stuck k = .stuck := (rfl)
@[simp] theorem to_ok {a : α} {k : α → HA → SR} : Res.to (.ok a h) ta k = k a h := (rfl)
@[simp] theorem to_exc {c : Nat} {fs : List (Nat × W)} {k : α → HA → SR} : Res.to (.exc c fs h) ta k = .exc c fs ta h := (rfl)
@[simp] theorem eOp_eq {o : W → W → HA → Option (W × HA)} : eOp o m1 m2 ta h = (m1 ta h).bind fun x h1 => (m2 ta h1).bind fun y h2 => ofO (o x y h2) := (rfl)
@[simp] theorem eUn_eq {o : W → HA → Option (W × HA)} : eUn o m ta h = (m ta h).bind fun x h1 => ofO (o x h1) := (rfl)
@[simp] theorem xTru_eq : xTru m ta h = (m ta h).bind fun x h1 => ofB (truW x h1) h1 := (rfl)
@[simp] theorem ofB_some {b : Bool} : ofB (some b) h = .ok b h := (rfl)
@[simp] theorem ofB_none : ofB none h = .stuck := (rfl)
def rTb (x : W) (h : HA) : Res Bool := match x with
  | .bl b => .ok b h
  | _ => .stuck
@[simp] theorem rTb_bl {b : Bool} : rTb (.bl b) h = .ok b h := (rfl)
@[simp] theorem xTb_eq : xTb m ta h = (m ta h).bind rTb := (rfl)
@[simp] theorem xAnd_eq : xAnd t u ta h = (t ta h).bind fun b h1 => if b = true then u ta h1 else .ok false h1 := (rfl)
@[simp] theorem xOr_eq : xOr t u ta h = (t ta h).bind fun b h1 => if b = true then .ok true h1 else u ta h1 := (rfl)
@[simp] theorem xNot_eq : xNot t ta h = (t ta h).bind fun b h1 => .ok (!b) h1 := (rfl)
def rAnd (m2 : Ex) (ta : En) (x : W) (h1 : HA) : Res W := match truW x h1 with
  | some true => m2 ta h1
  | some false => .ok x h1
  | none => .stuck
def rOr (m2 : Ex) (ta : En) (x : W) (h1 : HA) : Res W := match truW x h1 with
  | some true => .ok x h1
  | some false => m2 ta h1
  | none => .stuck
def rNot (x : W) (h1 : HA) : Res W := match truW x h1 with
  | some b => .ok (.bl (!b)) h1
  | none => .stuck
@[simp] theorem eAnd_eq : eAnd m1 m2 ta h = (m1 ta h).bind (rAnd m2 ta) := (rfl)
@[simp] theorem eOr_eq : eOr m1 m2 ta h = (m1 ta h).bind (rOr m2 ta) := (rfl)
@[simp] theorem eNot_eq : eNot m ta h = (m ta h).bind rNot := (rfl)
@[simp] theorem rAnd_bl {b : Bool} : rAnd m2 ta (.bl b) h = if b = true then m2 ta h else .ok (.bl b) h := by cases b <;> rfl
@[simp] theorem rOr_bl {b : Bool} : rOr m2 ta (.bl b) h = if b = true then .ok (.bl b) h else m2 ta h := by cases b <;> rfl
@[simp] theorem rNot_bl {b : Bool} : rNot (.bl b) h = .ok (.bl (!b)) h := (rfl)
@[simp] theorem eIf_eq : eIf t m1 m2 ta h = (t ta h).bind fun b h1 => if b = true then m1 ta h1 else m2 ta h1 := (rfl)
def rChain (o' : W → W → HA → Option (W × HA)) (m3 : Ex) (ta : En) (y : W) (r : Option (W × HA)) : Res W := match r with
  | some (.bl true, h3) => (m3 ta h3).bind fun z h4 => ofO (o' y z h4)
  | some (.bl false, h3) => .ok (.bl false) h3
  | _ => .stuck
@[simp] theorem rChain_bl {o' : W → W → HA → Option (W × HA)} {y : W} {b : Bool} : rChain o' m3 ta y (some (.bl b, h)) = if b = true then (m3 ta h).bind fun z h4 => ofO (o' y z h4) else .ok (.bl false) h := by cases b <;> rfl
@[simp] theorem eChain_eq {o o' : W → W → HA → Option (W × HA)} : eChain o o' m1 m2 m3 ta h = (m1 ta h).bind fun x h1 => (m2 ta h1).bind fun y h2 => rChain o' m3 ta y (o x y h2) := (rfl)
@[simp] theorem aNil_eq : aNil ta h = .ok [] h := (rfl)
@[simp] theorem aCons_eq : aCons m ms ta h = (m ta h).bind fun x h1 => (ms ta h1).bind fun xs h2 => .ok (x :: xs) h2 := (rfl)
theorem size_big : 10000 ≤ sizeLine := by decide
def mkTup (xs : List W) (h1 : HA) : Res W := if xs.length ≤ sizeLine then .ok (.tup xs) h1 else .stuck
def mkLst (xs : List W) (h1 : HA) : Res W := if xs.length ≤ sizeLine then .ok (.ref h1.length) (h1 ++ [.lst xs]) else .stuck
@[simp] theorem eTup_eq : eTup ms ta h = (ms ta h).bind mkTup := (rfl)
@[simp] theorem eLst_eq : eLst ms ta h = (ms ta h).bind mkLst := (rfl)
theorem mkTup_ok {xs : List W} (l : xs.length ≤ 10000) : mkTup xs h = .ok (.tup xs) h := if_pos (Nat.le_trans l size_big)
theorem mkLst_ok {xs : List W} (l : xs.length ≤ 10000) : mkLst xs h = .ok (.ref h.length) (h ++ [.lst xs]) := if_pos (Nat.le_trans l size_big)
@[simp] theorem eFn_eq {o : List W → HA → Option (W × HA)} : eFn o ms ta h = (ms ta h).bind fun xs h1 => ofO (o xs h1) := (rfl)
def rCall (g : Mir) (n : Nat) (ds : List W) (ws : List W) (h1 : HA) : Res W := if ws.length + ds.length = n then g (ws ++ ds) h1 else .stuck
@[simp] theorem eCall_eq {g : Mir} {n : Nat} {ds : List W} : eCall g n ds ms ta h = (ms ta h).bind (rCall g n ds) := (rfl)
@[simp] theorem rCall1 {g : Mir} {a : W} : rCall g 1 [] [a] h = g [a] h := (rfl)
@[simp] theorem rCall2 {g : Mir} {a b : W} : rCall g 2 [] [a, b] h = g [a, b] h := (rfl)
@[simp] theorem rCall3 {g : Mir} {a b c : W} : rCall g 3 [] [a, b, c] h = g [a, b, c] h := (rfl)
@[simp] theorem rCall4 {g : Mir} {a b c d : W} : rCall g 4 [] [a, b, c, d] h = g [a, b, c, d] h := (rfl)
@[simp] theorem rCall5 {g : Mir} {a b c d e : W} : rCall g 5 [] [a, b, c, d, e] h = g [a, b, c, d, e] h := (rfl)
@[simp] theorem rCall6 {g : Mir} {a b c d e f : W} : rCall g 6 [] [a, b, c, d, e, f] h = g [a, b, c, d, e, f] h := (rfl)
@[simp] theorem eNew_eq {c n : Nat} {g : Mir} {ds : List W} : eNew c n g ds ms ta h = (ms ta h).bind (newC c n g ds) := (rfl)
theorem RW_new {c n : Nat} {g : Mir} {ws : List W} {Q : W → HA → Prop} (e : 1 + ws.length = n) (q : RW (g (.ref h.length :: ws) (h ++ [O.ins c []])) (fun w h2 => w = .non ∧ Q (.ref h.length) h2) X) : RW (newC c n g [] ws h) Q X := by
  unfold newC
  rw [if_pos (by simp [e])]
  rw [show (W.ref h.length :: ws ++ ([] : List W)) = .ref h.length :: ws from by simp]
  cases z : g (.ref h.length :: ws) (h ++ [O.ins c []]) with
  | ok w h2 =>
    rw [z, RW_ok] at q
    obtain ⟨rfl, q⟩ := q
    rw [RW_ok]
    exact q
  | exc c fs h2 =>
    rw [z, RW_exc] at q
    rw [RW_exc]
    exact q
  | stuck =>
    rw [z, RW_stuck] at q
    exact q.elim
/-! ### operators -/
variable {i j : Int}
@[simp] theorem oAdd_int : oAdd (.int i) (.int j) h = some (.int (i + j), h) := (rfl)
@[simp] theorem oSub_int : oSub (.int i) (.int j) h = some (.int (i - j), h) := (rfl)
@[simp] theorem oNeg_int : oNeg (.int i) h = some (.int (-i), h) := (rfl)
@[simp] theorem oMul_int (l : mulOk i j = true) : oMul (.int i) (.int j) h = some (.int (i * j), h) := by
  show Option.map _ (if mulOk i j = true then some (W.int (i * j)) else none) = _
  rw [if_pos l]; rfl
@[simp] theorem mulOk_r (a : -(2 ^ 64) < j) (b : j < 2 ^ 64) : mulOk i j = true := by
  unfold mulOk
  rw [Bool.or_eq_true]
  exact .inr (decide_eq_true ⟨a, b⟩)
@[simp] theorem mulOk_l (a : -(2 ^ 64) < i) (b : i < 2 ^ 64) : mulOk i j = true := by
  unfold mulOk
  rw [Bool.or_eq_true]
  exact .inl (decide_eq_true ⟨a, b⟩)
@[simp] theorem mulOk_mod {n : Int} (a : 0 < n) (b : n < 2 ^ 64) : mulOk (i % n) j = true := mulOk_l (Int.lt_of_lt_of_le (by decide) (Int.emod_nonneg _ (Int.ne_of_gt a))) (Int.lt_trans (Int.emod_lt_of_pos _ a) b)
@[simp] theorem oDiv_int (a : 0 < j) (b : j < 2 ^ 64) : oDiv (.int i) (.int j) h = some (.int (i / j), h) := by
  show Option.map _ (if 0 < j ∧ j < 2 ^ 64 then some (W.int (i / j)) else none) = _
  rw [if_pos ⟨a, b⟩]; rfl
@[simp] theorem oMod_int (a : 0 < j) : oMod (.int i) (.int j) h = some (.int (i % j), h) := by
  show Option.map _ (if 0 < j then some (W.int (i % j)) else none) = _
  rw [if_pos a]; rfl
@[simp] theorem oPow_int (a : 0 ≤ j ∧ j ≤ 1000000 ∧ i.natAbs < 2 ^ 64) : oPow (.int i) (.int j) h = some (.int (i ^ j.toNat), h) := by
  show Option.map _ (if 0 ≤ j ∧ j ≤ 1000000 ∧ i.natAbs < 2 ^ 64 then some (W.int (i ^ j.toNat)) else none) = _
  rw [if_pos a]; rfl
@[simp] theorem oLt_int : oLt (.int i) (.int j) h = some (.bl (decide (i < j)), h) := (rfl)
@[simp] theorem oLe_int : oLe (.int i) (.int j) h = some (.bl (decide (i ≤ j)), h) := (rfl)
@[simp] theorem oGt_int : oGt (.int i) (.int j) h = some (.bl (decide (j < i)), h) := (rfl)
@[simp] theorem oGe_int : oGe (.int i) (.int j) h = some (.bl (decide (j ≤ i)), h) := (rfl)
@[simp] theorem oEq_int : oEq (.int i) (.int j) h = some (.bl (decide (i = j)), h) := (rfl)
@[simp] theorem oNe_int : oNe (.int i) (.int j) h = some (.bl (!decide (i = j)), h) := (rfl)
@[simp] theorem oEq_bl {a b : Bool} : oEq (.bl a) (.bl b) h = some (.bl (decide (a = b)), h) := (rfl)
@[simp] theorem oNe_bl {a b : Bool} : oNe (.bl a) (.bl b) h = some (.bl (!decide (a = b)), h) := (rfl)
@[simp] theorem oEq_str {a b : Str} : oEq (.str a) (.str b) h = some (.bl (decide (a = b)), h) := (rfl)
@[simp] theorem oNe_str {a b : Str} : oNe (.str a) (.str b) h = some (.bl (!decide (a = b)), h) := (rfl)
@[simp] theorem oEq_nn : oEq .non .non h = some (.bl true, h) := (rfl)
@[simp] theorem oNe_nn : oNe .non .non h = some (.bl false, h) := (rfl)
@[simp] theorem oNe_ns {a : Str} : oNe .non (.str a) h = some (.bl true, h) := (rfl)
@[simp] theorem oNe_sn {a : Str} : oNe (.str a) .non h = some (.bl true, h) := (rfl)
@[simp] theorem oEq_ns {a : Str} : oEq .non (.str a) h = some (.bl false, h) := (rfl)
@[simp] theorem oEq_sn {a : Str} : oEq (.str a) .non h = some (.bl false, h) := (rfl)
@[simp] theorem oIs_non {w : W} : oIs w .non h = some (.bl (match w with | .non => true | _ => false), h) := by cases w <;> rfl
@[simp] theorem oIsN_non {w : W} : oIsN w .non h = some (.bl (match w with | .non => false | _ => true), h) := by cases w <;> rfl
@[simp] theorem oIs_bl {a b : Bool} : oIs (.bl a) (.bl b) h = some (.bl (decide (a = b)), h) := (rfl)
@[simp] theorem oIsN_bl {a b : Bool} : oIsN (.bl a) (.bl b) h = some (.bl (!decide (a = b)), h) := (rfl)
@[simp] theorem truW_bl {b : Bool} : truW (.bl b) h = some b := (rfl)
@[simp] theorem truW_int : truW (.int i) h = some (i != 0) := (rfl)
@[simp] theorem truW_non : truW .non h = some false := (rfl)
@[simp] theorem fInt_int : fInt [.int i] h = some (.int i, h) := (rfl)
@[simp] theorem fInt_bl {b : Bool} : fInt [.bl b] h = some (.int (if b then 1 else 0), h) := (rfl)
@[simp] theorem fAbs_int : fAbs [.int i] h = some (.int (if i < 0 then -i else i), h) := (rfl)
@[simp] theorem itW_tup {xs : List W} : itW h (.tup xs) = some xs := (rfl)
@[simp] theorem itW_cst {xs : List W} : itW h (.cst xs) = some xs := (rfl)
@[simp] theorem itW_ref {a : Nat} : itW h (.ref a) = rdL h a := (rfl)
theorem rdL_of_get {a : Nat} {xs : List W} (e : h[a]? = some (.lst xs)) : rdL h a = some xs := by unfold rdL; rw [e]
theorem fLen_of {w : W} {xs : List W} (e : itW h w = some xs) : fLen [w] h = some (.int xs.length, h) := by
  cases w with
  | str z => cases e
  | tup ys => cases e; rfl
  | cst ys => cases e; rfl
  | ref a =>
    show Option.map _ (itW h (.ref a)) = _
    rw [e]; rfl
  | _ => cases e
theorem fList_of {w : W} {xs : List W} (e : itW h w = some xs) : fList [w] h = some (.ref h.length, h ++ [.lst xs]) := by
  show Option.map _ (itW h w) = _
  rw [e]; rfl
theorem fTuple_of {w : W} {xs : List W} (e : itW h w = some xs) : fTuple [w] h = some (.tup xs, h) := by
  show Option.map _ (itW h w) = _
  rw [e]; rfl
theorem atI_of {α : Type} {xs : List α} {x : α} {k : Int} (k0 : 0 ≤ k) (g : xs[k.toNat]? = some x) : atI xs k = some x := by
  have hk : k.toNat < xs.length := (List.getElem?_eq_some_iff.mp g).1
  have c : k < (xs.length : Int) := by omega
  show (ixN xs.length k).bind _ = _
  rw [show ixN xs.length k = some k.toNat from by unfold ixN; rw [if_pos k0, if_pos c]]
  exact g
theorem oIx_at {w x : W} {xs : List W} {k : Int} (e : itW h w = some xs) (q : atI xs k = some x) : oIx w (.int k) h = some (x, h) := by
  cases w with
  | str z => cases e
  | tup ys =>
    cases e
    show Option.map _ (atI xs k) = _
    rw [q]; rfl
  | cst ys =>
    cases e
    show Option.map _ (atI xs k) = _
    rw [q]; rfl
  | ref a =>
    show (match itW h (.ref a) with | some xs => (atI xs k).map fun v => (v, h) | none => none) = _
    rw [e]
    show Option.map _ (atI xs k) = _
    rw [q]; rfl
  | _ => cases e
theorem oIx_of {w x : W} {xs : List W} {k : Int} (e : itW h w = some xs) (k0 : 0 ≤ k) (g : xs[k.toNat]? = some x) : oIx w (.int k) h = some (x, h) := oIx_at e (atI_of k0 g)
/-! ### statements -/
@[simp] theorem sPass_eq : sPass ta h = .nx ta h := (rfl)
@[simp] theorem sBrk_eq : sBrk ta h = .bk ta h := (rfl)
@[simp] theorem sCnt_eq : sCnt ta h = .ct ta h := (rfl)
@[simp] theorem sSeq_eq : sSeq s1 s2 ta h = (s1 ta h).then s2 := (rfl)
@[simp] theorem then_nx {k : Sx} : SR.then (.nx ta h) k = k ta h := (rfl)
@[simp] theorem then_rt {k : Sx} {w : W} : SR.then (.rt w h) k = .rt w h := (rfl)
@[simp] theorem sExp_eq : sExp m ta h = (m ta h).to ta fun _ h1 => .nx ta h1 := (rfl)
@[simp] theorem sRet_eq : sRet m ta h = (m ta h).to ta fun w h1 => .rt w h1 := (rfl)
@[simp] theorem sRetN_eq : sRetN ta h = .rt .non h := (rfl)
@[simp] theorem sIf_eq : sIf t s1 s2 ta h = (t ta h).to ta fun b h1 => if b = true then s1 ta h1 else s2 ta h1 := (rfl)
@[simp] theorem sSet_eq {i : Nat} : sSet i m ta h = (m ta h).to ta fun w h1 => .nx (ta.set i (some w)) h1 := (rfl)
def kAsg (ta : En) (g : Tgt) (w : W) (h1 : HA) : SR := match g w ta h1 with
  | some (ta1, h2) => .nx ta1 h2
  | none => .stuck
@[simp] theorem sAsg_eq {g : Tgt} : sAsg m g ta h = (m ta h).to ta (kAsg ta g) := (rfl)
theorem kAsg_ok {g : Tgt} {w : W} {ta1 : En} {h1 : HA} (e : g w ta h = some (ta1, h1)) : kAsg ta g w h = .nx ta1 h1 := by unfold kAsg; rw [e]
@[simp] theorem kAsg_nm {i : Nat} {w : W} : kAsg ta (gNm i) w h = .nx (ta.set i (some w)) h := (rfl)
@[simp] theorem gNm_eq {i : Nat} {w : W} : gNm i w ta h = some (ta.set i (some w), h) := (rfl)
@[simp] theorem gsNil_eq : gsNil [] ta h = some (ta, h) := (rfl)
@[simp] theorem gsCons_nm {i : Nat} {r : Tgs} {w : W} {ws : List W} : gsCons (gNm i) r (w :: ws) ta h = r ws (ta.set i (some w)) h := (rfl)
theorem gTp_eq {n : Nat} {r : Tgs} {xs : List W} (e : xs.length = n) : gTp n r (.tup xs) ta h = r xs ta h := if_pos e
@[simp] theorem gTp2 {r : Tgs} {a b : W} : gTp 2 r (.tup [a, b]) ta h = r [a, b] ta h := (rfl)
@[simp] theorem gTp3 {r : Tgs} {a b c : W} : gTp 3 r (.tup [a, b, c]) ta h = r [a, b, c] ta h := (rfl)
@[simp] theorem kAsg_tp2 {a b : W} {i j : Nat} : kAsg ta (gTp 2 (gsCons (gNm i) (gsCons (gNm j) gsNil))) (.tup [a, b]) h = .nx ((ta.set i (some a)).set j (some b)) h := (rfl)
def okS (r : Res W) (k : W → HA → SR) : SR := match r with
  | .ok w h => k w h
  | _ => .stuck
@[simp] theorem okS_ok {w : W} {k : W → HA → SR} : okS (.ok w h) k = k w h := (rfl)
theorem okS_congr {r r' : Res W} {k : W → HA → SR} (e : r = r') : okS r k = okS r' k := by rw [e]
@[simp] theorem SW_okS {r : Res W} {k : W → HA → SR} : SW (okS r k) p = RW r (fun w h => SW (k w h) p) nox := by cases r <;> simp only [RW_ok, RW_exc, RW_stuck, okS, nox, SW_stuck]
def kW (ta : En) (r : Option HA) : SR := match r with
  | some h => .nx ta h
  | none => .stuck
@[simp] theorem kW_some : kW ta (some h) = .nx ta h := (rfl)
@[simp] theorem kAsg_sb {w : W} : kAsg ta (gSb m1 m2) w h = okS (m1 ta h) fun o h1 => okS (m2 ta h1) fun i h2 => kW ta (setW o i w h2) := by
  unfold kAsg gSb
  cases m1 ta h with
  | ok o h1 =>
    simp only [okS_ok]
    cases m2 ta h1 with
    | ok i h2 =>
      simp only [okS_ok]
      cases setW o i w h2 <;> rfl
    | _ => rfl
  | _ => rfl
@[simp] theorem kAsg_tp3 {a b c : W} {i j k : Nat} : kAsg ta (gTp 3 (gsCons (gNm i) (gsCons (gNm j) (gsCons (gNm k) gsNil)))) (.tup [a, b, c]) h = .nx (((ta.set i (some a)).set j (some b)).set k (some c)) h := (rfl)
theorem gSb_ok {o i w : W} {h1 h2 h3 : HA} (e1 : m1 ta h = .ok o h1) (e2 : m2 ta h1 = .ok i h2) (e3 : setW o i w h2 = some h3) : gSb m1 m2 w ta h = some (ta, h3) := by
  unfold gSb
  rw [e1]
  show (match m2 ta h1 with
    | .ok i h2 => (match setW o i w h2 with
      | some h3 => some (ta, h3)
      | none => none)
    | _ => none) = _
  rw [e2]
  show (match setW o i w h2 with
      | some h3 => some (ta, h3)
      | none => none) = _
  rw [e3]
theorem setW_ok {a : Nat} {k : Int} {w : W} {xs : List W} (e : h[a]? = some (.lst xs)) (k0 : 0 ≤ k) (k1 : k < xs.length) : setW (.ref a) (.int k) w h = some (h.set a (.lst (xs.set k.toNat w))) := by
  show (match h[a]? with
    | some (.lst xs) => (match ixN xs.length k with
      | some j => some (h.set a (.lst (xs.set j w)))
      | none => none)
    | _ => none) = _
  rw [e]
  show (match ixN xs.length k with
      | some j => some (h.set a (.lst (xs.set j w)))
      | none => none) = _
  rw [show ixN xs.length k = some k.toNat from by unfold ixN; rw [if_pos k0, if_pos k1]]
@[simp] theorem sRaise_eq {c : Nat} {fids : List Nat} : sRaise c fids ms ta h = (ms ta h).to ta fun ws h1 => if ws.length = fids.length ∧ ws.length ≤ 1000 then .exc c (fids.zip ws).reverse ta h1 else .stuck := (rfl)
@[simp] theorem startA1 {a : W} : startA 1 [a] = [some a] := (rfl)
@[simp] theorem startA_nil {n : Nat} : startA n [] = List.replicate n none := (rfl)
@[simp] theorem startA_cons {n : Nat} {a : W} {ws : List W} : startA (n + 1) (a :: ws) = some a :: startA n ws := by simp [startA]
/-- a def's outcome -/
def ptM (Q : W → HA → Prop) (X : XP) : Pt := ⟨fun _ h => Q .non h, Q, fun _ _ => False, fun _ _ => False, fun c fs _ h => X c fs h⟩
theorem RW_run {b : Sx} {n : Nat} {ws : List W} {Q : W → HA → Prop} (q : SW (b (startA n ws) h) (ptM Q X)) : RW (runB b n ws h) Q X := by
  unfold runB
  cases e : b (startA n ws) h with
  | nx ta h' => rw [e, SW_nx] at q; rw [RW_ok]; exact q
  | rt w h' => rw [e, SW_rt] at q; rw [RW_ok]; exact q
  | bk ta h' => rw [e, SW_bk] at q; exact q.elim
  | ct ta h' => rw [e, SW_ct] at q; exact q.elim
  | exc c fs ta h' => rw [e, SW_exc] at q; rw [RW_exc]; exact q
  | stuck => rw [e, SW_stuck] at q; exact q.elim
@[simp] theorem ptM_n {Q : W → HA → Prop} : (ptM Q X).n = fun _ h => Q .non h := (rfl)
@[simp] theorem ptM_r {Q : W → HA → Prop} : (ptM Q X).r = Q := (rfl)
@[simp] theorem ptM_x {Q : W → HA → Prop} : (ptM Q X).x = fun c fs _ h => X c fs h := (rfl)
/-- try: the body, the suite -/
theorem SW_try {mt : Nat → Option Bool} {i : Nat} {b hd : Sx} (q : SW (b ta h) { p with x := fun c fs ta1 h1 => (mt c = some true ∧ fs ≠ [] ∧ SW ((hd (ta1.set i (some (.xcp c fs))) h1).drop i) p) ∨ (mt c = some false ∧ p.x c fs ta1 h1) }) : SW (sTry mt i b hd ta h) p := by
  unfold sTry
  cases e : b ta h with
  | exc c fs ta1 h1 =>
    rw [e, SW_exc] at q
    rcases q with ⟨a1, a2, a3⟩ | ⟨a1, a2⟩
    · simp only [a1]
      rw [if_neg (by simpa using a2)]
      exact a3
    · simp only [a1]
      rw [SW_exc]
      exact a2
  | nx ta h' => rw [e, SW_nx] at q; rw [SW_nx]; exact q
  | rt w h' => rw [e, SW_rt] at q; rw [SW_rt]; exact q
  | bk ta h' => rw [e, SW_bk] at q; rw [SW_bk]; exact q
  | ct ta h' => rw [e, SW_ct] at q; rw [SW_ct]; exact q
  | stuck => rw [e, SW_stuck] at q; exact q.elim
@[simp] theorem drop_rt {i : Nat} {w : W} : SR.drop (.rt w h) i = .rt w h := (rfl)
@[simp] theorem drop_nx {i : Nat} : SR.drop (.nx ta h) i = .nx ((clrX ta).set i none) h := (rfl)
theorem eXf_ok {i f c : Nat} {cs : List Nat} {fs : List (Nat × W)} {w : W} (e : ta[i]? = some (some (.xcp c fs))) (hc : c ∈ cs) (l : fs.lookup f = some w) : eXf i cs f ta h = .ok w h := by
  unfold eXf
  rw [e]
  simp [hc, l]
/-! ### loops -/
theorem SW_forT {g : Tgt} {b : Sx} (I : List W → En → HA → Prop) (hend : ∀ ta h, I [] ta h → p.n ta h)
    (step : ∀ w ws ta h, I (w :: ws) ta h → ∃ ta1 h1, g w ta h = some (ta1, h1) ∧ SW (b ta1 h1) { p with n := I ws, c := I ws, b := p.n }) : ∀ (ws : List W) (ta : En) (h : HA), I ws ta h → SW (forT g b ws ta h) p
  | [], ta, h, q => by
    show SW (.nx ta h) p
    rw [SW_nx]
    exact hend ta h q
  | w :: ws, ta, h, q => by
    obtain ⟨ta1, h1, e, q1⟩ := step w ws ta h q
    show SW (match g w ta h with
      | some (ta1, h1) => (b ta1 h1).turn (forT g b ws)
      | none => .stuck) p
    rw [e]
    show SW ((b ta1 h1).turn (forT g b ws)) p
    rw [SW_turn]
    exact q1.imp (fun ta h z => SW_forT I hend step ws ta h z) (fun _ _ z => z) (fun _ _ z => z) (fun ta h z => SW_forT I hend step ws ta h z) (fun _ _ _ _ z => z)
/-- .. by place -/
theorem SW_forI {g : Tgt} {b : Sx} (xs : List W) (I : Nat → En → HA → Prop) (hend : ∀ ta h, I xs.length ta h → p.n ta h)
    (step : ∀ k w ta h, xs[k]? = some w → I k ta h → ∃ ta1 h1, g w ta h = some (ta1, h1) ∧ SW (b ta1 h1) { p with n := I (k + 1), c := I (k + 1), b := p.n }) (q : I 0 ta h) : SW (forT g b xs ta h) p := by
  refine SW_forT (fun ws ta h => ∃ k, k + ws.length = xs.length ∧ xs.drop k = ws ∧ I k ta h) ?_ ?_ xs ta h ⟨0, by simp, rfl, q⟩
  · rintro ta h ⟨k, e, _, z⟩
    have : k = xs.length := by simpa using e
    subst this
    exact hend ta h z
  · rintro w ws ta h ⟨k, e, d, z⟩
    have hk : xs[k]? = some w := by
      have := congrArg (fun l => l[0]?) d
      simpa [List.getElem?_drop] using this
    have e2 : k + 1 + ws.length = xs.length := by simp at e; omega
    have hd : xs.drop (k + 1) = ws := by
      have := congrArg (List.drop 1) d
      simpa [List.drop_drop, Nat.add_comm] using this
    obtain ⟨ta1, h1, e1, q1⟩ := step k w ta h hk z
    exact ⟨ta1, h1, e1, q1.imp (fun ta h z => ⟨k + 1, e2, hd, z⟩) (fun _ _ z => z) (fun _ _ z => z) (fun ta h z => ⟨k + 1, e2, hd, z⟩) (fun _ _ _ _ z => z)⟩
theorem numW_get : ∀ {n : Nat} {lo : Int} {k : Nat} {w : W}, (numW lo n)[k]? = some w → w = .int (lo + k) ∧ k < n := fun e => numW_at _ _ _ _ e
/-- for x in range(n) -/
theorem SW_forN {g : Tgt} {b : Sx} (n : Nat) (I : Nat → En → HA → Prop) (hend : ∀ ta h, I n ta h → p.n ta h)
    (step : ∀ (k : Nat) ta h, k < n → I k ta h → ∃ ta1 h1, g (.int k) ta h = some (ta1, h1) ∧ SW (b ta1 h1) { p with n := I (k + 1), c := I (k + 1), b := p.n }) (q : I 0 ta h) : SW (forT g b (numW 0 n) ta h) p := by
  refine SW_forI (numW 0 n) I (by rw [numW_len]; exact hend) (fun k w ta h e z => ?_) q
  obtain ⟨rfl, hk⟩ := numW_get e
  simpa using step k ta h hk z
theorem SW_forR1 {g : Tgt} {b : Sx} {j : Int} {h1 : HA} (j1 : j < 2 ^ 62) (j0 : -(2 ^ 62) ≤ j) (e : ms ta h = .ok [.int j] h1) (q : SW (forT g b (numW 0 j.toNat) ta h1) p) : SW (sForR rng1 ms g b ta h) p := by
  unfold sForR
  rw [e]
  simp only [to_ok, rng1, j0, j1, and_self, if_true]
  exact q
/-- for x in a list that stays -/
theorem SW_forL {g : Tgt} {b : Sx} {i : Nat} {mk : Nat → W → W} (xs : List W) (I : Nat → En → HA → Prop) (hI : ∀ k ta h, I k ta h → rdL h i = some xs) (hend : ∀ ta h, I xs.length ta h → p.n ta h)
    (step : ∀ k w ta h, xs[k]? = some w → I k ta h → ∃ ta1 h1, g (mk k w) ta h = some (ta1, h1) ∧ SW (b ta1 h1) { p with n := I (k + 1), c := I (k + 1), b := p.n }) : ∀ (n k : Nat) (ta : En) (h : HA), k + n = xs.length → I k ta h → SW (forL i mk g b n k ta h) p
  | 0, k, ta, h, e, q => by
    show SW (match rdL h i with
      | some xs => if xs.length ≤ k then .nx ta h else .stuck
      | none => .stuck) p
    rw [hI k ta h q]
    have hk : k = xs.length := by omega
    show SW (if xs.length ≤ k then .nx ta h else .stuck) p
    rw [if_pos (by omega)]
    rw [hk] at q
    rw [SW_nx]
    exact hend ta h q
  | n + 1, k, ta, h, e, q => by
    have hk : k < xs.length := by omega
    obtain ⟨ta1, h1, e1, q1⟩ := step k xs[k] ta h (List.getElem?_eq_getElem hk) q
    show SW (match rdL h i with
      | some xs => (match xs[k]? with
        | some w => (match g (mk k w) ta h with
          | some (ta1, h1) => (b ta1 h1).turn (forL i mk g b n (k + 1))
          | none => .stuck)
        | none => .stuck)
      | none => .stuck) p
    rw [hI k ta h q]
    show SW (match xs[k]? with
        | some w => (match g (mk k w) ta h with
          | some (ta1, h1) => (b ta1 h1).turn (forL i mk g b n (k + 1))
          | none => .stuck)
        | none => .stuck) p
    rw [List.getElem?_eq_getElem hk]
    show SW (match g (mk k xs[k]) ta h with
          | some (ta1, h1) => (b ta1 h1).turn (forL i mk g b n (k + 1))
          | none => .stuck) p
    rw [e1]
    show SW ((b ta1 h1).turn (forL i mk g b n (k + 1))) p
    rw [SW_turn]
    exact q1.imp (fun ta h z => SW_forL xs I hI hend step n (k + 1) ta h (by omega) z) (fun _ _ z => z) (fun _ _ z => z) (fun ta h z => SW_forL xs I hI hend step n (k + 1) ta h (by omega) z) (fun _ _ _ _ z => z)
/-- for x in xs: any kind of list -/
theorem SW_for {g : Tgt} {b : Sx} {w0 : W} {h0 : HA} (xs : List W) (I : Nat → En → HA → Prop) (e : m ta h = .ok w0 h0) (hw : itW h0 w0 = some xs) (hI : ∀ k ta h, I k ta h → itW h w0 = some xs) (hend : ∀ ta h, I xs.length ta h → p.n ta h)
    (step : ∀ k w ta h, xs[k]? = some w → I k ta h → ∃ ta1 h1, g w ta h = some (ta1, h1) ∧ SW (b ta1 h1) { p with n := I (k + 1), c := I (k + 1), b := p.n }) (q : I 0 ta h0) : SW (sFor m g b ta h) p := by
  unfold sFor
  rw [e]
  rw [to_ok]
  cases w0 with
  | tup ys =>
    cases hw
    exact SW_forI xs I hend step q
  | cst ys =>
    cases hw
    exact SW_forI xs I hend step q
  | ref a =>
    have h1 : rdL h0 a = some xs := hw
    show SW (match rdL h0 a with
      | some xs => forL a (fun _ w => w) g b xs.length 0 ta h0
      | none => .stuck) p
    rw [h1]
    exact SW_forL xs I (fun k ta h z => hI k ta h z) hend step xs.length 0 ta h0 (by omega) q
  | _ => cases hw
/-! ### comprehensions -/
theorem lcT_ok {g : Tgt} {el : Ex} {R : List W → HA → Prop} (I : Nat → List W → HA → Prop) (xs : List W) (hl : xs.length ≤ 10000)
    (hend : ∀ acc h, I xs.length acc h → R acc h)
    (step : ∀ k w acc h, xs[k]? = some w → I k acc h → ∃ ta1 h1, g w ta h = some (ta1, h1) ∧ t ta1 h1 = .ok true h1 ∧ RW (el ta1 h1) (fun y h3 => I (k + 1) (acc ++ [y]) h3) nox) (q : I 0 [] h) :
    ∃ acc h', lcT g t el ta xs [] h = some (acc, h') ∧ R acc h' := by
  have key : ∀ (ws : List W) (k : Nat) (acc : List W) (h : HA), k + ws.length = xs.length → xs.drop k = ws → acc.length = k → I k acc h → ∃ acc' h', lcT g t el ta ws acc h = some (acc', h') ∧ R acc' h' := by
    intro ws
    induction ws with
    | nil =>
      intro k acc h e d la z
      have : k = xs.length := by simpa using e
      subst this
      exact ⟨acc, h, rfl, hend acc h z⟩
    | cons w ws ih =>
      intro k acc h e d la z
      have hk : xs[k]? = some w := by
        have := congrArg (fun l => l[0]?) d
        simpa [List.getElem?_drop] using this
      have e2 : k + 1 + ws.length = xs.length := by simp at e; omega
      have hd : xs.drop (k + 1) = ws := by
        have := congrArg (List.drop 1) d
        simpa [List.drop_drop, Nat.add_comm] using this
      obtain ⟨ta1, h1, e1, et, q1⟩ := step k w acc h hk z
      obtain ⟨y, h3, ey, z3⟩ := q1.get
      have hlt : acc.length < sizeLine := by have := size_big; omega
      obtain ⟨acc', h', e5, r5⟩ := ih (k + 1) (acc ++ [y]) h3 e2 hd (by simp [la]) z3
      refine ⟨acc', h', ?_, r5⟩
      unfold lcT
      simp only [e1, et, ey, if_pos hlt]
      exact e5
  exact key xs 0 [] h (by simp) rfl rfl q
/-- a new list of values that leave the heap as it is -/
theorem lcT_map {g : Tgt} {el : Ex} {xs : List W} (f : W → W) (hl : xs.length ≤ 10000) (step : ∀ w ∈ xs, ∃ ta1, g w ta h = some (ta1, h) ∧ t ta1 h = .ok true h ∧ el ta1 h = .ok (f w) h) :
    lcT g t el ta xs [] h = some (xs.map f, h) := by
  obtain ⟨acc, h', e, rfl, rfl⟩ := lcT_ok (t := t) (ta := ta) (g := g) (el := el) (h := h) (R := fun acc h' => acc = xs.map f ∧ h' = h) (fun k acc h' => acc = (xs.take k).map f ∧ h' = h) xs hl (fun acc h' z => by simpa using z) (fun k w acc h' hk z => by
    obtain ⟨rfl, rfl⟩ := z
    obtain ⟨ta1, e1, e2, e3⟩ := step w (List.mem_of_getElem? hk)
    refine ⟨ta1, h', e1, e2, ?_⟩
    rw [e3, RW_ok]
    refine ⟨?_, rfl⟩
    rw [List.take_add_one, hk]
    simp) ⟨by simp, rfl⟩
  exact e
@[simp] theorem lcE_some {acc : List W} : lcE (some (acc, h)) = .ok (.ref h.length) (h ++ [O.lst acc]) := (rfl)
end
end J

namespace JP
open PySem PySem.Spec PyProof.Rows L2 J
/-! ### the law's hand -/
/-- the hand stands at 1, its cells at 0 -/
def Hand (h : HA) : Prop := ∃ (cells : List Int) (i : Nat) (r t : Int), h[0]? = some (.lst (cells.map W.int)) ∧ h[1]? = some (.lst [.ref 0, .int i, .int r, .int t]) ∧ (∀ c ∈ cells, 0 ≤ c) ∧ 0 ≤ r
/-- all but the hand stays -/
def Fr (h h' : HA) : Prop := h.length ≤ h'.length ∧ ∀ i o, 2 ≤ i → h[i]? = some o → h'[i]? = some o
theorem Fr.rfl' {h : HA} : Fr h h := ⟨Nat.le_refl _, fun _ _ _ z => z⟩
theorem Fr.trans {h h' h2 : HA} (a : Fr h h') (b : Fr h' h2) : Fr h h2 := ⟨Nat.le_trans a.1 b.1, fun i o c z => b.2 i o c (a.2 i o c z)⟩
theorem Fr.push {h : HA} {l : List O} : Fr h (h ++ l) := ⟨by simp, fun i o _ z => by rw [List.getElem?_append_left (List.getElem?_eq_some_iff.mp z).1]; exact z⟩
theorem get_push {h : HA} {l : List O} {i : Nat} {o : O} (z : h[i]? = some o) : (h ++ l)[i]? = some o := by rw [List.getElem?_append_left (List.getElem?_eq_some_iff.mp z).1]; exact z
theorem get_new {h : HA} {o : O} : (h ++ [o])[h.length]? = some o := by simp
theorem Hand.push {h : HA} {l : List O} (H : Hand h) : Hand (h ++ l) := by
  obtain ⟨c, i, r, t, a, b, d⟩ := H
  exact ⟨c, i, r, t, get_push a, get_push b, d⟩
theorem Hand.len {h : HA} (H : Hand h) : 2 ≤ h.length := by
  obtain ⟨c, i, r, t, a, b, d⟩ := H
  exact (List.getElem?_eq_some_iff.mp b).1
/-- an object that is not the hand is changed -/
theorem Hand.set {h : HA} {k : Nat} {o : O} (H : Hand h) (hk : 2 ≤ k) : Hand (h.set k o) := by
  obtain ⟨c, i, r, t, a, b, d⟩ := H
  exact ⟨c, i, r, t, by rw [List.getElem?_set_ne (by omega)]; exact a, by rw [List.getElem?_set_ne (by omega)]; exact b, d⟩
section
variable {h : HA} {X : XP} {Q : W → HA → Prop}
theorem mix_ok (a b : Int) (k : ∀ v : Int, 0 ≤ v → Q (.int v) h) : RW (m__law_mix [.int a, .int b] h) Q X := by
  refine RW_run ?_
  simp [b__law_mix]
  exact k _ (Int.ediv_nonneg (Int.emod_nonneg _ (by decide)) (by decide))
theorem hand_get {h : HA} {xs : List W} {o : Nat} (e : h[o]? = some (.lst xs)) {k : Int} {w : W} (g : atI xs k = some w) : oIx (.ref o) (.int k) h = some (w, h) := oIx_at (rdL_of_get e) g
/-- the hand's four places -/
theorem hand_ix {h : HA} {a b c d : W} (e : h[1]? = some (.lst [a, b, c, d])) : oIx (.ref 1) (.int 0) h = some (a, h) ∧ oIx (.ref 1) (.int 1) h = some (b, h) ∧ oIx (.ref 1) (.int 2) h = some (c, h) ∧ oIx (.ref 1) (.int 3) h = some (d, h) :=
  ⟨hand_get e rfl, hand_get e rfl, hand_get e rfl, hand_get e rfl⟩
theorem hand_set {h : HA} {a b c d : W} (e : h[1]? = some (.lst [a, b, c, d])) : (∀ w, setW (.ref 1) (.int 1) w h = some (h.set 1 (.lst [a, w, c, d]))) ∧ (∀ w, setW (.ref 1) (.int 2) w h = some (h.set 1 (.lst [a, b, w, d]))) ∧ (∀ w, setW (.ref 1) (.int 3) w h = some (h.set 1 (.lst [a, b, c, w]))) :=
  ⟨fun w => setW_ok e (by decide) (by simp), fun w => setW_ok e (by decide) (by simp), fun w => setW_ok e (by decide) (by simp)⟩
theorem set1_get {h : HA} (l : 2 ≤ h.length) {o : O} : (h.set 1 o)[1]? = some o := by rw [List.getElem?_set_self (by omega)]
theorem set1_hand {h : HA} {cells : List Int} {i : Nat} {r t : Int} (l : 2 ≤ h.length) (hc : h[0]? = some (.lst (cells.map W.int))) (hp : ∀ c ∈ cells, 0 ≤ c) (hr : 0 ≤ r) : Hand (h.set 1 (.lst [.ref 0, .int i, .int r, .int t])) :=
  ⟨cells, i, r, t, by rw [List.getElem?_set_ne (by decide)]; exact hc, set1_get l, hp, hr⟩
theorem set1_fr {h : HA} {o : O} : Fr h (h.set 1 o) := ⟨by simp, fun i o hi z => by rw [List.getElem?_set_ne (by omega)]; exact z⟩
theorem draw_ok (H : Hand h) {n : Int} (n0 : 0 < n) (n1 : n < 2 ^ 64) (k : ∀ (v : Int) (h' : HA), 0 ≤ v → v < n → Hand h' → h'.length = h.length → Fr h h' → Q (.int v) h') : RW (m__law_draw [.ref 1, .int n] h) Q X := by
  obtain ⟨cells, i, r, t, hc, hh, hp, hr⟩ := H
  have h2 : 2 ≤ h.length := (List.getElem?_eq_some_iff.mp hh).1
  refine RW_run ?_
  obtain ⟨g0, g1, g2, g3⟩ := hand_ix hh
  obtain ⟨s1, s2, s3⟩ := hand_set hh
  have l0 : fLen [.ref 0] h = some (.int cells.length, h) := by
    have := fLen_of (h := h) (w := .ref 0) (rdL_of_get hc)
    simpa using this
  have fin : ∀ (v : Int) (h' : HA), 0 ≤ v → Hand h' → h'.length = h.length → Fr h h' → Q (.int (v % n)) h' := fun v h' hv a b c => k _ h' (Int.emod_nonneg _ (by omega)) (Int.emod_lt_of_pos _ n0) a b c
  have n2 : n < 18446744073709551616 := n1
  by_cases cr : r = 0
  · subst cr
    by_cases ci : i < cells.length
    · have hcell : oIx (.ref 0) (.int i) h = some (.int cells[i], h) := hand_get hc (atI_of (by omega) (by simp [ci]))
      have hx : 0 ≤ cells[i] := hp _ (List.getElem_mem ci)
      have hh1 : (h.set 1 (.lst [.ref 0, .int (i + 1), .int 0, .int t]))[1]? = some (.lst [.ref 0, .int (i + 1), .int 0, .int t]) := set1_get h2
      obtain ⟨a0, a1, a2, a3⟩ := hand_ix hh1
      obtain ⟨b1, b2, b3⟩ := hand_set hh1
      by_cases cx : cells[i] < 10 ^ 18
      · have cx' : cells[i] < 1000000000000000000 := cx
        simp [b__law_draw, g0, g1, g2, g3, l0, ci, hcell, s1, cx', a1]
        refine mix_ok _ _ fun v hv => ?_
        simp [n0]
        exact fin v _ hv (set1_hand (i := i + 1) h2 hc hp (by decide)) (by simp) set1_fr
      · have cx' : ¬ cells[i] < 1000000000000000000 := cx
        have hh2 : (h.set 1 (.lst [.ref 0, .int (i + 1), .int cells[i], .int t]))[1]? = some (.lst [.ref 0, .int (i + 1), .int cells[i], .int t]) := set1_get h2
        obtain ⟨c0, c1, c2, c3⟩ := hand_ix hh2
        obtain ⟨d1, d2, d3⟩ := hand_set hh2
        have cp : 0 < cells[i] := by omega
        simp [b__law_draw, g0, g1, g2, g3, l0, ci, hcell, s1, cx', a1, b2, c2, cp, n0, n2, d2]
        exact fin _ _ hx (set1_hand (i := i + 1) h2 hc hp (Int.ediv_nonneg hx (by omega))) (by simp) set1_fr
    · have hh2 : ∀ t', (h.set 1 (.lst [.ref 0, .int i, .int 0, .int t']))[1]? = some (.lst [.ref 0, .int i, .int 0, .int t']) := fun t' => set1_get h2
      have c1 := fun t' => (hand_ix (hh2 t')).2.1
      have c3 := fun t' => (hand_ix (hh2 t')).2.2.2
      simp [b__law_draw, g0, g1, g2, g3, l0, ci, s3, c1, c3]
      refine mix_ok _ _ fun v hv => ?_
      simp [n0]
      exact fin v _ hv (set1_hand (i := i) h2 hc hp (by decide)) (by simp) set1_fr
  · have cp : 0 < r := by omega
    simp [b__law_draw, g0, g1, g2, g3, l0, cr, s2, cp, n0, n2]
    exact fin _ _ hr (set1_hand (i := i) h2 hc hp (Int.ediv_nonneg hr (by omega))) (by simp) set1_fr
theorem hand_ok {ns : List Int} (hl : ns.length ≤ 63) (k : ∀ h' : HA, Hand h' → h'.length = 2 → Q (.ref 1) h') : RW (m__law_hand [.cst (ns.map W.int)] []) Q X := by
  refine RW_run ?_
  unfold b__law_hand
  simp only [sSeq_eq, SW_then]
  simp [sForE]
  refine SW_forI (enumW 0 (ns.map W.int)) (fun _ ta h => ∃ (t : Int) (x y : Option W), ta = [some (.cst (ns.map W.int)), some (.int t), x, y] ∧ h = []) ?_ ?_ ⟨0, none, none, rfl, rfl⟩
  · rintro ta h ⟨t, x, y, rfl, rfl⟩
    have e : lcT (gNm 3) xYes (eFn fAbs (aCons (eFn fInt (aCons (eVar 3) aNil)) aNil)) [some (.cst (ns.map W.int)), some (.int t), x, none] (ns.map W.int) [] [] = some ((ns.map W.int).map (fun w => match w with | .int i => .int (if i < 0 then -i else i) | w => w), []) := by
      refine lcT_map _ (by simp; omega) fun w hw => ?_
      obtain ⟨i, _, rfl⟩ := List.mem_map.mp hw
      exact ⟨[some (.cst (ns.map W.int)), some (.int t), x, some (.int i)], rfl, rfl, rfl⟩
    simp [eLc, wipeA, e, mkLst_ok]
    refine k _ ⟨ns.map (fun i => if i < 0 then -i else i), 0, 0, t, ?_, rfl, ?_, by decide⟩ rfl
    · simp
    · intro c hc
      obtain ⟨i, _, rfl⟩ := List.mem_map.mp hc
      by_cases q : i < 0
      · rw [if_pos q]; omega
      · rw [if_neg q]; omega
  · rintro kk w ta h hk ⟨t, x, y, rfl, rfl⟩
    obtain ⟨z, hz, rfl⟩ := enumW_at _ _ _ _ hk
    have hkl : kk < 63 := by have := (List.getElem?_eq_some_iff.mp hz).1; simp at this; omega
    rw [List.getElem?_map] at hz
    obtain ⟨i, hi, rfl⟩ := Option.map_eq_some_iff.mp hz
    refine ⟨[some (.cst (ns.map W.int)), some (.int t), some (.int (0 + kk : Nat)), some (.int i)], [], rfl, ?_⟩
    have m : mulOk i ((kk : Int) + 7) = true := mulOk_r (by omega) (by omega)
    simp [m]
end
end JP

namespace JP
open PySem PySem.Spec PyProof.Rows L2 J
/-- natural numbers as values -/
def nW (bs : List Nat) : List W := bs.map fun n => W.int (n : Nat)
@[simp] theorem nW_len (bs : List Nat) : (nW bs).length = bs.length := by simp [nW]
@[simp] theorem nW_get (bs : List Nat) (i : Nat) : (nW bs)[i]? = (bs[i]?).map fun n => W.int (n : Nat) := by simp [nW]
theorem nW_set (bs : List Nat) (i n : Nat) : (nW bs).set i (.int (n : Nat)) = nW (bs.set i n) := by simp [nW, List.map_set]
theorem map_erase {α β : Type} (f : α → β) : ∀ (l : List α) (i : Nat), (l.map f).eraseIdx i = (l.eraseIdx i).map f
  | [], _ => rfl
  | x :: l, 0 => rfl
  | x :: l, i + 1 => by
    show f x :: (l.map f).eraseIdx i = f x :: (l.eraseIdx i).map f
    rw [map_erase f l i]
theorem nW_erase (bs : List Nat) (i : Nat) : (nW bs).eraseIdx i = nW (bs.eraseIdx i) := map_erase _ _ _
theorem numW_nW (n : Nat) : numW 0 n = nW (List.range n) := by
  have key : ∀ (n lo : Nat), numW (lo : Int) n = nW (List.range' lo n) := by
    intro n
    induction n with
    | zero => intro lo; rfl
    | succ n ih =>
      intro lo
      unfold numW
      rw [List.range'_succ]
      rw [show ((lo : Int) + 1) = ((lo + 1 : Nat) : Int) from by simp, ih (lo + 1)]
      rfl
  rw [List.range_eq_range']
  exact key n 0
/-- backs that are right -/
def Invol (bs : List Nat) : Prop := ∀ k, k < bs.length → ∃ j, bs[k]? = some j ∧ bs[j]? = some k
theorem Invol.range (n : Nat) : Invol (List.range n) := fun k hk => ⟨k, by simp at hk; simp [hk], by simp at hk; simp [hk]⟩
theorem Invol.two {bs : List Nat} (I : Invol bs) {a b : Nat} (ha : bs[a]? = some a) (hb : bs[b]? = some b) (ne : a ≠ b) : Invol ((bs.set a b).set b a) := by
  have la := (List.getElem?_eq_some_iff.mp ha).1
  have lb := (List.getElem?_eq_some_iff.mp hb).1
  intro k hk
  have hk : k < bs.length := by simpa using hk
  by_cases k1 : k = a
  · subst k1
    exact ⟨b, by rw [List.getElem?_set_ne (by omega), List.getElem?_set_self la], by rw [List.getElem?_set_self (by simpa using lb)]⟩
  · by_cases k2 : k = b
    · subst k2
      exact ⟨a, by rw [List.getElem?_set_self (by simpa using lb)], by rw [List.getElem?_set_ne (by omega), List.getElem?_set_self la]⟩
    · obtain ⟨j, e1, e2⟩ := I k hk
      have j1 : j ≠ a := fun z => by subst z; rw [ha] at e2; exact k1 (Option.some.inj e2).symm
      have j2 : j ≠ b := fun z => by subst z; rw [hb] at e2; exact k2 (Option.some.inj e2).symm
      exact ⟨j, by rw [List.getElem?_set_ne (by omega), List.getElem?_set_ne (by omega)]; exact e1, by rw [List.getElem?_set_ne (by omega), List.getElem?_set_ne (by omega)]; exact e2⟩
theorem mPopAt_ok {h : HA} {a : Nat} {xs : List W} {x : W} {k : Int} (e : h[a]? = some (.lst xs)) (k0 : 0 ≤ k) (k1 : k < 2 ^ 63) (g : xs[k.toNat]? = some x) : mPopAt (.ref a) [.int k] h = some (x, h.set a (.lst (xs.eraseIdx k.toNat))) := by
  have e1 : wrL h a = some xs := by unfold wrL; rw [e]
  show (match wrL h a with
    | some xs => if 0 ≤ k ∧ k < 2 ^ 63 then (match xs[k.toNat]? with
      | some y => some (y, h.set a (.lst (xs.eraseIdx k.toNat)))
      | none => none) else none
    | none => none) = _
  rw [e1]
  show (if 0 ≤ k ∧ k < 2 ^ 63 then (match xs[k.toNat]? with
      | some y => some (y, h.set a (.lst (xs.eraseIdx k.toNat)))
      | none => none) else none) = _
  rw [if_pos ⟨k0, k1⟩, g]
theorem mAppend_ok {h : HA} {a : Nat} {xs : List W} {x : W} (e : h[a]? = some (.lst xs)) (l : xs.length < 10000) : mAppend (.ref a) [x] h = some (.non, h.set a (.lst (xs ++ [x]))) := by
  have e1 : wrL h a = some xs := by unfold wrL; rw [e]
  show (match wrL h a with
    | some xs => if xs.length < sizeLine then some (W.non, h.set a (.lst (xs ++ [x]))) else none
    | none => none) = _
  rw [e1]
  exact if_pos (Nat.lt_of_lt_of_le l size_big)
def rLm (f : W → List W → HA → Option (W × HA)) (ms : Ax) (ta : En) (x : W) (h1 : HA) : Res W := if isL h1 x = true then (ms ta h1).bind fun ws h2 => ofO (f x ws h2) else .stuck
@[simp] theorem eLm_eq {f : W → List W → HA → Option (W × HA)} {m : Ex} {ms : Ax} {ta : En} {h : HA} : eLm f m ms ta h = (m ta h).bind (rLm f ms ta) := (rfl)
theorem rLm_ok {f : W → List W → HA → Option (W × HA)} {ms : Ax} {ta : En} {a : Nat} {xs : List W} {h : HA} (e : h[a]? = some (.lst xs)) : rLm f ms ta (.ref a) h = (ms ta h).bind fun ws h2 => ofO (f (.ref a) ws h2) := by
  unfold rLm
  rw [if_pos]
  show (rdL h a).isSome = true
  rw [rdL_of_get e]
  rfl
theorem rng1_nat {n : Nat} (l : n ≤ 10000) : rng1 [.int n] = some (numW 0 n) := by
  have a1 : -(2 ^ 62) ≤ (n : Int) := by omega
  have a2 : (n : Int) < 2 ^ 62 := by omega
  simp only [rng1, a1, a2, and_self, if_true, Int.toNat_natCast]
theorem mkLst_num {n : Nat} {h1 : HA} (l : n ≤ 10000) : mkLst (numW 0 n) h1 = .ok (.ref h1.length) (h1 ++ [O.lst (nW (List.range n))]) := by
  have e : (numW 0 n).length ≤ 10000 := by rw [numW_len]; exact l
  rw [← numW_nW]
  exact mkLst_ok e
def rListR (rng : List W → Option (List W)) (ws : List W) (h1 : HA) : Res W := match rng ws with
  | some xs => mkLst xs h1
  | none => .stuck
theorem rListR_of {rng : List W → Option (List W)} {ws xs : List W} {h1 : HA} (e : rng ws = some xs) : rListR rng ws h1 = mkLst xs h1 := by
  unfold rListR
  rw [e]
theorem rListR_ok {h1 : HA} {n : Nat} (l : n ≤ 10000) : rListR rng1 [.int n] h1 = .ok (.ref h1.length) (h1 ++ [O.lst (nW (List.range n))]) := (rListR_of (rng1_nat l)).trans (mkLst_num l)
@[simp] theorem eListR_eq {rng : List W → Option (List W)} {ms : Ax} {ta : En} {h : HA} : eListR rng ms ta h = (ms ta h).bind (rListR rng) := (rfl)
theorem Fr.get {h h' : HA} (f : Fr h h') {i : Nat} {o : O} (hi : 2 ≤ i) (e : h[i]? = some o) : h'[i]? = some o := f.2 i o hi e
/-- .. and what is newer than h may change -/
theorem Fr.set {h h' : HA} (f : Fr h h') {i : Nat} {o : O} (hi : h.length ≤ i) : Fr h (h'.set i o) := ⟨by simpa using f.1, fun j o' hj e => by
  have lj := (List.getElem?_eq_some_iff.mp e).1
  rw [List.getElem?_set_ne (by omega)]
  exact f.2 j o' hj e⟩
section
variable {h : HA} {X : XP} {Q : W → HA → Prop}
theorem not_mem_erase {l : List Nat} (n : l.Nodup) {i : Nat} (hi : i < l.length) : l[i] ∉ l.eraseIdx i := by
  rw [List.mem_eraseIdx_iff_getElem]
  rintro ⟨j, hj, hjn, e⟩
  exact hjn ((List.getElem_inj n).mp e)
/-- where the pairing stands: h the heap before, m ties, i rounds gone -/
def BInv (h : HA) (m i : Nat) (ta : En) (h' : HA) : Prop := ∃ (x y z : Option W) (bs ls : List Nat), ta = [some (.ref 1), some (.int m), some (.ref h.length), some (.ref (h.length + 1)), x, y, z] ∧ Hand h' ∧ Fr h h' ∧ h'.length = h.length + 2 ∧ h'[h.length]? = some (.lst (nW bs)) ∧ h'[h.length + 1]? = some (.lst (nW ls)) ∧
    bs.length = m ∧ Invol bs ∧ ls.Nodup ∧ (∀ l ∈ ls, bs[l]? = some l) ∧ m ≤ ls.length + 2 * i ∧ ls.length ≤ m
theorem backs_ok (H : Hand h) {m : Nat} (hm : m ≤ 1000) (k : ∀ (h' : HA) (bs : List Nat), Hand h' → Fr h h' → h'.length = h.length + 2 → h'[h.length]? = some (.lst (nW bs)) → bs.length = m → Invol bs → Q (.ref h.length) h') : RW (m__law_backs [.ref 1, .int m] h) Q X := by
  unfold m__law_backs
  refine RW_run ?_
  have h2 := H.len
  have hm' : m ≤ 10000 := by omega
  unfold b__law_backs
  simp [rListR_ok hm']
  refine SW_forR1 (h1 := h ++ [O.lst (nW (List.range m)), O.lst (nW (List.range m))]) (j := (m : Int) / 2) (by omega) (by omega) (by simp) ?_
  refine SW_forN (((m : Int) / 2).toNat) (BInv h m) ?_ ?_ ?_
  · rintro ta h' ⟨x, y, z, bs, ls, rfl, a1, a2, a3, a4, a5, a6, a7, a8, a9, a10, a11⟩
    simp
    exact k h' bs a1 a2 a3 a4 a6 a7
  · rintro i ta h' hi ⟨x, y, z, bs, ls, rfl, a1, a2, a3, a4, a5, a6, a7, a8, a9, a10, a11⟩
    refine ⟨_, _, rfl, ?_⟩
    simp
    refine draw_ok a1 (by decide) (by decide) fun v h1 v0 vn H1 l1 f1 => ?_
    have b4 := f1.get (by omega) a4
    have b5 := f1.get (by omega) a5
    by_cases cv : v = 0
    · subst cv
      have hls : 2 ≤ ls.length := by omega
      have e1 : fLen [.ref (h.length + 1)] h1 = some (.int ls.length, h1) := by
        have := fLen_of (h := h1) (w := .ref (h.length + 1)) (rdL_of_get b5)
        simpa using this
      simp [rLm_ok b5, e1]
      refine draw_ok H1 (by omega) (by omega) fun v1 h3 v10 v1n H3 l3 f3 => ?_
      have c4 := f3.get (by omega) b4
      have c5 := f3.get (by omega) b5
      obtain ⟨n1, rfl⟩ : ∃ n1 : Nat, v1 = n1 := ⟨v1.toNat, by omega⟩
      have p1 : n1 < ls.length := by omega
      have q1 := mPopAt_ok (k := (n1 : Int)) (x := .int (ls[n1] : Nat)) c5 (by omega) (by omega) (by simp [List.getElem?_eq_getElem p1])
      have d5 : (h3.set (h.length + 1) (.lst (nW (ls.eraseIdx n1))))[h.length + 1]? = some (.lst (nW (ls.eraseIdx n1))) := by rw [List.getElem?_set_self (by omega)]
      have e2 : fLen [.ref (h.length + 1)] (h3.set (h.length + 1) (.lst (nW (ls.eraseIdx n1)))) = some (.int ((ls.length : Int) - 1), h3.set (h.length + 1) (.lst (nW (ls.eraseIdx n1)))) := by
        have := fLen_of (h := h3.set (h.length + 1) (.lst (nW (ls.eraseIdx n1)))) (w := .ref (h.length + 1)) (rdL_of_get d5)
        rw [this]
        congr 3
        simp [List.length_eraseIdx, p1]
        omega
      simp [q1, nW_erase, rLm_ok d5, e2]
      have HH := H3.set (k := h.length + 1) (o := .lst (nW (ls.eraseIdx n1))) (by omega)
      refine draw_ok HH (by omega) (by omega) fun v2 h4 v20 v2n H4 l4 f4 => ?_
      obtain ⟨n2, rfl⟩ : ∃ n2 : Nat, v2 = n2 := ⟨v2.toNat, by omega⟩
      have g4 : h4[h.length]? = some (.lst (nW bs)) := f4.get (by omega) (by rw [List.getElem?_set_ne (by omega)]; exact c4)
      have g5 := f4.get (by omega) d5
      have lE : (ls.eraseIdx n1).length = ls.length - 1 := by simp [List.length_eraseIdx, p1]
      have p2 : n2 < (ls.eraseIdx n1).length := by omega
      have q2 := mPopAt_ok (k := (n2 : Int)) (x := .int ((ls.eraseIdx n1)[n2] : Nat)) g5 (by omega) (by omega) (by simp [List.getElem?_eq_getElem p2])
      have hone : bs[ls[n1]]? = some ls[n1] := a9 _ (List.getElem_mem p1)
      have hmem : (ls.eraseIdx n1)[n2] ∈ ls := (List.eraseIdx_sublist ls n1).subset (List.getElem_mem p2)
      have hother := a9 _ hmem
      have hnot : ls[n1] ∉ ls.eraseIdx n1 := not_mem_erase a8 p1
      have hnot2 : (ls.eraseIdx n1)[n2] ∉ (ls.eraseIdx n1).eraseIdx n2 := not_mem_erase (a8.eraseIdx n1) p2
      have hne : ls[n1] ≠ (ls.eraseIdx n1)[n2] := fun z => hnot (z ▸ List.getElem_mem p2)
      have lo := (List.getElem?_eq_some_iff.mp hone).1
      have lt := (List.getElem?_eq_some_iff.mp hother).1
      generalize ho : (ls.eraseIdx n1)[n2] = other at *
      generalize hn : ls[n1] = one at *
      have l4' : h4.length = h.length + 2 := by rw [l4]; simp; omega
      have w1 := setW_ok (h := h4.set (h.length + 1) (.lst (nW ((ls.eraseIdx n1).eraseIdx n2)))) (a := h.length) (k := (one : Nat)) (w := .int (other : Nat)) (xs := nW bs) (by rw [List.getElem?_set_ne (by omega)]; exact g4) (by omega) (by simp; omega)
      have w2 := setW_ok (h := (h4.set (h.length + 1) (.lst (nW ((ls.eraseIdx n1).eraseIdx n2)))).set h.length (.lst (nW (bs.set one other)))) (a := h.length) (k := (other : Nat)) (w := .int (one : Nat)) (xs := nW (bs.set one other)) (by rw [List.getElem?_set_self (by simp; omega)]) (by omega) (by simp; omega)
      simp [nW_set] at w1 w2
      simp [q2, nW_erase, w1, w2]
      refine ⟨_, _, _, (bs.set one other).set other one, (ls.eraseIdx n1).eraseIdx n2, rfl, (H4.set (by omega)).set (by omega), ?_, by simp; omega, ?_, ?_, by simpa using a6, a7.two hone hother hne, ?_, ?_, ?_, ?_⟩
      · exact (((((a2.trans f1).trans f3).set (by omega)).trans f4).set (by omega)).set (by omega)
      · rw [List.getElem?_set_self (by simp; omega)]
      · rw [List.getElem?_set_ne (by omega), List.getElem?_set_self (by omega)]
      · exact (a8.eraseIdx n1).eraseIdx n2
      · intro l hl
        have l1 : l ∈ ls.eraseIdx n1 := (List.eraseIdx_sublist _ _).subset hl
        have l2 : l ∈ ls := (List.eraseIdx_sublist _ _).subset l1
        have e1 : l ≠ one := fun z => by
          subst z
          exact hnot l1
        have e2 : l ≠ other := fun z => by
          subst z
          exact hnot2 hl
        rw [List.getElem?_set_ne (by omega), List.getElem?_set_ne (by omega)]
        exact a9 l l2
      · rw [List.length_eraseIdx, if_pos p2]; omega
      · rw [List.length_eraseIdx, if_pos p2]; omega
    · simp [cv]
      exact ⟨_, _, _, bs, ls, rfl, H1, a2.trans f1, by omega, b4, b5, a6, a7, a8, a9, by omega, a11⟩
  · refine ⟨none, none, none, List.range m, List.range m, rfl, H.push, Fr.push, by simp, by simp, by simp, by simp, Invol.range m, List.nodup_range, ?_, by simp, by simp⟩
    intro l hl
    simp at hl
    simp [hl]
end
end JP

namespace J
open PySem PySem.Spec PyProof.Rows L2
/-! ### isinstance -/
def rB (o : Option Bool) (h : HA) : Res W := match o with
  | some b => .ok (.bl b) h
  | none => .stuck
@[simp] theorem rB_some {b : Bool} {h : HA} : rB (some b) h = .ok (.bl b) h := (rfl)
def rIsi (cs : List Nat) (f : Tg → Option Bool) (x : W) (h1 : HA) : Res W := match tgC cs x h1 with
  | some g => (match f g with
    | some b => .ok (.bl b) h1
    | none => .stuck)
  | none => .stuck
@[simp] theorem eIsi_eq {cs : List Nat} {f : Tg → Option Bool} {m : Ex} {ta : En} {h : HA} : eIsi cs f m ta h = (m ta h).bind (rIsi cs f) := (rfl)
section
variable {cs : List Nat} {f : Tg → Option Bool} {h : HA}
theorem rIsi_of {x : W} {g : Tg} (e : tgC cs x h = some g) : rIsi cs f x h = rB (f g) h := by
  unfold rIsi
  rw [e]
  rfl
@[simp] theorem rIsi_non : rIsi cs f .non h = rB (f .non) h := (rfl)
@[simp] theorem rIsi_bl {b : Bool} : rIsi cs f (.bl b) h = rB (f .bl) h := (rfl)
@[simp] theorem rIsi_int {b : Int} : rIsi cs f (.int b) h = rB (f .int) h := (rfl)
@[simp] theorem rIsi_str {b : Str} : rIsi cs f (.str b) h = rB (f .str) h := (rfl)
@[simp] theorem rIsi_tup {b : List W} : rIsi cs f (.tup b) h = rB (f .tup) h := (rfl)
@[simp] theorem rIsi_cst {b : List W} : rIsi cs f (.cst b) h = rB (f .lst) h := (rfl)
theorem rIsi_lst {a : Nat} {xs : List W} (e : h[a]? = some (.lst xs)) : rIsi cs f (.ref a) h = rB (f .lst) h := rIsi_of (by unfold tgC tgW; simp [e])
theorem rIsi_dic {a : Nat} {xs : List (Key × W)} (e : h[a]? = some (.dic xs)) : rIsi cs f (.ref a) h = rB (f .dic) h := rIsi_of (by unfold tgC tgW; simp [e])
theorem rIsi_ins {a c : Nat} {fs : List (Nat × W)} (e : h[a]? = some (.ins c fs)) (hc : c ∈ cs) : rIsi cs f (.ref a) h = rB (f (.ins c)) h := rIsi_of (by unfold tgC tgW; simp [e, hc])
@[simp] theorem isOwn_ins {c : Nat} : isOwn [c] [c] (.ins c) = some true := by simp [isOwn]
@[simp] theorem isOwn_non {cs su : List Nat} : isOwn cs su .non = some false := (rfl)
@[simp] theorem isOwn_bl {cs su : List Nat} : isOwn cs su .bl = some false := (rfl)
@[simp] theorem isOwn_int {cs su : List Nat} : isOwn cs su .int = some false := (rfl)
@[simp] theorem isOwn_str {cs su : List Nat} : isOwn cs su .str = some false := (rfl)
@[simp] theorem isOwn_tup {cs su : List Nat} : isOwn cs su .tup = some false := (rfl)
@[simp] theorem isOwn_lst {cs su : List Nat} : isOwn cs su .lst = some false := (rfl)
@[simp] theorem isOwn_dic {cs su : List Nat} : isOwn cs su .dic = some false := (rfl)
end
@[simp] theorem isInt_non : isInt .non = some false := (rfl)
@[simp] theorem isInt_bl : isInt .bl = some true := (rfl)
@[simp] theorem isInt_int : isInt .int = some true := (rfl)
@[simp] theorem isInt_str : isInt .str = some false := (rfl)
@[simp] theorem isInt_tup : isInt .tup = some false := (rfl)
@[simp] theorem isInt_lst : isInt .lst = some false := (rfl)
@[simp] theorem isInt_dic : isInt .dic = some false := (rfl)
@[simp] theorem isBool_non : isBool .non = some false := (rfl)
@[simp] theorem isBool_bl : isBool .bl = some true := (rfl)
@[simp] theorem isBool_int : isBool .int = some false := (rfl)
@[simp] theorem isBool_str : isBool .str = some false := (rfl)
@[simp] theorem isBool_tup : isBool .tup = some false := (rfl)
@[simp] theorem isBool_lst : isBool .lst = some false := (rfl)
@[simp] theorem isBool_dic : isBool .dic = some false := (rfl)
@[simp] theorem isStr_non : isStr .non = some false := (rfl)
@[simp] theorem isStr_bl : isStr .bl = some false := (rfl)
@[simp] theorem isStr_int : isStr .int = some false := (rfl)
@[simp] theorem isStr_str : isStr .str = some true := (rfl)
@[simp] theorem isStr_tup : isStr .tup = some false := (rfl)
@[simp] theorem isStr_lst : isStr .lst = some false := (rfl)
@[simp] theorem isStr_dic : isStr .dic = some false := (rfl)
@[simp] theorem isTup_non : isTup .non = some false := (rfl)
@[simp] theorem isTup_bl : isTup .bl = some false := (rfl)
@[simp] theorem isTup_int : isTup .int = some false := (rfl)
@[simp] theorem isTup_str : isTup .str = some false := (rfl)
@[simp] theorem isTup_tup : isTup .tup = some true := (rfl)
@[simp] theorem isTup_lst : isTup .lst = some false := (rfl)
@[simp] theorem isTup_dic : isTup .dic = some false := (rfl)
@[simp] theorem isLst_non : isLst .non = some false := (rfl)
@[simp] theorem isLst_bl : isLst .bl = some false := (rfl)
@[simp] theorem isLst_int : isLst .int = some false := (rfl)
@[simp] theorem isLst_str : isLst .str = some false := (rfl)
@[simp] theorem isLst_tup : isLst .tup = some false := (rfl)
@[simp] theorem isLst_lst : isLst .lst = some true := (rfl)
@[simp] theorem isLst_dic : isLst .dic = some false := (rfl)
@[simp] theorem isLT_non : isLT .non = some false := (rfl)
@[simp] theorem isLT_bl : isLT .bl = some false := (rfl)
@[simp] theorem isLT_int : isLT .int = some false := (rfl)
@[simp] theorem isLT_str : isLT .str = some false := (rfl)
@[simp] theorem isLT_tup : isLT .tup = some true := (rfl)
@[simp] theorem isLT_lst : isLT .lst = some true := (rfl)
@[simp] theorem isLT_dic : isLT .dic = some false := (rfl)
/-! ### fields, methods -/
section
variable {h : HA} {ta : En} {m : Ex} {ms : Ax}
theorem oFld_ok {cs : List Nat} {f a c : Nat} {fs : List (Nat × W)} {w : W} (e : h[a]? = some (.ins c fs)) (hc : c ∈ cs) (l : fs.lookup f = some w) : oFld cs f (.ref a) h = some (w, h) := by
  simp [oFld, e, hc, l]
def rMeth (al : List Alt) (ms : Ax) (ta : En) (x : W) (h1 : HA) : Res W := match clsOf h1 x with
  | some c => (match altAt c al with
    | some a => (ms ta h1).bind fun ws h2 => if (x :: ws).length + a.ds.length = a.n then a.g (x :: ws ++ a.ds) h2 else .stuck
    | none => .stuck)
  | none => .stuck
@[simp] theorem eMeth_eq {al : List Alt} : eMeth al m ms ta h = (m ta h).bind (rMeth al ms ta) := (rfl)
theorem clsOf_ok {a c : Nat} {fs : List (Nat × W)} (e : h[a]? = some (.ins c fs)) : clsOf h (.ref a) = some c := by simp [clsOf, e]
theorem rMeth1 {c n a : Nat} {g : Mir} {fs : List (Nat × W)} (e : h[a]? = some (.ins c fs)) : rMeth [⟨c, n, g, []⟩] ms ta (.ref a) h = (ms ta h).bind (rCall (fun ws => g (.ref a :: ws)) (n - 1) []) ∨ n = 0 := by
  by_cases h0 : n = 0
  · exact .inr h0
  refine .inl ?_
  unfold rMeth
  rw [clsOf_ok e]
  simp only [altAt, if_true]
  cases ms ta h with
  | ok ws h2 =>
    simp only [bind_ok, rCall, List.length_cons, List.length_nil, Nat.add_zero, List.append_nil, List.cons_append]
    by_cases c1 : ws.length + 1 = n
    · rw [if_pos c1, if_pos (by omega)]
    · rw [if_neg c1, if_neg (by omega)]
  | exc c fs h2 => rfl
  | stuck => rfl
theorem rMeth2 {c a : Nat} {g : Mir} {fs : List (Nat × W)} {x : W} {h2 : HA} (e : h[a]? = some (.ins c fs)) (e2 : ms ta h = .ok [x] h2) : rMeth [⟨c, 2, g, []⟩] ms ta (.ref a) h = g [.ref a, x] h2 := by
  unfold rMeth
  rw [clsOf_ok e]
  simp only [altAt, if_true]
  rw [e2]
  rfl
def kFd (cs : List Nat) (f : Nat) (mo : Ex) (ta : En) (w : W) (h1 : HA) : SR := (mo ta h1).to ta fun o h2 => match clsOf h2 o with
  | some c => if c ∈ cs then (match setF f o w h2 with
    | some h3 => .nx ta h3
    | none => .stuck) else .stuck
  | none => .stuck
@[simp] theorem sFd_eq {cs : List Nat} {f : Nat} {mo mv : Ex} : sFd cs f mo mv ta h = (mv ta h).to ta (kFd cs f mo ta) := (rfl)
theorem kFd_ok {cs : List Nat} {f a c : Nat} {mo : Ex} {w : W} {fs : List (Nat × W)} (e0 : mo ta h = .ok (.ref a) h) (e : h[a]? = some (.ins c fs)) (hc : c ∈ cs) (l : fs.length < 1000) : kFd cs f mo ta w h = .nx ta (h.set a (.ins c (putA f w fs))) := by
  unfold kFd
  rw [e0, to_ok, clsOf_ok e]
  simp only [if_pos hc]
  simp [setF, e, l]
/-! ### equality of data -/
/-- plain data, the same in every heap -/
def Ent (w : W) : Prop := ∃ d : PyData, (∀ h, toD 8 h w = some d) ∧ d.canLay0 = true ∧ d.depth ≤ 8
theorem Ent.int (i : Int) : Ent (.int i) := ⟨.int i, fun _ => rfl, rfl, by simp [PyData.depth]⟩
theorem Ent.bl (b : Bool) : Ent (.bl b) := ⟨.bool b, fun _ => rfl, rfl, by simp [PyData.depth]⟩
theorem Ent.non : Ent .non := ⟨.none, fun _ => rfl, rfl, by decide⟩
theorem mapO_ent {h : HA} : ∀ {xs : List W}, (∀ w ∈ xs, Ent w) → ∃ ds : List PyData, (∀ h, mapO (toD 8 h) xs = some ds) ∧ PyData.canLayAll0 ds = true ∧ PyData.depthAll ds ≤ 8
  | [], _ => ⟨[], fun _ => rfl, rfl, by decide⟩
  | w :: xs, q => by
    obtain ⟨d, e1, e2, e3⟩ := q w List.mem_cons_self
    obtain ⟨ds, f1, f2, f3⟩ := mapO_ent (h := h) (xs := xs) fun w hw => q w (List.mem_cons_of_mem _ hw)
    refine ⟨d :: ds, fun h => ?_, ?_, ?_⟩
    · unfold mapO
      rw [e1 h, f1 h]
    · unfold PyData.canLayAll0
      rw [e2, f2]
      rfl
    · simp only [PyData.depthAll]
      omega
theorem shaped_list {ds : List PyData} (a : PyData.canLayAll0 ds = true) (b : PyData.depthAll ds ≤ 8) : SeqAt.shaped (.list ds) = true := by
  unfold SeqAt.shaped
  rw [show PyData.canLay0 (.list ds) = PyData.canLayAll0 ds from by simp only [PyData.canLay0], a, Bool.true_and]
  refine decide_eq_true ?_
  simp only [PyData.depth]
  omega
theorem shaped_tuple {ds : List PyData} (a : PyData.canLayAll0 ds = true) (b : PyData.depthAll ds ≤ 8) : SeqAt.shaped (.tuple ds) = true := by
  unfold SeqAt.shaped
  rw [show PyData.canLay0 (.tuple ds) = PyData.canLayAll0 ds from by simp only [PyData.canLay0], a, Bool.true_and]
  refine decide_eq_true ?_
  simp only [PyData.depth]
  omega
theorem toD_ref {n a : Nat} {xs : List W} (e : rdL h a = some xs) : toD (n + 1) h (.ref a) = (mapO (toD n h) xs).map .list := by
  simp only [toD, e]
theorem eqW_of {x y : W} {d d' : PyData} (n : scW x y = none) (e : toD 9 h x = some d) (e' : toD 9 h y = some d') (s : SeqAt.shaped d = true) (s' : SeqAt.shaped d' = true) : eqW x y h = some (PyData.eqv d d') := by
  unfold eqW
  rw [n]
  unfold dEq
  simp only [e, e', s, s', and_self, if_true]
theorem eqW_same {a b : Nat} {xs : List W} (e : rdL h a = some xs) (e' : rdL h b = some xs) (q : ∀ w ∈ xs, Ent w) : eqW (.ref a) (.ref b) h = some true := by
  obtain ⟨ds, f1, f2, f3⟩ := mapO_ent (h := h) q
  rw [eqW_of (d := .list ds) (d' := .list ds) rfl (by rw [toD_ref e, f1]; rfl) (by rw [toD_ref e', f1]; rfl) (shaped_list f2 f3) (shaped_list f2 f3)]
  simp only [PyData.eqv]
  rw [SeqAt.eqvAll_refl _ f2]
theorem Ent.tup {xs : List W} (h : HA) (q : ∀ w ∈ xs, ∃ i, w = .int i) : Ent (.tup xs) := by
  have key : ∀ xs : List W, (∀ w ∈ xs, ∃ i, w = W.int i) → ∃ ds : List PyData, (∀ h, mapO (toD 7 h) xs = some ds) ∧ PyData.canLayAll0 ds = true ∧ PyData.depthAll ds ≤ 1 := by
    intro xs
    induction xs with
    | nil => intro _; exact ⟨[], fun _ => rfl, rfl, by decide⟩
    | cons w xs ih =>
      intro q
      obtain ⟨i, rfl⟩ := q w List.mem_cons_self
      obtain ⟨ds, f1, f2, f3⟩ := ih fun w hw => q w (List.mem_cons_of_mem _ hw)
      refine ⟨.int i :: ds, fun h => ?_, ?_, ?_⟩
      · unfold mapO
        rw [f1 h]
        rfl
      · simp only [PyData.canLayAll0, PyData.canLay0, f2, Bool.and_self]
      · simp only [PyData.depthAll, PyData.depth]
        omega
  obtain ⟨ds, f1, f2, f3⟩ := key xs q
  refine ⟨.tuple ds, fun h => ?_, by simp only [PyData.canLay0, f2], by simp only [PyData.depth]; omega⟩
  simp only [toD, f1]
  rfl
/-- items that are whole numbers -/
theorem mapO_ints {n : Nat} : ∀ is : List Int, mapO (toD n h) (is.map W.int) = some (is.map PyData.int)
  | [] => rfl
  | i :: is => by
    have e : toD n h (.int i) = some (.int i) := by cases n <;> rfl
    simp only [List.map_cons, mapO, e, mapO_ints is]
theorem lay_ints : ∀ is : List Int, PyData.canLayAll0 (is.map PyData.int) = true ∧ PyData.depthAll (is.map PyData.int) ≤ 8
  | [] => ⟨rfl, by decide⟩
  | i :: is => by
    obtain ⟨a, b⟩ := lay_ints is
    refine ⟨by simp only [List.map_cons, PyData.canLayAll0, PyData.canLay0, a, Bool.and_self], ?_⟩
    simp only [List.map_cons, PyData.depthAll, PyData.depth]
    omega
theorem eqv_ints : ∀ is js : List Int, PyData.eqvAll (is.map PyData.int) (js.map PyData.int) = decide (is = js)
  | [], [] => by simp [PyData.eqvAll]
  | [], _ :: _ => by simp [PyData.eqvAll]
  | _ :: _, [] => by simp [PyData.eqvAll]
  | a :: r, b :: t => by
    simp only [List.map_cons, PyData.eqvAll, PyData.eqv, eqv_ints r t]
    by_cases h : a = b <;> by_cases h' : r = t <;> simp [h, h']
theorem eqW_tt {is js : List Int} : eqW (.tup (is.map W.int)) (.tup (js.map W.int)) h = some (decide (is = js)) := by
  rw [eqW_of (d := .tuple (is.map PyData.int)) (d' := .tuple (js.map PyData.int)) rfl (by simp only [toD, mapO_ints]; rfl) (by simp only [toD, mapO_ints]; rfl) (shaped_tuple (lay_ints is).1 (lay_ints is).2) (shaped_tuple (lay_ints js).1 (lay_ints js).2)]
  simp only [PyData.eqv, eqv_ints]
theorem eqW_ll {is js : List Int} {a b : Nat} (e : rdL h a = some (is.map W.int)) (e' : rdL h b = some (js.map W.int)) : eqW (.ref a) (.ref b) h = some (decide (is = js)) := by
  rw [eqW_of (d := .list (is.map PyData.int)) (d' := .list (js.map PyData.int)) rfl (by rw [toD_ref e, mapO_ints]; rfl) (by rw [toD_ref e', mapO_ints]; rfl) (shaped_list (lay_ints is).1 (lay_ints is).2) (shaped_list (lay_ints js).1 (lay_ints js).2)]
  simp only [PyData.eqv, eqv_ints]
theorem oEq_of {x y : W} {b : Bool} (e : eqW x y h = some b) : oEq x y h = some (.bl b, h) := by unfold oEq; rw [e]; rfl
theorem oNe_of {x y : W} {b : Bool} (e : eqW x y h = some b) : oNe x y h = some (.bl (!b), h) := by unfold oNe; rw [e]; rfl
end
end J
namespace JP
open PySem PySem.Spec PyProof.Rows L2 J
theorem nW_ints (bs : List Nat) : nW bs = (bs.map fun n : Nat => (n : Int)).map W.int := by simp [nW]
theorem nat_inj {bs cs : List Nat} : (bs.map fun n : Nat => (n : Int)) = (cs.map fun n : Nat => (n : Int)) ↔ bs = cs := by
  constructor
  · intro h
    have := congrArg (List.map Int.toNat) h
    simpa [List.map_map, Function.comp_def] using this
  · rintro rfl; rfl
theorem eqN_tt {h : HA} {bs cs : List Nat} : eqW (.tup (nW bs)) (.tup (nW cs)) h = some (decide (bs = cs)) := by
  rw [nW_ints, nW_ints, eqW_tt]
  simp only [nat_inj]
theorem eqN_ll {h : HA} {bs cs : List Nat} {a b : Nat} (e : rdL h a = some (nW bs)) (e' : rdL h b = some (nW cs)) : eqW (.ref a) (.ref b) h = some (decide (bs = cs)) := by
  rw [nW_ints] at e e'
  rw [eqW_ll e e']
  simp only [nat_inj]
end JP

namespace JP
open PySem PySem.Spec PyProof.Rows L2 J
/-! ### whole numbers -/
def isWh (x : W) (lo hi : Int) : Bool := match x with
  | .int i => decide (lo ≤ i) && decide (i ≤ hi)
  | _ => false
/-- a value of a built-in kind -/
def Known (h : HA) (x : W) : Prop := noX x = true ∧ ∃ g, tgC [] x h = some g
section
variable {h : HA} {X : XP} {Q : W → HA → Prop}
theorem Known.ref {a : Nat} (k : Known h (.ref a)) : (∃ xs, h[a]? = some (.lst xs)) ∨ ∃ xs, h[a]? = some (.dic xs) := by
  obtain ⟨_, g, e⟩ := k
  unfold tgC tgW at e
  cases q : h[a]? with
  | none => simp [q] at e
  | some o =>
    cases o with
    | lst xs => exact .inl ⟨xs, rfl⟩
    | dic xs => exact .inr ⟨xs, rfl⟩
    | ins c fs => simp [q] at e
theorem is_whole_ok {x : W} {lo hi : Int} (kx : Known h x) (k : Q (.bl (isWh x lo hi)) h) : RW (m_is_whole [x, .int lo, .int hi] h) Q X := by
  refine RW_run ?_
  cases x with
  | int i =>
    simp [b_is_whole]
    unfold isWh at k
    by_cases c : lo ≤ i
    · simpa [c] using k
    · simpa [c] using k
  | bl b => simpa [b_is_whole, isWh] using k
  | non => simpa [b_is_whole, isWh] using k
  | str z => simpa [b_is_whole, isWh] using k
  | tup z => simpa [b_is_whole, isWh] using k
  | cst z => simpa [b_is_whole, isWh] using k
  | ref a =>
    rcases kx.ref with ⟨xs, e⟩ | ⟨xs, e⟩
    · simpa [b_is_whole, rIsi_lst e, isWh] using k
    · simpa [b_is_whole, rIsi_dic e, isWh] using k
  | xcp c fs => cases kx.1
theorem is_label_ok {x : W} (kx : Known h x) (k : Q (.bl (isWh x 0 1000000000)) h) : RW (m_is_label [x] h) Q X := by
  refine RW_run ?_
  simp [b_is_label, gv_ok kx.1]
  exact is_whole_ok kx (by simpa using k)
theorem says_ok {a b : Bool} (k : Q (.bl (decide (a = b))) h) : RW (m__law_says [.bl a, .bl b] h) Q X := by
  refine RW_run ?_
  simpa [b__law_says] using k
/-! ### ties -/
open Classical in
/-- the word against these entries of backs -/
noncomputable def badL (xs : List W) : Option Str := if ¬ (2 ≤ xs.length ∧ xs.length ≤ 4) then some ("count" : Str) else if ¬ (∀ w ∈ xs, isWh w 0 ((xs.length : Int) - 1) = true) then some ("tie" : Str) else if ¬ (∃ bs, xs = nW bs ∧ Invol bs) then some ("back" : Str) else none
/-- .. against a thing -/
noncomputable def badW (h : HA) (x : W) : Option Str := match itW h x with
  | some xs => badL xs
  | none => some ("row" : Str)
theorem badL_none {xs : List W} (e : badL xs = none) : ∃ bs, xs = nW bs ∧ Invol bs ∧ 2 ≤ bs.length ∧ bs.length ≤ 4 := by
  unfold badL at e
  split at e
  · cases e
  rename_i c1
  split at e
  · cases e
  split at e
  · cases e
  rename_i c3
  obtain ⟨bs, rfl, I⟩ := Classical.not_not.mp c3
  have := Classical.not_not.mp c1
  rw [nW_len] at this
  exact ⟨bs, rfl, I, this⟩
theorem whole_nat {xs : List W} {n : Int} (q : ∀ w ∈ xs, isWh w 0 n = true) : ∃ bs : List Nat, xs = nW bs ∧ ∀ b ∈ bs, (b : Int) ≤ n := by
  induction xs with
  | nil => exact ⟨[], rfl, fun _ z => nomatch z⟩
  | cons w xs ih =>
    obtain ⟨bs, rfl, hb⟩ := ih fun w hw => q w (List.mem_cons_of_mem _ hw)
    have hw := q w List.mem_cons_self
    cases w <;> first | cases hw | skip
    rename_i i
    have h2 : (decide (0 ≤ i) && decide (i ≤ n)) = true := hw
    rw [Bool.and_eq_true, decide_eq_true_eq, decide_eq_true_eq] at h2
    refine ⟨i.toNat :: bs, ?_, ?_⟩
    · simp [nW]; omega
    · intro b hb2
      rcases List.mem_cons.mp hb2 with rfl | hb2
      · omega
      · exact hb b hb2
theorem badL_count {xs : List W} (c : ¬ (2 ≤ xs.length ∧ xs.length ≤ 4)) : badL xs = some ("count" : Str) := by unfold badL; rw [if_pos c]
theorem badL_tie {xs : List W} (c1 : 2 ≤ xs.length ∧ xs.length ≤ 4) {k : Nat} {w : W} (e : xs[k]? = some w) (n : isWh w 0 ((xs.length : Int) - 1) ≠ true) : badL xs = some ("tie" : Str) := by
  have h2 : ¬ (∀ w ∈ xs, isWh w 0 ((xs.length : Int) - 1) = true) := fun q => n (q w (List.mem_of_getElem? e))
  unfold badL
  rw [if_neg (fun z => z c1), if_pos h2]
theorem whole_all {bs : List Nat} (c2 : ∀ b ∈ bs, b < bs.length) : ∀ w ∈ nW bs, isWh w 0 (((nW bs).length : Int) - 1) = true := by
  intro w hw
  unfold nW at hw
  obtain ⟨b, hb, rfl⟩ := List.mem_map.mp hw
  have := c2 b hb
  simp [isWh]
  omega
theorem nW_inj {bs cs : List Nat} (e : nW bs = nW cs) : bs = cs := by
  have h2 := congrArg (List.map fun w : W => match w with | .int i => i.toNat | _ => 0) e
  simpa [nW, List.map_map, Function.comp_def] using h2
theorem badL_back {bs : List Nat} (c1 : 2 ≤ bs.length ∧ bs.length ≤ 4) (c2 : ∀ b ∈ bs, b < bs.length) {k b : Nat} (e : bs[k]? = some b) (n : bs[b]? ≠ some k) : badL (nW bs) = some ("back" : Str) := by
  have h3 : ¬ (∃ cs, nW bs = nW cs ∧ Invol cs) := by
    rintro ⟨cs, e2, I⟩
    have := nW_inj e2
    subst this
    obtain ⟨j, e3, e4⟩ := I k (List.getElem?_eq_some_iff.mp e).1
    rw [e] at e3
    cases e3
    exact n e4
  unfold badL
  rw [if_neg (fun z => z (by simpa using c1)), if_neg (fun z => z (whole_all c2)), if_pos h3]
theorem badL_ok {bs : List Nat} (c1 : 2 ≤ bs.length ∧ bs.length ≤ 4) (I : Invol bs) : badL (nW bs) = none := by
  have c2 : ∀ b ∈ bs, b < bs.length := by
    intro b hb
    obtain ⟨k, hk⟩ := List.mem_iff_getElem?.mp hb
    obtain ⟨j, e1, e2⟩ := I k (List.getElem?_eq_some_iff.mp hk).1
    rw [hk] at e1
    cases e1
    exact (List.getElem?_eq_some_iff.mp e2).1
  unfold badL
  rw [if_neg (fun z => z (by simpa using c1)), if_neg (fun z => z (whole_all c2)), if_neg (fun z => z ⟨bs, rfl, I⟩)]
/-- a tie's backs at t -/
def TiesAt (h : HA) (t : Nat) (bs : List Nat) : Prop := h[t]? = some (.ins 57 [(17, .tup (nW bs)), (18, .int bs.length)]) ∧ Invol bs ∧ 2 ≤ bs.length ∧ bs.length ≤ 4
theorem TiesAt.fr {h h' : HA} {t : Nat} {bs : List Nat} (T : TiesAt h t bs) (ht : 2 ≤ t) (f : Fr h h') : TiesAt h' t bs := ⟨f.get ht T.1, T.2⟩
theorem init_ok {s : Nat} {x : W} (hs : h[s]? = some (.ins 57 [])) (hs2 : itW h x = none ∨ x ≠ .ref s) (kx : Known h x) (kw : ∀ xs, itW h x = some xs → ∀ w ∈ xs, Known h w)
    (k : ∀ bs, itW h x = some (nW bs) → badW h x = none → Q .non (h.set s (.ins 57 [(17, .tup (nW bs)), (18, .int bs.length)])))
    (kx2 : ∀ wd, badW h x = some wd → X 1 [(0, .str wd)] h) : RW (m_Ties_zzinitzz [.ref s, x] h) Q X := by
  refine RW_run ?_
  have hLT : rIsi [] isLT x h = .ok (.bl (itW h x).isSome) h := by
    cases x with
    | ref a =>
      rcases kx.ref with ⟨xs, e⟩ | ⟨xs, e⟩
      · rw [rIsi_lst e]; simp [rdL, e]
      · rw [rIsi_dic e]; simp [rdL, e]
    | xcp c fs => cases kx.1
    | _ => simp [itW]
  cases hx : itW h x with
  | none =>
    have kk := kx2 "row" (by unfold badW; rw [hx])
    simp [b_Ties_zzinitzz, gv_ok kx.1, hLT, hx]
    exact kk
  | some xs =>
    have hb : badW h x = badL xs := by unfold badW; rw [hx]
    have hlen : fLen [x] h = some (.int xs.length, h) := fLen_of hx
    by_cases c1 : 2 ≤ xs.length ∧ xs.length ≤ 4
    · have c1a : (2 : Int) ≤ (xs.length : Int) := by omega
      have c1b : (xs.length : Int) ≤ 4 := by omega
      simp [b_Ties_zzinitzz, gv_ok kx.1, hLT, hx, hlen, c1a, c1b, c1.1, c1.2]
      refine SW_for xs (fun k ta h' => h' = h ∧ (∃ y z, ta = [some (.ref s), some x, y, z]) ∧ ∀ j < k, ∀ w, xs[j]? = some w → isWh w 0 ((xs.length : Int) - 1) = true) (w0 := x) (h0 := h) (by simp [gv_ok kx.1]) hx (fun k ta h' z => by rw [z.1]; exact hx) ?_ ?_ ⟨rfl, ⟨none, none, rfl⟩, fun j z => absurd z (Nat.not_lt_zero _)⟩
      · rintro ta h' ⟨rfl, ⟨y, z, rfl⟩, hall⟩
        obtain ⟨bs, rfl, hbs⟩ := whole_nat (xs := xs) (n := (xs.length : Int) - 1) fun w hw => by
          obtain ⟨j, hj⟩ := List.mem_iff_getElem?.mp hw
          exact hall j (List.getElem?_eq_some_iff.mp hj).1 w hj
        rw [nW_len] at hbs hlen c1
        simp
        refine SW_forR1 (j := (bs.length : Int)) (h1 := h') (by omega) (by omega) (by simp [gv_ok kx.1, hlen]) ?_
        refine SW_forN bs.length (fun k ta h2 => h2 = h' ∧ (∃ y z, ta = [some (.ref s), some x, y, z]) ∧ ∀ j < k, ∃ b, bs[j]? = some b ∧ bs[b]? = some j) ?_ ?_ ⟨rfl, ⟨_, _, rfl⟩, fun j z => absurd z (Nat.not_lt_zero _)⟩
        · rintro ta h2 ⟨rfl, ⟨y, z, rfl⟩, hall2⟩
          have I : Invol bs := fun k hk => hall2 k hk
          have hT : fTuple [x] h2 = some (.tup (nW bs), h2) := fTuple_of hx
          have hs' : (h2.set s (.ins 57 [(17, .tup (nW bs))]))[s]? = some (.ins 57 [(17, .tup (nW bs))]) := by rw [List.getElem?_set_self (List.getElem?_eq_some_iff.mp hs).1]
          have hlen2 : fLen [x] (h2.set s (.ins 57 [(17, .tup (nW bs))])) = some (.int bs.length, h2.set s (.ins 57 [(17, .tup (nW bs))])) := by
            have : itW (h2.set s (.ins 57 [(17, .tup (nW bs))])) x = some (nW bs) := by
              rw [← hx]
              cases x with
              | ref a =>
                have hne : a ≠ s := fun q => by
                  subst q
                  rcases hs2 with q | q
                  · rw [hx] at q; cases q
                  · exact q rfl
                simp only [itW_ref, rdL]
                rw [List.getElem?_set_ne (fun q => hne q.symm)]
              | _ => rfl
            rw [fLen_of this, nW_len]
          have w1 := kFd_ok (h := h2) (cs := [57]) (f := 17) (mo := eVar 0) (ta := [some (.ref s), some x, y, z]) (w := .tup (nW bs)) rfl hs (by simp) (by decide)
          have w2 := kFd_ok (h := h2.set s (.ins 57 [(17, .tup (nW bs))])) (cs := [57]) (f := 18) (mo := eVar 0) (ta := [some (.ref s), some x, y, z]) (w := .int bs.length) rfl hs' (by simp) (by simp)
          simp [putA] at w1 w2
          simp [gv_ok kx.1, hT, w1, hlen2, w2]
          exact k bs hx (by rw [hb]; exact badL_ok c1 I)
        · rintro kk ta h2 hk ⟨rfl, ⟨y, z, rfl⟩, hall2⟩
          refine ⟨_, _, rfl, ?_⟩
          have e1 : oIx x (.int (kk : Nat)) h2 = some (.int (bs[kk] : Nat), h2) := oIx_of hx (by omega) (by simp [List.getElem?_eq_getElem hk])
          have hbk : bs[kk] < bs.length := by have := hbs bs[kk] (List.getElem_mem hk); omega
          have e2 : oIx x (.int (bs[kk] : Nat)) h2 = some (.int (bs[bs[kk]] : Nat), h2) := oIx_of hx (by omega) (by simp [List.getElem?_eq_getElem hbk])
          by_cases cb : bs[bs[kk]] = kk
          · simp [gv_ok kx.1, e1, e2, cb]
            intro j hj
            rcases Nat.lt_succ_iff_lt_or_eq.mp hj with hj | rfl
            · exact hall2 j hj
            · exact ⟨bs[j], List.getElem?_eq_getElem hk, by rw [List.getElem?_eq_getElem hbk, cb]⟩
          · have kk' := kx2 "back" (by rw [hb]; exact badL_back c1 (fun b hb => by have := hbs b hb; omega) (k := kk) (b := bs[kk]) (List.getElem?_eq_getElem hk) (by rw [List.getElem?_eq_getElem hbk]; simpa using cb))
            have cb' : ¬ ((bs[bs[kk]] : Nat) : Int) = (kk : Int) := by omega
            simp [gv_ok kx.1, e1, e2, cb, cb']
            exact kk'
      · rintro kk w ta h' hk ⟨rfl, ⟨y, z, rfl⟩, hall⟩
        refine ⟨_, _, rfl, ?_⟩
        have kwk : Known h' w := kw xs hx w (List.mem_of_getElem? hk)
        simp [gv_ok kx.1, gv_ok kwk.1, hlen]
        refine is_whole_ok kwk ?_
        by_cases cw : isWh w 0 ((xs.length : Int) - 1) = true
        · simp [cw]
          intro j hj w' hw'
          rcases Nat.lt_succ_iff_lt_or_eq.mp hj with hj | rfl
          · exact hall j hj w' hw'
          · rw [hk] at hw'
            cases hw'
            exact cw
        · have kk' := kx2 "tie" (by rw [hb]; exact badL_tie c1 hk cw)
          simp [cw]
          exact kk'
    · have kk := kx2 "count" (by rw [hb]; exact badL_count c1)
      by_cases c2 : 2 ≤ xs.length
      · have c2a : (2 : Int) ≤ (xs.length : Int) := by omega
        have c3 : ¬ (xs.length : Int) ≤ 4 := by omega
        have c4 : ¬ xs.length ≤ 4 := by omega
        simp [b_Ties_zzinitzz, gv_ok kx.1, hLT, hx, hlen, c2a, c2, c3, c4]
        exact kk
      · have c2a : ¬ (2 : Int) ≤ (xs.length : Int) := by omega
        simp [b_Ties_zzinitzz, gv_ok kx.1, hLT, hx, hlen, c2a, c2]
        exact kk
theorem back_ok {t : Nat} {bs : List Nat} {x : W} (T : TiesAt h t bs) (kx : Known h x) (k1 : ∀ i b : Nat, x = .int i → bs[i]? = some b → bs[b]? = some i → Q (.int b) h) (k2 : isWh x 0 ((bs.length : Int) - 1) = false → X 2 [(1, x)] h) : RW (m_Ties_back [.ref t, x] h) Q X := by
  refine RW_run ?_
  obtain ⟨T1, I, l2, l4⟩ := T
  have f1 : oFld [57] 18 (.ref t) h = some (.int bs.length, h) := oFld_ok T1 (by simp) rfl
  have f2 : oFld [57] 17 (.ref t) h = some (.tup (nW bs), h) := oFld_ok T1 (by simp) rfl
  simp [b_Ties_back, gv_ok kx.1, f1]
  refine is_whole_ok kx ?_
  by_cases c : isWh x 0 ((bs.length : Int) - 1) = true
  · cases x <;> first | cases c | skip
    rename_i j
    have h2 : (decide (0 ≤ j) && decide (j ≤ (bs.length : Int) - 1)) = true := c
    rw [Bool.and_eq_true, decide_eq_true_eq, decide_eq_true_eq] at h2
    obtain ⟨i, rfl⟩ : ∃ i : Nat, j = i := ⟨j.toNat, by omega⟩
    have hi : i < bs.length := by omega
    obtain ⟨b, e1, e2⟩ := I i hi
    have e3 : oIx (.tup (nW bs)) (.int (i : Nat)) h = some (.int (b : Nat), h) := oIx_of rfl (by omega) (by simp [e1])
    simp [c, f2, e3]
    exact k1 i b rfl e1 e2
  · have c' : isWh x 0 ((bs.length : Int) - 1) = false := by simpa using c
    simp [c', gv_ok kx.1]
    exact k2 c'
theorem one_way_ok {t : Nat} {bs : List Nat} {x : W} (T : TiesAt h t bs) (kx : Known h x) (k1 : ∀ i b : Nat, x = .int i → bs[i]? = some b → Q (.bl (!decide (b = i))) h) (k2 : isWh x 0 ((bs.length : Int) - 1) = false → X 2 [(1, x)] h) : RW (m_Ties_one_way [.ref t, x] h) Q X := by
  refine RW_run ?_
  have e : rMeth [⟨57, 2, m_Ties_back, []⟩] (aCons (eVar 1) aNil) [some (.ref t), some x] (.ref t) h = m_Ties_back [.ref t, x] h := rMeth2 T.1 (by simp [gv_ok kx.1])
  simp [b_Ties_one_way, e]
  refine back_ok T kx ?_ k2
  intro i b hx e1 e2
  subst hx
  simp
  have := k1 i b rfl e1
  have q : decide ((b : Int) = (i : Int)) = decide (b = i) := by simp [Int.ofNat_inj]
  simpa [q] using this
theorem ties_eq_ok {t s : Nat} {bs cs : List Nat} (T : TiesAt h t bs) (S : TiesAt h s cs) (k : Q (.bl (decide (bs = cs))) h) : RW (m_Ties_zzeqzz [.ref t, .ref s] h) Q X := by
  refine RW_run ?_
  have f1 : oFld [57] 17 (.ref t) h = some (.tup (nW bs), h) := oFld_ok T.1 (by simp) rfl
  have f2 : oFld [57] 17 (.ref s) h = some (.tup (nW cs), h) := oFld_ok S.1 (by simp) rfl
  have f3 : rIsi [57] (isOwn [57] [57]) (.ref s) h = .ok (.bl true) h := by rw [rIsi_ins S.1 (by simp)]; simp
  have f4 := oEq_of (h := h) (eqN_tt (bs := bs) (cs := cs))
  simpa [b_Ties_zzeqzz, f1, f2, f3, f4] using k
theorem ties_eq_no {t : Nat} {xs : List W} (k : Q (.bl false) h) : RW (m_Ties_zzeqzz [.ref t, .tup xs] h) Q X := by
  refine RW_run ?_
  simpa [b_Ties_zzeqzz] using k
end
end JP

namespace J
open PySem PySem.Spec PyProof.Rows L2
section
variable {h : HA} {ta : En} {m m1 m2 : Ex} {ms : Ax} {X : XP} {Q : W → HA → Prop}
@[simp] theorem eEqC_eq {cs : List Nat} {c0 : Nat} {g : Mir} : eEqC cs c0 g m1 m2 ta h = (m1 ta h).bind fun x h1 => (m2 ta h1).bind fun y h2 => eqC cs c0 g false x y h2 := (rfl)
/-- the end of a first statement: the second follows -/
def pSeq (s2 : Sx) (p : Pt) : Pt := { p with n := fun ta h => SW (s2 ta h) p }
theorem SW_sSeq {s1 s2 : Sx} {p : Pt} : SW (sSeq s1 s2 ta h) p = SW (s1 ta h) (pSeq s2 p) := by
  rw [sSeq_eq, SW_then]
  rfl
theorem SW_next {s2 : Sx} {p : Pt} (q : SW (s2 ta h) p) : (pSeq s2 p).n ta h := q
@[simp] theorem pSeq_r {s2 : Sx} {p : Pt} : (pSeq s2 p).r = p.r := (rfl)
@[simp] theorem pSeq_b {s2 : Sx} {p : Pt} : (pSeq s2 p).b = p.b := (rfl)
@[simp] theorem pSeq_c {s2 : Sx} {p : Pt} : (pSeq s2 p).c = p.c := (rfl)
@[simp] theorem pSeq_x {s2 : Sx} {p : Pt} : (pSeq s2 p).x = p.x := (rfl)
theorem eqC_ins {cs : List Nat} {c0 a : Nat} {g : Mir} {fs : List (Nat × W)} {y : W} {tg : Tg} (e : h[a]? = some (.ins c0 fs)) (t : tgC cs y h = some tg) : eqC cs c0 g false (.ref a) y h = g [.ref a, y] h := by
  unfold eqC
  rw [clsOf_ok e]
  simp [t]
theorem tgC_ins {cs : List Nat} {a c : Nat} {fs : List (Nat × W)} (e : h[a]? = some (.ins c fs)) (hc : c ∈ cs) : tgC cs (.ref a) h = some (.ins c) := by
  unfold tgC tgW
  simp [e, hc]
@[simp] theorem eDic2_eq {i j k l : Int} : eDic2 i j k l ta h = .ok (.ref h.length) (h ++ [O.dic [(.inl i, .int j), (.inl k, .int l)]]) := (rfl)
def rLcR (rng : List W → Option (List W)) (g : Tgt) (t : Tx) (el : Ex) (vs : List Nat) (ta : En) (ws : List W) (h1 : HA) : Res W := match rng ws with
  | some xs => lcE (lcT g t el (wipeA ta vs) xs [] h1)
  | none => .stuck
@[simp] theorem eLcR_eq {rng : List W → Option (List W)} {g : Tgt} {t : Tx} {el : Ex} {vs : List Nat} : eLcR rng ms g t el vs ta h = (ms ta h).bind (rLcR rng g t el vs ta) := (rfl)
theorem rLcR_of {rng : List W → Option (List W)} {g : Tgt} {t : Tx} {el : Ex} {vs : List Nat} {ws xs acc : List W} {h' : HA} (e : rng ws = some xs) (e2 : lcT g t el (wipeA ta vs) xs [] h = some (acc, h')) : rLcR rng g t el vs ta ws h = .ok (.ref h'.length) (h' ++ [O.lst acc]) := by
  unfold rLcR
  rw [e]
  simp only [e2, lcE_some]
/-- [el for x in range(n)] -/
theorem RW_lcR {n : Nat} {g : Tgt} {t : Tx} {el : Ex} {vs : List Nat} (hn : n ≤ 10000) (I : Nat → List W → HA → Prop) (hend : ∀ acc h', I n acc h' → Q (.ref h'.length) (h' ++ [O.lst acc]))
    (step : ∀ (k : Nat) acc h', k < n → I k acc h' → ∃ ta1 h1, g (.int k) (wipeA ta vs) h' = some (ta1, h1) ∧ t ta1 h1 = .ok true h1 ∧ RW (el ta1 h1) (fun y h3 => I (k + 1) (acc ++ [y]) h3) nox) (q : I 0 [] h) : RW (rLcR rng1 g t el vs ta [.int n] h) Q X := by
  have e1 := JP.rng1_nat hn
  obtain ⟨acc, h', e, r⟩ := lcT_ok (ta := wipeA ta vs) (g := g) (t := t) (el := el) (h := h) (R := fun acc h' => I n acc h') I (numW 0 n) (by rw [numW_len]; exact hn) (fun acc h' z => by rw [numW_len] at z; exact z) (fun k w acc h' hk z => by
    obtain ⟨rfl, hk2⟩ := numW_get hk
    simpa using step k acc h' hk2 z) q
  rw [rLcR_of e1 e, RW_ok]
  exact hend acc h' r
end
end J
namespace JP
open PySem PySem.Spec PyProof.Rows L2 J
theorem fLen_lst {h : HA} {a : Nat} {xs : List W} (e : h[a]? = some (.lst xs)) : fLen [.ref a] h = some (.int xs.length, h) := fLen_of (w := .ref a) (rdL_of_get e)
theorem fList_lst {h : HA} {a : Nat} {xs : List W} (e : h[a]? = some (.lst xs)) : fList [.ref a] h = some (.ref h.length, h ++ [.lst xs]) := fList_of (w := .ref a) (rdL_of_get e)
theorem fLen_nat {h : HA} {a : Nat} {bs : List Nat} (e : h[a]? = some (.lst (nW bs))) : fLen [.ref a] h = some (.int bs.length, h) := by rw [fLen_lst e, nW_len]
/-- an entry: plain data of a built-in kind -/
def Flat (w : W) : Prop := Ent w ∧ ∀ h, Known h w
theorem Flat.int (i : Int) : Flat (.int i) := ⟨.int i, fun _ => ⟨rfl, _, rfl⟩⟩
theorem Flat.bl (i : Bool) : Flat (.bl i) := ⟨.bl i, fun _ => ⟨rfl, _, rfl⟩⟩
theorem Flat.non : Flat .non := ⟨.non, fun _ => ⟨rfl, _, rfl⟩⟩
theorem Flat.str (z : Str) (hz : PyData.canLay0 (.str z) = true) : Flat (.str z) := ⟨⟨.str z, fun _ => rfl, hz, by simp [PyData.depth]⟩, fun _ => ⟨rfl, _, rfl⟩⟩
theorem Flat.tup (i : Int) : Flat (.tup [.int i]) := ⟨Ent.tup [] (by simp), fun _ => ⟨rfl, _, rfl⟩⟩
/-- a thing: of a built-in kind, of entries -/
def Thing (h : HA) (lo : Nat) (x : W) : Prop := Known h x ∧ (∀ a, x = .ref a → lo ≤ a ∧ a < h.length) ∧ (∀ xs, itW h x = some xs → xs.length ≤ 100 ∧ ∀ w ∈ xs, Flat w) ∧ ∀ xs, x ≠ .cst xs
theorem Thing.flat {h : HA} {lo : Nat} {w : W} (f : Known h w) (n : ∀ a, w ≠ .ref a) (n2 : ∀ xs, w ≠ .tup xs) (n3 : ∀ xs, w ≠ .cst xs) : Thing h lo w := ⟨f, fun a z => absurd z (n a), (fun xs e => by
  cases w with
  | ref a => exact absurd rfl (n a)
  | tup a => exact absurd rfl (n2 a)
  | cst a => exact absurd rfl (n3 a)
  | _ => cases e), n3⟩
theorem known_lst {h : HA} {a : Nat} {xs : List W} (e : h[a]? = some (.lst xs)) : Known h (.ref a) := ⟨rfl, .lst, by unfold tgC tgW; simp [e]⟩
theorem known_dic {h : HA} {a : Nat} {xs : List (Key × W)} (e : h[a]? = some (.dic xs)) : Known h (.ref a) := ⟨rfl, .dic, by unfold tgC tgW; simp [e]⟩
theorem Thing.lst {h : HA} {lo a : Nat} {xs : List W} (e : h[a]? = some (.lst xs)) (ha : lo ≤ a) (l : xs.length ≤ 100) (f : ∀ w ∈ xs, Flat w) : Thing h lo (.ref a) := ⟨known_lst e, fun b z => by cases z; exact ⟨ha, (List.getElem?_eq_some_iff.mp e).1⟩, (fun ys q => by
  have : rdL h a = some xs := rdL_of_get e
  rw [itW_ref, this] at q
  cases q
  exact ⟨l, f⟩), fun _ z => by cases z⟩
theorem Thing.dic {h : HA} {lo a : Nat} {xs : List (Key × W)} (e : h[a]? = some (.dic xs)) (ha : lo ≤ a) : Thing h lo (.ref a) := ⟨known_dic e, fun b z => by cases z; exact ⟨ha, (List.getElem?_eq_some_iff.mp e).1⟩, (fun ys q => by
  rw [itW_ref, rdL, e] at q
  cases q), fun _ z => by cases z⟩
theorem Thing.tup {h : HA} {lo : Nat} {xs : List W} (l : xs.length ≤ 100) (f : ∀ w ∈ xs, Flat w) : Thing h lo (.tup xs) := ⟨⟨rfl, _, rfl⟩, fun _ z => (by cases z), (fun ys q => by
  cases q
  exact ⟨l, f⟩), fun _ z => by cases z⟩
theorem nW_flat (bs : List Nat) : ∀ w ∈ nW bs, Flat w := fun w hw => by
  obtain ⟨b, _, rfl⟩ := List.mem_map.mp hw
  exact Flat.int _
theorem backs_ok2 {h : HA} {X : XP} {Q : W → HA → Prop} (H : Hand h) {M : Int} (m : Nat) (e : M = m) (hm : m ≤ 1000) (k : ∀ (h' : HA) (bs : List Nat), Hand h' → Fr h h' → h'.length = h.length + 2 → h'[h.length]? = some (.lst (nW bs)) → bs.length = m → Invol bs → Q (.ref h.length) h') : RW (m__law_backs [.ref 1, .int M] h) Q X := by
  subst e
  exact backs_ok H hm k
end JP

namespace K01
open PySem PySem.Spec PyProof.Rows L2 J JP
def top (i : Nat) : Stmt := PySem.Challenge.pw_joinedguests_k01_ties_made_and_refused.main.body.getD i (.Pass ⟨0, 0, 0, 0⟩)
def clB : Stmt → List Stmt
  | .ClassDef _ _ _ b _ _ _ _ _ _ _ => b
  | _ => []
def mth (i j : Nat) : Stmt := (clB (top i)).getD j (.Pass ⟨0, 0, 0, 0⟩)
def nms : List Str := (["what", "tie", "index", "label", "count", "row", "three", "clash", "labels", "number", "lot", "name", "depth", "k", "rows", "which", "kind", "backs", "many", "ties"] : List Str) ++ ((["guests", "barred", "least_barred", "grid", "known", "company", "one", "other", "witnesses", "times", "same", "made_one", "x", "y", "book", "askings", "hall", "free", "binders", "size"] : List Str) ++ ((["width", "is_plain", "inner", "body", "asked", "lawful", "asker", "lots", "outer", "inners", "onto", "seen_ties", "verdict", "tokens", "place", "waiting", "steps", "facts", "log", "sketch"] : List Str) ++ ((["names", "told", "couples", "bench", "standing", "given", "start"] : List Str))))
def cas : List Str := (["GuestError", "BadTies", "NoTie", "", "", "", "", "", "", "", "", "", "", "", "", "", "", "", "", ""] : List Str) ++ ((["", "", "", "", "", "", "", "", "", "", "", "", "", "", "", "", "", "", "", ""] : List Str) ++ ((["", "", "", "", "", "", "", "", "", "", "", "", "", "", "", "", "", "Ties", "", ""] : List Str) ++ ((["", "", "", "", "", "", "", "", "", "", "", "", "", "", "", "", "", "", "", ""] : List Str) ++ ((["", "", "", "", "", "", "", "", "", "", "", "", "", "", "", "", ""] : List Str)))))
def st (K : PySem.W.Frag) : Sta := ⟨K, nms, fun c => He.ga K (cas.getD c "")⟩
theorem st_nd {K : PySem.W.Frag} : (st K).nm.Nodup := (by decide +kernel : nms.Nodup)
theorem st_no {K : PySem.W.Frag} (m : Str) (h : m ∉ nms) : ∀ (i : Nat) (y : Str), (st K).nm[i]? = some y → y ≠ m := fun i y e z => h (z ▸ List.mem_of_getElem? e)
theorem b_int : bootBuiltins "int" = some (.type "int") := by decide +kernel
theorem b_abs : bootBuiltins "abs" = some (.builtin "abs") := by decide +kernel
theorem b_len : bootBuiltins "len" = some (.builtin "len") := by decide +kernel
theorem b_tuple : bootBuiltins "tuple" = some (.type "tuple") := by decide +kernel
theorem b_list : bootBuiltins "list" = some (.type "list") := by decide +kernel
theorem b_bool : bootBuiltins "bool" = some (.type "bool") := by decide +kernel
abbrev s__law_hand : Stmt := top 13
abbrev s__law_mix : Stmt := top 12
abbrev s__law_draw : Stmt := top 14
abbrev s__law_backs : Stmt := top 15
abbrev s__law_thing : Stmt := top 17
abbrev s__law_due : Stmt := top 16
abbrev s_BadTies_zzinitzz : Stmt := mth 2 0
abbrev s_is_whole : Stmt := top 7
abbrev s_Ties_zzinitzz : Stmt := mth 9 0
abbrev s__law_made : Stmt := top 18
abbrev s_Ties_zzeqzz : Stmt := mth 9 3
abbrev s__law_says : Stmt := top 11
abbrev s_is_label : Stmt := top 8
abbrev s__law_whole : Stmt := top 21
abbrev s_NoTie_zzinitzz : Stmt := mth 3 0
abbrev s_Ties_back : Stmt := mth 9 1
abbrev s_Ties_one_way : Stmt := mth 9 2
abbrev s__law_no_tie : Stmt := top 19
abbrev s__law_right : Stmt := top 20
abbrev s_law : Stmt := top 22
def exs : Exs := [fun K => oexB K (He.ga K "BadTies"),
  fun K => He.eqO (PySem.W.findIn K (.ref (He.ga K "BadTies")) "what") (some none),
  fun K => He.eqO (PySem.W.findIn K (.ref (He.ga K "BadTies")) "__init__") (some (some (.ref (He.ma K (He.ga K "BadTies") "__init__")))),
  fun K => decide (PySem.W.typeIn K (.ref (He.ma K (He.ga K "BadTies") "__init__")) = some (.type "function")),
  fun K => xfB K (He.ga K "BadTies"),
  fun K => mtB K (st K) [(1, true)] (He.ga K "BadTies"),
  fun K => ownB K (st K) [57] [57] (He.ga K "Ties"),
  fun K => ckB K (He.ga K "Ties"),
  fun K => rightB K (st K) [57] (He.ga K "Ties"),
  fun K => He.eqO (PySem.W.findIn K (.ref (He.ga K "Ties")) "__eq__") (some (some (.ref (He.ma K (He.ga K "Ties") "__eq__")))),
  fun K => PySem.W.isFn K (.ref (He.ma K (He.ga K "Ties") "__eq__")),
  fun K => oexB K (He.ga K "NoTie"),
  fun K => He.eqO (PySem.W.findIn K (.ref (He.ga K "NoTie")) "tie") (some none),
  fun K => He.eqO (PySem.W.findIn K (.ref (He.ga K "NoTie")) "__init__") (some (some (.ref (He.ma K (He.ga K "NoTie") "__init__")))),
  fun K => decide (PySem.W.typeIn K (.ref (He.ma K (He.ga K "NoTie") "__init__")) = some (.type "function")),
  fun K => xfB K (He.ga K "NoTie"),
  fun K => mtB K (st K) [(2, true)] (He.ga K "NoTie")]
structure Facts (K : PySem.W.Frag) (mg : Str → Option Value) : Prop where
  ex : exAll exs K = true
  d__law_hand : ∃ fd, FnP K "_law_hand" "_law_hand" s__law_hand (He.ga K "_law_hand") fd
  f_int : mg "int" = none
  f_enumerate : mg "enumerate" = none
  f_abs : mg "abs" = none
  g__law_hand : mg "_law_hand" = some (.ref (He.ga K "_law_hand"))
  d__law_mix : ∃ fd, FnP K "_law_mix" "_law_mix" s__law_mix (He.ga K "_law_mix") fd
  g__law_mix : mg "_law_mix" = some (.ref (He.ga K "_law_mix"))
  d__law_draw : ∃ fd, FnP K "_law_draw" "_law_draw" s__law_draw (He.ga K "_law_draw") fd
  f_len : mg "len" = none
  g__law_draw : mg "_law_draw" = some (.ref (He.ga K "_law_draw"))
  d__law_backs : ∃ fd, FnP K "_law_backs" "_law_backs" s__law_backs (He.ga K "_law_backs") fd
  f_list : mg "list" = none
  f_range : mg "range" = none
  g__law_backs : mg "_law_backs" = some (.ref (He.ga K "_law_backs"))
  d__law_thing : ∃ fd, FnP K "_law_thing" "_law_thing" s__law_thing (He.ga K "_law_thing") fd
  f_tuple : mg "tuple" = none
  g__law_thing : mg "_law_thing" = some (.ref (He.ga K "_law_thing"))
  d__law_due : ∃ fd, FnP K "_law_due" "_law_due" s__law_due (He.ga K "_law_due") fd
  f_isinstance : mg "isinstance" = none
  f_bool : mg "bool" = none
  g__law_due : mg "_law_due" = some (.ref (He.ga K "_law_due"))
  d_BadTies_zzinitzz : ∃ fd, FnP K "__init__" "BadTies.__init__" s_BadTies_zzinitzz (He.ma K (He.ga K "BadTies") "__init__") fd
  g_BadTies : mg "BadTies" = some (.ref (He.ga K "BadTies"))
  d_is_whole : ∃ fd, FnP K "is_whole" "is_whole" s_is_whole (He.ga K "is_whole") fd
  g_is_whole : mg "is_whole" = some (.ref (He.ga K "is_whole"))
  d_Ties_zzinitzz : ∃ fd, FnP K "__init__" "Ties.__init__" s_Ties_zzinitzz (He.ma K (He.ga K "Ties") "__init__") fd
  i_MOST_TIES : ∃ t, mg "MOST_TIES" = some (.int 4 t)
  cls_Ties : Cls K (He.ga K "Ties")
  no_Ties_backs : NoAttr K (He.ga K "Ties") "backs"
  no_Ties_many : NoAttr K (He.ga K "Ties") "many"
  g_Ties : mg "Ties" = some (.ref (He.ga K "Ties"))
  mk_Ties : Mk K (He.ga K "Ties") (He.ma K (He.ga K "Ties") "__init__")
  d__law_made : ∃ fd, FnP K "_law_made" "_law_made" s__law_made (He.ga K "_law_made") fd
  g__law_made : mg "_law_made" = some (.ref (He.ga K "_law_made"))
  d_Ties_zzeqzz : ∃ fd, FnP K "__eq__" "Ties.__eq__" s_Ties_zzeqzz (He.ma K (He.ga K "Ties") "__eq__") fd
  d__law_says : ∃ fd, FnP K "_law_says" "_law_says" s__law_says (He.ga K "_law_says") fd
  g__law_says : mg "_law_says" = some (.ref (He.ga K "_law_says"))
  d_is_label : ∃ fd, FnP K "is_label" "is_label" s_is_label (He.ga K "is_label") fd
  i_MOST_LABEL : ∃ t, mg "MOST_LABEL" = some (.int 1000000000 t)
  g_is_label : mg "is_label" = some (.ref (He.ga K "is_label"))
  d__law_whole : ∃ fd, FnP K "_law_whole" "_law_whole" s__law_whole (He.ga K "_law_whole") fd
  g__law_whole : mg "_law_whole" = some (.ref (He.ga K "_law_whole"))
  d_NoTie_zzinitzz : ∃ fd, FnP K "__init__" "NoTie.__init__" s_NoTie_zzinitzz (He.ma K (He.ga K "NoTie") "__init__") fd
  g_NoTie : mg "NoTie" = some (.ref (He.ga K "NoTie"))
  d_Ties_back : ∃ fd, FnP K "back" "Ties.back" s_Ties_back (He.ma K (He.ga K "Ties") "back") fd
  me_Ties_back : Meth K (He.ga K "Ties") "back" (He.ma K (He.ga K "Ties") "back")
  d_Ties_one_way : ∃ fd, FnP K "one_way" "Ties.one_way" s_Ties_one_way (He.ma K (He.ga K "Ties") "one_way") fd
  me_Ties_one_way : Meth K (He.ga K "Ties") "one_way" (He.ma K (He.ga K "Ties") "one_way")
  d__law_no_tie : ∃ fd, FnP K "_law_no_tie" "_law_no_tie" s__law_no_tie (He.ga K "_law_no_tie") fd
  g__law_no_tie : mg "_law_no_tie" = some (.ref (He.ga K "_law_no_tie"))
  d__law_right : ∃ fd, FnP K "_law_right" "_law_right" s__law_right (He.ga K "_law_right") fd
  g__law_right : mg "_law_right" = some (.ref (He.ga K "_law_right"))
  d_law : ∃ fd, FnP K "law" "law" s_law (He.ga K "law") fd
section
variable {P : Program} {w : World} {K : PySem.W.Frag} {mg : Str → Option Value} {base : Heap}
/-! ### _law_hand -/
theorem sc__law_hand : FnScope ["_law_script", "_law_total", "_law_k", "_law_cell"] ["_law_script"] (defScope s__law_hand) := ⟨rfl, rfl, rfl, by decide +kernel, rfl, by decide +kernel, by decide +kernel⟩
theorem fn__law_hand (c : Facts K mg) : FnM P w K mg base (st K) 1 (He.ga K "_law_hand") 1 m__law_hand [] := by
  obtain ⟨fd, F⟩ := c.d__law_hand
  refine fnm_of (N := ["_law_script", "_law_total", "_law_k", "_law_cell"]) (ps := ["_law_script"]) (b := b__law_hand) F sc__law_hand rfl (F.bindsN fun _ _ _ _ _ _ us hl => match us, hl with | [_], _ => rfl) fun cdv A outer s H E hr => ?_
  exact (db_cons (ds_set (i := 1) sc__law_hand.nd rfl (by first | exact .inl rfl | exact .inr rfl) de_int) (db_cons (ds_forE rfl passes_body rfl rfl c.f_enumerate (da_cons (de_var (i := 0) rfl (by first | exact .inl rfl | exact .inr (.inl rfl) | exact .inr (.inr rfl))) da_nil) (dg_tup rfl rfl (dgs_cons (dg_name (i := 2) sc__law_hand.nd rfl (by first | exact .inl rfl | exact .inr rfl)) (dgs_cons (dg_name (i := 3) sc__law_hand.nd rfl (by first | exact .inl rfl | exact .inr rfl)) dgs_nil))) (db_one (ds_set (i := 1) sc__law_hand.nd rfl (by first | exact .inl rfl | exact .inr rfl) (de_op ok_mod (de_callTy ok_int rfl c.f_int b_int (da_cons (de_op (ok_add rfl) (de_op ok_mul (de_var (i := 1) rfl (by first | exact .inl rfl | exact .inr (.inl rfl) | exact .inr (.inr rfl))) de_int) (de_op ok_mul (de_callTy ok_int rfl c.f_int b_int (da_cons (de_var (i := 3) rfl (by first | exact .inl rfl | exact .inr (.inl rfl) | exact .inr (.inr rfl))) da_nil)) (de_op (ok_add rfl) (de_var (i := 2) rfl (by first | exact .inl rfl | exact .inr (.inl rfl) | exact .inr (.inr rfl))) de_int))) da_nil)) de_int)))) (db_one (ds_ret (de_lst (da_cons (de_lc rfl rfl rfl sc__law_hand.nd (de_var (i := 0) rfl (by first | exact .inl rfl | exact .inr (.inl rfl) | exact .inr (.inr rfl))) (own := [("_law_cell", 3)]) (blkOk_by (N := ["_law_script", "_law_total", "_law_k", "_law_cell"]) (sc := defScope s__law_hand) (by decide +kernel)) (fun s H C cl fp => (dgv_name (i := 3) sc__law_hand.nd rfl (by first | exact .inl rfl | exact .inr rfl))) (fun s H C cl fp => dts_nil) (fun s H C cl fp => (de_callB ok_abs rfl c.f_abs b_abs (da_cons (de_callTy ok_int rfl c.f_int b_int (da_cons (de_var (i := 3) rfl (by first | exact .inl rfl | exact .inr (.inl rfl) | exact .inr (.inr rfl))) da_nil)) da_nil)))) (da_cons de_int (da_cons de_int (da_cons (de_var (i := 1) rfl (by first | exact .inl rfl | exact .inr (.inl rfl) | exact .inr (.inr rfl))) da_nil)))))))))
theorem df__law_hand (c : Facts K mg) : Df P w K mg base (st K) 1 "_law_hand" 1 m__law_hand [] := by
  obtain ⟨fd, F⟩ := c.d__law_hand
  exact ⟨_, c.g__law_hand, F.kp, fn__law_hand c⟩
/-! ### _law_mix -/
theorem sc__law_mix : FnScope ["_law_number", "_law_turn", "_law_once", "_law_twice"] ["_law_number", "_law_turn"] (defScope s__law_mix) := ⟨rfl, rfl, rfl, by decide +kernel, rfl, by decide +kernel, by decide +kernel⟩
theorem fn__law_mix (c : Facts K mg) : FnM P w K mg base (st K) 1 (He.ga K "_law_mix") 2 m__law_mix [] := by
  obtain ⟨fd, F⟩ := c.d__law_mix
  refine fnm_of (N := ["_law_number", "_law_turn", "_law_once", "_law_twice"]) (ps := ["_law_number", "_law_turn"]) (b := b__law_mix) F sc__law_mix rfl (F.bindsN fun _ _ _ _ _ _ us hl => match us, hl with | [_, _], _ => rfl) fun cdv A outer s H E hr => ?_
  exact (db_cons (ds_set (i := 2) sc__law_mix.nd rfl (by first | exact .inl rfl | exact .inr rfl) (de_op ok_mod (de_callTy ok_int rfl c.f_int b_int (da_cons (de_op (ok_add rfl) (de_op (ok_add rfl) (de_op ok_mul (de_var (i := 0) rfl (by first | exact .inl rfl | exact .inr (.inl rfl) | exact .inr (.inr rfl))) de_int) (de_op ok_mul (de_var (i := 1) rfl (by first | exact .inl rfl | exact .inr (.inl rfl) | exact .inr (.inr rfl))) de_int)) de_int) da_nil)) de_int)) (db_cons (ds_set (i := 3) sc__law_mix.nd rfl (by first | exact .inl rfl | exact .inr rfl) (de_op ok_mod (de_callTy ok_int rfl c.f_int b_int (da_cons (de_op (ok_add rfl) (de_op (ok_add rfl) (de_op ok_mul (de_var (i := 2) rfl (by first | exact .inl rfl | exact .inr (.inl rfl) | exact .inr (.inr rfl))) (de_var (i := 2) rfl (by first | exact .inl rfl | exact .inr (.inl rfl) | exact .inr (.inr rfl)))) (de_op ok_mul (de_op ok_div (de_var (i := 2) rfl (by first | exact .inl rfl | exact .inr (.inl rfl) | exact .inr (.inr rfl))) de_int) de_int)) (de_op ok_mul (de_var (i := 1) rfl (by first | exact .inl rfl | exact .inr (.inl rfl) | exact .inr (.inr rfl))) de_int)) da_nil)) de_int)) (db_one (ds_ret (de_op ok_div (de_op ok_mod (de_callTy ok_int rfl c.f_int b_int (da_cons (de_op (ok_add rfl) (de_op ok_div (de_op ok_mul (de_var (i := 3) rfl (by first | exact .inl rfl | exact .inr (.inl rfl) | exact .inr (.inr rfl))) (de_var (i := 3) rfl (by first | exact .inl rfl | exact .inr (.inl rfl) | exact .inr (.inr rfl)))) de_int) (de_var (i := 2) rfl (by first | exact .inl rfl | exact .inr (.inl rfl) | exact .inr (.inr rfl)))) da_nil)) de_int) de_int)))))
theorem df__law_mix (c : Facts K mg) : Df P w K mg base (st K) 1 "_law_mix" 2 m__law_mix [] := by
  obtain ⟨fd, F⟩ := c.d__law_mix
  exact ⟨_, c.g__law_mix, F.kp, fn__law_mix c⟩
/-! ### _law_draw -/
theorem sc__law_draw : FnScope ["_law_hand_here", "_law_many", "_law_cell", "_law_rest"] ["_law_hand_here", "_law_many"] (defScope s__law_draw) := ⟨rfl, rfl, rfl, by decide +kernel, rfl, by decide +kernel, by decide +kernel⟩
theorem fn__law_draw (c : Facts K mg) : FnM P w K mg base (st K) 2 (He.ga K "_law_draw") 2 m__law_draw [] := by
  obtain ⟨fd, F⟩ := c.d__law_draw
  refine fnm_of (N := ["_law_hand_here", "_law_many", "_law_cell", "_law_rest"]) (ps := ["_law_hand_here", "_law_many"]) (b := b__law_draw) F sc__law_draw rfl (F.bindsN fun _ _ _ _ _ _ us hl => match us, hl with | [_, _], _ => rfl) fun cdv A outer s H E hr => ?_
  exact (db_cons (ds_if (dw_pt (dw_and (dt_cmp (ok_eq rfl hr.units) (de_ix (ok_ix rfl) (de_var (i := 0) rfl (by first | exact .inl rfl | exact .inr (.inl rfl) | exact .inr (.inr rfl))) de_int) de_int) (dw_and1 (dt_cmp ok_lt (de_ix (ok_ix rfl) (de_var (i := 0) rfl (by first | exact .inl rfl | exact .inr (.inl rfl) | exact .inr (.inr rfl))) de_int) (de_callB (ok_len rfl) rfl c.f_len b_len (da_cons (de_ix (ok_ix rfl) (de_var (i := 0) rfl (by first | exact .inl rfl | exact .inr (.inl rfl) | exact .inr (.inr rfl))) de_int) da_nil)))))) (db_cons (ds_set (i := 2) sc__law_draw.nd rfl (by first | exact .inl rfl | exact .inr rfl) (de_ix (ok_ix rfl) (de_ix (ok_ix rfl) (de_var (i := 0) rfl (by first | exact .inl rfl | exact .inr (.inl rfl) | exact .inr (.inr rfl))) de_int) (de_ix (ok_ix rfl) (de_var (i := 0) rfl (by first | exact .inl rfl | exact .inr (.inl rfl) | exact .inr (.inr rfl))) de_int))) (db_cons (ds_asg (de_op (ok_add rfl) (de_ix (ok_ix rfl) (de_var (i := 0) rfl (by first | exact .inl rfl | exact .inr (.inl rfl) | exact .inr (.inr rfl))) de_int) de_int) (dg_sub (de_var (i := 0) rfl (by first | exact .inl rfl | exact .inr (.inl rfl) | exact .inr (.inr rfl))) de_int)) (db_cons (ds_if (dt_cmp ok_lt (de_var (i := 2) rfl (by first | exact .inl rfl | exact .inr (.inl rfl) | exact .inr (.inr rfl))) (de_op ok_pow de_int de_int)) (db_one (ds_ret (de_op ok_mod (de_callTy ok_int rfl c.f_int b_int (da_cons (de_call (df__law_mix c) (hr.mono (by decide)) takes_body rfl (da_cons (de_op ok_mod (de_callTy ok_int rfl c.f_int b_int (da_cons (de_var (i := 2) rfl (by first | exact .inl rfl | exact .inr (.inl rfl) | exact .inr (.inr rfl))) da_nil)) de_int) (da_cons (de_ix (ok_ix rfl) (de_var (i := 0) rfl (by first | exact .inl rfl | exact .inr (.inl rfl) | exact .inr (.inr rfl))) de_int) da_nil))) da_nil)) (de_var (i := 1) rfl (by first | exact .inl rfl | exact .inr (.inl rfl) | exact .inr (.inr rfl)))))) db_nil) (db_one (ds_asg (de_var (i := 2) rfl (by first | exact .inl rfl | exact .inr (.inl rfl) | exact .inr (.inr rfl))) (dg_sub (de_var (i := 0) rfl (by first | exact .inl rfl | exact .inr (.inl rfl) | exact .inr (.inr rfl))) de_int)))))) db_nil) (db_cons (ds_if (dt_cmp ok_gt (de_ix (ok_ix rfl) (de_var (i := 0) rfl (by first | exact .inl rfl | exact .inr (.inl rfl) | exact .inr (.inr rfl))) de_int) de_int) (db_cons (ds_set (i := 3) sc__law_draw.nd rfl (by first | exact .inl rfl | exact .inr rfl) (de_ix (ok_ix rfl) (de_var (i := 0) rfl (by first | exact .inl rfl | exact .inr (.inl rfl) | exact .inr (.inr rfl))) de_int)) (db_cons (ds_asg (de_op ok_div (de_var (i := 3) rfl (by first | exact .inl rfl | exact .inr (.inl rfl) | exact .inr (.inr rfl))) (de_var (i := 1) rfl (by first | exact .inl rfl | exact .inr (.inl rfl) | exact .inr (.inr rfl)))) (dg_sub (de_var (i := 0) rfl (by first | exact .inl rfl | exact .inr (.inl rfl) | exact .inr (.inr rfl))) de_int)) (db_one (ds_ret (de_op ok_mod (de_callTy ok_int rfl c.f_int b_int (da_cons (de_var (i := 3) rfl (by first | exact .inl rfl | exact .inr (.inl rfl) | exact .inr (.inr rfl))) da_nil)) (de_var (i := 1) rfl (by first | exact .inl rfl | exact .inr (.inl rfl) | exact .inr (.inr rfl)))))))) db_nil) (db_cons (ds_asg (de_op ok_mod (de_callTy ok_int rfl c.f_int b_int (da_cons (de_op (ok_add rfl) (de_ix (ok_ix rfl) (de_var (i := 0) rfl (by first | exact .inl rfl | exact .inr (.inl rfl) | exact .inr (.inr rfl))) de_int) de_int) da_nil)) de_int) (dg_sub (de_var (i := 0) rfl (by first | exact .inl rfl | exact .inr (.inl rfl) | exact .inr (.inr rfl))) de_int)) (db_one (ds_ret (de_op ok_mod (de_callTy ok_int rfl c.f_int b_int (da_cons (de_call (df__law_mix c) (hr.mono (by decide)) takes_body rfl (da_cons (de_ix (ok_ix rfl) (de_var (i := 0) rfl (by first | exact .inl rfl | exact .inr (.inl rfl) | exact .inr (.inr rfl))) de_int) (da_cons (de_ix (ok_ix rfl) (de_var (i := 0) rfl (by first | exact .inl rfl | exact .inr (.inl rfl) | exact .inr (.inr rfl))) de_int) da_nil))) da_nil)) (de_var (i := 1) rfl (by first | exact .inl rfl | exact .inr (.inl rfl) | exact .inr (.inr rfl)))))))))
theorem df__law_draw (c : Facts K mg) : Df P w K mg base (st K) 2 "_law_draw" 2 m__law_draw [] := by
  obtain ⟨fd, F⟩ := c.d__law_draw
  exact ⟨_, c.g__law_draw, F.kp, fn__law_draw c⟩
/-! ### _law_backs -/
theorem sc__law_backs : FnScope ["_law_hand_here", "_law_many", "_law_backs_here", "_law_left", "_law_k", "_law_one", "_law_other"] ["_law_hand_here", "_law_many"] (defScope s__law_backs) := ⟨rfl, rfl, rfl, by decide +kernel, rfl, by decide +kernel, by decide +kernel⟩
theorem fn__law_backs (c : Facts K mg) : FnM P w K mg base (st K) 3 (He.ga K "_law_backs") 2 m__law_backs [] := by
  obtain ⟨fd, F⟩ := c.d__law_backs
  refine fnm_of (N := ["_law_hand_here", "_law_many", "_law_backs_here", "_law_left", "_law_k", "_law_one", "_law_other"]) (ps := ["_law_hand_here", "_law_many"]) (b := b__law_backs) F sc__law_backs rfl (F.bindsN fun _ _ _ _ _ _ us hl => match us, hl with | [_, _], _ => rfl) fun cdv A outer s H E hr => ?_
  exact (db_cons (ds_set (i := 2) sc__law_backs.nd rfl (by first | exact .inl rfl | exact .inr rfl) (de_listR1 rfl rfl c.f_list rfl c.f_range (da_cons (de_var (i := 1) rfl (by first | exact .inl rfl | exact .inr (.inl rfl) | exact .inr (.inr rfl))) da_nil))) (db_cons (ds_set (i := 3) sc__law_backs.nd rfl (by first | exact .inl rfl | exact .inr rfl) (de_listR1 rfl rfl c.f_list rfl c.f_range (da_cons (de_var (i := 1) rfl (by first | exact .inl rfl | exact .inr (.inl rfl) | exact .inr (.inr rfl))) da_nil))) (db_cons (ds_forR1 passes_body rfl rfl c.f_range (da_cons (de_op ok_div (de_var (i := 1) rfl (by first | exact .inl rfl | exact .inr (.inl rfl) | exact .inr (.inr rfl))) de_int) da_nil) (dg_name (i := 4) sc__law_backs.nd rfl (by first | exact .inl rfl | exact .inr rfl)) (db_one (ds_if (dt_cmp (ok_eq rfl hr.units) (de_call (df__law_draw c) (hr.mono (by decide)) takes_body rfl (da_cons (de_var (i := 0) rfl (by first | exact .inl rfl | exact .inr (.inl rfl) | exact .inr (.inr rfl))) (da_cons de_int da_nil))) de_int) (db_cons (ds_set (i := 5) sc__law_backs.nd rfl (by first | exact .inl rfl | exact .inr rfl) (de_lm rfl PySem.F.slot_list_pop PySem.F.type_list_pop ok_popAt (de_var (i := 3) rfl (by first | exact .inl rfl | exact .inr (.inl rfl) | exact .inr (.inr rfl))) (da_cons (de_call (df__law_draw c) (hr.mono (by decide)) takes_body rfl (da_cons (de_var (i := 0) rfl (by first | exact .inl rfl | exact .inr (.inl rfl) | exact .inr (.inr rfl))) (da_cons (de_callB (ok_len rfl) rfl c.f_len b_len (da_cons (de_var (i := 3) rfl (by first | exact .inl rfl | exact .inr (.inl rfl) | exact .inr (.inr rfl))) da_nil)) da_nil))) da_nil))) (db_cons (ds_set (i := 6) sc__law_backs.nd rfl (by first | exact .inl rfl | exact .inr rfl) (de_lm rfl PySem.F.slot_list_pop PySem.F.type_list_pop ok_popAt (de_var (i := 3) rfl (by first | exact .inl rfl | exact .inr (.inl rfl) | exact .inr (.inr rfl))) (da_cons (de_call (df__law_draw c) (hr.mono (by decide)) takes_body rfl (da_cons (de_var (i := 0) rfl (by first | exact .inl rfl | exact .inr (.inl rfl) | exact .inr (.inr rfl))) (da_cons (de_callB (ok_len rfl) rfl c.f_len b_len (da_cons (de_var (i := 3) rfl (by first | exact .inl rfl | exact .inr (.inl rfl) | exact .inr (.inr rfl))) da_nil)) da_nil))) da_nil))) (db_cons (ds_asg (de_var (i := 6) rfl (by first | exact .inl rfl | exact .inr (.inl rfl) | exact .inr (.inr rfl))) (dg_sub (de_var (i := 2) rfl (by first | exact .inl rfl | exact .inr (.inl rfl) | exact .inr (.inr rfl))) (de_var (i := 5) rfl (by first | exact .inl rfl | exact .inr (.inl rfl) | exact .inr (.inr rfl))))) (db_one (ds_asg (de_var (i := 5) rfl (by first | exact .inl rfl | exact .inr (.inl rfl) | exact .inr (.inr rfl))) (dg_sub (de_var (i := 2) rfl (by first | exact .inl rfl | exact .inr (.inl rfl) | exact .inr (.inr rfl))) (de_var (i := 6) rfl (by first | exact .inl rfl | exact .inr (.inl rfl) | exact .inr (.inr rfl))))))))) db_nil))) (db_one (ds_ret (de_var (i := 2) rfl (by first | exact .inl rfl | exact .inr (.inl rfl) | exact .inr (.inr rfl))))))))
theorem df__law_backs (c : Facts K mg) : Df P w K mg base (st K) 3 "_law_backs" 2 m__law_backs [] := by
  obtain ⟨fd, F⟩ := c.d__law_backs
  exact ⟨_, c.g__law_backs, F.kp, fn__law_backs c⟩
/-! ### _law_thing -/
theorem sc__law_thing : FnScope ["_law_hand_here", "_law_sort", "_law_backs_here", "_law_k", "_law_place"] ["_law_hand_here"] (defScope s__law_thing) := ⟨rfl, rfl, rfl, by decide +kernel, rfl, by decide +kernel, by decide +kernel⟩
def b__law_thing : Sx := (sSeq (sSet 1 (eCall m__law_draw 2 [] (aCons (eVar 0) (aCons (eC (.int 8)) aNil)))) (sSeq (sIf (xTb (eOp oEq (eVar 1) (eC (.int 0)))) (sRet (eOp oIx (eLst (aCons (eC .non) (aCons (eC (.str "01")) (aCons (eC (.int 2)) (aCons (eC (.bl true)) (aCons (eDic2 0 0 1 1) (aCons (eOp oPow (eC (.int 10)) (eC (.int 20))) (aCons (eC (.str "")) (aCons (eC (.str "10")) aNil))))))))) (eCall m__law_draw 2 [] (aCons (eVar 0) (aCons (eC (.int 8)) aNil))))) sPass) (sSeq (sSet 2 (eCall m__law_backs 2 [] (aCons (eVar 0) (aCons (eOp oAdd (eC (.int 2)) (eCall m__law_draw 2 [] (aCons (eVar 0) (aCons (eC (.int 3)) aNil)))) aNil)))) (sSeq (sIf (xTb (eOp oEq (eVar 1) (eC (.int 1)))) (sSet 2 (eLcR rng1 (aCons (eCall m__law_draw 2 [] (aCons (eVar 0) (aCons (eC (.int 7)) aNil))) aNil) (gNm 3) xYes (eCall m__law_draw 2 [] (aCons (eVar 0) (aCons (eC (.int 4)) aNil))) [3])) sPass) (sSeq (sIf (xTb (eOp oEq (eVar 1) (eC (.int 2)))) (sSeq (sSet 4 (eCall m__law_draw 2 [] (aCons (eVar 0) (aCons (eFn fLen (aCons (eVar 2) aNil)) aNil)))) (sAsg (eOp oIx (eLst (aCons (eUn oNeg (eC (.int 1))) (aCons (eFn fLen (aCons (eVar 2) aNil)) (aCons (eC (.bl true)) (aCons (eC .non) (aCons (eC (.str "0")) (aCons (eOp oPow (eC (.int 10)) (eC (.int 30))) (aCons (eC (.bl false)) (aCons (eTup (aCons (eC (.int 0)) aNil)) aNil))))))))) (eCall m__law_draw 2 [] (aCons (eVar 0) (aCons (eC (.int 8)) aNil)))) (gSb (eVar 2) (eVar 4)))) sPass) (sSeq (sIf (xTb (eOp oEq (eVar 1) (eC (.int 3)))) (sAsg (eCall m__law_draw 2 [] (aCons (eVar 0) (aCons (eFn fLen (aCons (eVar 2) aNil)) aNil))) (gSb (eVar 2) (eCall m__law_draw 2 [] (aCons (eVar 0) (aCons (eFn fLen (aCons (eVar 2) aNil)) aNil))))) sPass) (sRet (eIf (xTb (eOp oEq (eCall m__law_draw 2 [] (aCons (eVar 0) (aCons (eC (.int 2)) aNil))) (eC (.int 0)))) (eVar 2) (eFn fTuple (aCons (eVar 2) aNil))))))))))
def m__law_thing : Mir := runB b__law_thing 5
theorem fn__law_thing (c : Facts K mg) : FnM P w K mg base (st K) 4 (He.ga K "_law_thing") 1 m__law_thing [] := by
  obtain ⟨fd, F⟩ := c.d__law_thing
  refine fnm_of (N := ["_law_hand_here", "_law_sort", "_law_backs_here", "_law_k", "_law_place"]) (ps := ["_law_hand_here"]) (b := b__law_thing) F sc__law_thing rfl (F.bindsN fun _ _ _ _ _ _ us hl => match us, hl with | [_], _ => rfl) fun cdv A outer s H E hr => ?_
  exact (db_cons (ds_set (i := 1) sc__law_thing.nd rfl (by first | exact .inl rfl | exact .inr rfl) (de_call (df__law_draw c) (hr.mono (by decide)) takes_body rfl (da_cons (de_var (i := 0) rfl (by first | exact .inl rfl | exact .inr (.inl rfl) | exact .inr (.inr rfl))) (da_cons de_int da_nil)))) (db_cons (ds_if (dt_cmp (ok_eq rfl hr.units) (de_var (i := 1) rfl (by first | exact .inl rfl | exact .inr (.inl rfl) | exact .inr (.inr rfl))) de_int) (db_one (ds_ret (de_ix (ok_ix rfl) (de_lst (da_cons de_non (da_cons de_str (da_cons de_int (da_cons de_bl (da_cons (de_dic2 (by decide)) (da_cons (de_op ok_pow de_int de_int) (da_cons de_str (da_cons de_str da_nil))))))))) (de_call (df__law_draw c) (hr.mono (by decide)) takes_body rfl (da_cons (de_var (i := 0) rfl (by first | exact .inl rfl | exact .inr (.inl rfl) | exact .inr (.inr rfl))) (da_cons de_int da_nil)))))) db_nil) (db_cons (ds_set (i := 2) sc__law_thing.nd rfl (by first | exact .inl rfl | exact .inr rfl) (de_call (df__law_backs c) (hr.mono (by decide)) takes_body rfl (da_cons (de_var (i := 0) rfl (by first | exact .inl rfl | exact .inr (.inl rfl) | exact .inr (.inr rfl))) (da_cons (de_op (ok_add rfl) de_int (de_call (df__law_draw c) (hr.mono (by decide)) takes_body rfl (da_cons (de_var (i := 0) rfl (by first | exact .inl rfl | exact .inr (.inl rfl) | exact .inr (.inr rfl))) (da_cons de_int da_nil)))) da_nil)))) (db_cons (ds_if (dt_cmp (ok_eq rfl hr.units) (de_var (i := 1) rfl (by first | exact .inl rfl | exact .inr (.inl rfl) | exact .inr (.inr rfl))) de_int) (db_one (ds_setLcR1 rfl rfl sc__law_thing.nd (i := 2) rfl rfl (sw_true rfl rfl rfl (by first | rfl | decide +kernel)) rfl c.f_range (da_cons (de_call (df__law_draw c) (hr.mono (by decide)) takes_body rfl (da_cons (de_var (i := 0) rfl (by first | exact .inl rfl | exact .inr (.inl rfl) | exact .inr (.inr rfl))) (da_cons de_int da_nil))) da_nil) (own := [("_law_k", 3)]) (blkOk_by (N := ["_law_hand_here", "_law_sort", "_law_backs_here", "_law_k", "_law_place"]) (sc := defScope s__law_thing) (by decide +kernel)) (fun s H C cl fp => (dgv_name (i := 3) sc__law_thing.nd rfl (by first | exact .inl rfl | exact .inr rfl))) (fun s H C cl fp => dts_nil) (fun s H C cl fp => (de_call (df__law_draw c) (hr.mono (by decide)) tk0 rfl (da_cons (de_var (i := 0) rfl (by first | exact .inl rfl | exact .inr (.inl rfl) | exact .inr (.inr rfl))) (da_cons de_int da_nil)))))) db_nil) (db_cons (ds_if (dt_cmp (ok_eq rfl hr.units) (de_var (i := 1) rfl (by first | exact .inl rfl | exact .inr (.inl rfl) | exact .inr (.inr rfl))) de_int) (db_cons (ds_set (i := 4) sc__law_thing.nd rfl (by first | exact .inl rfl | exact .inr rfl) (de_call (df__law_draw c) (hr.mono (by decide)) takes_body rfl (da_cons (de_var (i := 0) rfl (by first | exact .inl rfl | exact .inr (.inl rfl) | exact .inr (.inr rfl))) (da_cons (de_callB (ok_len rfl) rfl c.f_len b_len (da_cons (de_var (i := 2) rfl (by first | exact .inl rfl | exact .inr (.inl rfl) | exact .inr (.inr rfl))) da_nil)) da_nil)))) (db_one (ds_asg (de_ix (ok_ix rfl) (de_lst (da_cons (de_un ok_neg de_int) (da_cons (de_callB (ok_len rfl) rfl c.f_len b_len (da_cons (de_var (i := 2) rfl (by first | exact .inl rfl | exact .inr (.inl rfl) | exact .inr (.inr rfl))) da_nil)) (da_cons de_bl (da_cons de_non (da_cons de_str (da_cons (de_op ok_pow de_int de_int) (da_cons de_bl (da_cons (de_tup (da_cons de_int da_nil)) da_nil))))))))) (de_call (df__law_draw c) (hr.mono (by decide)) takes_body rfl (da_cons (de_var (i := 0) rfl (by first | exact .inl rfl | exact .inr (.inl rfl) | exact .inr (.inr rfl))) (da_cons de_int da_nil)))) (dg_sub (de_var (i := 2) rfl (by first | exact .inl rfl | exact .inr (.inl rfl) | exact .inr (.inr rfl))) (de_var (i := 4) rfl (by first | exact .inl rfl | exact .inr (.inl rfl) | exact .inr (.inr rfl))))))) db_nil) (db_cons (ds_if (dt_cmp (ok_eq rfl hr.units) (de_var (i := 1) rfl (by first | exact .inl rfl | exact .inr (.inl rfl) | exact .inr (.inr rfl))) de_int) (db_one (ds_asg (de_call (df__law_draw c) (hr.mono (by decide)) takes_body rfl (da_cons (de_var (i := 0) rfl (by first | exact .inl rfl | exact .inr (.inl rfl) | exact .inr (.inr rfl))) (da_cons (de_callB (ok_len rfl) rfl c.f_len b_len (da_cons (de_var (i := 2) rfl (by first | exact .inl rfl | exact .inr (.inl rfl) | exact .inr (.inr rfl))) da_nil)) da_nil))) (dg_sub (de_var (i := 2) rfl (by first | exact .inl rfl | exact .inr (.inl rfl) | exact .inr (.inr rfl))) (de_call (df__law_draw c) (hr.mono (by decide)) takes_body rfl (da_cons (de_var (i := 0) rfl (by first | exact .inl rfl | exact .inr (.inl rfl) | exact .inr (.inr rfl))) (da_cons (de_callB (ok_len rfl) rfl c.f_len b_len (da_cons (de_var (i := 2) rfl (by first | exact .inl rfl | exact .inr (.inl rfl) | exact .inr (.inr rfl))) da_nil)) da_nil)))))) db_nil) (db_one (ds_ret (de_if (dt_cmp (ok_eq rfl hr.units) (de_call (df__law_draw c) (hr.mono (by decide)) takes_body rfl (da_cons (de_var (i := 0) rfl (by first | exact .inl rfl | exact .inr (.inl rfl) | exact .inr (.inr rfl))) (da_cons de_int da_nil))) de_int) (de_var (i := 2) rfl (by first | exact .inl rfl | exact .inr (.inl rfl) | exact .inr (.inr rfl))) (de_callTy (ok_tuple rfl) rfl c.f_tuple b_tuple (da_cons (de_var (i := 2) rfl (by first | exact .inl rfl | exact .inr (.inl rfl) | exact .inr (.inr rfl))) da_nil)))))))))))
theorem df__law_thing (c : Facts K mg) : Df P w K mg base (st K) 4 "_law_thing" 1 m__law_thing [] := by
  obtain ⟨fd, F⟩ := c.d__law_thing
  exact ⟨_, c.g__law_thing, F.kp, fn__law_thing c⟩
/-! ### _law_due -/
theorem sc__law_due : FnScope ["_law_thing_here", "_law_entry", "_law_k"] ["_law_thing_here"] (defScope s__law_due) := ⟨rfl, rfl, rfl, by decide +kernel, rfl, by decide +kernel, by decide +kernel⟩
def b__law_due : Sx := (sSeq (sIf (xNot (xTru (eIsi [] isLT (eVar 0)))) (sRet (eC (.str "row"))) sPass) (sSeq (sIf (xOr (xTb (eOp oLt (eFn fLen (aCons (eVar 0) aNil)) (eC (.int 2)))) (xTb (eOp oGt (eFn fLen (aCons (eVar 0) aNil)) (eC (.int 4))))) (sRet (eC (.str "count"))) sPass) (sSeq (sFor (eVar 0) (gNm 1) (sIf (xOr (xNot (xTru (eIsi [] isInt (eVar 1)))) (xOr (xTru (eIsi [] isBool (eVar 1))) (xOr (xTb (eOp oLt (eVar 1) (eC (.int 0)))) (xTb (eOp oGe (eVar 1) (eFn fLen (aCons (eVar 0) aNil))))))) (sRet (eC (.str "tie"))) sPass)) (sSeq (sForR rng1 (aCons (eFn fLen (aCons (eVar 0) aNil)) aNil) (gNm 2) (sIf (xTb (eOp oNe (eOp oIx (eVar 0) (eOp oIx (eVar 0) (eVar 2))) (eVar 2))) (sRet (eC (.str "back"))) sPass)) (sRet (eC .non))))))
def m__law_due : Mir := runB b__law_due 3
theorem fn__law_due (c : Facts K mg) : FnM P w K mg base (st K) 1 (He.ga K "_law_due") 1 m__law_due [] := by
  obtain ⟨fd, F⟩ := c.d__law_due
  refine fnm_of (N := ["_law_thing_here", "_law_entry", "_law_k"]) (ps := ["_law_thing_here"]) (b := b__law_due) F sc__law_due rfl (F.bindsN fun _ _ _ _ _ _ us hl => match us, hl with | [_], _ => rfl) fun cdv A outer s H E hr => ?_
  exact (db_cons (ds_if (dt_not (dt_tru rfl (de_isiT (cs := []) (f := isLT) rfl no_mem (pc_cons (pc_ty rfl c.f_list b_list) (pc_cons (pc_ty rfl c.f_tuple b_tuple) pc_nil)) paired_lt (by decide) (isLT_ok K) rfl c.f_isinstance (de_var (i := 0) rfl (by first | exact .inl rfl | exact .inr (.inl rfl) | exact .inr (.inr rfl)))))) (db_one (ds_ret de_str)) db_nil) (db_cons (ds_if (dw_pt (dw_or (dt_cmp ok_lt (de_callB (ok_len rfl) rfl c.f_len b_len (da_cons (de_var (i := 0) rfl (by first | exact .inl rfl | exact .inr (.inl rfl) | exact .inr (.inr rfl))) da_nil)) de_int) (dw_or1 (dt_cmp ok_gt (de_callB (ok_len rfl) rfl c.f_len b_len (da_cons (de_var (i := 0) rfl (by first | exact .inl rfl | exact .inr (.inl rfl) | exact .inr (.inr rfl))) da_nil)) de_int)))) (db_one (ds_ret de_str)) db_nil) (db_cons (ds_for rfl passes_body rfl (de_var (i := 0) rfl (by first | exact .inl rfl | exact .inr (.inl rfl) | exact .inr (.inr rfl))) (dg_name (i := 1) sc__law_due.nd rfl (by first | exact .inl rfl | exact .inr rfl)) (db_one (ds_if (dw_pt (dw_or (dt_not (dt_tru rfl (de_isi (cs := []) (f := isInt) rfl no_mem (pc_ty rfl c.f_int b_int) (.ty _) (isInt_ok K) rfl c.f_isinstance (de_var (i := 1) rfl (by first | exact .inl rfl | exact .inr (.inl rfl) | exact .inr (.inr rfl)))))) (dw_or (dt_tru rfl (de_isi (cs := []) (f := isBool) rfl no_mem (pc_ty rfl c.f_bool b_bool) (.ty _) (isBool_ok K) rfl c.f_isinstance (de_var (i := 1) rfl (by first | exact .inl rfl | exact .inr (.inl rfl) | exact .inr (.inr rfl))))) (dw_or (dt_cmp ok_lt (de_var (i := 1) rfl (by first | exact .inl rfl | exact .inr (.inl rfl) | exact .inr (.inr rfl))) de_int) (dw_or1 (dt_cmp ok_ge (de_var (i := 1) rfl (by first | exact .inl rfl | exact .inr (.inl rfl) | exact .inr (.inr rfl))) (de_callB (ok_len rfl) rfl c.f_len b_len (da_cons (de_var (i := 0) rfl (by first | exact .inl rfl | exact .inr (.inl rfl) | exact .inr (.inr rfl))) da_nil)))))))) (db_one (ds_ret de_str)) db_nil))) (db_cons (ds_forR1 passes_body rfl rfl c.f_range (da_cons (de_callB (ok_len rfl) rfl c.f_len b_len (da_cons (de_var (i := 0) rfl (by first | exact .inl rfl | exact .inr (.inl rfl) | exact .inr (.inr rfl))) da_nil)) da_nil) (dg_name (i := 2) sc__law_due.nd rfl (by first | exact .inl rfl | exact .inr rfl)) (db_one (ds_if (dt_cmp (ok_ne rfl hr.units) (de_ix (ok_ix rfl) (de_var (i := 0) rfl (by first | exact .inl rfl | exact .inr (.inl rfl) | exact .inr (.inr rfl))) (de_ix (ok_ix rfl) (de_var (i := 0) rfl (by first | exact .inl rfl | exact .inr (.inl rfl) | exact .inr (.inr rfl))) (de_var (i := 2) rfl (by first | exact .inl rfl | exact .inr (.inl rfl) | exact .inr (.inr rfl))))) (de_var (i := 2) rfl (by first | exact .inl rfl | exact .inr (.inl rfl) | exact .inr (.inr rfl)))) (db_one (ds_ret de_str)) db_nil))) (db_one (ds_ret de_non))))))
theorem df__law_due (c : Facts K mg) : Df P w K mg base (st K) 1 "_law_due" 1 m__law_due [] := by
  obtain ⟨fd, F⟩ := c.d__law_due
  exact ⟨_, c.g__law_due, F.kp, fn__law_due c⟩
/-! ### BadTies_zzinitzz -/
theorem sc_BadTies_zzinitzz : FnScope ["self", "what"] ["self", "what"] (defScope s_BadTies_zzinitzz) := ⟨rfl, rfl, rfl, by decide +kernel, rfl, by decide +kernel, by decide +kernel⟩
theorem xc_BadTies (c : Facts K mg) : Xc P w K mg base (st K) 1 1 "BadTies" [0] := by
  obtain ⟨fd, F⟩ := c.d_BadTies_zzinitzz
  refine ⟨c.g_BadTies, (oexB_ok (ex_at c.ex 0)), _, fd, _, ["what"], (He.eqO_ok (ex_at c.ex 2)), (of_decide_eq_true (ex_at c.ex 3)), ok_xinit1 F sc_BadTies_zzinitzz (oexB_ok (ex_at c.ex 0)) (He.eqO_ok (ex_at c.ex 1)) rfl, (F.bindsN fun _ _ _ _ _ _ us hl => match us, hl with | [_, _], _ => rfl), rfl, ?_⟩
  intro i x e
  match i, e with
  | 0, e => cases e; exact ⟨_, rfl, rfl⟩
  | i + 1, e => exact absurd e (by simp)
/-! ### is_whole -/
theorem sc_is_whole : FnScope ["thing", "low", "high"] ["thing", "low", "high"] (defScope s_is_whole) := ⟨rfl, rfl, rfl, by decide +kernel, rfl, by decide +kernel, by decide +kernel⟩
theorem fn_is_whole (c : Facts K mg) : FnM P w K mg base (st K) 1 (He.ga K "is_whole") 3 m_is_whole [] := by
  obtain ⟨fd, F⟩ := c.d_is_whole
  refine fnm_of (N := ["thing", "low", "high"]) (ps := ["thing", "low", "high"]) (b := b_is_whole) F sc_is_whole rfl (F.bindsN fun _ _ _ _ _ _ us hl => match us, hl with | [_, _, _], _ => rfl) fun cdv A outer s H E hr => ?_
  exact (db_one (ds_ret (de_and rfl (de_isi (cs := []) (f := isInt) rfl no_mem (pc_ty rfl c.f_int b_int) (.ty _) (isInt_ok K) rfl c.f_isinstance (de_var (i := 0) rfl (by first | exact .inl rfl | exact .inr (.inl rfl) | exact .inr (.inr rfl)))) (de_and rfl (de_not rfl (de_isi (cs := []) (f := isBool) rfl no_mem (pc_ty rfl c.f_bool b_bool) (.ty _) (isBool_ok K) rfl c.f_isinstance (de_var (i := 0) rfl (by first | exact .inl rfl | exact .inr (.inl rfl) | exact .inr (.inr rfl))))) (de_one (de_chain ok_le ok_le (de_var (i := 1) rfl (by first | exact .inl rfl | exact .inr (.inl rfl) | exact .inr (.inr rfl))) (de_var (i := 0) rfl (by first | exact .inl rfl | exact .inr (.inl rfl) | exact .inr (.inr rfl))) (de_var (i := 2) rfl (by first | exact .inl rfl | exact .inr (.inl rfl) | exact .inr (.inr rfl)))))))))
theorem df_is_whole (c : Facts K mg) : Df P w K mg base (st K) 1 "is_whole" 3 m_is_whole [] := by
  obtain ⟨fd, F⟩ := c.d_is_whole
  exact ⟨_, c.g_is_whole, F.kp, fn_is_whole c⟩
/-! ### Ties_zzinitzz -/
theorem sc_Ties_zzinitzz : FnScope ["self", "backs", "entry", "place"] ["self", "backs"] (defScope s_Ties_zzinitzz) := ⟨rfl, rfl, rfl, by decide +kernel, rfl, by decide +kernel, by decide +kernel⟩
theorem fn_Ties_zzinitzz (c : Facts K mg) : FnM P w K mg base (st K) 3 (He.ma K (He.ga K "Ties") "__init__") 2 m_Ties_zzinitzz [] := by
  obtain ⟨fd, F⟩ := c.d_Ties_zzinitzz
  refine fnm_of (N := ["self", "backs", "entry", "place"]) (ps := ["self", "backs"]) (b := b_Ties_zzinitzz) F sc_Ties_zzinitzz rfl (F.bindsN fun _ _ _ _ _ _ us hl => match us, hl with | [_, _], _ => rfl) fun cdv A outer s H E hr => ?_
  exact (db_cons (ds_if (dt_not (dt_tru rfl (de_isiT (cs := []) (f := isLT) rfl no_mem (pc_cons (pc_ty rfl c.f_list b_list) (pc_cons (pc_ty rfl c.f_tuple b_tuple) pc_nil)) paired_lt (by decide) (isLT_ok K) rfl c.f_isinstance (de_var (i := 1) rfl (by first | exact .inl rfl | exact .inr (.inl rfl) | exact .inr (.inr rfl)))))) (db_one (ds_raise rfl rfl takes_body (xc_BadTies c) (hr.mono (by decide)) rfl (da_cons de_str da_nil))) db_nil) (db_cons (ds_if (dt_not (dt_chain ok_le ok_le de_int (de_callB (ok_len rfl) rfl c.f_len b_len (da_cons (de_var (i := 1) rfl (by first | exact .inl rfl | exact .inr (.inl rfl) | exact .inr (.inr rfl))) da_nil)) (de_glI rfl c.i_MOST_TIES.choose_spec))) (db_one (ds_raise rfl rfl takes_body (xc_BadTies c) (hr.mono (by decide)) rfl (da_cons de_str da_nil))) db_nil) (db_cons (ds_for rfl passes_body rfl (de_var (i := 1) rfl (by first | exact .inl rfl | exact .inr (.inl rfl) | exact .inr (.inr rfl))) (dg_name (i := 2) sc_Ties_zzinitzz.nd rfl (by first | exact .inl rfl | exact .inr rfl)) (db_one (ds_if (dt_not (dt_tru rfl (de_call (df_is_whole c) (hr.mono (by decide)) takes_body rfl (da_cons (de_var (i := 2) rfl (by first | exact .inl rfl | exact .inr (.inl rfl) | exact .inr (.inr rfl))) (da_cons de_int (da_cons (de_op ok_sub (de_callB (ok_len rfl) rfl c.f_len b_len (da_cons (de_var (i := 1) rfl (by first | exact .inl rfl | exact .inr (.inl rfl) | exact .inr (.inr rfl))) da_nil)) de_int) da_nil)))))) (db_one (ds_raise rfl rfl takes_body (xc_BadTies c) (hr.mono (by decide)) rfl (da_cons de_str da_nil))) db_nil))) (db_cons (ds_forR1 passes_body rfl rfl c.f_range (da_cons (de_callB (ok_len rfl) rfl c.f_len b_len (da_cons (de_var (i := 1) rfl (by first | exact .inl rfl | exact .inr (.inl rfl) | exact .inr (.inr rfl))) da_nil)) da_nil) (dg_name (i := 3) sc_Ties_zzinitzz.nd rfl (by first | exact .inl rfl | exact .inr rfl)) (db_one (ds_if (dt_cmp (ok_ne rfl hr.units) (de_ix (ok_ix rfl) (de_var (i := 1) rfl (by first | exact .inl rfl | exact .inr (.inl rfl) | exact .inr (.inr rfl))) (de_ix (ok_ix rfl) (de_var (i := 1) rfl (by first | exact .inl rfl | exact .inr (.inl rfl) | exact .inr (.inr rfl))) (de_var (i := 3) rfl (by first | exact .inl rfl | exact .inr (.inl rfl) | exact .inr (.inr rfl))))) (de_var (i := 3) rfl (by first | exact .inl rfl | exact .inr (.inl rfl) | exact .inr (.inr rfl)))) (db_one (ds_raise rfl rfl takes_body (xc_BadTies c) (hr.mono (by decide)) rfl (da_cons de_str da_nil))) db_nil))) (db_cons (ds_fld (f := 17) (cs := [57]) st_nd rfl (mem_cons' (p := fun d => Cls K ((st K).ca d) ∧ NoAttr K ((st K).ca d) "backs") ⟨c.cls_Ties, c.no_Ties_backs⟩ no_mem) (de_var (i := 0) rfl (by first | exact .inl rfl | exact .inr (.inl rfl) | exact .inr (.inr rfl))) (de_callTy (ok_tuple rfl) rfl c.f_tuple b_tuple (da_cons (de_var (i := 1) rfl (by first | exact .inl rfl | exact .inr (.inl rfl) | exact .inr (.inr rfl))) da_nil))) (db_one (ds_fld (f := 18) (cs := [57]) st_nd rfl (mem_cons' (p := fun d => Cls K ((st K).ca d) ∧ NoAttr K ((st K).ca d) "many") ⟨c.cls_Ties, c.no_Ties_many⟩ no_mem) (de_var (i := 0) rfl (by first | exact .inl rfl | exact .inr (.inl rfl) | exact .inr (.inr rfl))) (de_callB (ok_len rfl) rfl c.f_len b_len (da_cons (de_var (i := 1) rfl (by first | exact .inl rfl | exact .inr (.inl rfl) | exact .inr (.inr rfl))) da_nil)))))))))
theorem nw_Ties (c : Facts K mg) : Nw P w K mg base (st K) 3 57 "Ties" 2 m_Ties_zzinitzz [] := ⟨c.g_Ties, _, c.mk_Ties, fn_Ties_zzinitzz c⟩
/-! ### _law_made -/
theorem sc__law_made : FnScope ["_law_thing_here", "e", "_law_ties"] ["_law_thing_here"] (defScope s__law_made) := ⟨rfl, rfl, rfl, by decide +kernel, rfl, by decide +kernel, by decide +kernel⟩
def b__law_made : Sx := (sSeq (sTry (fun c => ([(1, true)] : List (Nat × Bool)).lookup c) 1 (sSet 2 (eNew 57 2 m_Ties_zzinitzz [] (aCons (eVar 0) aNil))) (sRet (eTup (aCons (eC .non) (aCons (eXf 1 [1] 0) aNil))))) (sRet (eTup (aCons (eVar 2) (aCons (eC .non) aNil)))))
def m__law_made : Mir := runB b__law_made 3
theorem fn__law_made (c : Facts K mg) : FnM P w K mg base (st K) 5 (He.ga K "_law_made") 1 m__law_made [] := by
  obtain ⟨fd, F⟩ := c.d__law_made
  refine fnm_of (N := ["_law_thing_here", "e", "_law_ties"]) (ps := ["_law_thing_here"]) (b := b__law_made) F sc__law_made rfl (F.bindsN fun _ _ _ _ _ _ us hl => match us, hl with | [_], _ => rfl) fun cdv A outer s H E hr => ?_
  exact (db_cons (ds_try (cc := He.ga K "BadTies") (i := 1) rfl rfl rfl rfl sc__law_made.nd rfl rfl ⟨rfl, by decide, .inl c.g_BadTies⟩ (mtB_ok (ex_at c.ex 5)) takes_body (fun W pn xe t1 p1 => (db_one (ds_set (i := 2) sc__law_made.nd rfl (by first | exact .inl rfl | exact .inr rfl) (de_new (nw_Ties c) (hr.mono (by decide)) t1 rfl (da_cons (de_var (i := 0) rfl (by first | exact .inl rfl | exact .inr (.inl rfl) | exact .inr (.inr rfl))) da_nil))))) (fun a oe cur pn cok => (db_one (ds_ret (de_tup (da_cons de_non (da_cons (de_xf (i := 1) (f := 0) (cs := [1]) cok st_nd rfl (mem_cons' (p := fun d => XfC K ((st K).ca d) ∧ PySem.W.findIn K (.ref ((st K).ca d)) "what" = some none) ⟨xfB_ok (ex_at c.ex 4), He.eqO_ok (ex_at c.ex 1)⟩ no_mem) rfl (by first | exact .inl rfl | exact .inr (.inl rfl) | exact .inr (.inr rfl))) da_nil))))))) (db_one (ds_ret (de_tup (da_cons (de_var (i := 2) rfl (by first | exact .inl rfl | exact .inr (.inl rfl) | exact .inr (.inr rfl))) (da_cons de_non da_nil))))))
theorem df__law_made (c : Facts K mg) : Df P w K mg base (st K) 5 "_law_made" 1 m__law_made [] := by
  obtain ⟨fd, F⟩ := c.d__law_made
  exact ⟨_, c.g__law_made, F.kp, fn__law_made c⟩
/-! ### Ties_zzeqzz -/
theorem sc_Ties_zzeqzz : FnScope ["self", "other"] ["self", "other"] (defScope s_Ties_zzeqzz) := ⟨rfl, rfl, rfl, by decide +kernel, rfl, by decide +kernel, by decide +kernel⟩
theorem fn_Ties_zzeqzz (c : Facts K mg) : FnM P w K mg base (st K) 1 (He.ma K (He.ga K "Ties") "__eq__") 2 m_Ties_zzeqzz [] := by
  obtain ⟨fd, F⟩ := c.d_Ties_zzeqzz
  refine fnm_of (N := ["self", "other"]) (ps := ["self", "other"]) (b := b_Ties_zzeqzz) F sc_Ties_zzeqzz rfl (F.bindsN fun _ _ _ _ _ _ us hl => match us, hl with | [_, _], _ => rfl) fun cdv A outer s H E hr => ?_
  exact (db_one (ds_ret (de_and rfl (de_isi (cs := [57]) (f := isOwn [57] [57]) rfl (mem_cons' (p := fun d => Ck K ((st K).ca d)) (ckB_ok c.cls_Ties (ex_at c.ex 7)) no_mem) (pc_own rfl c.g_Ties) (.own _) (ownB_ok (ex_at c.ex 6)) rfl c.f_isinstance (de_var (i := 1) rfl (by first | exact .inl rfl | exact .inr (.inl rfl) | exact .inr (.inr rfl)))) (de_one (de_cmp (ok_eq rfl hr.units) (de_fld (f := 17) (cs := [57]) st_nd rfl (mem_cons' (p := fun d => Cls K ((st K).ca d) ∧ NoAttr K ((st K).ca d) "backs") ⟨c.cls_Ties, c.no_Ties_backs⟩ no_mem) (de_var (i := 0) rfl (by first | exact .inl rfl | exact .inr (.inl rfl) | exact .inr (.inr rfl)))) (de_fld (f := 17) (cs := [57]) st_nd rfl (mem_cons' (p := fun d => Cls K ((st K).ca d) ∧ NoAttr K ((st K).ca d) "backs") ⟨c.cls_Ties, c.no_Ties_backs⟩ no_mem) (de_var (i := 1) rfl (by first | exact .inl rfl | exact .inr (.inl rfl) | exact .inr (.inr rfl)))))))))
theorem eq_Ties (c : Facts K mg) : Eqo P w K mg base (st K) 1 [57] 57 m_Ties_zzeqzz := ⟨rightB_ok (ex_at c.ex 8), _, He.eqO_ok (ex_at c.ex 9), (ex_at c.ex 10), fn_Ties_zzeqzz c⟩
/-! ### _law_says -/
theorem sc__law_says : FnScope ["_law_told", "_law_due_here"] ["_law_told", "_law_due_here"] (defScope s__law_says) := ⟨rfl, rfl, rfl, by decide +kernel, rfl, by decide +kernel, by decide +kernel⟩
theorem fn__law_says (c : Facts K mg) : FnM P w K mg base (st K) 1 (He.ga K "_law_says") 2 m__law_says [] := by
  obtain ⟨fd, F⟩ := c.d__law_says
  refine fnm_of (N := ["_law_told", "_law_due_here"]) (ps := ["_law_told", "_law_due_here"]) (b := b__law_says) F sc__law_says rfl (F.bindsN fun _ _ _ _ _ _ us hl => match us, hl with | [_, _], _ => rfl) fun cdv A outer s H E hr => ?_
  exact (db_one (ds_ret (de_and rfl (de_isi (cs := []) (f := isBool) rfl no_mem (pc_ty rfl c.f_bool b_bool) (.ty _) (isBool_ok K) rfl c.f_isinstance (de_var (i := 0) rfl (by first | exact .inl rfl | exact .inr (.inl rfl) | exact .inr (.inr rfl)))) (de_one (de_cmp (ok_eq rfl hr.units) (de_var (i := 0) rfl (by first | exact .inl rfl | exact .inr (.inl rfl) | exact .inr (.inr rfl))) (de_var (i := 1) rfl (by first | exact .inl rfl | exact .inr (.inl rfl) | exact .inr (.inr rfl))))))))
theorem df__law_says (c : Facts K mg) : Df P w K mg base (st K) 1 "_law_says" 2 m__law_says [] := by
  obtain ⟨fd, F⟩ := c.d__law_says
  exact ⟨_, c.g__law_says, F.kp, fn__law_says c⟩
/-! ### is_label -/
theorem sc_is_label : FnScope ["thing"] ["thing"] (defScope s_is_label) := ⟨rfl, rfl, rfl, by decide +kernel, rfl, by decide +kernel, by decide +kernel⟩
theorem fn_is_label (c : Facts K mg) : FnM P w K mg base (st K) 2 (He.ga K "is_label") 1 m_is_label [] := by
  obtain ⟨fd, F⟩ := c.d_is_label
  refine fnm_of (N := ["thing"]) (ps := ["thing"]) (b := b_is_label) F sc_is_label rfl (F.bindsN fun _ _ _ _ _ _ us hl => match us, hl with | [_], _ => rfl) fun cdv A outer s H E hr => ?_
  exact (db_one (ds_ret (de_call (df_is_whole c) (hr.mono (by decide)) takes_body rfl (da_cons (de_var (i := 0) rfl (by first | exact .inl rfl | exact .inr (.inl rfl) | exact .inr (.inr rfl))) (da_cons de_int (da_cons (de_glI rfl c.i_MOST_LABEL.choose_spec) da_nil))))))
theorem df_is_label (c : Facts K mg) : Df P w K mg base (st K) 2 "is_label" 1 m_is_label [] := by
  obtain ⟨fd, F⟩ := c.d_is_label
  exact ⟨_, c.g_is_label, F.kp, fn_is_label c⟩
/-! ### _law_whole -/
theorem sc__law_whole : FnScope ["_law_hand_here", "_law_low", "_law_high", "_law_number", "_law_thing_here"] ["_law_hand_here"] (defScope s__law_whole) := ⟨rfl, rfl, rfl, by decide +kernel, rfl, by decide +kernel, by decide +kernel⟩
def b__law_whole : Sx := (sSeq (sSet 1 (eOp oSub (eCall m__law_draw 2 [] (aCons (eVar 0) (aCons (eOp oPow (eC (.int 10)) (eC (.int 12))) aNil))) (eOp oMul (eC (.int 5)) (eOp oPow (eC (.int 10)) (eC (.int 11)))))) (sSeq (sSet 2 (eOp oAdd (eVar 1) (eCall m__law_draw 2 [] (aCons (eVar 0) (aCons (eOp oPow (eC (.int 10)) (eC (.int 6))) aNil))))) (sSeq (sFor (eLst (aCons (eOp oSub (eVar 1) (eC (.int 1))) (aCons (eVar 1) (aCons (eOp oDiv (eOp oAdd (eVar 1) (eVar 2)) (eC (.int 2))) (aCons (eVar 2) (aCons (eOp oAdd (eVar 2) (eC (.int 1))) aNil)))))) (gNm 3) (sIf (xNot (xTru (eCall m__law_says 2 [] (aCons (eCall m_is_whole 3 [] (aCons (eVar 3) (aCons (eVar 1) (aCons (eVar 2) aNil)))) (aCons (eAnd (eOp oLe (eVar 1) (eVar 3)) (eOp oLe (eVar 3) (eVar 2))) aNil))))) (sRet (eC (.bl false))) sPass)) (sSeq (sFor (eLst (aCons (eC .non) (aCons (eC (.str "1")) (aCons (eC (.bl true)) (aCons (eC (.bl false)) (aCons (eTup (aCons (eC (.int 1)) aNil)) (aCons (eLst (aCons (eC (.int 0)) aNil)) aNil))))))) (gNm 4) (sIf (xOr (xTb (eOp oIsN (eCall m_is_whole 3 [] (aCons (eVar 4) (aCons (eUn oNeg (eC (.int 5))) (aCons (eC (.int 5)) aNil)))) (eC (.bl false)))) (xTb (eOp oIsN (eCall m_is_label 1 [] (aCons (eVar 4) aNil)) (eC (.bl false))))) (sRet (eC (.bl false))) sPass)) (sSeq (sSet 3 (eCall m__law_draw 2 [] (aCons (eVar 0) (aCons (eOp oAdd (eOp oPow (eC (.int 10)) (eC (.int 9))) (eC (.int 1))) aNil)))) (sRet (eAnd (eOp oEq (eLst (aCons (eCall m_is_label 1 [] (aCons (eVar 3) aNil)) (aCons (eCall m_is_label 1 [] (aCons (eC (.int 0)) aNil)) (aCons (eCall m_is_label 1 [] (aCons (eOp oPow (eC (.int 10)) (eC (.int 9))) aNil)) aNil)))) (eLst (aCons (eC (.bl true)) (aCons (eC (.bl true)) (aCons (eC (.bl true)) aNil))))) (eAnd (eNot (eCall m_is_label 1 [] (aCons (eUn oNeg (eC (.int 1))) aNil))) (eNot (eCall m_is_label 1 [] (aCons (eOp oAdd (eOp oPow (eC (.int 10)) (eC (.int 9))) (eC (.int 1))) aNil)))))))))))
def m__law_whole : Mir := runB b__law_whole 5
theorem fn__law_whole (c : Facts K mg) : FnM P w K mg base (st K) 3 (He.ga K "_law_whole") 1 m__law_whole [] := by
  obtain ⟨fd, F⟩ := c.d__law_whole
  refine fnm_of (N := ["_law_hand_here", "_law_low", "_law_high", "_law_number", "_law_thing_here"]) (ps := ["_law_hand_here"]) (b := b__law_whole) F sc__law_whole rfl (F.bindsN fun _ _ _ _ _ _ us hl => match us, hl with | [_], _ => rfl) fun cdv A outer s H E hr => ?_
  exact (db_cons (ds_set (i := 1) sc__law_whole.nd rfl (by first | exact .inl rfl | exact .inr rfl) (de_op ok_sub (de_call (df__law_draw c) (hr.mono (by decide)) takes_body rfl (da_cons (de_var (i := 0) rfl (by first | exact .inl rfl | exact .inr (.inl rfl) | exact .inr (.inr rfl))) (da_cons (de_op ok_pow de_int de_int) da_nil))) (de_op ok_mul de_int (de_op ok_pow de_int de_int)))) (db_cons (ds_set (i := 2) sc__law_whole.nd rfl (by first | exact .inl rfl | exact .inr rfl) (de_op (ok_add rfl) (de_var (i := 1) rfl (by first | exact .inl rfl | exact .inr (.inl rfl) | exact .inr (.inr rfl))) (de_call (df__law_draw c) (hr.mono (by decide)) takes_body rfl (da_cons (de_var (i := 0) rfl (by first | exact .inl rfl | exact .inr (.inl rfl) | exact .inr (.inr rfl))) (da_cons (de_op ok_pow de_int de_int) da_nil))))) (db_cons (ds_for rfl passes_body rfl (de_lst (da_cons (de_op ok_sub (de_var (i := 1) rfl (by first | exact .inl rfl | exact .inr (.inl rfl) | exact .inr (.inr rfl))) de_int) (da_cons (de_var (i := 1) rfl (by first | exact .inl rfl | exact .inr (.inl rfl) | exact .inr (.inr rfl))) (da_cons (de_op ok_div (de_op (ok_add rfl) (de_var (i := 1) rfl (by first | exact .inl rfl | exact .inr (.inl rfl) | exact .inr (.inr rfl))) (de_var (i := 2) rfl (by first | exact .inl rfl | exact .inr (.inl rfl) | exact .inr (.inr rfl)))) de_int) (da_cons (de_var (i := 2) rfl (by first | exact .inl rfl | exact .inr (.inl rfl) | exact .inr (.inr rfl))) (da_cons (de_op (ok_add rfl) (de_var (i := 2) rfl (by first | exact .inl rfl | exact .inr (.inl rfl) | exact .inr (.inr rfl))) de_int) da_nil)))))) (dg_name (i := 3) sc__law_whole.nd rfl (by first | exact .inl rfl | exact .inr rfl)) (db_one (ds_if (dt_not (dt_tru rfl (de_call (df__law_says c) (hr.mono (by decide)) takes_body rfl (da_cons (de_call (df_is_whole c) (hr.mono (by decide)) takes_body rfl (da_cons (de_var (i := 3) rfl (by first | exact .inl rfl | exact .inr (.inl rfl) | exact .inr (.inr rfl))) (da_cons (de_var (i := 1) rfl (by first | exact .inl rfl | exact .inr (.inl rfl) | exact .inr (.inr rfl))) (da_cons (de_var (i := 2) rfl (by first | exact .inl rfl | exact .inr (.inl rfl) | exact .inr (.inr rfl))) da_nil)))) (da_cons (de_and rfl (de_cmp ok_le (de_var (i := 1) rfl (by first | exact .inl rfl | exact .inr (.inl rfl) | exact .inr (.inr rfl))) (de_var (i := 3) rfl (by first | exact .inl rfl | exact .inr (.inl rfl) | exact .inr (.inr rfl)))) (de_one (de_cmp ok_le (de_var (i := 3) rfl (by first | exact .inl rfl | exact .inr (.inl rfl) | exact .inr (.inr rfl))) (de_var (i := 2) rfl (by first | exact .inl rfl | exact .inr (.inl rfl) | exact .inr (.inr rfl)))))) da_nil))))) (db_one (ds_ret de_bl)) db_nil))) (db_cons (ds_for rfl passes_body rfl (de_lst (da_cons de_non (da_cons de_str (da_cons de_bl (da_cons de_bl (da_cons (de_tup (da_cons de_int da_nil)) (da_cons (de_lst (da_cons de_int da_nil)) da_nil))))))) (dg_name (i := 4) sc__law_whole.nd rfl (by first | exact .inl rfl | exact .inr rfl)) (db_one (ds_if (dw_pt (dw_or (dt_cmp ok_isn (de_call (df_is_whole c) (hr.mono (by decide)) takes_body rfl (da_cons (de_var (i := 4) rfl (by first | exact .inl rfl | exact .inr (.inl rfl) | exact .inr (.inr rfl))) (da_cons (de_un ok_neg de_int) (da_cons de_int da_nil)))) de_bl) (dw_or1 (dt_cmp ok_isn (de_call (df_is_label c) (hr.mono (by decide)) takes_body rfl (da_cons (de_var (i := 4) rfl (by first | exact .inl rfl | exact .inr (.inl rfl) | exact .inr (.inr rfl))) da_nil)) de_bl)))) (db_one (ds_ret de_bl)) db_nil))) (db_cons (ds_set (i := 3) sc__law_whole.nd rfl (by first | exact .inl rfl | exact .inr rfl) (de_call (df__law_draw c) (hr.mono (by decide)) takes_body rfl (da_cons (de_var (i := 0) rfl (by first | exact .inl rfl | exact .inr (.inl rfl) | exact .inr (.inr rfl))) (da_cons (de_op (ok_add rfl) (de_op ok_pow de_int de_int) de_int) da_nil)))) (db_one (ds_ret (de_and rfl (de_cmp (ok_eq rfl hr.units) (de_lst (da_cons (de_call (df_is_label c) (hr.mono (by decide)) takes_body rfl (da_cons (de_var (i := 3) rfl (by first | exact .inl rfl | exact .inr (.inl rfl) | exact .inr (.inr rfl))) da_nil)) (da_cons (de_call (df_is_label c) (hr.mono (by decide)) takes_body rfl (da_cons de_int da_nil)) (da_cons (de_call (df_is_label c) (hr.mono (by decide)) takes_body rfl (da_cons (de_op ok_pow de_int de_int) da_nil)) da_nil)))) (de_lst (da_cons de_bl (da_cons de_bl (da_cons de_bl da_nil))))) (de_and rfl (de_not rfl (de_call (df_is_label c) (hr.mono (by decide)) takes_body rfl (da_cons (de_un ok_neg de_int) da_nil))) (de_one (de_not rfl (de_call (df_is_label c) (hr.mono (by decide)) takes_body rfl (da_cons (de_op (ok_add rfl) (de_op ok_pow de_int de_int) de_int) da_nil)))))))))))))
theorem df__law_whole (c : Facts K mg) : Df P w K mg base (st K) 3 "_law_whole" 1 m__law_whole [] := by
  obtain ⟨fd, F⟩ := c.d__law_whole
  exact ⟨_, c.g__law_whole, F.kp, fn__law_whole c⟩
/-! ### NoTie_zzinitzz -/
theorem sc_NoTie_zzinitzz : FnScope ["self", "tie"] ["self", "tie"] (defScope s_NoTie_zzinitzz) := ⟨rfl, rfl, rfl, by decide +kernel, rfl, by decide +kernel, by decide +kernel⟩
theorem xc_NoTie (c : Facts K mg) : Xc P w K mg base (st K) 1 2 "NoTie" [1] := by
  obtain ⟨fd, F⟩ := c.d_NoTie_zzinitzz
  refine ⟨c.g_NoTie, (oexB_ok (ex_at c.ex 11)), _, fd, _, ["tie"], (He.eqO_ok (ex_at c.ex 13)), (of_decide_eq_true (ex_at c.ex 14)), ok_xinit1 F sc_NoTie_zzinitzz (oexB_ok (ex_at c.ex 11)) (He.eqO_ok (ex_at c.ex 12)) rfl, (F.bindsN fun _ _ _ _ _ _ us hl => match us, hl with | [_, _], _ => rfl), rfl, ?_⟩
  intro i x e
  match i, e with
  | 0, e => cases e; exact ⟨_, rfl, rfl⟩
  | i + 1, e => exact absurd e (by simp)
/-! ### Ties_back -/
theorem sc_Ties_back : FnScope ["self", "tie"] ["self", "tie"] (defScope s_Ties_back) := ⟨rfl, rfl, rfl, by decide +kernel, rfl, by decide +kernel, by decide +kernel⟩
theorem fn_Ties_back (c : Facts K mg) : FnM P w K mg base (st K) 3 (He.ma K (He.ga K "Ties") "back") 2 m_Ties_back [] := by
  obtain ⟨fd, F⟩ := c.d_Ties_back
  refine fnm_of (N := ["self", "tie"]) (ps := ["self", "tie"]) (b := b_Ties_back) F sc_Ties_back rfl (F.bindsN fun _ _ _ _ _ _ us hl => match us, hl with | [_, _], _ => rfl) fun cdv A outer s H E hr => ?_
  exact (db_cons (ds_if (dt_not (dt_tru rfl (de_call (df_is_whole c) (hr.mono (by decide)) takes_body rfl (da_cons (de_var (i := 1) rfl (by first | exact .inl rfl | exact .inr (.inl rfl) | exact .inr (.inr rfl))) (da_cons de_int (da_cons (de_op ok_sub (de_fld (f := 18) (cs := [57]) st_nd rfl (mem_cons' (p := fun d => Cls K ((st K).ca d) ∧ NoAttr K ((st K).ca d) "many") ⟨c.cls_Ties, c.no_Ties_many⟩ no_mem) (de_var (i := 0) rfl (by first | exact .inl rfl | exact .inr (.inl rfl) | exact .inr (.inr rfl)))) de_int) da_nil)))))) (db_one (ds_raise rfl rfl takes_body (xc_NoTie c) (hr.mono (by decide)) rfl (da_cons (de_var (i := 1) rfl (by first | exact .inl rfl | exact .inr (.inl rfl) | exact .inr (.inr rfl))) da_nil))) db_nil) (db_one (ds_ret (de_ix (ok_ix rfl) (de_fld (f := 17) (cs := [57]) st_nd rfl (mem_cons' (p := fun d => Cls K ((st K).ca d) ∧ NoAttr K ((st K).ca d) "backs") ⟨c.cls_Ties, c.no_Ties_backs⟩ no_mem) (de_var (i := 0) rfl (by first | exact .inl rfl | exact .inr (.inl rfl) | exact .inr (.inr rfl)))) (de_var (i := 1) rfl (by first | exact .inl rfl | exact .inr (.inl rfl) | exact .inr (.inr rfl)))))))
theorem mt_Ties_back (c : Facts K mg) : Mt P w K mg base (st K) 3 57 "back" 2 m_Ties_back [] := ⟨c.cls_Ties, _, c.me_Ties_back, fn_Ties_back c⟩
/-! ### Ties_one_way -/
theorem sc_Ties_one_way : FnScope ["self", "tie"] ["self", "tie"] (defScope s_Ties_one_way) := ⟨rfl, rfl, rfl, by decide +kernel, rfl, by decide +kernel, by decide +kernel⟩
theorem fn_Ties_one_way (c : Facts K mg) : FnM P w K mg base (st K) 4 (He.ma K (He.ga K "Ties") "one_way") 2 m_Ties_one_way [] := by
  obtain ⟨fd, F⟩ := c.d_Ties_one_way
  refine fnm_of (N := ["self", "tie"]) (ps := ["self", "tie"]) (b := b_Ties_one_way) F sc_Ties_one_way rfl (F.bindsN fun _ _ _ _ _ _ us hl => match us, hl with | [_, _], _ => rfl) fun cdv A outer s H E hr => ?_
  exact (db_one (ds_ret (de_cmp (ok_ne rfl hr.units) (de_meth (al := [⟨57, 2, m_Ties_back, []⟩]) (de_var (i := 0) rfl (by first | exact .inl rfl | exact .inr (.inl rfl) | exact .inr (.inr rfl))) (mem_cons' (p := fun a : Alt => Mt P w K mg base (st K) 3 a.c "back" a.n a.g a.ds) (mt_Ties_back c) no_mem) (hr.mono (by decide)) takes_body (st_no "back" (by decide +kernel)) (da_cons (de_var (i := 1) rfl (by first | exact .inl rfl | exact .inr (.inl rfl) | exact .inr (.inr rfl))) da_nil)) (de_var (i := 1) rfl (by first | exact .inl rfl | exact .inr (.inl rfl) | exact .inr (.inr rfl))))))
theorem mt_Ties_one_way (c : Facts K mg) : Mt P w K mg base (st K) 4 57 "one_way" 2 m_Ties_one_way [] := ⟨c.cls_Ties, _, c.me_Ties_one_way, fn_Ties_one_way c⟩
/-! ### _law_no_tie -/
theorem sc__law_no_tie : FnScope ["_law_ties", "_law_thing_here", "_law_way", "e", "_law_told"] ["_law_ties", "_law_thing_here", "_law_way"] (defScope s__law_no_tie) := ⟨rfl, rfl, rfl, by decide +kernel, rfl, by decide +kernel, by decide +kernel⟩
def b__law_no_tie : Sx := (sSeq (sTry (fun c => ([(2, true)] : List (Nat × Bool)).lookup c) 3 (sSet 4 (eIf (xTb (eOp oEq (eVar 2) (eC (.int 0)))) (eMeth [⟨57, 2, m_Ties_back, []⟩] (eVar 0) (aCons (eVar 1) aNil)) (eMeth [⟨57, 2, m_Ties_one_way, []⟩] (eVar 0) (aCons (eVar 1) aNil)))) (sRet (eAnd (eOp oEq (eXf 3 [2] 1) (eVar 1)) (eOp oEq (eIsi [] isBool (eXf 3 [2] 1)) (eIsi [] isBool (eVar 1)))))) (sRet (eOp oIs (eVar 4) (eC .non))))
def m__law_no_tie : Mir := runB b__law_no_tie 5
theorem fn__law_no_tie (c : Facts K mg) : FnM P w K mg base (st K) 5 (He.ga K "_law_no_tie") 3 m__law_no_tie [] := by
  obtain ⟨fd, F⟩ := c.d__law_no_tie
  refine fnm_of (N := ["_law_ties", "_law_thing_here", "_law_way", "e", "_law_told"]) (ps := ["_law_ties", "_law_thing_here", "_law_way"]) (b := b__law_no_tie) F sc__law_no_tie rfl (F.bindsN fun _ _ _ _ _ _ us hl => match us, hl with | [_, _, _], _ => rfl) fun cdv A outer s H E hr => ?_
  exact (db_cons (ds_try (cc := He.ga K "NoTie") (i := 3) rfl rfl rfl rfl sc__law_no_tie.nd rfl rfl ⟨rfl, by decide, .inl c.g_NoTie⟩ (mtB_ok (ex_at c.ex 16)) takes_body (fun W pn xe t1 p1 => (db_one (ds_set (i := 4) sc__law_no_tie.nd rfl (by first | exact .inl rfl | exact .inr rfl) (de_if (dt_cmp (ok_eq rfl hr.units) (de_var (i := 2) rfl (by first | exact .inl rfl | exact .inr (.inl rfl) | exact .inr (.inr rfl))) de_int) (de_meth (al := [⟨57, 2, m_Ties_back, []⟩]) (de_var (i := 0) rfl (by first | exact .inl rfl | exact .inr (.inl rfl) | exact .inr (.inr rfl))) (mem_cons' (p := fun a : Alt => Mt P w K mg base (st K) 3 a.c "back" a.n a.g a.ds) (mt_Ties_back c) no_mem) (hr.mono (by decide)) t1 (st_no "back" (by decide +kernel)) (da_cons (de_var (i := 1) rfl (by first | exact .inl rfl | exact .inr (.inl rfl) | exact .inr (.inr rfl))) da_nil)) (de_meth (al := [⟨57, 2, m_Ties_one_way, []⟩]) (de_var (i := 0) rfl (by first | exact .inl rfl | exact .inr (.inl rfl) | exact .inr (.inr rfl))) (mem_cons' (p := fun a : Alt => Mt P w K mg base (st K) 4 a.c "one_way" a.n a.g a.ds) (mt_Ties_one_way c) no_mem) (hr.mono (by decide)) t1 (st_no "one_way" (by decide +kernel)) (da_cons (de_var (i := 1) rfl (by first | exact .inl rfl | exact .inr (.inl rfl) | exact .inr (.inr rfl))) da_nil)))))) (fun a oe cur pn cok => (db_one (ds_ret (de_and rfl (de_cmp (ok_eq rfl hr.units) (de_xf (i := 3) (f := 1) (cs := [2]) cok st_nd rfl (mem_cons' (p := fun d => XfC K ((st K).ca d) ∧ PySem.W.findIn K (.ref ((st K).ca d)) "tie" = some none) ⟨xfB_ok (ex_at c.ex 15), He.eqO_ok (ex_at c.ex 12)⟩ no_mem) rfl (by first | exact .inl rfl | exact .inr (.inl rfl) | exact .inr (.inr rfl))) (de_var (i := 1) rfl (by first | exact .inl rfl | exact .inr (.inl rfl) | exact .inr (.inr rfl)))) (de_one (de_cmp (ok_eq rfl hr.units) (de_isi (cs := []) (f := isBool) rfl no_mem (pc_ty rfl c.f_bool b_bool) (.ty _) (isBool_ok K) rfl c.f_isinstance (de_xf (i := 3) (f := 1) (cs := [2]) cok st_nd rfl (mem_cons' (p := fun d => XfC K ((st K).ca d) ∧ PySem.W.findIn K (.ref ((st K).ca d)) "tie" = some none) ⟨xfB_ok (ex_at c.ex 15), He.eqO_ok (ex_at c.ex 12)⟩ no_mem) rfl (by first | exact .inl rfl | exact .inr (.inl rfl) | exact .inr (.inr rfl)))) (de_isi (cs := []) (f := isBool) rfl no_mem (pc_ty rfl c.f_bool b_bool) (.ty _) (isBool_ok K) rfl c.f_isinstance (de_var (i := 1) rfl (by first | exact .inl rfl | exact .inr (.inl rfl) | exact .inr (.inr rfl))))))))))) (db_one (ds_ret (de_cmp ok_is (de_var (i := 4) rfl (by first | exact .inl rfl | exact .inr (.inl rfl) | exact .inr (.inr rfl))) de_non))))
theorem df__law_no_tie (c : Facts K mg) : Df P w K mg base (st K) 5 "_law_no_tie" 3 m__law_no_tie [] := by
  obtain ⟨fd, F⟩ := c.d__law_no_tie
  exact ⟨_, c.g__law_no_tie, F.kp, fn__law_no_tie c⟩
/-! ### _law_right -/
theorem sc__law_right : FnScope ["_law_ties", "_law_backs_here", "_law_tie", "_law_told", "_law_thing_here"] ["_law_ties", "_law_backs_here"] (defScope s__law_right) := ⟨rfl, rfl, rfl, by decide +kernel, rfl, by decide +kernel, by decide +kernel⟩
def b__law_right : Sx := (sSeq (sIf (xOr (xNot (xTru (eIsi [57] (isOwn [57] [57]) (eVar 0)))) (xOr (xNot (xTru (eIsi [] isTup (eUn (oFld [57] 17) (eVar 0))))) (xTb (eOp oNe (eFn fList (aCons (eUn (oFld [57] 17) (eVar 0)) aNil)) (eVar 1))))) (sRet (eC (.bl false))) sPass) (sSeq (sIf (xOr (xTb (eOp oNe (eUn (oFld [57] 18) (eVar 0)) (eFn fLen (aCons (eVar 1) aNil)))) (xTru (eIsi [] isBool (eUn (oFld [57] 18) (eVar 0))))) (sRet (eC (.bl false))) sPass) (sSeq (sForR rng1 (aCons (eFn fLen (aCons (eVar 1) aNil)) aNil) (gNm 2) (sSeq (sSet 3 (eMeth [⟨57, 2, m_Ties_back, []⟩] (eVar 0) (aCons (eVar 2) aNil))) (sSeq (sIf (xOr (xNot (xTru (eIsi [] isInt (eVar 3)))) (xOr (xTru (eIsi [] isBool (eVar 3))) (xTb (eOp oNe (eVar 3) (eOp oIx (eVar 1) (eVar 2)))))) (sRet (eC (.bl false))) sPass) (sIf (xOr (xNot (xTru (eCall m__law_says 2 [] (aCons (eMeth [⟨57, 2, m_Ties_one_way, []⟩] (eVar 0) (aCons (eVar 2) aNil)) (aCons (eOp oNe (eOp oIx (eVar 1) (eVar 2)) (eVar 2)) aNil))))) (xTb (eOp oNe (eMeth [⟨57, 2, m_Ties_back, []⟩] (eVar 0) (aCons (eVar 3) aNil)) (eVar 2)))) (sRet (eC (.bl false))) sPass)))) (sSeq (sFor (eLst (aCons (eUn oNeg (eC (.int 1))) (aCons (eFn fLen (aCons (eVar 1) aNil)) (aCons (eC (.bl true)) (aCons (eC .non) (aCons (eC (.str "0")) (aCons (eC (.bl false)) (aCons (eOp oPow (eC (.int 10)) (eC (.int 25))) aNil)))))))) (gNm 4) (sIf (xOr (xNot (xTru (eCall m__law_no_tie 3 [] (aCons (eVar 0) (aCons (eVar 4) (aCons (eC (.int 0)) aNil)))))) (xNot (xTru (eCall m__law_no_tie 3 [] (aCons (eVar 0) (aCons (eVar 4) (aCons (eC (.int 1)) aNil))))))) (sRet (eC (.bl false))) sPass)) (sRet (eC (.bl true)))))))
def m__law_right : Mir := runB b__law_right 5
theorem fn__law_right (c : Facts K mg) : FnM P w K mg base (st K) 6 (He.ga K "_law_right") 2 m__law_right [] := by
  obtain ⟨fd, F⟩ := c.d__law_right
  refine fnm_of (N := ["_law_ties", "_law_backs_here", "_law_tie", "_law_told", "_law_thing_here"]) (ps := ["_law_ties", "_law_backs_here"]) (b := b__law_right) F sc__law_right rfl (F.bindsN fun _ _ _ _ _ _ us hl => match us, hl with | [_, _], _ => rfl) fun cdv A outer s H E hr => ?_
  exact (db_cons (ds_if (dw_pt (dw_or (dt_not (dt_tru rfl (de_isi (cs := [57]) (f := isOwn [57] [57]) rfl (mem_cons' (p := fun d => Ck K ((st K).ca d)) (ckB_ok c.cls_Ties (ex_at c.ex 7)) no_mem) (pc_own rfl c.g_Ties) (.own _) (ownB_ok (ex_at c.ex 6)) rfl c.f_isinstance (de_var (i := 0) rfl (by first | exact .inl rfl | exact .inr (.inl rfl) | exact .inr (.inr rfl)))))) (dw_or (dt_not (dt_tru rfl (de_isi (cs := []) (f := isTup) rfl no_mem (pc_ty rfl c.f_tuple b_tuple) (.ty _) (isTup_ok K) rfl c.f_isinstance (de_fld (f := 17) (cs := [57]) st_nd rfl (mem_cons' (p := fun d => Cls K ((st K).ca d) ∧ NoAttr K ((st K).ca d) "backs") ⟨c.cls_Ties, c.no_Ties_backs⟩ no_mem) (de_var (i := 0) rfl (by first | exact .inl rfl | exact .inr (.inl rfl) | exact .inr (.inr rfl))))))) (dw_or1 (dt_cmp (ok_ne rfl hr.units) (de_callTy (ok_list rfl) rfl c.f_list b_list (da_cons (de_fld (f := 17) (cs := [57]) st_nd rfl (mem_cons' (p := fun d => Cls K ((st K).ca d) ∧ NoAttr K ((st K).ca d) "backs") ⟨c.cls_Ties, c.no_Ties_backs⟩ no_mem) (de_var (i := 0) rfl (by first | exact .inl rfl | exact .inr (.inl rfl) | exact .inr (.inr rfl)))) da_nil)) (de_var (i := 1) rfl (by first | exact .inl rfl | exact .inr (.inl rfl) | exact .inr (.inr rfl)))))))) (db_one (ds_ret de_bl)) db_nil) (db_cons (ds_if (dw_pt (dw_or (dt_cmp (ok_ne rfl hr.units) (de_fld (f := 18) (cs := [57]) st_nd rfl (mem_cons' (p := fun d => Cls K ((st K).ca d) ∧ NoAttr K ((st K).ca d) "many") ⟨c.cls_Ties, c.no_Ties_many⟩ no_mem) (de_var (i := 0) rfl (by first | exact .inl rfl | exact .inr (.inl rfl) | exact .inr (.inr rfl)))) (de_callB (ok_len rfl) rfl c.f_len b_len (da_cons (de_var (i := 1) rfl (by first | exact .inl rfl | exact .inr (.inl rfl) | exact .inr (.inr rfl))) da_nil))) (dw_or1 (dt_tru rfl (de_isi (cs := []) (f := isBool) rfl no_mem (pc_ty rfl c.f_bool b_bool) (.ty _) (isBool_ok K) rfl c.f_isinstance (de_fld (f := 18) (cs := [57]) st_nd rfl (mem_cons' (p := fun d => Cls K ((st K).ca d) ∧ NoAttr K ((st K).ca d) "many") ⟨c.cls_Ties, c.no_Ties_many⟩ no_mem) (de_var (i := 0) rfl (by first | exact .inl rfl | exact .inr (.inl rfl) | exact .inr (.inr rfl))))))))) (db_one (ds_ret de_bl)) db_nil) (db_cons (ds_forR1 passes_body rfl rfl c.f_range (da_cons (de_callB (ok_len rfl) rfl c.f_len b_len (da_cons (de_var (i := 1) rfl (by first | exact .inl rfl | exact .inr (.inl rfl) | exact .inr (.inr rfl))) da_nil)) da_nil) (dg_name (i := 2) sc__law_right.nd rfl (by first | exact .inl rfl | exact .inr rfl)) (db_cons (ds_set (i := 3) sc__law_right.nd rfl (by first | exact .inl rfl | exact .inr rfl) (de_meth (al := [⟨57, 2, m_Ties_back, []⟩]) (de_var (i := 0) rfl (by first | exact .inl rfl | exact .inr (.inl rfl) | exact .inr (.inr rfl))) (mem_cons' (p := fun a : Alt => Mt P w K mg base (st K) 3 a.c "back" a.n a.g a.ds) (mt_Ties_back c) no_mem) (hr.mono (by decide)) takes_body (st_no "back" (by decide +kernel)) (da_cons (de_var (i := 2) rfl (by first | exact .inl rfl | exact .inr (.inl rfl) | exact .inr (.inr rfl))) da_nil))) (db_cons (ds_if (dw_pt (dw_or (dt_not (dt_tru rfl (de_isi (cs := []) (f := isInt) rfl no_mem (pc_ty rfl c.f_int b_int) (.ty _) (isInt_ok K) rfl c.f_isinstance (de_var (i := 3) rfl (by first | exact .inl rfl | exact .inr (.inl rfl) | exact .inr (.inr rfl)))))) (dw_or (dt_tru rfl (de_isi (cs := []) (f := isBool) rfl no_mem (pc_ty rfl c.f_bool b_bool) (.ty _) (isBool_ok K) rfl c.f_isinstance (de_var (i := 3) rfl (by first | exact .inl rfl | exact .inr (.inl rfl) | exact .inr (.inr rfl))))) (dw_or1 (dt_cmp (ok_ne rfl hr.units) (de_var (i := 3) rfl (by first | exact .inl rfl | exact .inr (.inl rfl) | exact .inr (.inr rfl))) (de_ix (ok_ix rfl) (de_var (i := 1) rfl (by first | exact .inl rfl | exact .inr (.inl rfl) | exact .inr (.inr rfl))) (de_var (i := 2) rfl (by first | exact .inl rfl | exact .inr (.inl rfl) | exact .inr (.inr rfl))))))))) (db_one (ds_ret de_bl)) db_nil) (db_one (ds_if (dw_pt (dw_or (dt_not (dt_tru rfl (de_call (df__law_says c) (hr.mono (by decide)) takes_body rfl (da_cons (de_meth (al := [⟨57, 2, m_Ties_one_way, []⟩]) (de_var (i := 0) rfl (by first | exact .inl rfl | exact .inr (.inl rfl) | exact .inr (.inr rfl))) (mem_cons' (p := fun a : Alt => Mt P w K mg base (st K) 4 a.c "one_way" a.n a.g a.ds) (mt_Ties_one_way c) no_mem) (hr.mono (by decide)) takes_body (st_no "one_way" (by decide +kernel)) (da_cons (de_var (i := 2) rfl (by first | exact .inl rfl | exact .inr (.inl rfl) | exact .inr (.inr rfl))) da_nil)) (da_cons (de_cmp (ok_ne rfl hr.units) (de_ix (ok_ix rfl) (de_var (i := 1) rfl (by first | exact .inl rfl | exact .inr (.inl rfl) | exact .inr (.inr rfl))) (de_var (i := 2) rfl (by first | exact .inl rfl | exact .inr (.inl rfl) | exact .inr (.inr rfl)))) (de_var (i := 2) rfl (by first | exact .inl rfl | exact .inr (.inl rfl) | exact .inr (.inr rfl)))) da_nil))))) (dw_or1 (dt_cmp (ok_ne rfl hr.units) (de_meth (al := [⟨57, 2, m_Ties_back, []⟩]) (de_var (i := 0) rfl (by first | exact .inl rfl | exact .inr (.inl rfl) | exact .inr (.inr rfl))) (mem_cons' (p := fun a : Alt => Mt P w K mg base (st K) 3 a.c "back" a.n a.g a.ds) (mt_Ties_back c) no_mem) (hr.mono (by decide)) takes_body (st_no "back" (by decide +kernel)) (da_cons (de_var (i := 3) rfl (by first | exact .inl rfl | exact .inr (.inl rfl) | exact .inr (.inr rfl))) da_nil)) (de_var (i := 2) rfl (by first | exact .inl rfl | exact .inr (.inl rfl) | exact .inr (.inr rfl))))))) (db_one (ds_ret de_bl)) db_nil))))) (db_cons (ds_for rfl passes_body rfl (de_lst (da_cons (de_un ok_neg de_int) (da_cons (de_callB (ok_len rfl) rfl c.f_len b_len (da_cons (de_var (i := 1) rfl (by first | exact .inl rfl | exact .inr (.inl rfl) | exact .inr (.inr rfl))) da_nil)) (da_cons de_bl (da_cons de_non (da_cons de_str (da_cons de_bl (da_cons (de_op ok_pow de_int de_int) da_nil)))))))) (dg_name (i := 4) sc__law_right.nd rfl (by first | exact .inl rfl | exact .inr rfl)) (db_one (ds_if (dw_pt (dw_or (dt_not (dt_tru rfl (de_call (df__law_no_tie c) (hr.mono (by decide)) takes_body rfl (da_cons (de_var (i := 0) rfl (by first | exact .inl rfl | exact .inr (.inl rfl) | exact .inr (.inr rfl))) (da_cons (de_var (i := 4) rfl (by first | exact .inl rfl | exact .inr (.inl rfl) | exact .inr (.inr rfl))) (da_cons de_int da_nil)))))) (dw_or1 (dt_not (dt_tru rfl (de_call (df__law_no_tie c) (hr.mono (by decide)) takes_body rfl (da_cons (de_var (i := 0) rfl (by first | exact .inl rfl | exact .inr (.inl rfl) | exact .inr (.inr rfl))) (da_cons (de_var (i := 4) rfl (by first | exact .inl rfl | exact .inr (.inl rfl) | exact .inr (.inr rfl))) (da_cons de_int da_nil))))))))) (db_one (ds_ret de_bl)) db_nil))) (db_one (ds_ret de_bl))))))
theorem df__law_right (c : Facts K mg) : Df P w K mg base (st K) 6 "_law_right" 2 m__law_right [] := by
  obtain ⟨fd, F⟩ := c.d__law_right
  exact ⟨_, c.g__law_right, F.kp, fn__law_right c⟩
/-! ### law -/
theorem sc_law : FnScope ["_law_script", "_law_hand_here", "_law_made_here", "_law_turn", "_law_thing_here", "_law_kept", "_law_due_here", "_law_ties", "_law_word", "_law_backs_here", "_law_one", "_law_row", "_law_other", "_law_line"] ["_law_script"] (defScope s_law) := ⟨rfl, rfl, rfl, by decide +kernel, rfl, by decide +kernel, by decide +kernel⟩
def b_law : Sx := (sSeq (sSet 1 (eCall m__law_hand 1 [] (aCons (eVar 0) aNil))) (sSeq (sSet 2 (eLst aNil)) (sSeq (sForR rng1 (aCons (eC (.int 3)) aNil) (gNm 3) (sSeq (sSet 4 (eCall m__law_thing 1 [] (aCons (eVar 1) aNil))) (sSeq (sSet 5 (eIf (xTru (eIsi [] isLT (eVar 4))) (eFn fList (aCons (eVar 4) aNil)) (eVar 4))) (sSeq (sSet 6 (eCall m__law_due 1 [] (aCons (eVar 4) aNil))) (sSeq (sAsg (eCall m__law_made 1 [] (aCons (eVar 4) aNil)) (gTp 2 (gsCons (gNm 7) (gsCons (gNm 8) gsNil)))) (sSeq (sIf (xTb (eOp oNe (eVar 8) (eVar 6))) (sRet (eC (.bl false))) sPass) (sSeq (sIf (xAnd (xTru (eIsi [] isLT (eVar 4))) (xTb (eOp oNe (eFn fList (aCons (eVar 4) aNil)) (eVar 5)))) (sRet (eC (.bl false))) sPass) (sIf (xTb (eOp oIs (eVar 6) (eC .non))) (sSeq (sIf (xNot (xTru (eCall m__law_right 2 [] (aCons (eVar 7) (aCons (eVar 5) aNil))))) (sRet (eC (.bl false))) sPass) (sSeq (sIf (xTru (eIsi [] isLst (eVar 4))) (sAsg (eC (.int 7)) (gSb (eVar 4) (eC (.int 0)))) sPass) (sSeq (sIf (xNot (xTru (eCall m__law_right 2 [] (aCons (eVar 7) (aCons (eVar 5) aNil))))) (sRet (eC (.bl false))) sPass) (sExp (eLm mAppend (eVar 2) (aCons (eTup (aCons (eVar 7) (aCons (eVar 5) aNil))) aNil)))))) sPass)))))))) (sSeq (sSet 9 (eCall m__law_backs 2 [] (aCons (eVar 1) (aCons (eOp oAdd (eC (.int 2)) (eCall m__law_draw 2 [] (aCons (eVar 1) (aCons (eC (.int 3)) aNil)))) aNil)))) (sSeq (sExp (eLm mAppend (eVar 2) (aCons (eTup (aCons (eNew 57 2 m_Ties_zzinitzz [] (aCons (eFn fList (aCons (eVar 9) aNil)) aNil)) (aCons (eVar 9) aNil))) aNil))) (sSeq (sFor (eVar 2) (gTp 2 (gsCons (gNm 10) (gsCons (gNm 11) gsNil))) (sSeq (sFor (eVar 2) (gTp 2 (gsCons (gNm 12) (gsCons (gNm 13) gsNil))) (sIf (xOr (xNot (xTru (eCall m__law_says 2 [] (aCons (eEqC [57] 57 m_Ties_zzeqzz (eVar 10) (eVar 12)) (aCons (eOp oEq (eVar 11) (eVar 13)) aNil))))) (xNot (xTru (eCall m__law_right 2 [] (aCons (eVar 12) (aCons (eVar 13) aNil)))))) (sRet (eC (.bl false))) sPass)) (sIf (xTb (eEqC [57] 57 m_Ties_zzeqzz (eVar 10) (eFn fTuple (aCons (eVar 11) aNil)))) (sRet (eC (.bl false))) sPass))) (sRet (eAnd (eCall m__law_whole 1 [] (aCons (eVar 1) aNil)) (eAnd (eOp oEq (eC (.int 4)) (eC (.int 4))) (eOp oEq (eC (.int 1000000000)) (eOp oPow (eC (.int 10)) (eC (.int 9)))))))))))))
def m_law : Mir := runB b_law 14
theorem ok_law (c : Facts K mg) {fd : FuncData} (F : FnP K "law" "law" s_law (He.ga K "law") fd) : FnOk P w K mg base (L2.CX P w) 7 (He.ga K "law") fd ["_law_script"] (spM (st K) 1 m_law) := by
  refine fnok_of (N := ["_law_script", "_law_hand_here", "_law_made_here", "_law_turn", "_law_thing_here", "_law_kept", "_law_due_here", "_law_ties", "_law_word", "_law_backs_here", "_law_one", "_law_row", "_law_other", "_law_line"]) (ps := ["_law_script"]) (b := b_law) F sc_law rfl fun cdv A outer s H E hr => ?_
  exact (db_cons (ds_set (i := 1) sc_law.nd rfl (by first | exact .inl rfl | exact .inr rfl) (de_call (df__law_hand c) (hr.mono (by decide)) takes_body rfl (da_cons (de_var (i := 0) rfl (by first | exact .inl rfl | exact .inr (.inl rfl) | exact .inr (.inr rfl))) da_nil))) (db_cons (ds_set (i := 2) sc_law.nd rfl (by first | exact .inl rfl | exact .inr rfl) (de_lst da_nil)) (db_cons (ds_forR1 passes_body rfl rfl c.f_range (da_cons de_int da_nil) (dg_name (i := 3) sc_law.nd rfl (by first | exact .inl rfl | exact .inr rfl)) (db_cons (ds_set (i := 4) sc_law.nd rfl (by first | exact .inl rfl | exact .inr rfl) (de_call (df__law_thing c) (hr.mono (by decide)) takes_body rfl (da_cons (de_var (i := 1) rfl (by first | exact .inl rfl | exact .inr (.inl rfl) | exact .inr (.inr rfl))) da_nil))) (db_cons (ds_set (i := 5) sc_law.nd rfl (by first | exact .inl rfl | exact .inr rfl) (de_if (dt_tru rfl (de_isiT (cs := []) (f := isLT) rfl no_mem (pc_cons (pc_ty rfl c.f_list b_list) (pc_cons (pc_ty rfl c.f_tuple b_tuple) pc_nil)) paired_lt (by decide) (isLT_ok K) rfl c.f_isinstance (de_var (i := 4) rfl (by first | exact .inl rfl | exact .inr (.inl rfl) | exact .inr (.inr rfl))))) (de_callTy (ok_list rfl) rfl c.f_list b_list (da_cons (de_var (i := 4) rfl (by first | exact .inl rfl | exact .inr (.inl rfl) | exact .inr (.inr rfl))) da_nil)) (de_var (i := 4) rfl (by first | exact .inl rfl | exact .inr (.inl rfl) | exact .inr (.inr rfl))))) (db_cons (ds_set (i := 6) sc_law.nd rfl (by first | exact .inl rfl | exact .inr rfl) (de_call (df__law_due c) (hr.mono (by decide)) takes_body rfl (da_cons (de_var (i := 4) rfl (by first | exact .inl rfl | exact .inr (.inl rfl) | exact .inr (.inr rfl))) da_nil))) (db_cons (ds_asg (de_call (df__law_made c) (hr.mono (by decide)) takes_body rfl (da_cons (de_var (i := 4) rfl (by first | exact .inl rfl | exact .inr (.inl rfl) | exact .inr (.inr rfl))) da_nil)) (dg_tup rfl rfl (dgs_cons (dg_name (i := 7) sc_law.nd rfl (by first | exact .inl rfl | exact .inr rfl)) (dgs_cons (dg_name (i := 8) sc_law.nd rfl (by first | exact .inl rfl | exact .inr rfl)) dgs_nil)))) (db_cons (ds_if (dt_cmp (ok_ne rfl hr.units) (de_var (i := 8) rfl (by first | exact .inl rfl | exact .inr (.inl rfl) | exact .inr (.inr rfl))) (de_var (i := 6) rfl (by first | exact .inl rfl | exact .inr (.inl rfl) | exact .inr (.inr rfl)))) (db_one (ds_ret de_bl)) db_nil) (db_cons (ds_if (dw_pt (dw_and (dt_tru rfl (de_isiT (cs := []) (f := isLT) rfl no_mem (pc_cons (pc_ty rfl c.f_list b_list) (pc_cons (pc_ty rfl c.f_tuple b_tuple) pc_nil)) paired_lt (by decide) (isLT_ok K) rfl c.f_isinstance (de_var (i := 4) rfl (by first | exact .inl rfl | exact .inr (.inl rfl) | exact .inr (.inr rfl))))) (dw_and1 (dt_cmp (ok_ne rfl hr.units) (de_callTy (ok_list rfl) rfl c.f_list b_list (da_cons (de_var (i := 4) rfl (by first | exact .inl rfl | exact .inr (.inl rfl) | exact .inr (.inr rfl))) da_nil)) (de_var (i := 5) rfl (by first | exact .inl rfl | exact .inr (.inl rfl) | exact .inr (.inr rfl))))))) (db_one (ds_ret de_bl)) db_nil) (db_one (ds_if (dt_cmp ok_is (de_var (i := 6) rfl (by first | exact .inl rfl | exact .inr (.inl rfl) | exact .inr (.inr rfl))) de_non) (db_cons (ds_if (dt_not (dt_tru rfl (de_call (df__law_right c) (hr.mono (by decide)) takes_body rfl (da_cons (de_var (i := 7) rfl (by first | exact .inl rfl | exact .inr (.inl rfl) | exact .inr (.inr rfl))) (da_cons (de_var (i := 5) rfl (by first | exact .inl rfl | exact .inr (.inl rfl) | exact .inr (.inr rfl))) da_nil))))) (db_one (ds_ret de_bl)) db_nil) (db_cons (ds_if (dt_tru rfl (de_isi (cs := []) (f := isLst) rfl no_mem (pc_ty rfl c.f_list b_list) (.ty _) (isLst_ok K) rfl c.f_isinstance (de_var (i := 4) rfl (by first | exact .inl rfl | exact .inr (.inl rfl) | exact .inr (.inr rfl))))) (db_one (ds_asg de_int (dg_sub (de_var (i := 4) rfl (by first | exact .inl rfl | exact .inr (.inl rfl) | exact .inr (.inr rfl))) de_int))) db_nil) (db_cons (ds_if (dt_not (dt_tru rfl (de_call (df__law_right c) (hr.mono (by decide)) takes_body rfl (da_cons (de_var (i := 7) rfl (by first | exact .inl rfl | exact .inr (.inl rfl) | exact .inr (.inr rfl))) (da_cons (de_var (i := 5) rfl (by first | exact .inl rfl | exact .inr (.inl rfl) | exact .inr (.inr rfl))) da_nil))))) (db_one (ds_ret de_bl)) db_nil) (db_one (ds_exp (de_lm rfl PySem.F.slot_list_append PySem.F.type_list_append ok_append (de_var (i := 2) rfl (by first | exact .inl rfl | exact .inr (.inl rfl) | exact .inr (.inr rfl))) (da_cons (de_tup (da_cons (de_var (i := 7) rfl (by first | exact .inl rfl | exact .inr (.inl rfl) | exact .inr (.inr rfl))) (da_cons (de_var (i := 5) rfl (by first | exact .inl rfl | exact .inr (.inl rfl) | exact .inr (.inr rfl))) da_nil))) da_nil))))))) db_nil))))))))) (db_cons (ds_set (i := 9) sc_law.nd rfl (by first | exact .inl rfl | exact .inr rfl) (de_call (df__law_backs c) (hr.mono (by decide)) takes_body rfl (da_cons (de_var (i := 1) rfl (by first | exact .inl rfl | exact .inr (.inl rfl) | exact .inr (.inr rfl))) (da_cons (de_op (ok_add rfl) de_int (de_call (df__law_draw c) (hr.mono (by decide)) takes_body rfl (da_cons (de_var (i := 1) rfl (by first | exact .inl rfl | exact .inr (.inl rfl) | exact .inr (.inr rfl))) (da_cons de_int da_nil)))) da_nil)))) (db_cons (ds_exp (de_lm rfl PySem.F.slot_list_append PySem.F.type_list_append ok_append (de_var (i := 2) rfl (by first | exact .inl rfl | exact .inr (.inl rfl) | exact .inr (.inr rfl))) (da_cons (de_tup (da_cons (de_new (nw_Ties c) (hr.mono (by decide)) takes_body rfl (da_cons (de_callTy (ok_list rfl) rfl c.f_list b_list (da_cons (de_var (i := 9) rfl (by first | exact .inl rfl | exact .inr (.inl rfl) | exact .inr (.inr rfl))) da_nil)) da_nil)) (da_cons (de_var (i := 9) rfl (by first | exact .inl rfl | exact .inr (.inl rfl) | exact .inr (.inr rfl))) da_nil))) da_nil))) (db_cons (ds_for rfl passes_body rfl (de_var (i := 2) rfl (by first | exact .inl rfl | exact .inr (.inl rfl) | exact .inr (.inr rfl))) (dg_tup rfl rfl (dgs_cons (dg_name (i := 10) sc_law.nd rfl (by first | exact .inl rfl | exact .inr rfl)) (dgs_cons (dg_name (i := 11) sc_law.nd rfl (by first | exact .inl rfl | exact .inr rfl)) dgs_nil))) (db_cons (ds_for rfl passes_body rfl (de_var (i := 2) rfl (by first | exact .inl rfl | exact .inr (.inl rfl) | exact .inr (.inr rfl))) (dg_tup rfl rfl (dgs_cons (dg_name (i := 12) sc_law.nd rfl (by first | exact .inl rfl | exact .inr rfl)) (dgs_cons (dg_name (i := 13) sc_law.nd rfl (by first | exact .inl rfl | exact .inr rfl)) dgs_nil))) (db_one (ds_if (dw_pt (dw_or (dt_not (dt_tru rfl (de_call (df__law_says c) (hr.mono (by decide)) takes_body rfl (da_cons (de_eqC rfl (mem_cons' (p := fun d => Ck K ((st K).ca d)) (ckB_ok c.cls_Ties (ex_at c.ex 7)) no_mem) (eq_Ties c) (hr.mono (by decide)) takes_body (de_var (i := 10) rfl (by first | exact .inl rfl | exact .inr (.inl rfl) | exact .inr (.inr rfl))) (de_var (i := 12) rfl (by first | exact .inl rfl | exact .inr (.inl rfl) | exact .inr (.inr rfl)))) (da_cons (de_cmp (ok_eq rfl hr.units) (de_var (i := 11) rfl (by first | exact .inl rfl | exact .inr (.inl rfl) | exact .inr (.inr rfl))) (de_var (i := 13) rfl (by first | exact .inl rfl | exact .inr (.inl rfl) | exact .inr (.inr rfl)))) da_nil))))) (dw_or1 (dt_not (dt_tru rfl (de_call (df__law_right c) (hr.mono (by decide)) takes_body rfl (da_cons (de_var (i := 12) rfl (by first | exact .inl rfl | exact .inr (.inl rfl) | exact .inr (.inr rfl))) (da_cons (de_var (i := 13) rfl (by first | exact .inl rfl | exact .inr (.inl rfl) | exact .inr (.inr rfl))) da_nil)))))))) (db_one (ds_ret de_bl)) db_nil))) (db_one (ds_if (dt_eqC rfl (mem_cons' (p := fun d => Ck K ((st K).ca d)) (ckB_ok c.cls_Ties (ex_at c.ex 7)) no_mem) (eq_Ties c) (hr.mono (by decide)) takes_body (de_var (i := 10) rfl (by first | exact .inl rfl | exact .inr (.inl rfl) | exact .inr (.inr rfl))) (de_callTy (ok_tuple rfl) rfl c.f_tuple b_tuple (da_cons (de_var (i := 11) rfl (by first | exact .inl rfl | exact .inr (.inl rfl) | exact .inr (.inr rfl))) da_nil))) (db_one (ds_ret de_bl)) db_nil)))) (db_one (ds_ret (de_and rfl (de_call (df__law_whole c) (hr.mono (by decide)) takes_body rfl (da_cons (de_var (i := 1) rfl (by first | exact .inl rfl | exact .inr (.inl rfl) | exact .inr (.inr rfl))) da_nil)) (de_and rfl (de_cmp (ok_eq rfl hr.units) (de_glI rfl c.i_MOST_TIES.choose_spec) de_int) (de_one (de_cmp (ok_eq rfl hr.units) (de_glI rfl c.i_MOST_LABEL.choose_spec) (de_op ok_pow de_int de_int)))))))))))))
end
end K01

namespace K01
open PySem PySem.Spec PyProof.Rows L2 J JP
section
variable {h : HA} {X : XP} {Q : W → HA → Prop}
/-- the row that a thing is made of, at a -/
def RowAt (h0 : HA) (a : Nat) (h : HA) (xs : List W) : Prop := Hand h ∧ Fr h0 h ∧ h[a]? = some (.lst xs) ∧ h0.length ≤ a ∧ xs.length ≤ 100 ∧ ∀ w ∈ xs, Flat w
theorem flat_set {xs : List W} {k : Nat} {w : W} (f : ∀ w ∈ xs, Flat w) (fw : Flat w) : ∀ v ∈ xs.set k w, Flat v := fun v hv => by
  rcases List.mem_or_eq_of_mem_set hv with hv | rfl
  · exact f v hv
  · exact fw
theorem thing_ok (H : Hand h) (k : ∀ (x : W) (h' : HA), Hand h' → Fr h h' → Thing h' h.length x → Q x h') : RW (m__law_thing [.ref 1] h) Q X := by
  refine RW_run ?_
  have hl := H.len
  simp [b__law_thing]
  refine draw_ok H (by decide) (by decide) fun so h1 so0 so8 H1 l1 f1 => ?_
  by_cases c0 : so = 0
  · subst c0
    simp [mkLst_ok]
    refine draw_ok H1.push (by decide) (by decide) fun v h2 v0 v8 H2 l2 f2 => ?_
    have hD : h2[h1.length]? = some (.dic [(.inl 0, .int 0), (.inl 1, .int 1)]) := f2.get (by omega) (by simp)
    have hL : h2[(h1 ++ [O.dic [(.inl 0, .int 0), (.inl 1, .int 1)]]).length]? = some (.lst [.non, .str "01", .int 2, .bl true, .ref h1.length, .int 100000000000000000000, .str "", .str "10"]) := f2.get (by simp; omega) (by simp)
    have fr : Fr h h2 := f1.trans (Fr.push.trans f2)
    simp at hL
    obtain ⟨n, rfl⟩ : ∃ n : Nat, v = n := ⟨v.toNat, by omega⟩
    have hx : ∃ x, ([.non, .str "01", .int 2, .bl true, .ref h1.length, .int 100000000000000000000, .str "", .str "10"] : List W)[n]? = some x ∧ Thing h2 h.length x := by
      have : n = 0 ∨ n = 1 ∨ n = 2 ∨ n = 3 ∨ n = 4 ∨ n = 5 ∨ n = 6 ∨ n = 7 := by omega
      rcases this with rfl | rfl | rfl | rfl | rfl | rfl | rfl | rfl
      · exact ⟨_, rfl, .flat ⟨rfl, _, rfl⟩ (by simp) (by simp) (by simp)⟩
      · exact ⟨_, rfl, .flat ⟨rfl, _, rfl⟩ (by simp) (by simp) (by simp)⟩
      · exact ⟨_, rfl, .flat ⟨rfl, _, rfl⟩ (by simp) (by simp) (by simp)⟩
      · exact ⟨_, rfl, .flat ⟨rfl, _, rfl⟩ (by simp) (by simp) (by simp)⟩
      · exact ⟨_, rfl, .dic hD (by omega)⟩
      · exact ⟨_, rfl, .flat ⟨rfl, _, rfl⟩ (by simp) (by simp) (by simp)⟩
      · exact ⟨_, rfl, .flat ⟨rfl, _, rfl⟩ (by simp) (by simp) (by simp)⟩
      · exact ⟨_, rfl, .flat ⟨rfl, _, rfl⟩ (by simp) (by simp) (by simp)⟩
    obtain ⟨x, e1, e2⟩ := hx
    have e3 : oIx (.ref (h1.length + 1)) (.int (n : Nat)) h2 = some (x, h2) := oIx_of (rdL_of_get hL) (by omega) (by simpa using e1)
    simp [e3]
    exact k x h2 H2 fr e2
  · simp [c0]
    refine draw_ok H1 (by decide) (by decide) fun m h2 m0 m3 H2 l2 f2 => ?_
    obtain ⟨n, rfl⟩ : ∃ n : Nat, m = n := ⟨m.toNat, by omega⟩
    simp
    refine backs_ok2 H2 (2 + n) (by omega) (by omega) fun h3 bs H3 f3 l3 g3 lb Ib => ?_
    have R3 : RowAt h h2.length h3 (nW bs) := ⟨H3, (f1.trans f2).trans f3, g3, by omega, by simp; omega, nW_flat bs⟩
    -- the end: the row, or a tuple of it
    have fin : ∀ (a : Nat) (h' : HA) (xs : List W) (p q : Option W), RowAt h a h' xs → SW (sRet (eIf (xTb (eOp oEq (eCall m__law_draw 2 [] (aCons (eVar 0) (aCons (eC (.int 2)) aNil))) (eC (.int 0)))) (eVar 2) (eFn fTuple (aCons (eVar 2) aNil))) [some (.ref 1), some (.int so), some (.ref a), p, q] h') (ptM Q X) := by
      intro a h' xs p q ⟨r1, r2, r3, r4, r5, r6⟩
      simp
      refine draw_ok r1 (by decide) (by decide) fun v h4 v0 v2 H4 l4 f4 => ?_
      have g4 := f4.get (by omega) r3
      by_cases cv : v = 0
      · simp [cv]
        exact k _ _ H4 (r2.trans f4) (.lst g4 r4 r5 r6)
      · have e4 : fTuple [.ref a] h4 = some (.tup xs, h4) := fTuple_of (rdL_of_get g4)
        simp [cv, e4]
        exact k _ _ H4 (r2.trans f4) (.tup r5 r6)
    have hlen3 : fLen [.ref h2.length] h3 = some (.int bs.length, h3) := fLen_nat g3
    by_cases c1 : so = 1
    · subst c1
      simp
      refine draw_ok H3 (by decide) (by decide) fun v h4 v0 v2 H4 l4 f4 => ?_
      obtain ⟨m, rfl⟩ : ∃ m : Nat, v = m := ⟨v.toNat, by omega⟩
      simp
      refine RW_lcR (n := m) (by omega) (fun k acc h' => Hand h' ∧ Fr h h' ∧ acc.length = k ∧ ∀ w ∈ acc, Flat w) ?_ ?_ ⟨H4, ((f1.trans f2).trans f3).trans f4, rfl, by simp⟩
      · rintro acc h5 ⟨H5, f5, la, fa⟩
        simp
        have := fin h5.length (h5 ++ [O.lst acc]) acc none none ⟨H5.push, f5.trans Fr.push, get_new, f5.1, by omega, fa⟩
        simpa using this
      · rintro kk acc h5 hk ⟨H5, f5, la, fa⟩
        refine ⟨_, _, rfl, rfl, ?_⟩
        simp [wipeA]
        refine draw_ok H5 (by decide) (by decide) fun v h6 v0 v4 H6 l6 f6 => ?_
        refine ⟨H6, f5.trans f6, by simp [la], ?_⟩
        intro w hw
        rcases List.mem_append.mp hw with hw | hw
        · exact fa w hw
        · rw [List.mem_singleton.mp hw]
          exact Flat.int _
    · by_cases c2 : so = 2
      · subst c2
        simp [hlen3]
        refine draw_ok H3 (by omega) (by omega) fun p h4 p0 pl H4 l4 f4 => ?_
        have g4 := f4.get (by omega) g3
        have hlen4 : fLen [.ref h2.length] h4 = some (.int bs.length, h4) := fLen_nat g4
        simp [mkTup_ok, mkLst_ok, hlen4]
        refine draw_ok H4.push (by decide) (by decide) fun v h5 v0 v8 H5 l5 f5 => ?_
        have hL : h5[h4.length]? = some _ := f5.get (by omega) get_new
        obtain ⟨nv, rfl⟩ : ∃ nv : Nat, v = nv := ⟨v.toNat, by omega⟩
        have hx : ∃ x, ([.int (-1), .int bs.length, .bl true, .non, .str "0", .int 1000000000000000000000000000000, .bl false, .tup [.int 0]] : List W)[nv]? = some x ∧ Flat x := by
          have : nv = 0 ∨ nv = 1 ∨ nv = 2 ∨ nv = 3 ∨ nv = 4 ∨ nv = 5 ∨ nv = 6 ∨ nv = 7 := by omega
          rcases this with rfl | rfl | rfl | rfl | rfl | rfl | rfl | rfl
          · exact ⟨_, rfl, .int _⟩
          · exact ⟨_, rfl, .int _⟩
          · exact ⟨_, rfl, .bl _⟩
          · exact ⟨_, rfl, .non⟩
          · exact ⟨_, rfl, .str _ (by decide +kernel)⟩
          · exact ⟨_, rfl, .int _⟩
          · exact ⟨_, rfl, .bl _⟩
          · exact ⟨_, rfl, .tup _⟩
        obtain ⟨x, e1, e2⟩ := hx
        have e3 : oIx (.ref h4.length) (.int (nv : Nat)) h5 = some (x, h5) := oIx_of (rdL_of_get hL) (by omega) (by simpa using e1)
        have g5 : h5[h2.length]? = some (.lst (nW bs)) := f5.get (by omega) (get_push g4)
        have w1 := setW_ok (k := p) (w := x) g5 (by omega) (by rw [nW_len]; omega)
        have fr5 : Fr h h5 := (((f1.trans f2).trans f3).trans f4).trans (Fr.push.trans f5)
        simp [e3, w1]
        have := fin h2.length (h5.set h2.length (.lst ((nW bs).set p.toNat x))) _ none (some (.int p)) ⟨H5.set (by omega), fr5.set (by omega), by rw [List.getElem?_set_self (List.getElem?_eq_some_iff.mp g5).1], by omega, by simp; omega, flat_set (nW_flat bs) e2⟩
        simpa using this
      · by_cases c3 : so = 3
        · subst c3
          simp [hlen3]
          refine draw_ok H3 (by omega) (by omega) fun p h4 p0 pl H4 l4 f4 => ?_
          have g4 := f4.get (by omega) g3
          have hlen4 : fLen [.ref h2.length] h4 = some (.int bs.length, h4) := fLen_nat g4
          simp [hlen4]
          refine draw_ok H4 (by omega) (by omega) fun v h5 v0 vl H5 l5 f5 => ?_
          have g5 := f5.get (by omega) g4
          have w1 := setW_ok (k := v) (w := .int p) g5 (by omega) (by rw [nW_len]; omega)
          have fr5 : Fr h h5 := (((f1.trans f2).trans f3).trans f4).trans f5
          simp [w1]
          have := fin h2.length (h5.set h2.length (.lst ((nW bs).set v.toNat (.int p)))) _ none none ⟨H5.set (by omega), fr5.set (by omega), by rw [List.getElem?_set_self (List.getElem?_eq_some_iff.mp g5).1], by omega, by simp; omega, flat_set (nW_flat bs) (Flat.int _)⟩
          simpa using this
        · simp [c1, c2, c3]
          have := fin h2.length h3 _ none none R3
          simpa using this
end
end K01

namespace K01
open PySem PySem.Spec PyProof.Rows L2 J JP
section
variable {h : HA} {X : XP} {Q : W → HA → Prop}
def wordW (o : Option Str) : W := match o with
  | some wd => .str wd
  | none => .non
theorem isLT_thing {lo : Nat} {x : W} (T : Thing h lo x) : rIsi [] isLT x h = .ok (.bl (itW h x).isSome) h := by
  cases x with
  | ref a =>
    rcases T.1.ref with ⟨xs, e⟩ | ⟨xs, e⟩
    · rw [rIsi_lst e]; simp [rdL, e]
    · rw [rIsi_dic e]; simp [rdL, e]
  | xcp c fs => cases T.1.1
  | _ => simp [itW]
theorem isInt_known {w : W} (f : Known h w) : rIsi [] isInt w h = .ok (.bl (match w with | .int _ => true | .bl _ => true | _ => false)) h := by
  cases w with
  | ref a =>
    rcases f.ref with ⟨xs, e⟩ | ⟨xs, e⟩
    · rw [rIsi_lst e]; simp
    · rw [rIsi_dic e]; simp
  | xcp c fs => cases f.1
  | _ => simp
theorem isBool_known {w : W} (f : Known h w) : rIsi [] isBool w h = .ok (.bl (match w with | .bl _ => true | _ => false)) h := by
  cases w with
  | ref a =>
    rcases f.ref with ⟨xs, e⟩ | ⟨xs, e⟩
    · rw [rIsi_lst e]; simp
    · rw [rIsi_dic e]; simp
  | xcp c fs => cases f.1
  | _ => simp
theorem due_ok {lo : Nat} {x : W} (T : Thing h lo x) (k : Q (wordW (badW h x)) h) : RW (m__law_due [x] h) Q X := by
  refine RW_run ?_
  have nx := gv_ok (h := h) T.1.1
  have hLT := isLT_thing T
  cases hx : itW h x with
  | none =>
    have hb : badW h x = some ("row" : Str) := by unfold badW; rw [hx]
    rw [hb] at k
    simp [b__law_due, nx, hLT, hx]
    exact k
  | some xs =>
    have hb : badW h x = badL xs := by unfold badW; rw [hx]
    rw [hb] at k
    have hlen : fLen [x] h = some (.int xs.length, h) := fLen_of hx
    obtain ⟨hl, hf⟩ := T.2.2.1 xs hx
    by_cases c1 : 2 ≤ xs.length ∧ xs.length ≤ 4
    · have c1a : ¬ (xs.length : Int) < 2 := by omega
      have c1b : ¬ 4 < (xs.length : Int) := by omega
      simp [b__law_due, nx, hLT, hx, hlen, c1a, c1b]
      refine SW_for xs (fun k ta h' => h' = h ∧ (∃ y z, ta = [some x, y, z]) ∧ ∀ j < k, ∀ w, xs[j]? = some w → isWh w 0 ((xs.length : Int) - 1) = true) (w0 := x) (h0 := h) (by simp [nx]) hx (fun k ta h' z => by rw [z.1]; exact hx) ?_ ?_ ⟨rfl, ⟨none, none, rfl⟩, fun j z => absurd z (Nat.not_lt_zero _)⟩
      · rintro ta h' ⟨rfl, ⟨y, z, rfl⟩, hall⟩
        obtain ⟨bs, rfl, hbs⟩ := whole_nat (xs := xs) (n := (xs.length : Int) - 1) fun w hw => by
          obtain ⟨j, hj⟩ := List.mem_iff_getElem?.mp hw
          exact hall j (List.getElem?_eq_some_iff.mp hj).1 w hj
        rw [nW_len] at hbs hlen c1
        simp
        refine SW_forR1 (j := (bs.length : Int)) (h1 := h') (by omega) (by omega) (by simp [nx, hlen]) ?_
        refine SW_forN bs.length (fun k ta h2 => h2 = h' ∧ (∃ y z, ta = [some x, y, z]) ∧ ∀ j < k, ∃ b, bs[j]? = some b ∧ bs[b]? = some j) ?_ ?_ ⟨rfl, ⟨_, _, rfl⟩, fun j z => absurd z (Nat.not_lt_zero _)⟩
        · rintro ta h2 ⟨rfl, ⟨y, z, rfl⟩, hall2⟩
          rw [badL_ok c1 (fun k hk => hall2 k hk)] at k
          simp
          exact k
        · rintro kk ta h2 hk ⟨rfl, ⟨y, z, rfl⟩, hall2⟩
          refine ⟨_, _, rfl, ?_⟩
          have e1 : oIx x (.int (kk : Nat)) h2 = some (.int (bs[kk] : Nat), h2) := oIx_of hx (by omega) (by simp [List.getElem?_eq_getElem hk])
          have hbk : bs[kk] < bs.length := by have := hbs bs[kk] (List.getElem_mem hk); omega
          have e2 : oIx x (.int (bs[kk] : Nat)) h2 = some (.int (bs[bs[kk]] : Nat), h2) := oIx_of hx (by omega) (by simp [List.getElem?_eq_getElem hbk])
          by_cases cb : bs[bs[kk]] = kk
          · simp [nx, e1, e2, cb]
            intro j hj
            rcases Nat.lt_succ_iff_lt_or_eq.mp hj with hj | rfl
            · exact hall2 j hj
            · exact ⟨bs[j], List.getElem?_eq_getElem hk, by rw [List.getElem?_eq_getElem hbk, cb]⟩
          · rw [badL_back c1 (fun b hb => by have := hbs b hb; omega) (k := kk) (b := bs[kk]) (List.getElem?_eq_getElem hk) (by rw [List.getElem?_eq_getElem hbk]; simpa using cb)] at k
            have cb' : ¬ ((bs[bs[kk]] : Nat) : Int) = (kk : Int) := by omega
            simp [nx, e1, e2, cb, cb']
            exact k
      · rintro kk w ta h' hk ⟨rfl, ⟨y, z, rfl⟩, hall⟩
        refine ⟨_, _, rfl, ?_⟩
        have kwk : Known h' w := (hf w (List.mem_of_getElem? hk)).2 h'
        have good : isWh w 0 ((xs.length : Int) - 1) = true → (fun k ta h2 => h2 = h' ∧ (∃ y z, ta = [some x, y, z]) ∧ ∀ j < k, ∀ w, xs[j]? = some w → isWh w 0 ((xs.length : Int) - 1) = true : Nat → En → HA → Prop) (kk + 1) [some x, some w, z] h' := fun cw => by
          refine ⟨rfl, ⟨_, _, rfl⟩, ?_⟩
          intro j hj w' hw'
          rcases Nat.lt_succ_iff_lt_or_eq.mp hj with hj | rfl
          · exact hall j hj w' hw'
          · rw [hk] at hw'
            cases hw'
            exact cw
        have badc : isWh w 0 ((xs.length : Int) - 1) ≠ true → Q (.str "tie") h' := fun cw => by
          rw [badL_tie c1 hk cw] at k
          exact k
        have hI := isInt_known kwk
        have hB := isBool_known kwk
        have nw := gv_ok (h := h') kwk.1
        cases w with
        | int i =>
          by_cases i0 : i < 0
          · simp [i0]
            exact badc (by simp [isWh]; omega)
          · by_cases i1 : (xs.length : Int) ≤ i
            · simp [i0, nx, hlen, i1]
              exact badc (by simp [isWh]; omega)
            · simp [i0, nx, hlen, i1]
              exact (good (by simp [isWh]; omega)).2.2
        | bl b =>
          simp
          exact badc (by simp [isWh])
        | xcp c fs => cases kwk.1
        | ref a =>
          simp [hI]
          exact badc (by simp [isWh])
        | _ =>
          simp
          exact badc (by simp [isWh])
    · rw [badL_count c1] at k
      by_cases c2 : (xs.length : Int) < 2
      · simp [b__law_due, nx, hLT, hx, hlen, c2]
        exact k
      · have c3 : 4 < (xs.length : Int) := by omega
        simp [b__law_due, nx, hLT, hx, hlen, c2, c3]
        exact k
/-- made: the ties, or the word -/
theorem made_ok {lo : Nat} {x : W} (H : Hand h) (hlo : 2 ≤ lo) (T : Thing h lo x) (k1 : ∀ wd h', badW h x = some wd → Hand h' → Fr h h' → Q (.tup [.non, .str wd]) h')
    (k2 : ∀ bs h', badW h x = none → itW h x = some (nW bs) → Hand h' → Fr h h' → TiesAt h' h.length bs → h'.length = h.length + 1 → Q (.tup [.ref h.length, .non]) h') : RW (m__law_made [x] h) Q X := by
  refine RW_run ?_
  have hl := H.len
  have nx := gv_ok (h := h) T.1.1
  simp [b__law_made]
  refine SW_try ?_
  simp [nx]
  refine RW_new rfl ?_
  have fr : Fr h (h ++ [O.ins 57 []]) := Fr.push
  have hx' : itW (h ++ [O.ins 57 []]) x = itW h x := by
    cases x with
    | ref a =>
      have := (T.2.1 a rfl).2
      simp only [itW_ref, rdL]
      rw [List.getElem?_append_left this]
    | _ => rfl
  have kn : Known (h ++ [O.ins 57 []]) x := by
    cases x with
    | ref a =>
      rcases T.1.ref with ⟨xs, e⟩ | ⟨xs, e⟩
      · exact known_lst (get_push e)
      · exact known_dic (get_push e)
    | xcp c fs => cases T.1.1
    | _ => exact ⟨rfl, _, rfl⟩
  have hb : badW (h ++ [O.ins 57 []]) x = badW h x := by unfold badW; rw [hx']
  refine init_ok get_new (.inr (fun z => by have := (T.2.1 _ z).2; omega)) kn (fun xs e w hw => ((T.2.2.1 xs (by rw [← hx']; exact e)).2 w hw).2 _) ?_ ?_
  · intro bs e1 e2
    rw [hx'] at e1
    rw [hb] at e2
    refine ⟨rfl, ?_⟩
    simp [mkTup_ok]
    have hw : badL (nW bs) = none := by unfold badW at e2; rw [e1] at e2; exact e2
    obtain ⟨cs, ec, I, l2, l4⟩ := badL_none hw
    have := nW_inj ec
    subst this
    exact k2 bs _ e2 e1 H.push Fr.push ⟨get_new, I, l2, l4⟩ (by simp)
  · intro wd e
    rw [hb] at e
    refine .inl ⟨rfl, by simp, ?_⟩
    have ex : ∀ h', eXf 1 [1] 0 [some x, some (.xcp 1 [(0, .str wd)]), none] h' = .ok (.str wd) h' := fun h' => eXf_ok rfl (by simp) rfl
    simp [ex, mkTup_ok]
    exact k1 wd _ e H.push fr
/-- a scalar -/
def Scal (x : W) : Prop := (∃ i, x = .int i) ∨ (∃ b, x = .bl b) ∨ x = .non ∨ ∃ z, x = .str z
theorem Scal.known {x : W} (s : Scal x) : Known h x := by
  rcases s with ⟨i, rfl⟩ | ⟨b, rfl⟩ | rfl | ⟨z, rfl⟩ <;> exact ⟨rfl, _, rfl⟩
theorem Scal.eq {x : W} (s : Scal x) : oEq x x h = some (.bl true, h) := by
  rcases s with ⟨i, rfl⟩ | ⟨b, rfl⟩ | rfl | ⟨z, rfl⟩ <;> simp
theorem no_tie_ok {t : Nat} {bs : List Nat} {x : W} {way : Int} (T : TiesAt h t bs) (s : Scal x) (no : isWh x 0 ((bs.length : Int) - 1) = false) (k : Q (.bl true) h) : RW (m__law_no_tie [.ref t, x, .int way] h) Q X := by
  refine RW_run ?_
  have kx : Known h x := s.known
  have nx := gv_ok (h := h) kx.1
  have e : rMeth [⟨57, 2, m_Ties_back, []⟩] (aCons (eVar 1) aNil) [some (.ref t), some x, some (.int way), none, none] (.ref t) h = m_Ties_back [.ref t, x] h := rMeth2 T.1 (by simp [nx])
  have e' : rMeth [⟨57, 2, m_Ties_one_way, []⟩] (aCons (eVar 1) aNil) [some (.ref t), some x, some (.int way), none, none] (.ref t) h = m_Ties_one_way [.ref t, x] h := rMeth2 T.1 (by simp [nx])
  have ex : eXf 3 [2] 1 [some (.ref t), some x, some (.int way), some (.xcp 2 [(1, x)]), none] h = .ok x h := eXf_ok rfl (by simp) rfl
  have hB := isBool_known kx
  simp [b__law_no_tie]
  refine SW_try ?_
  have fin : (([(2, true)] : List (Nat × Bool)).lookup 2 = some true ∧ ([(1, x)] : List (Nat × W)) ≠ [] ∧ SW ((sRet (eAnd (eOp oEq (eXf 3 [2] 1) (eVar 1)) (eOp oEq (eIsi [] isBool (eXf 3 [2] 1)) (eIsi [] isBool (eVar 1)))) [some (.ref t), some x, some (.int way), some (.xcp 2 [(1, x)]), none] h).drop 3) { ptM Q X with n := fun ta h => SW (sRet (eOp oIs (eVar 4) (eC .non)) ta h) (ptM Q X) }) := by
    refine ⟨rfl, by simp, ?_⟩
    simp [ex, nx, s.eq, hB]
    exact k
  by_cases w : way = 0
  · subst w
    simp [e]
    refine back_ok T kx ?_ ?_
    · intro i b hx e1 e2
      subst hx
      have := (List.getElem?_eq_some_iff.mp e1).1
      simp [isWh] at no
      omega
    · intro _
      exact .inl fin
  · simp [w, e']
    refine one_way_ok T kx ?_ ?_
    · intro i b hx e1
      subst hx
      have := (List.getElem?_eq_some_iff.mp e1).1
      simp [isWh] at no
      omega
    · intro _
      exact .inl fin
end
end K01

namespace K01
open PySem PySem.Spec PyProof.Rows L2 J JP
section
variable {h : HA} {X : XP} {Q : W → HA → Prop}
theorem right_ok {t r : Nat} {bs : List Nat} (H : Hand h) (T : TiesAt h t bs) (t2 : 2 ≤ t) (g : h[r]? = some (.lst (nW bs))) (r2 : 2 ≤ r) (k : ∀ h', Hand h' → Fr h h' → Q (.bl true) h') : RW (m__law_right [.ref t, .ref r] h) Q X := by
  refine RW_run ?_
  have hl := H.len
  have f1 : rIsi [57] (isOwn [57] [57]) (.ref t) h = .ok (.bl true) h := by rw [rIsi_ins T.1 (by simp)]; simp
  have f2 : oFld [57] 17 (.ref t) h = some (.tup (nW bs), h) := oFld_ok T.1 (by simp) rfl
  have f3 : fList [.tup (nW bs)] h = some (.ref h.length, h ++ [.lst (nW bs)]) := fList_of rfl
  have fr1 : Fr h (h ++ [.lst (nW bs)]) := Fr.push
  have f4 : oNe (.ref h.length) (.ref r) (h ++ [.lst (nW bs)]) = some (.bl false, h ++ [.lst (nW bs)]) := by
    rw [oNe_of (eqN_ll (bs := bs) (cs := bs) (rdL_of_get get_new) (rdL_of_get (get_push g)))]
    simp
  have H1 : Hand (h ++ [.lst (nW bs)]) := H.push
  have T1 : TiesAt (h ++ [.lst (nW bs)]) t bs := T.fr t2 fr1
  have g1 : (h ++ [.lst (nW bs)])[r]? = some (.lst (nW bs)) := get_push g
  simp [b__law_right, f1, f2, f3, f4]
  generalize hh : h ++ [O.lst (nW bs)] = h1 at *
  have f5 : oFld [57] 18 (.ref t) h1 = some (.int bs.length, h1) := oFld_ok T1.1 (by simp) rfl
  have f6 : fLen [.ref r] h1 = some (.int bs.length, h1) := fLen_nat g1
  obtain ⟨_, I, l2, l4⟩ := id T1
  simp [f5, f6]
  refine SW_forR1 (j := (bs.length : Int)) (h1 := h1) (by omega) (by omega) (by simp [f6]) ?_
  refine SW_forN bs.length (fun k ta h2 => h2 = h1 ∧ ∃ y z w, ta = [some (.ref t), some (.ref r), y, z, w]) ?_ ?_ ⟨rfl, _, _, _, rfl⟩
  · rintro ta h2 ⟨rfl, y, z, w, rfl⟩
    have sc : ∀ w ∈ ([.int (-1), .int bs.length, .bl true, .non, .str "0", .bl false, .int 10000000000000000000000000] : List W), Scal w ∧ isWh w 0 ((bs.length : Int) - 1) = false := by
      intro w hw
      simp at hw
      rcases hw with rfl | rfl | rfl | rfl | rfl | rfl | rfl
      · exact ⟨.inl ⟨_, rfl⟩, by simp [isWh]⟩
      · exact ⟨.inl ⟨_, rfl⟩, by simp [isWh]; omega⟩
      · exact ⟨.inr (.inl ⟨_, rfl⟩), rfl⟩
      · exact ⟨.inr (.inr (.inl rfl)), rfl⟩
      · exact ⟨.inr (.inr (.inr ⟨_, rfl⟩)), rfl⟩
      · exact ⟨.inr (.inl ⟨_, rfl⟩), rfl⟩
      · exact ⟨.inl ⟨_, rfl⟩, by simp [isWh]; omega⟩
    generalize hxs : ([.int (-1), .int bs.length, .bl true, .non, .str "0", .bl false, .int 10000000000000000000000000] : List W) = xs at sc
    have hlx : xs.length = 7 := by rw [← hxs]; rfl
    have fr2 : Fr h2 (h2 ++ [O.lst xs]) := Fr.push
    have T2 : TiesAt (h2 ++ [O.lst xs]) t bs := T1.fr t2 fr2
    simp
    refine SW_for xs (fun k ta h3 => h3 = h2 ++ [O.lst xs] ∧ ∃ y z w, ta = [some (.ref t), some (.ref r), y, z, w]) (w0 := .ref h2.length) (h0 := h2 ++ [O.lst xs]) ?_ (rdL_of_get get_new) (fun k ta h' z => by rw [z.1]; exact rdL_of_get get_new) ?_ ?_ ⟨rfl, _, _, _, rfl⟩
    · simp [f6, hxs]
      exact mkLst_ok (by omega)
    · rintro ta h3 ⟨rfl, y, z, w, rfl⟩
      simp
      exact k _ H1.push (fr1.trans fr2)
    · rintro kk w ta h3 hk ⟨rfl, y, z, w', rfl⟩
      refine ⟨_, _, rfl, ?_⟩
      obtain ⟨s, no⟩ := sc w (List.mem_of_getElem? hk)
      have nw := gv_ok (h := h2 ++ [O.lst xs]) (s.known (h := [])).1
      simp [nw]
      refine no_tie_ok T2 s no ?_
      simp [nw]
      refine no_tie_ok T2 s no ?_
      simp
  · rintro kk ta h2 hk ⟨rfl, y, z, w, rfl⟩
    refine ⟨_, _, rfl, ?_⟩
    obtain ⟨b, e1, e2⟩ := I kk hk
    have hb := (List.getElem?_eq_some_iff.mp e2).1
    have ki : ∀ i : Int, Known h2 (.int i) := fun i => ⟨rfl, _, rfl⟩
    have m1 := rMeth2 (ms := aCons (eVar 2) aNil) (ta := [some (.ref t), some (.ref r), some (.int (kk : Nat)), z, w]) (x := .int (kk : Nat)) (h2 := h2) (g := m_Ties_back) T1.1 (by simp)
    simp [m1]
    refine back_ok T1 (ki _) ?_ ?_
    · intro i b' hx a1 a2
      have : i = kk := by have := W.int.inj hx; omega
      subst this
      rw [e1] at a1
      cases a1
      have x1 : oIx (.ref r) (.int (i : Nat)) h2 = some (.int (b : Nat), h2) := oIx_of (rdL_of_get g1) (by omega) (by simp [e1])
      have m2 := rMeth2 (ms := aCons (eVar 2) aNil) (ta := [some (.ref t), some (.ref r), some (.int (i : Nat)), some (.int (b : Nat)), w]) (x := .int (i : Nat)) (h2 := h2) (g := m_Ties_one_way) T1.1 (by simp)
      simp [x1, m2]
      refine one_way_ok T1 (ki _) ?_ ?_
      · intro i' b' hx a1
        have : i' = i := by have := W.int.inj hx; omega
        subst this
        rw [e1] at a1
        cases a1
        simp [x1]
        refine says_ok ?_
        have m3 := rMeth2 (ms := aCons (eVar 3) aNil) (ta := [some (.ref t), some (.ref r), some (.int (i' : Nat)), some (.int (b : Nat)), w]) (x := .int (b : Nat)) (h2 := h2) (g := m_Ties_back) T1.1 (by simp)
        have dd : decide ((b : Int) = (i' : Int)) = decide (b = i') := by simp [Int.ofNat_inj]
        simp [m3, dd]
        refine back_ok T1 (ki _) ?_ ?_
        · intro i2 b2 hx a1 a2
          have : i2 = b := by have := W.int.inj hx; omega
          subst this
          rw [e2] at a1
          cases a1
          simp
        · intro no
          simp [isWh] at no
          omega
      · intro no
        simp [isWh] at no
        omega
    · intro no
      simp [isWh] at no
      omega
theorem whole_ok (H : Hand h) (k : ∀ h', Q (.bl true) h') : RW (m__law_whole [.ref 1] h) Q X := by
  refine RW_run ?_
  have hl := H.len
  simp [b__law_whole]
  refine draw_ok H (by decide) (by decide) fun u h1 u0 u1 H1 l1 f1 => ?_
  simp
  refine draw_ok H1 (by decide) (by decide) fun v h2 v0 v1 H2 l2 f2 => ?_
  simp
  have ki : ∀ (h' : HA) (i : Int), Known h' (.int i) := fun h' i => ⟨rfl, _, rfl⟩
  generalize hlo : u - 500000000000 = lo
  generalize hhi : lo + v = hi
  generalize hxs : ([.int (lo - 1), .int lo, .int ((lo + hi) / 2), .int hi, .int (hi + 1)] : List W) = xs
  have hlx : xs.length = 5 := by rw [← hxs]; rfl
  have hint : ∀ w ∈ xs, ∃ i, w = .int i := by
    intro w hw
    rw [← hxs] at hw
    simp at hw
    rcases hw with rfl | rfl | rfl | rfl | rfl <;> exact ⟨_, rfl⟩
  have H3 : Hand (h2 ++ [O.lst xs]) := H2.push
  refine SW_for xs (fun k ta h3 => h3 = h2 ++ [O.lst xs] ∧ ∃ y z, ta = [some (.ref 1), some (.int lo), some (.int hi), y, z]) (w0 := .ref h2.length) (h0 := h2 ++ [O.lst xs]) ?_ (rdL_of_get get_new) (fun k ta h' z => by rw [z.1]; exact rdL_of_get get_new) ?_ ?_ ⟨rfl, _, _, rfl⟩
  · simp [hxs]
    exact mkLst_ok (by omega)
  · rintro ta h3 ⟨rfl, y, z, rfl⟩
    generalize h2 ++ [O.lst xs] = h3 at H3
    simp
    generalize hys : ([.non, .str "1", .bl true, .bl false, .tup [.int 1], .ref h3.length] : List W) = ys
    have hly : ys.length = 6 := by rw [← hys]; rfl
    have hk : ∀ w ∈ ys, Known (h3 ++ [O.lst [.int 0], O.lst ys]) w ∧ ∀ i, w ≠ .int i := by
      intro w hw
      rw [← hys] at hw
      simp at hw
      rcases hw with rfl | rfl | rfl | rfl | rfl | rfl
      · exact ⟨⟨rfl, _, rfl⟩, by simp⟩
      · exact ⟨⟨rfl, _, rfl⟩, by simp⟩
      · exact ⟨⟨rfl, _, rfl⟩, by simp⟩
      · exact ⟨⟨rfl, _, rfl⟩, by simp⟩
      · exact ⟨⟨rfl, _, rfl⟩, by simp⟩
      · exact ⟨known_lst (xs := [.int 0]) (by simp), by simp⟩
    have gy : (h3 ++ [O.lst [W.int 0], O.lst ys])[h3.length + 1]? = some (.lst ys) := by
      rw [List.getElem?_append_right (by omega)]
      simp
    have H4 : Hand (h3 ++ [O.lst [W.int 0], O.lst ys]) := H3.push
    refine SW_for ys (fun k ta h4 => h4 = h3 ++ [O.lst [.int 0], O.lst ys] ∧ ∃ y z, ta = [some (.ref 1), some (.int lo), some (.int hi), y, z]) (w0 := .ref (h3.length + 1)) (h0 := h3 ++ [O.lst [.int 0], O.lst ys]) ?_ (rdL_of_get gy) (fun k ta h' z => by rw [z.1]; exact rdL_of_get gy) ?_ ?_ ⟨rfl, _, _, rfl⟩
    · simp [mkTup_ok, mkLst_ok (xs := [W.int 0]), hys]
      rw [mkLst_ok (by omega)]
      simp
    · rintro ta h4 ⟨rfl, y, z, rfl⟩
      generalize h3 ++ [O.lst [W.int 0], O.lst ys] = h4 at H4
      simp
      refine draw_ok H4 (by decide) (by decide) fun n h5 n0 n1 H5 l5 f5 => ?_
      have n2 : n ≤ 1000000000 := by omega
      simp
      refine is_label_ok (ki _ _) ?_
      simp
      refine is_label_ok (ki _ _) ?_
      simp
      refine is_label_ok (ki _ _) ?_
      have q : oEq (.ref h5.length) (.ref (h5.length + 1)) (h5 ++ [O.lst [.bl true, .bl true, .bl true], O.lst [.bl true, .bl true, .bl true]]) = some (.bl true, h5 ++ [O.lst [.bl true, .bl true, .bl true], O.lst [.bl true, .bl true, .bl true]]) := oEq_of (eqW_same (xs := [.bl true, .bl true, .bl true]) (rdL_of_get (by simp)) (rdL_of_get (by simp)) (by
        intro w hw
        simp at hw
        subst hw
        exact Ent.bl _))
      simp [isWh, n0, n2, mkLst_ok, q]
      refine is_label_ok (ki _ _) ?_
      simp [isWh]
      refine is_label_ok (ki _ _) ?_
      simp [isWh]
      exact k _
    · rintro kk w ta h4 hk2 ⟨rfl, y, z, rfl⟩
      refine ⟨_, _, rfl, ?_⟩
      obtain ⟨kw, nw⟩ := hk w (List.mem_of_getElem? hk2)
      have gw := gv_ok (h := h3 ++ [O.lst [.int 0], O.lst ys]) kw.1
      have no : ∀ lo hi, isWh w lo hi = false := fun lo hi => by
        cases w with
        | int i => exact absurd rfl (nw i)
        | _ => rfl
      simp [gw]
      refine is_whole_ok kw ?_
      simp [no, gw]
      refine is_label_ok kw ?_
      simp [no]
  · rintro kk w ta h3 hk ⟨rfl, y, z, rfl⟩
    refine ⟨_, _, rfl, ?_⟩
    obtain ⟨i, rfl⟩ := hint w (List.mem_of_getElem? hk)
    simp
    refine is_whole_ok (ki _ _) ?_
    by_cases c : lo ≤ i
    · simp [c]
      refine says_ok ?_
      simp [isWh, c]
    · simp [c]
      refine says_ok ?_
      simp [isWh, c]
end
end K01

namespace K01
open PySem PySem.Spec PyProof.Rows L2 J JP
/-- the first three places aside, all stays -/
def K3 (h h' : HA) : Prop := ∀ i o, 3 ≤ i → h[i]? = some o → h'[i]? = some o
theorem K3.of {h h' : HA} (f : Fr h h') : K3 h h' := fun i o hi e => f.2 i o (by omega) e
theorem K3.trans {h h' h2 : HA} (a : K3 h h') (b : K3 h' h2) : K3 h h2 := fun i o hi e => b i o hi (a i o hi e)
theorem K3.set2 {h : HA} {o : O} : K3 h (h.set 2 o) := fun i o hi e => by rw [List.getElem?_set_ne (by omega)]; exact e
theorem K3.setA {h h' : HA} (f : K3 h h') {a : Nat} {o : O} (ha : h.length ≤ a) : K3 h (h'.set a o) := fun i o hi e => by
  have := (List.getElem?_eq_some_iff.mp e).1
  rw [List.getElem?_set_ne (by omega)]
  exact f i o hi e
/-- a pair: ties, and the row they were made of -/
def PairOk (h : HA) (w : W) : Prop := ∃ t r bs, w = .tup [.ref t, .ref r] ∧ TiesAt h t bs ∧ h[r]? = some (.lst (nW bs)) ∧ 3 ≤ t ∧ 3 ≤ r
theorem PairOk.keep {h h' : HA} {w : W} (p : PairOk h w) (f : K3 h h') : PairOk h' w := by
  obtain ⟨t, r, bs, rfl, a, b, c, d⟩ := p
  exact ⟨t, r, bs, rfl, ⟨f _ _ c a.1, a.2⟩, f _ _ d b, c, d⟩
/-- what stands: the hand, the pairs -/
def Made (ps : List W) (h : HA) : Prop := Hand h ∧ h[2]? = some (.lst ps) ∧ ∀ w ∈ ps, PairOk h w
theorem Made.fr {ps : List W} {h h' : HA} (m : Made ps h) (H : Hand h') (f : Fr h h') : Made ps h' := ⟨H, f.get (Nat.le_refl _) m.2.1, fun w hw => (m.2.2 w hw).keep (K3.of f)⟩
theorem thing_push {h : HA} {l : List O} {lo : Nat} {x : W} (T : Thing h lo x) : Thing (h ++ l) lo x ∧ itW (h ++ l) x = itW h x := by
  cases x with
  | ref a =>
    have ha := T.2.1 a rfl
    have e : itW (h ++ l) (.ref a) = itW h (.ref a) := by
      simp only [itW_ref, rdL]
      rw [List.getElem?_append_left ha.2]
    refine ⟨⟨?_, fun b z => by cases z; exact ⟨ha.1, by simp; omega⟩, fun xs q => T.2.2.1 xs (by rw [← e]; exact q), T.2.2.2⟩, e⟩
    rcases T.1.ref with ⟨xs, q⟩ | ⟨xs, q⟩
    · exact known_lst (get_push q)
    · exact known_dic (get_push q)
  | xcp c fs => cases T.1.1
  | tup xs => exact ⟨⟨⟨rfl, _, rfl⟩, fun _ z => (by cases z), fun ys q => T.2.2.1 ys q, T.2.2.2⟩, rfl⟩
  | cst xs => exact ⟨⟨⟨rfl, _, rfl⟩, fun _ z => (by cases z), fun ys q => T.2.2.1 ys q, T.2.2.2⟩, rfl⟩
  | _ => exact ⟨⟨⟨rfl, _, rfl⟩, fun _ z => (by cases z), fun ys q => T.2.2.1 ys q, T.2.2.2⟩, rfl⟩
/-- the frame of the law -/
def LFr (sc : List W) (ta : En) : Prop := ∃ x3 x4 x5 x6 x7 x8 x9 x10 x11 x12 x13 : Option W, ta = [some (.cst sc), some (.ref 1), some (.ref 2), x3, x4, x5, x6, x7, x8, x9, x10, x11, x12, x13]
def LInv (sc : List W) (k : Nat) (ta : En) (h : HA) : Prop := LFr sc ta ∧ ∃ ps, Made ps h ∧ ps.length ≤ k
def sTurn : Sx := (sSeq (sSet 4 (eCall m__law_thing 1 [] (aCons (eVar 1) aNil))) (sSeq (sSet 5 (eIf (xTru (eIsi [] isLT (eVar 4))) (eFn fList (aCons (eVar 4) aNil)) (eVar 4))) (sSeq (sSet 6 (eCall m__law_due 1 [] (aCons (eVar 4) aNil))) (sSeq (sAsg (eCall m__law_made 1 [] (aCons (eVar 4) aNil)) (gTp 2 (gsCons (gNm 7) (gsCons (gNm 8) gsNil)))) (sSeq (sIf (xTb (eOp oNe (eVar 8) (eVar 6))) (sRet (eC (.bl false))) sPass) (sSeq (sIf (xAnd (xTru (eIsi [] isLT (eVar 4))) (xTb (eOp oNe (eFn fList (aCons (eVar 4) aNil)) (eVar 5)))) (sRet (eC (.bl false))) sPass) (sIf (xTb (eOp oIs (eVar 6) (eC .non))) (sSeq (sIf (xNot (xTru (eCall m__law_right 2 [] (aCons (eVar 7) (aCons (eVar 5) aNil))))) (sRet (eC (.bl false))) sPass) (sSeq (sIf (xTru (eIsi [] isLst (eVar 4))) (sAsg (eC (.int 7)) (gSb (eVar 4) (eC (.int 0)))) sPass) (sSeq (sIf (xNot (xTru (eCall m__law_right 2 [] (aCons (eVar 7) (aCons (eVar 5) aNil))))) (sRet (eC (.bl false))) sPass) (sExp (eLm mAppend (eVar 2) (aCons (eTup (aCons (eVar 7) (aCons (eVar 5) aNil))) aNil)))))) sPass)))))))
theorem ent_of {xs : List W} (f : ∀ w ∈ xs, Flat w) : ∀ w ∈ xs, Ent w := fun w hw => (f w hw).1
theorem turn_ok {sc : List W} {k : Nat} {ta : En} {h : HA} {p : Pt} (I : LInv sc k ta h) (hk : k < 100) (hn : ∀ ta h, LInv sc (k + 1) ta h → p.n ta h) (hr : p.x = fun _ _ _ _ => False) : SW (sTurn ta h) p := by
  obtain ⟨⟨x3, x4, x5, x6, x7, x8, x9, x10, x11, x12, x13, rfl⟩, ps, M, lp⟩ := I
  have h3 : 3 ≤ h.length := (List.getElem?_eq_some_iff.mp M.2.1).1
  simp [sTurn]
  refine thing_ok M.1 fun x h1 H1 f1 T1 => ?_
  have n1 := fun h => gv_ok (h := h) T1.1.1
  have iLT := isLT_thing T1
  cases hx : itW h1 x with
  | none =>
    have hb : badW h1 x = some ("row" : Str) := by unfold badW; rw [hx]
    simp [n1, iLT, hx]
    refine due_ok T1 ?_
    rw [hb]
    simp [n1, wordW]
    refine made_ok H1 (by omega) T1 ?_ ?_
    · intro wd h2 e H2 f2
      rw [hb] at e
      cases e
      simp [n1]
      have T2 : rIsi [] isLT x h2 = .ok (.bl false) h2 := by
        cases x with
        | ref a =>
          rcases T1.1.ref with ⟨xs, e⟩ | ⟨xs, e⟩
          · rw [itW_ref, rdL_of_get e] at hx; cases hx
          · have := f2.get (by have := (T1.2.1 a rfl).1; omega) e
            rw [rIsi_dic this]; simp
        | tup xs => cases hx
        | cst xs => cases hx
        | xcp c fs => cases T1.1.1
        | _ => simp
      simp [T2]
      exact hn _ _ ⟨⟨_, _, _, _, _, _, _, _, _, _, _, rfl⟩, ps, M.fr H2 (f1.trans f2), by omega⟩
    · intro bs h2 e
      rw [hb] at e
      cases e
  | some xs =>
    have hb : badW h1 x = badL xs := by unfold badW; rw [hx]
    obtain ⟨lx, fx⟩ := T1.2.2.1 xs hx
    have eL : fList [x] h1 = some (.ref h1.length, h1 ++ [.lst xs]) := fList_of hx
    obtain ⟨T2, hx2⟩ := thing_push (l := [O.lst xs]) T1
    have hb2 : badW (h1 ++ [O.lst xs]) x = badL xs := by unfold badW; rw [hx2, hx]
    have H2 : Hand (h1 ++ [O.lst xs]) := H1.push
    have f2 : Fr h1 (h1 ++ [O.lst xs]) := Fr.push
    have g2 : (h1 ++ [O.lst xs])[h1.length]? = some (.lst xs) := get_new
    simp [n1, iLT, hx, eL]
    have l2 : (h1 ++ [O.lst xs]).length = h1.length + 1 := by simp
    have hlen : 3 ≤ h1.length := by have := f1.1; omega
    generalize h1 ++ [O.lst xs] = h2 at T2 hx2 hb2 H2 f2 g2 l2
    refine due_ok T2 ?_
    simp [n1]
    -- the thing is a row still
    have again : ∀ h4, Fr h2 h4 → rIsi [] isLT x h4 = .ok (.bl true) h4 ∧ fList [x] h4 = some (.ref h4.length, h4 ++ [.lst xs]) ∧ oNe (.ref h4.length) (.ref h1.length) (h4 ++ [.lst xs]) = some (.bl false, h4 ++ [.lst xs]) := by
      intro h4 f4
      have q : oNe (.ref h4.length) (.ref h1.length) (h4 ++ [.lst xs]) = some (.bl false, h4 ++ [.lst xs]) := by
        rw [oNe_of (eqW_same (rdL_of_get get_new) (rdL_of_get (get_push (f4.get (by omega) g2))) (ent_of fx))]
        rfl
      have z : itW h4 x = some xs := by
        cases x with
        | ref a =>
          rw [hx] at hx2
          rcases T2.1.ref with ⟨ys, e⟩ | ⟨ys, e⟩
          · rw [itW_ref, rdL_of_get e] at hx2
            cases hx2
            exact rdL_of_get (f4.get (by have := (T2.2.1 a rfl).1; omega) e)
          · rw [itW_ref, rdL, e] at hx2
            cases hx2
        | tup ys => exact hx
        | cst ys => exact hx
        | _ => cases hx
      have z2 : rIsi [] isLT x h4 = .ok (.bl true) h4 := by
        cases x with
        | ref a =>
          have z' : rdL h4 a = some xs := z
          unfold rdL at z'
          split at z'
          · rename_i ys e
            rw [rIsi_lst e]; simp
          · cases z'
        | tup ys => simp
        | cst ys => simp
        | _ => cases hx
      exact ⟨z2, fList_of z, q⟩
    refine made_ok H2 (by omega) T2 ?_ ?_
    · intro wd h4 e H4 f4
      rw [hb2] at e
      obtain ⟨a1, a2, a3⟩ := again h4 f4
      simp [hb2, e, wordW, a1, a2, a3, n1]
      exact hn _ _ ⟨⟨_, _, _, _, _, _, _, _, _, _, _, rfl⟩, ps, M.fr H4.push (((f1.trans f2).trans f4).trans Fr.push), by omega⟩
    · intro bs h4 e hxs H4 f4 T4 l4
      rw [hx2, hx] at hxs
      cases hxs
      rw [hb2] at e
      obtain ⟨a1, a2, a3⟩ := again h4 f4
      have g4 : h4[h1.length]? = some (.lst (nW bs)) := f4.get (by omega) g2
      simp [hb2, e, wordW, a1, a2, a3, n1]
      have f5 : Fr h4 (h4 ++ [O.lst (nW bs)]) := Fr.push
      refine right_ok H4.push (T4.fr (by omega) f5) (by omega) (get_push g4) (by omega) fun h6 H6 f6 => ?_
      have f46 : Fr h4 h6 := f5.trans f6
      have T6 := T4.fr (by omega) f46
      have g6 := f46.get (by omega) g4
      have fr6 : Fr h h6 := ((f1.trans f2).trans f4).trans f46
      -- the end, whatever became of the thing
      have fin : ∀ h7 : HA, Hand h7 → K3 h h7 → h7[2]? = some (.lst ps) → TiesAt h7 h2.length bs → h7[h1.length]? = some (.lst (nW bs)) →
          SW ((sSeq (sIf (xNot (xTru (eCall m__law_right 2 [] (aCons (eVar 7) (aCons (eVar 5) aNil))))) (sRet (eC (.bl false))) sPass) (sExp (eLm mAppend (eVar 2) (aCons (eTup (aCons (eVar 7) (aCons (eVar 5) aNil))) aNil)))) [some (.cst sc), some (.ref 1), some (.ref 2), x3, some x, some (.ref h1.length), some .non, some (.ref h2.length), some .non, x9, x10, x11, x12, x13] h7) p := by
        intro h7 H7 k7 m7 T7 g7
        simp
        refine right_ok H7 T7 (by omega) g7 (by omega) fun h8 H8 f8 => ?_
        have m8 := f8.get (by omega) m7
        have ap := mAppend_ok (x := .tup [.ref h2.length, .ref h1.length]) m8 (by omega)
        simp [rLm_ok m8, mkTup_ok, ap]
        refine hn _ _ ⟨⟨_, _, _, _, _, _, _, _, _, _, _, rfl⟩, ps ++ [.tup [.ref h2.length, .ref h1.length]], ⟨H8.set (by omega), by rw [List.getElem?_set_self (List.getElem?_eq_some_iff.mp m8).1], ?_⟩, by simp; omega⟩
        intro w hw
        rcases List.mem_append.mp hw with hw | hw
        · exact (M.2.2 w hw).keep ((k7.trans (K3.of f8)).trans K3.set2)
        · rw [List.mem_singleton.mp hw]
          refine PairOk.keep (h := h8) ⟨_, _, bs, rfl, T7.fr (by omega) f8, f8.get (by omega) g7, by omega, by omega⟩ K3.set2
      have m6 := fr6.get (by omega) M.2.1
      cases x with
      | ref a =>
        have ha := T1.2.1 a rfl
        have ea : h6[a]? = some (.lst (nW bs)) := by
          have q1 : rdL h2 a = some (nW bs) := by rw [← itW_ref, hx2, hx]
          unfold rdL at q1
          split at q1
          · rename_i ys e5
            cases q1
            exact f46.get (by omega) (f4.get (by omega) e5)
          · cases q1
        have w1 := setW_ok (k := 0) (w := .int 7) ea (by omega) (by rw [nW_len]; have := T4.2.2.1; omega)
        simp [rIsi_lst ea, w1]
        have := fin (h6.set a (.lst ((nW bs).set 0 (.int 7)))) (H6.set (by omega)) ((K3.of fr6).setA ha.1) (by rw [List.getElem?_set_ne (by omega)]; exact m6) ⟨by rw [List.getElem?_set_ne (by omega)]; exact T6.1, T6.2⟩ (by rw [List.getElem?_set_ne (by omega)]; exact g6)
        simpa using this
      | tup ys =>
        simp
        have := fin h6 H6 (K3.of fr6) m6 T6 g6
        simpa using this
      | cst ys =>
        exact absurd rfl (T1.2.2.2 ys)
      | _ => cases hx
end K01

namespace K01
open PySem PySem.Spec PyProof.Rows L2 J JP
theorem target2 {w : W} {h0 h : HA} {ta : En} {i j : Nat} (p : PairOk h0 w) : ∃ t r bs, w = .tup [.ref t, .ref r] ∧ TiesAt h0 t bs ∧ h0[r]? = some (.lst (nW bs)) ∧ 3 ≤ t ∧ 3 ≤ r ∧ gTp 2 (gsCons (gNm i) (gsCons (gNm j) gsNil)) w ta h = some ((ta.set i (some (.ref t))).set j (some (.ref r)), h) := by
  obtain ⟨t, r, bs, rfl, a⟩ := p
  exact ⟨t, r, bs, rfl, a.1, a.2.1, a.2.2.1, a.2.2.2, rfl⟩
theorem law_plain (ns : List Int) (hl : ns.length ≤ 63) : ∃ h', m_law [.cst (ns.map W.int)] [] = .ok (.bl true) h' := by
  have key : RW (m_law [.cst (ns.map W.int)] []) (fun w _ => w = .bl true) nox := by
    refine RW_run ?_
    simp [b_law]
    refine hand_ok hl fun h H l => ?_
    simp [mkLst_ok, l]
    have e0 : LFr (ns.map W.int) [some (.cst (ns.map W.int)), some (.ref 1), some (.ref 2), none, none, none, none, none, none, none, none, none, none, none] := ⟨_, _, _, _, _, _, _, _, _, _, _, rfl⟩
    have m0 : Made [] (h ++ [O.lst []]) := ⟨H.push, by rw [← l]; exact get_new, by simp⟩
    generalize hsc : ns.map W.int = sc at *
    refine SW_forR1 (j := 3) (h1 := h ++ [O.lst []]) (by decide) (by decide) (by simp) ?_
    refine SW_forN 3 (LInv sc) ?_ ?_ ⟨e0, [], m0, by simp⟩
    · rintro ta h1 ⟨⟨x3, x4, x5, x6, x7, x8, x9, x10, x11, x12, x13, rfl⟩, ps, M, lp⟩
      have h3 : 3 ≤ h1.length := (List.getElem?_eq_some_iff.mp M.2.1).1
      simp
      refine draw_ok M.1 (by decide) (by decide) fun v h2 v0 v3 H2 l2 f2 => ?_
      obtain ⟨n, rfl⟩ : ∃ n : Nat, v = n := ⟨v.toNat, by omega⟩
      simp
      refine backs_ok2 H2 (2 + n) (by omega) (by omega) fun h4 bs H4 f4 l4 g4 lb Ib => ?_
      have eL : fList [.ref h2.length] h4 = some (.ref h4.length, h4 ++ [.lst (nW bs)]) := fList_lst g4
      have M4 : Made ps h4 := M.fr H4 (f2.trans f4)
      have ex2 : h4[2]? = some (.lst ps) := M4.2.1
      simp [rLm_ok ex2, eL]
      have g5 : (h4 ++ [O.lst (nW bs)])[h4.length]? = some (.lst (nW bs)) := get_new
      have g5' : (h4 ++ [O.lst (nW bs)])[h2.length]? = some (.lst (nW bs)) := get_push g4
      have M5 : Made ps (h4 ++ [O.lst (nW bs)]) := M4.fr H4.push Fr.push
      have l5 : (h4 ++ [O.lst (nW bs)]).length = h4.length + 1 := by simp
      generalize h4 ++ [O.lst (nW bs)] = h5 at *
      have bd : badW (h5 ++ [O.ins 57 []]) (.ref h4.length) = none := by
        unfold badW
        rw [show itW (h5 ++ [O.ins 57 []]) (.ref h4.length) = some (nW bs) from rdL_of_get (get_push g5)]
        exact badL_ok ⟨by omega, by omega⟩ Ib
      refine RW_new rfl ?_
      refine init_ok get_new (.inr (by intro z; have := W.ref.inj z; omega)) (known_lst (get_push g5)) (fun xs e w hw => ?_) ?_ ?_
      · rw [itW_ref, rdL_of_get (get_push g5)] at e
        cases e
        exact (nW_flat bs w hw).2 _
      · intro cs e1 _
        rw [itW_ref, rdL_of_get (get_push g5)] at e1
        have := nW_inj (Option.some.inj e1)
        subst this
        refine ⟨rfl, ?_⟩
        have M6 : Made ps (h5 ++ [O.ins 57 [(17, .tup (nW bs)), (18, .int bs.length)]]) := M5.fr M5.1.push Fr.push
        have T6 : TiesAt (h5 ++ [O.ins 57 [(17, .tup (nW bs)), (18, .int bs.length)]]) h5.length bs := ⟨get_new, Ib, by omega, by omega⟩
        have g6 : (h5 ++ [O.ins 57 [(17, .tup (nW bs)), (18, .int bs.length)]])[h2.length]? = some (.lst (nW bs)) := get_push g5'
        simp
        generalize h5 ++ [O.ins 57 [(17, .tup (nW bs)), (18, .int bs.length)]] = h6 at *
        have ap := mAppend_ok (x := .tup [.ref h5.length, .ref h2.length]) M6.2.1 (by omega)
        simp [mkTup_ok, ap]
        have M7 : Made (ps ++ [.tup [.ref h5.length, .ref h2.length]]) (h6.set 2 (.lst (ps ++ [.tup [.ref h5.length, .ref h2.length]]))) := by
          refine ⟨M6.1.set (by omega), by rw [List.getElem?_set_self (List.getElem?_eq_some_iff.mp M6.2.1).1], ?_⟩
          intro w hw
          refine PairOk.keep (h := h6) ?_ K3.set2
          rcases List.mem_append.mp hw with hw | hw
          · exact M6.2.2 w hw
          · rw [List.mem_singleton.mp hw]
            exact ⟨_, _, bs, rfl, T6, g6, by omega, by omega⟩
        generalize ps ++ [W.tup [.ref h5.length, .ref h2.length]] = qs at *
        generalize h6.set 2 (.lst qs) = h7 at *
        refine SW_for qs (fun _ ta h => LFr sc ta ∧ Made qs h) (w0 := .ref 2) (h0 := h7) (by simp) (rdL_of_get M7.2.1) (fun _ _ _ z => rdL_of_get z.2.2.1) ?_ ?_ ⟨⟨_, _, _, _, _, _, _, _, _, _, _, rfl⟩, M7⟩
        · rintro ta h8 ⟨⟨x3, x4, x5, x6, x7, x8, x9, x10, x11, x12, x13, rfl⟩, M8⟩
          simp
          refine whole_ok M8.1 fun h9 => ?_
          simp
        · rintro kk w ta h8 hk ⟨⟨x3, x4, x5, x6, x7, x8, x9, x10, x11, x12, x13, rfl⟩, M8⟩
          obtain ⟨t, r, cs, rfl, T, g, t3, r3, e⟩ := target2 (i := 10) (j := 11) (ta := [some (.cst sc), some (.ref 1), some (.ref 2), x3, x4, x5, x6, x7, x8, x9, x10, x11, x12, x13]) (h := h8) (M8.2.2 w (List.mem_of_getElem? hk))
          refine ⟨_, _, e, ?_⟩
          simp
          refine SW_for qs (fun _ ta h => (∃ y12 y13, ta = [some (.cst sc), some (.ref 1), some (.ref 2), x3, x4, x5, x6, x7, x8, x9, some (.ref t), some (.ref r), y12, y13]) ∧ Made qs h ∧ TiesAt h t cs ∧ h[r]? = some (.lst (nW cs))) (w0 := .ref 2) (h0 := h8) (by simp) (rdL_of_get M8.2.1) (fun _ _ _ z => rdL_of_get z.2.1.2.1) ?_ ?_ ⟨⟨_, _, rfl⟩, M8, T, g⟩
          · rintro ta h9 ⟨⟨y12, y13, rfl⟩, M9, T9, g9⟩
            have eT : fTuple [.ref r] h9 = some (.tup (nW cs), h9) := fTuple_of (w := .ref r) (rdL_of_get g9)
            have eC := eqC_ins (cs := [57]) (g := m_Ties_zzeqzz) (y := .tup (nW cs)) (tg := .tup) T9.1 rfl
            simp [eT, eC]
            refine ties_eq_no ?_
            simp
            exact ⟨⟨_, _, _, _, _, _, _, _, _, _, _, rfl⟩, M9⟩
          · rintro k2 w2 ta h9 hk2 ⟨⟨y12, y13, rfl⟩, M9, T9, g9⟩
            obtain ⟨t', r', ds, rfl, T', g', t3', r3', e'⟩ := target2 (i := 12) (j := 13) (ta := [some (.cst sc), some (.ref 1), some (.ref 2), x3, x4, x5, x6, x7, x8, x9, some (.ref t), some (.ref r), y12, y13]) (h := h9) (M9.2.2 w2 (List.mem_of_getElem? hk2))
            refine ⟨_, _, e', ?_⟩
            have eC := eqC_ins (cs := [57]) (g := m_Ties_zzeqzz) (y := .ref t') (tg := .ins 57) T9.1 (tgC_ins T'.1 (by simp))
            have eR := oEq_of (eqN_ll (bs := cs) (cs := ds) (rdL_of_get g9) (rdL_of_get g'))
            simp [eC]
            refine ties_eq_ok T9 T' ?_
            simp [eR]
            refine says_ok ?_
            simp
            refine right_ok M9.1 T' (by omega) g' (by omega) fun h10 H10 f10 => ?_
            simp
            exact ⟨M9.fr H10 f10, T9.fr (by omega) f10, f10.get (by omega) g9⟩
      · intro wd e
        rw [bd] at e
        cases e
    · rintro k ta h1 hk ⟨⟨x3, x4, x5, x6, x7, x8, x9, x10, x11, x12, x13, rfl⟩, I⟩
      refine ⟨_, _, rfl, ?_⟩
      exact turn_ok ⟨⟨_, _, _, _, _, _, _, _, _, _, _, rfl⟩, I⟩ (by omega) (fun _ _ z => z) rfl
  obtain ⟨w, h', e, rfl⟩ := key.get
  exact ⟨h', e⟩
end K01

namespace K01
open PySem PySem.Spec PyProof.Rows L2 J
def dd__law_hand : He.DefD := ⟨("_law_hand", none), "_law_hand", "_law_hand", defArgs s__law_hand, defBody s__law_hand, defScope s__law_hand, [], []⟩
def dd__law_mix : He.DefD := ⟨("_law_mix", none), "_law_mix", "_law_mix", defArgs s__law_mix, defBody s__law_mix, defScope s__law_mix, [], []⟩
def dd__law_draw : He.DefD := ⟨("_law_draw", none), "_law_draw", "_law_draw", defArgs s__law_draw, defBody s__law_draw, defScope s__law_draw, [], []⟩
def dd__law_backs : He.DefD := ⟨("_law_backs", none), "_law_backs", "_law_backs", defArgs s__law_backs, defBody s__law_backs, defScope s__law_backs, [], []⟩
def dd__law_thing : He.DefD := ⟨("_law_thing", none), "_law_thing", "_law_thing", defArgs s__law_thing, defBody s__law_thing, defScope s__law_thing, [], []⟩
def dd__law_due : He.DefD := ⟨("_law_due", none), "_law_due", "_law_due", defArgs s__law_due, defBody s__law_due, defScope s__law_due, [], []⟩
def dd_BadTies_zzinitzz : He.DefD := ⟨("BadTies", some "__init__"), "__init__", "BadTies.__init__", defArgs s_BadTies_zzinitzz, defBody s_BadTies_zzinitzz, defScope s_BadTies_zzinitzz, [], []⟩
def dd_is_whole : He.DefD := ⟨("is_whole", none), "is_whole", "is_whole", defArgs s_is_whole, defBody s_is_whole, defScope s_is_whole, [], []⟩
def dd_Ties_zzinitzz : He.DefD := ⟨("Ties", some "__init__"), "__init__", "Ties.__init__", defArgs s_Ties_zzinitzz, defBody s_Ties_zzinitzz, defScope s_Ties_zzinitzz, [], []⟩
def dd__law_made : He.DefD := ⟨("_law_made", none), "_law_made", "_law_made", defArgs s__law_made, defBody s__law_made, defScope s__law_made, [], []⟩
def dd_Ties_zzeqzz : He.DefD := ⟨("Ties", some "__eq__"), "__eq__", "Ties.__eq__", defArgs s_Ties_zzeqzz, defBody s_Ties_zzeqzz, defScope s_Ties_zzeqzz, [], []⟩
def dd__law_says : He.DefD := ⟨("_law_says", none), "_law_says", "_law_says", defArgs s__law_says, defBody s__law_says, defScope s__law_says, [], []⟩
def dd_is_label : He.DefD := ⟨("is_label", none), "is_label", "is_label", defArgs s_is_label, defBody s_is_label, defScope s_is_label, [], []⟩
def dd__law_whole : He.DefD := ⟨("_law_whole", none), "_law_whole", "_law_whole", defArgs s__law_whole, defBody s__law_whole, defScope s__law_whole, [], []⟩
def dd_NoTie_zzinitzz : He.DefD := ⟨("NoTie", some "__init__"), "__init__", "NoTie.__init__", defArgs s_NoTie_zzinitzz, defBody s_NoTie_zzinitzz, defScope s_NoTie_zzinitzz, [], []⟩
def dd_Ties_back : He.DefD := ⟨("Ties", some "back"), "back", "Ties.back", defArgs s_Ties_back, defBody s_Ties_back, defScope s_Ties_back, [], []⟩
def dd_Ties_one_way : He.DefD := ⟨("Ties", some "one_way"), "one_way", "Ties.one_way", defArgs s_Ties_one_way, defBody s_Ties_one_way, defScope s_Ties_one_way, [], []⟩
def dd__law_no_tie : He.DefD := ⟨("_law_no_tie", none), "_law_no_tie", "_law_no_tie", defArgs s__law_no_tie, defBody s__law_no_tie, defScope s__law_no_tie, [], []⟩
def dd__law_right : He.DefD := ⟨("_law_right", none), "_law_right", "_law_right", defArgs s__law_right, defBody s__law_right, defScope s__law_right, [], []⟩
def dd_law : He.DefD := ⟨("law", none), "law", "law", defArgs s_law, defBody s_law, defScope s_law, [], []⟩
def fa : List He.Fa := [.free "int", .free "enumerate", .free "abs", .glo "_law_hand", .glo "_law_mix", .free "len", .glo "_law_draw", .free "list", .free "range", .glo "_law_backs", .free "tuple", .glo "_law_thing", .free "isinstance", .free "bool", .glo "_law_due", .glo "BadTies", .glo "is_whole", .int "MOST_TIES" (4), .cls "Ties", .noat "Ties" "backs", .noat "Ties" "many", .glo "Ties", .mkr "Ties", .glo "_law_made", .glo "_law_says", .int "MOST_LABEL" (1000000000), .glo "is_label", .glo "_law_whole", .glo "NoTie", .meth "Ties" "back", .meth "Ties" "one_way", .glo "_law_no_tie", .glo "_law_right", .glo "law"]
def fn : List He.DefD := [dd__law_hand, dd__law_mix, dd__law_draw, dd__law_backs, dd__law_thing, dd__law_due, dd_BadTies_zzinitzz, dd_is_whole, dd_Ties_zzinitzz, dd__law_made, dd_Ties_zzeqzz, dd__law_says, dd_is_label, dd__law_whole, dd_NoTie_zzinitzz, dd_Ties_back, dd_Ties_one_way, dd__law_no_tie, dd__law_right, dd_law]
theorem facts_of {K : PySem.W.Frag} {h h0 : Heap} {w : World} {mg : Str → Option Value} (X : K.In h) (G : h.Ns mainGlobals mg) (c : He.SaysX fa fn [] [] (exAll exs) w h0 K) : Facts K mg where
  ex := c.more
  d__law_hand := c.t.d.def_ 0 (d := dd__law_hand) rfl
  f_int := He.free_ok X G (c.t.d.fact 0 rfl)
  f_enumerate := He.free_ok X G (c.t.d.fact 1 rfl)
  f_abs := He.free_ok X G (c.t.d.fact 2 rfl)
  g__law_hand := He.glo_ok X G (c.t.d.fact 3 rfl)
  d__law_mix := c.t.d.def_ 1 (d := dd__law_mix) rfl
  g__law_mix := He.glo_ok X G (c.t.d.fact 4 rfl)
  d__law_draw := c.t.d.def_ 2 (d := dd__law_draw) rfl
  f_len := He.free_ok X G (c.t.d.fact 5 rfl)
  g__law_draw := He.glo_ok X G (c.t.d.fact 6 rfl)
  d__law_backs := c.t.d.def_ 3 (d := dd__law_backs) rfl
  f_list := He.free_ok X G (c.t.d.fact 7 rfl)
  f_range := He.free_ok X G (c.t.d.fact 8 rfl)
  g__law_backs := He.glo_ok X G (c.t.d.fact 9 rfl)
  d__law_thing := c.t.d.def_ 4 (d := dd__law_thing) rfl
  f_tuple := He.free_ok X G (c.t.d.fact 10 rfl)
  g__law_thing := He.glo_ok X G (c.t.d.fact 11 rfl)
  d__law_due := c.t.d.def_ 5 (d := dd__law_due) rfl
  f_isinstance := He.free_ok X G (c.t.d.fact 12 rfl)
  f_bool := He.free_ok X G (c.t.d.fact 13 rfl)
  g__law_due := He.glo_ok X G (c.t.d.fact 14 rfl)
  d_BadTies_zzinitzz := c.t.d.def_ 6 (d := dd_BadTies_zzinitzz) rfl
  g_BadTies := He.glo_ok X G (c.t.d.fact 15 rfl)
  d_is_whole := c.t.d.def_ 7 (d := dd_is_whole) rfl
  g_is_whole := He.glo_ok X G (c.t.d.fact 16 rfl)
  d_Ties_zzinitzz := c.t.d.def_ 8 (d := dd_Ties_zzinitzz) rfl
  i_MOST_TIES := He.int_ok X G (c.t.d.fact 17 rfl)
  cls_Ties := He.cls_ok (c.t.d.fact 18 rfl)
  no_Ties_backs := He.noat_ok (c.t.d.fact 19 rfl)
  no_Ties_many := He.noat_ok (c.t.d.fact 20 rfl)
  g_Ties := He.glo_ok X G (c.t.d.fact 21 rfl)
  mk_Ties := He.mkr_ok (c.t.d.fact 22 rfl)
  d__law_made := c.t.d.def_ 9 (d := dd__law_made) rfl
  g__law_made := He.glo_ok X G (c.t.d.fact 23 rfl)
  d_Ties_zzeqzz := c.t.d.def_ 10 (d := dd_Ties_zzeqzz) rfl
  d__law_says := c.t.d.def_ 11 (d := dd__law_says) rfl
  g__law_says := He.glo_ok X G (c.t.d.fact 24 rfl)
  d_is_label := c.t.d.def_ 12 (d := dd_is_label) rfl
  i_MOST_LABEL := He.int_ok X G (c.t.d.fact 25 rfl)
  g_is_label := He.glo_ok X G (c.t.d.fact 26 rfl)
  d__law_whole := c.t.d.def_ 13 (d := dd__law_whole) rfl
  g__law_whole := He.glo_ok X G (c.t.d.fact 27 rfl)
  d_NoTie_zzinitzz := c.t.d.def_ 14 (d := dd_NoTie_zzinitzz) rfl
  g_NoTie := He.glo_ok X G (c.t.d.fact 28 rfl)
  d_Ties_back := c.t.d.def_ 15 (d := dd_Ties_back) rfl
  me_Ties_back := He.meth_ok (c.t.d.fact 29 rfl)
  d_Ties_one_way := c.t.d.def_ 16 (d := dd_Ties_one_way) rfl
  me_Ties_one_way := He.meth_ok (c.t.d.fact 30 rfl)
  d__law_no_tie := c.t.d.def_ 17 (d := dd__law_no_tie) rfl
  g__law_no_tie := He.glo_ok X G (c.t.d.fact 31 rfl)
  d__law_right := c.t.d.def_ 18 (d := dd__law_right) rfl
  g__law_right := He.glo_ok X G (c.t.d.fact 32 rfl)
  d_law := c.t.d.def_ 19 (d := dd_law) rfl
theorem law_end (hT : ∀ ns : List Int, ns.length ≤ 63 → (∀ z ∈ ns, Builtin.Int.intBits z ≤ 1048576) → ∃ h', m_law [.cst (ns.map W.int)] [] = .ok (.bl true) h') {P : Program} {w : World} {K : PySem.W.Frag} {h : Heap} {mg : Str → Option Value} {f : Addr} (X : K.In h) (G : h.Ns mainGlobals mg) (hfa : mg ("law" : Str) = some (.ref f)) {h0 : Heap} (c : He.SaysX fa fn [] [] (exAll exs) w h0 K) :
    ∃ fd : FuncData, (∀ (s : Shared) (v : Value), BindsTo s fd ⟨[v], []⟩ [("_law_script", v)]) ∧ ∀ base : Heap, K.In base → base.Ns mainGlobals mg → FnOk P w K mg base (L2.CX P w) 7 f fd ["_law_script"] (spL K) := by
  have cc := facts_of X G c
  obtain ⟨fd, F⟩ := cc.d_law
  have e := hfa.symm.trans (He.glo_ok X G (c.t.d.fact 33 rfl))
  cases e
  have b := FunD.bindsA (ps := ["_law_script"]) F fun _ _ _ _ _ _ us hl => match us, hl with | [_], _ => rfl
  exact ⟨fd, fun s v => b s [v] rfl, fun base _ _ => law_of rfl (ok_law cc F) fun ns h1 h2 => hT ns h1 h2⟩
abbrev R : PySem.W.OpenRow := PySem.W.OpenLaw.row PySem.Challenge.rw_joinedguests_k01_ties_made_and_refused
abbrev hk : PySem.W.Hook := He.hookX 5 fa fn [] [] (exAll exs)
def ob (s : PySem.W.SharedT) : He.AlX := He.obsX 5 fa fn [] [] (exAll exs) (HandSHeadRun.getT s)
theorem ob_eq (s : PySem.W.SharedT) : ob s = hk.obs s.abs := He.obsX_eq (HandSHeadRun.getT_eq s)
def loose : List Str := ["GuestError", "BadTies", "NoTie", "MOST_TIES", "MOST_LABEL", "is_whole", "is_label", "Ties", "_law_says", "_law_mix", "_law_hand", "_law_draw", "_law_backs", "_law_due", "_law_thing", "_law_made", "_law_no_tie", "_law_right", "_law_whole"]
theorem run (w : World) : HandSHeadRun.RunEq R (PySem.W.view R.prog [22]) hk ob 2000 loose w := by
  intro os
  kernel_rfl
end K01
open PySem PySem.W PySem.Calls PyProof.Rows
theorem K01.holds_of (hT : ∀ ns : List Int, ns.length ≤ 63 → (∀ z ∈ ns, Builtin.Int.intBits z ≤ 1048576) → ∃ h', K01.m_law [.cst (ns.map J.W.int)] [] = .ok (.bl true) h') : PySem.Challenge.rw_joinedguests_k01_ties_made_and_refused.Holds := by
  w_on; o_law
  refine HandSHeadRun.head_any (r := OpenLaw.row PySem.Challenge.rw_joinedguests_k01_ties_made_and_refused) (q := view (OpenLaw.row PySem.Challenge.rw_joinedguests_k01_ties_made_and_refused).prog [22]) (H := K01.hk) (ob := K01.ob) (M := 2000) (loose := K01.loose) (d := HandSHeadRun.topDef (OpenLaw.row PySem.Challenge.rw_joinedguests_k01_ties_made_and_refused).prog 22) (kwd := []) K01.ob_eq
    (by kernel_rfl) (fun s => by kernel_rfl) K01.run (by kernel_rfl) (by kernel_rfl) (by kernel_rfl) (by rfl) (by first | assumption | decide +kernel) (by decide +kernel) ⟨rfl, rfl, rfl, rfl, rfl, by decide +kernel⟩ ?hw ?hc
  case hw => w_witness2
  case hc =>
    refine J.walk_J (l := PySem.Challenge.rw_joinedguests_k01_ties_made_and_refused) (k := 7) (x := "_law_script") rfl (by kernel_rfl) ⟨rfl, by decide, by decide⟩ ?F
    intro w mg fa h Y G hmg0
    obtain ⟨K, KX, c⟩ := Y
    have hmg : mg ("law" : PySem.Str) = some (.ref fa) := by
      have e : (HandSHeadRun.topDef (OpenLaw.row PySem.Challenge.rw_joinedguests_k01_ties_made_and_refused).prog 22).name = ("law" : PySem.Str) := by kernel_rfl
      rw [← e]
      exact hmg0
    obtain ⟨fd, hb, hF⟩ := K01.law_end hT (P := (PySem.Challenge.rw_joinedguests_k01_ties_made_and_refused).prog) (w := w) KX G hmg c
    exact ⟨K, fd, KX, hb, hF⟩

theorem PySem.Challenge.cw_joinedguests_k01_ties_made_and_refused_holds : PySem.Challenge.rw_joinedguests_k01_ties_made_and_refused.Holds := by
  exact K01.holds_of fun ns hl _ => K01.law_plain ns hl
