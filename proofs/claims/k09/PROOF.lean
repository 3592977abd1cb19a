import PyProof.Rows.All
import Wide.All
import OpenK.AllK
import Wide.FinOn
import HandS.ForExc
import HandS.Flow
import HandS.Wide
import HandS.IsInst
import HandS.ExcInit
import HandS.ExcField
import HandS.More
import HandS.TupLe
import HandS.Sort
import HandS.TupSets
import KE.KEqDict
import HandS.WordsExc
import HandS.Text
import HandS.NoneIn
import HandS.TryOnly
import HandS.Comp
import HandS.Defaults
import HandS.Head0
import HandS.Head1
import HandS.Head2
import HandS.HeadEnd
import HandS.HeadHook1
import HandS.HeadHook2
import HandS.HeadHook3
import HandS.HeadHook4
import HandS.EndBits
import HandS.Deep
import HandS.Dict
import KE.KExcSuper
import HandS.Nested
import HandS.SortInts
import HandS.ExcIs
import HandS.Zip
import PySem.Challenge.RW_joinedguests_k09_whole_readings_of_three
set_option Elab.async false
set_option linter.all false
set_option maxRecDepth 100000
set_option maxHeartbeats 4000000
/-! J: a deterministic reading of the hand layer: values as trees (tuples are values), a list of objects as heap. -/
namespace J
open PySem PySem.Spec PyProof.Rows L2

/-- values -/
inductive W where
  | non | bl (b : Bool) | int (i : Int) | str (x : Str) | tup (xs : List W) | ref (a : Nat)
  /-- a list that is read alone -/
  | cst (xs : List W)
  /-- a caught exception, at its name in a frame alone: its class, its attributes -/
  | xcp (c : Nat) (fs : List (Nat × W))
/-- objects -/
inductive O where
  | lst (xs : List W) | ins (c : Nat) (fs : List (Nat × W)) | dic (kvs : List (Key × W))
abbrev HA := List O
abbrev En := List (Option W)
inductive Res (α : Type) where
  | ok (a : α) (h : HA) | exc (c : Nat) (fs : List (Nat × W)) (h : HA) | stuck
/-- what the text fixes: the written part, the attributes' names by number, the classes' places by number -/
structure Sta where
  K : PySem.W.Frag
  nm : List Str
  ca : Nat → Addr

def Res.bind {α β : Type} (r : Res α) (k : α → HA → Res β) : Res β := match r with
  | .ok a h => k a h
  | .exc c fs h => .exc c fs h
  | .stuck => .stuck

/-- a list that is locked, or of the written part -/
def SqK (K : PySem.W.Frag) (H : Hp) (p : Addr) (ys : List V) : Prop := (∃ o, H p = some (.frz o (.lst ys))) ∨
  ∃ (o : Obj) (its : Array Value) (n : Nat), K.lookup p = some o ∧ o.cls = .type "list" ∧ o.dict = none ∧ o.data = .seq its n ∧ its.size ≤ sizeLine ∧ Vals ys its.toList
theorem SqK.sq {K : PySem.W.Frag} {H : Hp} {p : Addr} {ys : List V} (h : SqK K H p ys) : SqL K H p ys := by
  rcases h with ⟨o, h⟩ | h
  · exact .inl (.inr ⟨o, h⟩)
  · exact .inr h

mutual
inductive RV (S : Sta) (rho : List Addr) (H : Hp) : W → V → Prop
  | non : RV S rho H .non .non
  | bl (b : Bool) : RV S rho H (.bl b) (.bl b)
  | int (i : Int) : RV S rho H (.int i) (.int i)
  | str (x : Str) : RV S rho H (.str x) (.str x)
  | tup {p : Addr} {xs : List W} {ys : List V} : SqT S.K H p ys → RVs S rho H xs ys → RV S rho H (.tup xs) (.ref p)
  | ref {i : Nat} {p : Addr} : rho[i]? = some p → RV S rho H (.ref i) (.ref p)
  | cst {p : Addr} {xs : List W} {ys : List V} : SqK S.K H p ys → RVs S rho H xs ys → RV S rho H (.cst xs) (.ref p)
inductive RVs (S : Sta) (rho : List Addr) (H : Hp) : List W → List V → Prop
  | nil : RVs S rho H [] []
  | cons {x : W} {xs : List W} {v : V} {vs : List V} : RV S rho H x v → RVs S rho H xs vs → RVs S rho H (x :: xs) (v :: vs)
end

inductive RF (S : Sta) (rho : List Addr) (H : Hp) : List (Nat × W) → List (Str × V) → Prop
  | nil : RF S rho H [] []
  | cons {i : Nat} {x : Str} {w : W} {v : V} {fs : List (Nat × W)} {gs : List (Str × V)} : S.nm[i]? = some x → RV S rho H w v → RF S rho H fs gs → RF S rho H ((i, w) :: fs) ((x, v) :: gs)
inductive RD (S : Sta) (rho : List Addr) (H : Hp) : List (Key × W) → List (Key × V) → Prop
  | nil : RD S rho H [] []
  | cons {k : Key} {w : W} {v : V} {fs : List (Key × W)} {gs : List (Key × V)} : RV S rho H w v → RD S rho H fs gs → RD S rho H ((k, w) :: fs) ((k, v) :: gs)

inductive RO (S : Sta) (rho : List Addr) (H : Hp) (p : Addr) : O → Prop
  | lst {xs : List W} {ys : List V} : H p = some (.lst ys) → RVs S rho H xs ys → RO S rho H p (.lst xs)
  | ins {c : Nat} {dx : Addr} {fs : List (Nat × W)} {gs : List (Str × V)} : H p = some (.ins (S.ca c) dx gs) → RF S rho H fs gs → RO S rho H p (.ins c fs)
  | dic {fs : List (Key × W)} {gs : List (Key × V)} : H p = some (.dK gs) → RD S rho H fs gs → RO S rho H p (.dic fs)

structure Rl (S : Sta) (rho : List Addr) (h : HA) (H : Hp) : Prop where
  len : rho.length = h.length
  nd : rho.Nodup
  obj : ∀ (i : Nat) (o : O) (p : Addr), h[i]? = some o → rho[i]? = some p → RO S rho H p o

structure Ev (S : Sta) (rho : List Addr) (H : Hp) (rho' : List Addr) (H' : Hp) : Prop where
  pre : ∃ t, rho' = rho ++ t
  out : ∀ b o, H b = some o → b ∉ rho → H' b = some o
  fresh : ∀ b, b ∈ rho' → b ∈ rho ∨ H b = none
  tup : ∀ p ys, SqT S.K H p ys → SqT S.K H' p ys
  cst : ∀ p ys, SqK S.K H p ys → SqK S.K H' p ys

section
variable {S : Sta} {rho rho' rho2 : List Addr} {H H' H2 : Hp}
theorem Ev.rfl' : Ev S rho H rho H := ⟨⟨[], by simp⟩, fun _ _ e _ => e, fun _ h => .inl h, fun _ _ e => e, fun _ _ e => e⟩
theorem Ev.at {i : Nat} {p : Addr} (e : Ev S rho H rho' H') (h : rho[i]? = some p) : rho'[i]? = some p := by
  obtain ⟨t, rfl⟩ := e.pre
  obtain ⟨hi, _⟩ := List.getElem?_eq_some_iff.mp h
  rw [List.getElem?_append_left hi]; exact h
theorem Ev.mem {p : Addr} (e : Ev S rho H rho' H') (h : p ∈ rho) : p ∈ rho' := by
  obtain ⟨t, rfl⟩ := e.pre
  exact List.mem_append_left _ h
theorem Ev.trans (a : Ev S rho H rho' H') (b : Ev S rho' H' rho2 H2) : Ev S rho H rho2 H2 := by
  refine ⟨?_, fun c o e n => ?_, fun c hc => ?_, fun p ys e => b.tup p ys (a.tup p ys e), fun p ys e => b.cst p ys (a.cst p ys e)⟩
  · obtain ⟨t, e1⟩ := a.pre
    obtain ⟨u, e2⟩ := b.pre
    exact ⟨t ++ u, by rw [e2, e1, List.append_assoc]⟩
  · refine b.out c o (a.out c o e n) fun hc => ?_
    rcases a.fresh c hc with q | q
    · exact n q
    · rw [e] at q; cases q
  · by_cases hr : c ∈ rho
    · exact .inl hr
    · refine .inr ?_
      rcases b.fresh c hc with q | q
      · rcases a.fresh c q with z | z
        · exact absurd z hr
        · exact z
      · cases e : H c with
        | none => rfl
        | some o => rw [a.out c o e hr] at q; cases q
/-- what the values lean on: the numbers, the tuples -/
structure Tv (S : Sta) (rho : List Addr) (H : Hp) (rho' : List Addr) (H' : Hp) : Prop where
  at_ : ∀ (i : Nat) (p : Addr), rho[i]? = some p → rho'[i]? = some p
  tup : ∀ p ys, SqT S.K H p ys → SqT S.K H' p ys
  cst : ∀ p ys, SqK S.K H p ys → SqK S.K H' p ys
theorem Ev.tv (e : Ev S rho H rho' H') : Tv S rho H rho' H' := ⟨fun _ _ h => e.at h, e.tup, e.cst⟩
mutual
theorem RV.monoT (e : Tv S rho H rho' H') : ∀ {w : W} {v : V}, RV S rho H w v → RV S rho' H' w v
  | _, _, .non => .non
  | _, _, .bl b => .bl b
  | _, _, .int i => .int i
  | _, _, .str x => .str x
  | _, _, .tup h r => .tup (e.tup _ _ h) (RVs.monoT e r)
  | _, _, .ref h => .ref (e.at_ _ _ h)
  | _, _, .cst h r => .cst (e.cst _ _ h) (RVs.monoT e r)
theorem RVs.monoT (e : Tv S rho H rho' H') : ∀ {ws : List W} {vs : List V}, RVs S rho H ws vs → RVs S rho' H' ws vs
  | _, _, .nil => .nil
  | _, _, .cons r t => .cons (RV.monoT e r) (RVs.monoT e t)
end
theorem RF.monoT (e : Tv S rho H rho' H') : ∀ {ws : List (Nat × W)} {vs : List (Str × V)}, RF S rho H ws vs → RF S rho' H' ws vs
  | _, _, .nil => .nil
  | _, _, .cons n r t => .cons n (r.monoT e) (RF.monoT e t)
theorem RD.monoT (e : Tv S rho H rho' H') : ∀ {ws : List (Key × W)} {vs : List (Key × V)}, RD S rho H ws vs → RD S rho' H' ws vs
  | _, _, .nil => .nil
  | _, _, .cons r t => .cons (r.monoT e) (RD.monoT e t)
theorem RV.mono {w : W} {v : V} (e : Ev S rho H rho' H') (r : RV S rho H w v) : RV S rho' H' w v := r.monoT e.tv
theorem RVs.mono {w : List W} {v : List V} (e : Ev S rho H rho' H') (r : RVs S rho H w v) : RVs S rho' H' w v := r.monoT e.tv
theorem RF.mono {w : List (Nat × W)} {v : List (Str × V)} (e : Ev S rho H rho' H') (r : RF S rho H w v) : RF S rho' H' w v := r.monoT e.tv
theorem RD.mono {w : List (Key × W)} {v : List (Key × V)} (e : Ev S rho H rho' H') (r : RD S rho H w v) : RD S rho' H' w v := r.monoT e.tv
theorem RVs.length : ∀ {ws : List W} {vs : List V}, RVs S rho H ws vs → ws.length = vs.length
  | _, _, .nil => rfl
  | _, _, .cons _ t => by rw [List.length_cons, List.length_cons, RVs.length t]
theorem RVs.get : ∀ {ws : List W} {vs : List V} {i : Nat} {w : W}, RVs S rho H ws vs → ws[i]? = some w → ∃ v, vs[i]? = some v ∧ RV S rho H w v
  | _, _, _, _, .nil, e => by simp at e
  | _, _, 0, _, .cons r _, e => by simp at e; subst e; exact ⟨_, rfl, r⟩
  | _, _, i + 1, x, .cons _ t, e => by
    obtain ⟨u, h1, h2⟩ := RVs.get (i := i) (w := x) t (by simpa using e)
    exact ⟨u, by simpa using h1, h2⟩
theorem RVs.get' : ∀ {ws : List W} {vs : List V} {i : Nat} {v : V}, RVs S rho H ws vs → vs[i]? = some v → ∃ w, ws[i]? = some w ∧ RV S rho H w v
  | _, _, _, _, .nil, e => by simp at e
  | _, _, 0, _, .cons r _, e => by simp at e; subst e; exact ⟨_, rfl, r⟩
  | _, _, i + 1, x, .cons _ t, e => by
    obtain ⟨u, h1, h2⟩ := RVs.get' (i := i) (v := x) t (by simpa using e)
    exact ⟨u, by simpa using h1, h2⟩
theorem RVs.append : ∀ {ws us : List W} {vs zs : List V}, RVs S rho H ws vs → RVs S rho H us zs → RVs S rho H (ws ++ us) (vs ++ zs)
  | _, _, _, _, .nil, s => s
  | _, _, _, _, .cons r t, s => .cons r (RVs.append t s)
theorem RVs.set {w : W} {v : V} (r : RV S rho H w v) : ∀ {ws : List W} {vs : List V} (i : Nat), RVs S rho H ws vs → RVs S rho H (ws.set i w) (vs.set i v)
  | _, _, _, .nil => .nil
  | _, _, 0, .cons _ t => .cons r t
  | _, _, i + 1, .cons q t => .cons q (RVs.set r i t)
theorem RVs.take : ∀ {ws : List W} {vs : List V} (n : Nat), RVs S rho H ws vs → RVs S rho H (ws.take n) (vs.take n)
  | _, _, 0, _ => .nil
  | _, _, _ + 1, .nil => .nil
  | _, _, n + 1, .cons r t => .cons r (RVs.take n t)
theorem RVs.drop : ∀ {ws : List W} {vs : List V} (n : Nat), RVs S rho H ws vs → RVs S rho H (ws.drop n) (vs.drop n)
  | _, _, 0, r => r
  | _, _, _ + 1, .nil => .nil
  | _, _, n + 1, .cons _ t => RVs.drop n t
theorem RVs.eraseIdx : ∀ {ws : List W} {vs : List V} (n : Nat), RVs S rho H ws vs → RVs S rho H (ws.eraseIdx n) (vs.eraseIdx n)
  | _, _, _, .nil => .nil
  | _, _, 0, .cons _ t => t
  | _, _, n + 1, .cons r t => .cons r (RVs.eraseIdx n t)
theorem RVs.dropLast : ∀ {ws : List W} {vs : List V}, RVs S rho H ws vs → RVs S rho H ws.dropLast vs.dropLast
  | _, _, .nil => .nil
  | _, _, .cons _ .nil => .nil
  | _, _, .cons r (.cons q t) => by
    rw [List.dropLast_cons_cons, List.dropLast_cons_cons]
    exact .cons r (RVs.dropLast (.cons q t))

theorem Rl.get {h : HA} (r : Rl S rho h H) {i : Nat} {o : O} (e : h[i]? = some o) : ∃ p, rho[i]? = some p ∧ RO S rho H p o := by
  obtain ⟨hi, _⟩ := List.getElem?_eq_some_iff.mp e
  have hj : i < rho.length := by rw [r.len]; exact hi
  exact ⟨rho[i], List.getElem?_eq_getElem hj, r.obj i o _ e (List.getElem?_eq_getElem hj)⟩
theorem RO.some {p : Addr} {o : O} (r : RO S rho H p o) : ∃ u, H p = some u := by
  cases r with
  | lst e _ => exact ⟨_, e⟩
  | ins e _ => exact ⟨_, e⟩
  | dic e _ => exact ⟨_, e⟩
theorem Rl.lt {h : HA} (r : Rl S rho h H) {i : Nat} {p : Addr} (e : rho[i]? = some p) : ∃ o, h[i]? = some o ∧ RO S rho H p o := by
  obtain ⟨hi, _⟩ := List.getElem?_eq_some_iff.mp e
  have hj : i < h.length := by rw [← r.len]; exact hi
  exact ⟨h[i], List.getElem?_eq_getElem hj, r.obj i _ p (List.getElem?_eq_getElem hj) e⟩
theorem Rl.there {h : HA} (r : Rl S rho h H) {p : Addr} (hp : p ∈ rho) : ∃ u, H p = some u := by
  obtain ⟨i, e⟩ := List.getElem?_of_mem hp
  obtain ⟨o, _, q⟩ := r.lt e
  exact q.some
/-- the numbered objects are no tuples -/
theorem Rl.notup {h : HA} (r : Rl S rho h H) {p : Addr} (hp : p ∈ rho) : ∀ ys, ¬ Rd H p (.tup ys) := by
  obtain ⟨i, e⟩ := List.getElem?_of_mem hp
  obtain ⟨o, _, q⟩ := r.lt e
  rintro ys (z | ⟨ob, z⟩)
  · cases q with
    | lst e _ => rw [e] at z; cases z
    | ins e _ => rw [e] at z; cases z
    | dic e _ => rw [e] at z; cases z
  · cases q with
    | lst e _ => rw [e] at z; cases z
    | ins e _ => rw [e] at z; cases z
    | dic e _ => rw [e] at z; cases z
theorem Rl.nofrz {h : HA} (r : Rl S rho h H) {p : Addr} (hp : p ∈ rho) : ∀ o u, H p ≠ some (.frz o u) := by
  obtain ⟨i, e⟩ := List.getElem?_of_mem hp
  obtain ⟨o, _, q⟩ := r.lt e
  intro ob u z
  cases q with
  | lst e _ => rw [e] at z; cases z
  | ins e _ => rw [e] at z; cases z
  | dic e _ => rw [e] at z; cases z
theorem Rl.fresh {h : HA} (r : Rl S rho h H) {p : Addr} (n : H p = none) : p ∉ rho := fun hp => by
  obtain ⟨u, e⟩ := r.there hp
  rw [n] at e; cases e

/-- the same numbered objects, over a heap that keeps all -/
theorem RO.keepT {p : Addr} {o : O} (e : Tv S rho H rho' H') (hp : H' p = H p) (r : RO S rho H p o) : RO S rho' H' p o := by
  cases r with
  | lst e1 r => exact .lst (hp.trans e1) (r.monoT e)
  | ins e1 r => exact .ins (hp.trans e1) (r.monoT e)
  | dic e1 r => exact .dic (hp.trans e1) (r.monoT e)
theorem RO.keep {p : Addr} {o : O} (e : Ev S rho H rho' H') (hp : H' p = H p) (r : RO S rho H p o) : RO S rho' H' p o := r.keepT e.tv hp
theorem SqT.upd' {K : PySem.W.Frag} {p q : Addr} {o : HO} {ys : List V} (n : ∀ ys, ¬ Rd H p (.tup ys)) (h : SqT K H q ys) : SqT K (upd H p o) q ys := by
  rcases h with h | h
  · have hq : q ≠ p := fun z => by subst z; exact n _ h
    refine .inl ?_
    rcases h with h | ⟨ob, h⟩
    · exact .inl (by rw [upd_ne hq]; exact h)
    · exact .inr ⟨ob, by rw [upd_ne hq]; exact h⟩
  · exact .inr h
/-- what stands at p is neither a tuple nor locked -/
def Free (H : Hp) (p : Addr) : Prop := (∀ ys, ¬ Rd H p (.tup ys)) ∧ ∀ o u, H p ≠ some (.frz o u)
theorem SqK.upd' {K : PySem.W.Frag} {p q : Addr} {o : HO} {ys : List V} (n : ∀ o u, H p ≠ some (.frz o u)) (h : SqK K H q ys) : SqK K (upd H p o) q ys := by
  rcases h with ⟨ob, h⟩ | h
  · have hq : q ≠ p := fun z => by subst z; exact n _ _ h
    exact .inl ⟨ob, by rw [upd_ne hq]; exact h⟩
  · exact .inr h
theorem nofz {p : Addr} (n : H p = none) : ∀ o u, H p ≠ some (.frz o u) := fun o u z => by rw [n] at z; cases z
theorem norep {p : Addr} (n : H p = none) : ∀ ys, ¬ Rd H p (.tup ys) := by
  rintro ys (z | ⟨ob, z⟩) <;> (rw [n] at z; cases z)

/-- something new that is not numbered is laid -/
theorem Ev.lay {p : Addr} {o : HO} (n : H p = none) : Ev S rho H rho (upd H p o) :=
  ⟨⟨[], by simp⟩, fun b u e _ => by rw [upd_ne (ne_of_none e n)]; exact e, fun _ h => .inl h, fun q ys e => SqT.upd' (norep n) e, fun q ys e => SqK.upd' (nofz n) e⟩
theorem Rl.lay {h : HA} {p : Addr} {o : HO} (r : Rl S rho h H) (n : H p = none) : Rl S rho h (upd H p o) :=
  ⟨r.len, r.nd, fun i ob q e1 e2 => by
    have hq : q ≠ p := fun z => by subst z; exact r.fresh n (List.mem_of_getElem? e2)
    exact (r.obj i ob q e1 e2).keep (Ev.lay n) (upd_ne hq)⟩
/-- something that is not numbered is changed, seen from a heap ahead of it -/
theorem Ev.side {p : Addr} {o : HO} (e : Ev S rho H rho' H') (n : H p = none) (nt : Free H' p) : Ev S rho H rho' (upd H' p o) :=
  ⟨e.pre, fun b u eb nb => by rw [upd_ne (ne_of_none eb n)]; exact e.out b u eb nb, e.fresh, fun q ys h => SqT.upd' nt.1 (e.tup q ys h), fun q ys h => SqK.upd' nt.2 (e.cst q ys h)⟩
theorem Tv.side {p : Addr} {o : HO} (nt : Free H p) : Tv S rho H rho (upd H p o) := ⟨fun _ _ h => h, fun q ys h => SqT.upd' nt.1 h, fun q ys h => SqK.upd' nt.2 h⟩
theorem Rl.side {h : HA} {p : Addr} {o : HO} (r : Rl S rho h H) (n : p ∉ rho) (nt : Free H p) : Rl S rho h (upd H p o) :=
  ⟨r.len, r.nd, fun i ob q e1 e2 => by
    have hq : q ≠ p := fun z => by subst z; exact n (List.mem_of_getElem? e2)
    exact (r.obj i ob q e1 e2).keepT (Tv.side nt) (upd_ne hq)⟩
/-- something that stands is numbered from here on -/
theorem Ev.add {p : Addr} (e : Ev S rho H rho' H') (n : H p = none) : Ev S rho H (rho' ++ [p]) H' := by
  obtain ⟨t, rfl⟩ := e.pre
  refine ⟨⟨t ++ [p], by simp⟩, e.out, fun b hb => ?_, e.tup, e.cst⟩
  rcases List.mem_append.mp hb with z | z
  · exact e.fresh b z
  · simp at z; subst z; exact .inr n
theorem Tv.add {p : Addr} : Tv S rho H (rho ++ [p]) H := ⟨fun i q h => by
  obtain ⟨hi, _⟩ := List.getElem?_eq_some_iff.mp h
  rw [List.getElem?_append_left hi]; exact h, fun _ _ h => h, fun _ _ h => h⟩
theorem Rl.add {h : HA} {p : Addr} {o : O} (r : Rl S rho h H) (n : p ∉ rho) (ho : RO S (rho ++ [p]) H p o) : Rl S (rho ++ [p]) (h ++ [o]) H := by
  refine ⟨by simp [r.len], ?_, fun i ob q e1 e2 => ?_⟩
  · rw [List.nodup_append]
    refine ⟨r.nd, by simp, fun a ha b hb => ?_⟩
    simp at hb; subst hb
    intro z; subst z; exact n ha
  · by_cases hi : i < h.length
    · rw [List.getElem?_append_left hi] at e1
      rw [List.getElem?_append_left (by rw [r.len]; exact hi)] at e2
      exact (r.obj i ob q e1 e2).keepT Tv.add rfl
    · have hi' : i = h.length := by
        obtain ⟨z, _⟩ := List.getElem?_eq_some_iff.mp e1
        simp at z; omega
      subst hi'
      rw [List.getElem?_append_right (Nat.le_refl _)] at e1
      rw [← r.len, List.getElem?_append_right (Nat.le_refl _)] at e2
      simp at e1 e2
      subst e1 e2
      exact ho
/-- a new object, numbered -/
theorem Ev.new {h : HA} {p : Addr} {u : HO} (r : Rl S rho h H) (n : H p = none) : Ev S rho H (rho ++ [p]) (upd H p u) :=
  ⟨⟨[p], rfl⟩, fun b o e _ => by rw [upd_ne (ne_of_none e n)]; exact e, fun b hb => by
    rcases List.mem_append.mp hb with z | z
    · exact .inl z
    · simp at z; subst z; exact .inr n, fun q ys e => SqT.upd' (norep n) e, fun q ys e => SqK.upd' (nofz n) e⟩
theorem Rl.new {h : HA} {p : Addr} {u : HO} {o : O} (r : Rl S rho h H) (n : H p = none) (ho : RO S (rho ++ [p]) (upd H p u) p o) : Rl S (rho ++ [p]) (h ++ [o]) (upd H p u) := by
  have hf := r.fresh n
  refine ⟨by simp [r.len], ?_, fun i ob q e1 e2 => ?_⟩
  · rw [List.nodup_append]
    refine ⟨r.nd, by simp, fun a ha b hb => ?_⟩
    simp at hb; subst hb
    intro z; subst z; exact hf ha
  · by_cases hi : i < h.length
    · rw [List.getElem?_append_left hi] at e1
      rw [List.getElem?_append_left (by rw [r.len]; exact hi)] at e2
      have hq : q ≠ p := fun z => by subst z; exact hf (List.mem_of_getElem? e2)
      exact (r.obj i ob q e1 e2).keep (Ev.new r n) (upd_ne hq)
    · have hi' : i = h.length := by
        obtain ⟨z, _⟩ := List.getElem?_eq_some_iff.mp e1
        simp at z; omega
      subst hi'
      rw [List.getElem?_append_right (Nat.le_refl _)] at e1
      rw [← r.len, List.getElem?_append_right (Nat.le_refl _)] at e2
      simp at e1 e2
      subst e1 e2
      exact ho
theorem last_new {h : HA} {p : Addr} (r : Rl S rho h H) : (rho ++ [p])[h.length]? = some p := by
  rw [← r.len, List.getElem?_append_right (Nat.le_refl _)]; simp
/-- a numbered object is changed -/
theorem Ev.put {h : HA} {i : Nat} {p : Addr} {u : HO} (r : Rl S rho h H) (e : rho[i]? = some p) : Ev S rho H rho (upd H p u) :=
  ⟨⟨[], by simp⟩, fun b o eb nb => by
    rw [upd_ne (fun z => nb (by rw [z]; exact List.mem_of_getElem? e))]; exact eb, fun _ h => .inl h,
    fun q ys hq => SqT.upd' (r.notup (List.mem_of_getElem? e)) hq, fun q ys hq => SqK.upd' (r.nofrz (List.mem_of_getElem? e)) hq⟩
theorem Rl.put {h : HA} {i : Nat} {p : Addr} {u : HO} {o : O} (r : Rl S rho h H) (e : rho[i]? = some p) (ho : RO S rho (upd H p u) p o) : Rl S rho (h.set i o) (upd H p u) := by
  refine ⟨by simp [r.len], r.nd, fun j ob q e1 e2 => ?_⟩
  by_cases hj : i = j
  · subst hj
    rw [e] at e2; cases e2
    obtain ⟨hi, _⟩ := List.getElem?_eq_some_iff.mp e
    rw [List.getElem?_set_self (by rw [← r.len]; exact hi)] at e1
    cases e1
    exact ho
  · rw [List.getElem?_set_ne hj] at e1
    have hq : q ≠ p := fun z => by
      subst z
      obtain ⟨h1, g1⟩ := List.getElem?_eq_some_iff.mp e
      obtain ⟨h2, g2⟩ := List.getElem?_eq_some_iff.mp e2
      exact hj ((List.getElem_inj r.nd).mp (g1.trans g2.symm))
    exact (r.obj j ob q e1 e2).keep (Ev.put r e) (upd_ne hq)
end

/-! ### the wishes -/
/-- an exception's own dict -/
def RX (S : Sta) (rho : List Addr) (H : Hp) (d : Option Addr) (fs : List (Nat × W)) : Prop :=
  (d = none ∧ fs = []) ∨ ∃ dd gs, d = some dd ∧ dd ∉ rho ∧ H dd = some (.xd gs) ∧ RF S rho H fs gs
/-- what is wished of an exception; the caught one that is at hand: its address, its class, its dict -/
structure Wi where
  wx : WX
  cur : Option (Addr × Nat × Addr)
section
variable (S : Sta)
def GX (Wx : Wi) (sg : L2.St) (rho : List Addr) (H : Hp) (c : Nat) (fs : List (Nat × W)) (h' : HA) : Prop :=
  ∀ rho' H' d, Ev S rho H rho' H' → Rl S rho' h' H' → RX S rho' H' d fs → Wx.wx (.ref (S.ca c)) d sg H'
def GE (Wx : Wi) (sg : L2.St) (rho : List Addr) (H : Hp) (Q : VK) : Res W → Prop
  | .ok w h' => ∀ rho' H' v, Ev S rho H rho' H' → Rl S rho' h' H' → RV S rho' H' w v → Q v H'
  | .exc c fs h' => GX S Wx sg rho H c fs h'
  | .stuck => False
def GB (Wx : Wi) (sg : L2.St) (rho : List Addr) (H : Hp) (Q : Bool → Hp → Prop) : Res Bool → Prop
  | .ok b h' => ∀ rho' H', Ev S rho H rho' H' → Rl S rho' h' H' → Q b H'
  | .exc c fs h' => GX S Wx sg rho H c fs h'
  | .stuck => False
def GA (Wx : Wi) (sg : L2.St) (rho : List Addr) (H : Hp) (Q : List V → Hp → Prop) : Res (List W) → Prop
  | .ok ws h' => ∀ rho' H' vs, Ev S rho H rho' H' → Rl S rho' h' H' → RVs S rho' H' ws vs → Q vs H'
  | .exc c fs h' => GX S Wx sg rho H c fs h'
  | .stuck => False
/-- the frame's values -/
def RS1 (Wx : Wi) (rho : List Addr) (H : Hp) (w : W) (v : V) : Prop := RV S rho H w v ∨ ∃ c fs a dd gs, w = .xcp c fs ∧ v = .ref a ∧ Wx.cur = some (a, c, dd) ∧ dd ∉ rho ∧ H dd = some (.xd gs) ∧ RF S rho H fs gs
structure RS (Wx : Wi) (rho : List Addr) (H : Hp) (ta : En) (sg : L2.St) : Prop where
  len : ta.length = sg.length
  at_ : ∀ (i : Nat) (w : W), ta[i]? = some (some w) → ∃ v, sg[i]? = some (some v) ∧ RS1 S Wx rho H w v
abbrev Ex := En → HA → Res W
abbrev Tx := En → HA → Res Bool
abbrev Ax := En → HA → Res (List W)
def tE (Wx : Wi) (m : Ex) : TE := fun sg H Q => ∃ rho h ta, Rl S rho h H ∧ RS S Wx rho H ta sg ∧ GE S Wx sg rho H Q (m ta h)
def tT (Wx : Wi) (m : Tx) : TT := fun sg H Q => ∃ rho h ta, Rl S rho h H ∧ RS S Wx rho H ta sg ∧ GB S Wx sg rho H Q (m ta h)
def tA (Wx : Wi) (m : Ax) : TA := fun sg H Q => ∃ rho h ta, Rl S rho h H ∧ RS S Wx rho H ta sg ∧ GA S Wx sg rho H Q (m ta h)
def DE (X : Cx) (Wx : Wi) (e : Expr) (m : Ex) : Prop := PE X e (tE S Wx m)
def DT (X : Cx) (Wx : Wi) (e : Expr) (m : Tx) : Prop := PT X e (tT S Wx m)
def DA (X : Cx) (Wx : Wi) (es : List Expr) (m : Ax) : Prop := PA X es (tA S Wx m)
end

section
variable {S : Sta} {Wx : Wi} {sg : L2.St} {rho rho' : List Addr} {H H' : Hp}
theorem GX.mono {c : Nat} {fs : List (Nat × W)} {h' : HA} (e : Ev S rho H rho' H') (g : GX S Wx sg rho H c fs h') : GX S Wx sg rho' H' c fs h' :=
  fun r2 H2 d e2 l x => g r2 H2 d (e.trans e2) l x
theorem GE.mono {Q : VK} {r : Res W} (e : Ev S rho H rho' H') (g : GE S Wx sg rho H Q r) : GE S Wx sg rho' H' Q r := by
  cases r with
  | ok w h' => exact fun r2 H2 v e2 l rv => g r2 H2 v (e.trans e2) l rv
  | exc c fs h' => exact GX.mono e g
  | stuck => exact g
theorem GB.mono {Q : Bool → Hp → Prop} {r : Res Bool} (e : Ev S rho H rho' H') (g : GB S Wx sg rho H Q r) : GB S Wx sg rho' H' Q r := by
  cases r with
  | ok w h' => exact fun r2 H2 e2 l => g r2 H2 (e.trans e2) l
  | exc c fs h' => exact GX.mono e g
  | stuck => exact g
theorem GA.mono {Q : List V → Hp → Prop} {r : Res (List W)} (e : Ev S rho H rho' H') (g : GA S Wx sg rho H Q r) : GA S Wx sg rho' H' Q r := by
  cases r with
  | ok w h' => exact fun r2 H2 v e2 l rv => g r2 H2 v (e.trans e2) l rv
  | exc c fs h' => exact GX.mono e g
  | stuck => exact g
theorem RS.mono {ta : En} (e : Ev S rho H rho' H') (r : RS S Wx rho H ta sg) : RS S Wx rho' H' ta sg :=
  ⟨r.len, fun i w h => by
    obtain ⟨v, a, b⟩ := r.at_ i w h
    refine ⟨v, a, ?_⟩
    rcases b with b | ⟨c, fs, ad, dd, gs, e1, e2, e3, e4, e5, e6⟩
    · exact .inl (b.mono e)
    · refine .inr ⟨c, fs, ad, dd, gs, e1, e2, e3, fun z => ?_, e.out _ _ e5 e4, e6.mono e⟩
      rcases e.fresh _ z with z | z
      · exact e4 z
      · rw [e5] at z; cases z⟩
theorem RS.set {ta : En} {i : Nat} {w : W} {v : V} (r : RS S Wx rho H ta sg) (x : RV S rho H w v) : RS S Wx rho H (ta.set i (some w)) (sg.set i (some v)) := by
  refine ⟨by simp [r.len], fun j u h => ?_⟩
  by_cases hj : i = j
  · subst hj
    by_cases hl : i < ta.length
    · rw [List.getElem?_set_self hl] at h
      cases h
      exact ⟨v, List.getElem?_set_self (by rw [← r.len]; exact hl), .inl x⟩
    · rw [List.getElem?_eq_none (by simpa using hl)] at h; cases h
  · rw [List.getElem?_set_ne hj] at h
    rw [List.getElem?_set_ne hj]
    exact r.at_ j u h
theorem RS.drop {ta : En} {i : Nat} {z : Option V} (r : RS S Wx rho H ta sg) : RS S Wx rho H (ta.set i none) (sg.set i z) := by
  refine ⟨by simp [r.len], fun j u h => ?_⟩
  by_cases hj : i = j
  · subst hj
    by_cases hl : i < ta.length
    · rw [List.getElem?_set_self hl] at h; cases h
    · rw [List.getElem?_eq_none (by simpa using hl)] at h; cases h
  · rw [List.getElem?_set_ne hj] at h
    rw [List.getElem?_set_ne hj]
    exact r.at_ j u h

/-- one after another: from the whole's wish to the first part's -/
theorem GE.of_bind {Q Q1 : VK} {r : Res W} {k : W → HA → Res W} (g : GE S Wx sg rho H Q (r.bind k))
    (f : ∀ rho1 H1 v1 w1 h1, Ev S rho H rho1 H1 → Rl S rho1 h1 H1 → RV S rho1 H1 w1 v1 → GE S Wx sg rho1 H1 Q (k w1 h1) → Q1 v1 H1) : GE S Wx sg rho H Q1 r := by
  cases r with
  | ok w h' => exact fun r2 H2 v e l rv => f r2 H2 v w h' e l rv (GE.mono e g)
  | exc c fs h' => exact g
  | stuck => exact g
theorem GB.of_bind {Q : Bool → Hp → Prop} {Q1 : VK} {r : Res W} {k : W → HA → Res Bool} (g : GB S Wx sg rho H Q (r.bind k))
    (f : ∀ rho1 H1 v1 w1 h1, Ev S rho H rho1 H1 → Rl S rho1 h1 H1 → RV S rho1 H1 w1 v1 → GB S Wx sg rho1 H1 Q (k w1 h1) → Q1 v1 H1) : GE S Wx sg rho H Q1 r := by
  cases r with
  | ok w h' => exact fun r2 H2 v e l rv => f r2 H2 v w h' e l rv (GB.mono e g)
  | exc c fs h' => exact g
  | stuck => exact g
theorem GA.of_bind {Q : List V → Hp → Prop} {Q1 : VK} {r : Res W} {k : W → HA → Res (List W)} (g : GA S Wx sg rho H Q (r.bind k))
    (f : ∀ rho1 H1 v1 w1 h1, Ev S rho H rho1 H1 → Rl S rho1 h1 H1 → RV S rho1 H1 w1 v1 → GA S Wx sg rho1 H1 Q (k w1 h1) → Q1 v1 H1) : GE S Wx sg rho H Q1 r := by
  cases r with
  | ok w h' => exact fun r2 H2 v e l rv => f r2 H2 v w h' e l rv (GA.mono e g)
  | exc c fs h' => exact g
  | stuck => exact g
theorem GA.of_bindE {Q : VK} {Q1 : List V → Hp → Prop} {r : Res (List W)} {k : List W → HA → Res W} (g : GE S Wx sg rho H Q (r.bind k))
    (f : ∀ rho1 H1 v1 w1 h1, Ev S rho H rho1 H1 → Rl S rho1 h1 H1 → RVs S rho1 H1 w1 v1 → GE S Wx sg rho1 H1 Q (k w1 h1) → Q1 v1 H1) : GA S Wx sg rho H Q1 r := by
  cases r with
  | ok w h' => exact fun r2 H2 v e l rv => f r2 H2 v w h' e l rv (GE.mono e g)
  | exc c fs h' => exact g
  | stuck => exact g
theorem GB.of_bindB {Q Q1 : Bool → Hp → Prop} {r : Res Bool} {k : Bool → HA → Res Bool} (g : GB S Wx sg rho H Q (r.bind k))
    (f : ∀ rho1 H1 w1 h1, Ev S rho H rho1 H1 → Rl S rho1 h1 H1 → GB S Wx sg rho1 H1 Q (k w1 h1) → Q1 w1 H1) : GB S Wx sg rho H Q1 r := by
  cases r with
  | ok w h' => exact fun r2 H2 e l => f r2 H2 w h' e l (GB.mono e g)
  | exc c fs h' => exact g
  | stuck => exact g
theorem GB.of_bindE {Q : VK} {Q1 : Bool → Hp → Prop} {r : Res Bool} {k : Bool → HA → Res W} (g : GE S Wx sg rho H Q (r.bind k))
    (f : ∀ rho1 H1 w1 h1, Ev S rho H rho1 H1 → Rl S rho1 h1 H1 → GE S Wx sg rho1 H1 Q (k w1 h1) → Q1 w1 H1) : GB S Wx sg rho H Q1 r := by
  cases r with
  | ok w h' => exact fun r2 H2 e l => f r2 H2 w h' e l (GE.mono e g)
  | exc c fs h' => exact g
  | stuck => exact g
end
/-- a rule with a stronger reading -/
theorem pe_imp {X : Cx} {e : Expr} {t t' : TE} (h : PE X e t) (f : ∀ sg H Q, t' sg H Q → t sg H Q) : PE X e t' := ⟨fun pins s sg H Q I q => h.run pins s sg H Q I (f _ _ _ q)⟩
theorem pt_imp {X : Cx} {e : Expr} {t t' : TT} (h : PT X e t) (f : ∀ sg H Q, t' sg H Q → t sg H Q) : PT X e t' := ⟨fun pins s sg H Q I q => h.run pins s sg H Q I (f _ _ _ q)⟩
theorem pa_imp {X : Cx} {e : List Expr} {t t' : TA} (h : PA X e t) (f : ∀ sg H Q, t' sg H Q → t sg H Q) : PA X e t' := ⟨fun pos pins s sg H Q I q => h.run pos pins s sg H Q I (f _ _ _ q)⟩
theorem ps_imp {X : Cx} {e : Stmt} {t t' : TS} (h : PS X e t) (f : ∀ D sg H, t' D sg H → t D sg H) : PS X e t' := ⟨fun pins s sg H D I q => h.run pins s sg H D I (f _ _ _ q)⟩
theorem pss_imp {X : Cx} {e : List Stmt} {t t' : TS} (h : PSs X e t) (f : ∀ D sg H, t' D sg H → t D sg H) : PSs X e t' := ⟨fun pins s sg H D I q => h.run pins s sg H D I (f _ _ _ q)⟩
theorem tE_mono {S : Sta} {Wx : Wi} {m : Ex} {sg : L2.St} {H : Hp} {Q Q' : VK} (h : tE S Wx m sg H Q) (f : ∀ v H, Q v H → Q' v H) : tE S Wx m sg H Q' := by
  obtain ⟨rho, h0, ta, a, b, g⟩ := h
  refine ⟨rho, h0, ta, a, b, ?_⟩
  cases e : m ta h0 with
  | ok w h' => rw [e] at g; exact fun r2 H2 v e l rv => f _ _ (g r2 H2 v e l rv)
  | exc c fs h' => rw [e] at g; exact g
  | stuck => rw [e] at g; exact g
end J

namespace J
open PySem PySem.Spec PyProof.Rows L2

/-! ### names and constants -/
def noX : W → Bool
  | .xcp _ _ => false
  | _ => true
def eVar (i : Nat) : Ex := fun ta h => match ta[i]? with
  | some (some w) => if noX w = true then .ok w h else .stuck
  | _ => .stuck
def eC (w : W) : Ex := fun _ h => .ok w h
def ofO (r : Option (W × HA)) : Res W := match r with
  | some (w, h) => .ok w h
  | none => .stuck
def eOp (o : W → W → HA → Option (W × HA)) (m1 m2 : Ex) : Ex := fun ta h => (m1 ta h).bind fun x h1 => (m2 ta h1).bind fun y h2 => ofO (o x y h2)
def eUn (o : W → HA → Option (W × HA)) (m : Ex) : Ex := fun ta h => (m ta h).bind fun x h1 => ofO (o x h1)

section
variable (S : Sta)
/-- a wish on an operation's end -/
def GO (rho : List Addr) (H : Hp) (Q : VK) : Option (W × HA) → Prop
  | some (w, h') => ∀ rho' H' v, Ev S rho H rho' H' → Rl S rho' h' H' → RV S rho' H' w v → Q v H'
  | none => False
def rA (o : W → W → HA → Option (W × HA)) : R2 := fun x y H Q => ∃ rho h a b, Rl S rho h H ∧ RV S rho H a x ∧ RV S rho H b y ∧ GO S rho H Q (o a b h)
def rAu (o : W → HA → Option (W × HA)) : V → Hp → VK → Prop := fun x H Q => ∃ rho h a, Rl S rho h H ∧ RV S rho H a x ∧ GO S rho H Q (o a h)
def rAs (o : List W → HA → Option (W × HA)) : List V → Hp → VK → Prop := fun xs H Q => ∃ rho h as, Rl S rho h H ∧ RVs S rho H as xs ∧ GO S rho H Q (o as h)
def rAm (o : W → List W → HA → Option (W × HA)) : V → List V → Hp → VK → Prop := fun x xs H Q => ∃ rho h a as, Rl S rho h H ∧ RV S rho H a x ∧ RVs S rho H as xs ∧ GO S rho H Q (o a as h)
end
section
variable {X : Cx} {S : Sta} {Wx : Wi} {e a b : Expr} {es : List Expr} {m m1 m2 : Ex} {ms : Ax} {pos : Pos}
theorem opr_or {f : Value → Value → Sem Value} {r r' : R2} (h : OpR X f r) (h' : OpR X f r') : OpR X f (fun x y H Q => r x y H Q ∨ r' x y H Q) := by
  intro pins s sg H x y v u Q I rx ry q
  rcases q with q | q
  · exact h pins s sg H x y v u Q I rx ry q
  · exact h' pins s sg H x y v u Q I rx ry q
theorem opr_imp {f : Value → Value → Sem Value} {r r' : R2} (h : OpR X f r) (i : ∀ x y H Q, r' x y H Q → r x y H Q) : OpR X f r' := fun pins s sg H x y v u Q I rx ry q => h pins s sg H x y v u Q I rx ry (i _ _ _ _ q)
theorem ixr_imp {r r' : R2} (h : IxR X r) (i : ∀ x y H Q, r' x y H Q → r x y H Q) : IxR X r' := fun va sl pins s sg H x y v u Q I rx ry q e => h va sl pins s sg H x y v u Q I rx ry (i _ _ _ _ q) e
theorem clr_or {f : Value} {r r' : List V → Hp → VK → Prop} (h : CallR X f r) (h' : CallR X f r') : CallR X f (fun xs H Q => r xs H Q ∨ r' xs H Q) := by
  intro pins s sg H xs us Q I rx q
  rcases q with q | q
  · exact h pins s sg H xs us Q I rx q
  · exact h' pins s sg H xs us Q I rx q
theorem clr_imp {f : Value} {r r' : List V → Hp → VK → Prop} (h : CallR X f r) (i : ∀ xs H Q, r' xs H Q → r xs H Q) : CallR X f r' := fun pins s sg H xs us Q I rx q => h pins s sg H xs us Q I rx (i _ _ _ q)
theorem mtr_imp {id : String} {r r' : V → List V → Hp → VK → Prop} (h : MtR X id r) (i : ∀ x xs H Q, r' x xs H Q → r x xs H Q) : MtR X id r' := fun pins s sg H x xs v us Q I rx rs q => h pins s sg H x xs v us Q I rx rs (i _ _ _ _ q)
theorem unr_imp {f : Value → Sem Value} {r r' : V → Hp → VK → Prop} (h : UnR X f r) (i : ∀ x H Q, r' x H Q → r x H Q) : UnR X f r' := fun pins s sg H x v Q I rx q => h pins s sg H x v Q I rx (i _ _ _ q)

section
variable {rho : List Addr} {H : Hp} {h : HA} {Q : VK} {w : W} {v : V}
/-- a result without a new object -/
theorem GO.here (g : GO S rho H Q (some (w, h))) (l : Rl S rho h H) (r : RV S rho H w v) : Q v H := g rho H v Ev.rfl' l r
theorem GO.tupN {xs : List W} {ys : List V} {p : Addr} (g : GO S rho H Q (some (.tup xs, h))) (l : Rl S rho h H) (r : RVs S rho H xs ys) (n : H p = none) : Q (.ref p) (upd H p (.tup ys)) :=
  g rho _ _ (Ev.lay n) (l.lay n) (.tup (SqT.of upd_same) (r.mono (Ev.lay n)))
theorem GO.lstN {xs : List W} {ys : List V} {p : Addr} (g : GO S rho H Q (some (.ref h.length, h ++ [.lst xs]))) (l : Rl S rho h H) (r : RVs S rho H xs ys) (n : H p = none) : Q (.ref p) (upd H p (.lst ys)) :=
  g _ _ _ (Ev.new l n) (l.new n (.lst upd_same (r.mono (Ev.new l n)))) (.ref (last_new l))
/-- a list that is read -/
theorem lst_of (l : Rl S rho h H) {i : Nat} {p : Addr} {xs : List W} (e : rho[i]? = some p) (o : h[i]? = some (.lst xs)) : ∃ ys, H p = some (.lst ys) ∧ RVs S rho H xs ys := by
  cases l.obj i _ p o e with
  | lst e r => exact ⟨_, e, r⟩
theorem dic_of (l : Rl S rho h H) {i : Nat} {p : Addr} {xs : List (Key × W)} (e : rho[i]? = some p) (o : h[i]? = some (.dic xs)) : ∃ ys, H p = some (.dK ys) ∧ RD S rho H xs ys := by
  cases l.obj i _ p o e with
  | dic e r => exact ⟨_, e, r⟩
theorem ins_of (l : Rl S rho h H) {i c : Nat} {p : Addr} {xs : List (Nat × W)} (e : rho[i]? = some p) (o : h[i]? = some (.ins c xs)) : ∃ dx ys, H p = some (.ins (S.ca c) dx ys) ∧ RF S rho H xs ys := by
  cases l.obj i _ p o e with
  | ins e r => exact ⟨_, _, e, r⟩
/-- a list or the script, read -/
def rdL (h : HA) (i : Nat) : Option (List W) := match h[i]? with
  | some (.lst xs) => some xs
  | _ => none
theorem rdL_of (K : S.K = X.K) (l : Rl S rho h H) {i : Nat} {p : Addr} {xs : List W} (e : rho[i]? = some p) (o : rdL h i = some xs) : ∃ ys, SqL X.K H p ys ∧ RVs S rho H xs ys := by
  unfold rdL at o
  split at o
  · rename_i xs' e1
    cases o
    obtain ⟨ys, a, b⟩ := lst_of l e e1
    exact ⟨ys, SqL.of a, b⟩
  · cases o
end

theorem de_var {i : Nat} {x : Str} (hN : X.N[i]? = some x) (hv : Vis X.env.scope x) (hd : (x == ("__debug__" : Str)) = false := by decide) (hcd : (x == ("__classdict__" : Str)) = false := by decide) : DE S X Wx (.Name x pos) (eVar i) := by
  refine pe_imp (pe_var hN hv hd hcd) fun sg H Q q => ?_
  obtain ⟨rho, h, ta, l, r, g⟩ := q
  unfold eVar at g
  split at g
  · rename_i w e
    obtain ⟨v, e1, rv⟩ := r.at_ i w e
    split at g
    · rename_i nx
      rcases rv with rv | ⟨c, fs, a, dd, gs, rfl, _⟩
      · exact ⟨v, e1, g rho H v Ev.rfl' l rv⟩
      · cases nx
    · exact g.elim
  · exact g.elim
theorem de_c {t : V} {w : W} (h : PE X e (tC t)) (r : ∀ rho H, RV S rho H w t) : DE S X Wx e (eC w) := by
  refine pe_imp h fun sg H Q q => ?_
  obtain ⟨rho, h, ta, l, _, g⟩ := q
  exact g rho H t Ev.rfl' l (r _ _)
theorem de_int {i j} : DE S X Wx (.Constant (.int i) j pos) (eC (.int i)) := de_c pe_int fun _ _ => .int _
theorem de_bl {i j} : DE S X Wx (.Constant (.bool i) j pos) (eC (.bl i)) := de_c pe_bl fun _ _ => .bl _
theorem de_non {j} : DE S X Wx (.Constant .none j pos) (eC .non) := de_c pe_non fun _ _ => .non
theorem de_str {i j} : DE S X Wx (.Constant (.str i) j pos) (eC (.str i)) := de_c pe_str fun _ _ => .str _
/-- a module's constant -/
theorem de_glI {x : Str} {i : Int} {t : Tok} (hg : Gl X x) (hm : X.mg x = some (.int i t)) (hd : (x == ("__debug__" : Str)) = false := by decide) : DE S X Wx (.Name x pos) (eC (.int i)) := de_c (pe_glob (v := .int i) hg hm ⟨t, rfl⟩ hd) fun _ _ => .int _
theorem de_glS {x : Str} {i : Str} {t : Tok} (hg : Gl X x) (hm : X.mg x = some (.str i t)) (hd : (x == ("__debug__" : Str)) = false := by decide) : DE S X Wx (.Name x pos) (eC (.str i)) := de_c (pe_glob (v := .str i) hg hm ⟨t, rfl⟩ hd) fun _ _ => .str _

/-- one part, then a rest -/
theorem tE_bind {sg : L2.St} {H : Hp} {Q Q1 : VK} {k : En → W → HA → Res W} (q : tE S Wx (fun ta h => (m1 ta h).bind (k ta)) sg H Q)
    (f : ∀ rho1 H1 ta v1 w1 h1, Rl S rho1 h1 H1 → RS S Wx rho1 H1 ta sg → RV S rho1 H1 w1 v1 → GE S Wx sg rho1 H1 Q (k ta w1 h1) → Q1 v1 H1) : tE S Wx m1 sg H Q1 := by
  obtain ⟨rho, h, ta, l, r, g⟩ := q
  exact ⟨rho, h, ta, l, r, GE.of_bind g fun rho1 H1 v1 w1 h1 e l1 r1 g1 => f rho1 H1 ta v1 w1 h1 l1 (r.mono e) r1 g1⟩
theorem two {sg : L2.St} {H : Hp} {Q : VK} {k : W → W → HA → Res W} {R : V → V → Hp → Prop} (q : tE S Wx (fun ta h => (m1 ta h).bind fun x h1 => (m2 ta h1).bind fun y h2 => k x y h2) sg H Q)
    (f : ∀ rho H x y a b h, Rl S rho h H → RV S rho H a x → RV S rho H b y → GE S Wx sg rho H Q (k a b h) → R x y H) : tE S Wx m1 sg H fun x H1 => tE S Wx m2 sg H1 fun y H2 => R x y H2 := by
  refine tE_bind (k := fun ta x h1 => (m2 ta h1).bind fun y h2 => k x y h2) q fun rho1 H1 ta v1 w1 h1 l1 rs r1 g1 => ?_
  refine ⟨rho1, h1, ta, l1, rs, GE.of_bind g1 fun rho2 H2 v2 w2 h2 e l2 r2 g2 => ?_⟩
  exact f rho2 H2 v1 v2 w1 w2 h2 l2 (r1.mono e) r2 g2
theorem GO.of {sg : L2.St} {rho : List Addr} {H : Hp} {Q : VK} {r : Option (W × HA)} (g : GE S Wx sg rho H Q (ofO r)) : GO S rho H Q r := by
  cases r with
  | none => exact g
  | some p => obtain ⟨w, h⟩ := p; exact g
theorem de_op {op : Operator} {o : W → W → HA → Option (W × HA)} (ho : OpR X (binaryOp op) (rA S o)) (ha : DE S X Wx a m1) (hb : DE S X Wx b m2) : DE S X Wx (.BinOp a op b pos) (eOp o m1 m2) :=
  pe_imp (pe_op ho ha hb) fun sg H Q q => two q fun rho H x y a b h l rx ry g => ⟨rho, h, a, b, l, rx, ry, GO.of g⟩
theorem de_cmp {op : CmpOp} {o : W → W → HA → Option (W × HA)} (ho : OpR X (compareOp op) (rA S o)) (ha : DE S X Wx a m1) (hb : DE S X Wx b m2) (hm : behindInMarks op b = false := by first | exact nomark _ | rfl) : DE S X Wx (.Compare a [op] [b] pos) (eOp o m1 m2) :=
  pe_imp (pe_cmpR ho ha hb hm) fun sg H Q q => two q fun rho H x y a b h l rx ry g => ⟨rho, h, a, b, l, rx, ry, GO.of g⟩
theorem de_ix {o : W → W → HA → Option (W × HA)} (ho : IxR X (rA S o)) (ha : DE S X Wx a m1) (hb : DE S X Wx b m2) (hs : PlainIx b := by exact fun _ _ => rfl) : DE S X Wx (.Subscript a b pos) (eOp o m1 m2) :=
  pe_imp (pe_ix ho ha hb hs) fun sg H Q q => two q fun rho H x y a b h l rx ry g => ⟨rho, h, a, b, l, rx, ry, GO.of g⟩
theorem de_un {op : UnaryOp} {o : W → HA → Option (W × HA)} (ho : UnR X (unaryOp op) (rAu S o)) (ha : DE S X Wx a m1) : DE S X Wx (.UnaryOp op a pos) (eUn o m1) :=
  pe_imp (pe_un ho ha) fun sg H Q q => tE_bind (k := fun _ x h1 => ofO (o x h1)) q fun rho H1 ta x w h l _ rx g => ⟨rho, h, w, l, rx, GO.of g⟩

/-! ### operators -/
def oI (g : Int → Int → Option W) : W → W → HA → Option (W × HA) := fun x y h => match x, y with
  | .int i, .int j => (g i j).map fun w => (w, h)
  | _, _ => none
theorem oI_of {f : Value → Value → Sem Value} {C : Int → Int → Prop} {g : Int → Int → Option W} {gv : Int → Int → V} (R : OpR X f (rI C gv)) (hg : ∀ i j w, g i j = some w → C i j ∧ ∀ rho H, RV S rho H w (gv i j)) : OpR X f (rA S (oI g)) := by
  refine opr_imp R fun x y H Q q => ?_
  obtain ⟨rho, h, a, b, l, rx, ry, g1⟩ := q
  unfold oI at g1
  split at g1
  · rename_i i j
    cases rx
    cases ry
    cases e : g i j with
    | none => rw [e] at g1; exact g1.elim
    | some w =>
      rw [e] at g1
      obtain ⟨c, rv⟩ := hg i j w e
      exact ⟨i, j, rfl, rfl, c, g1.here l (rv _ _)⟩
  · exact g1.elim
theorem oI0_of {f : Value → Value → Sem Value} {g : Int → Int → W} {gv : Int → Int → V} (R : OpR X f (rI0 gv)) (hg : ∀ i j rho H, RV S rho H (g i j) (gv i j)) : OpR X f (rA S (oI fun i j => some (g i j))) := by
  refine opr_imp R fun x y H Q q => ?_
  obtain ⟨rho, h, a, b, l, rx, ry, g1⟩ := q
  unfold oI at g1
  split at g1
  · rename_i i j
    cases rx
    cases ry
    exact ⟨i, j, rfl, rfl, GO.here g1 l (hg _ _ _ _)⟩
  · exact g1.elim
def oSub := oI fun i j => some (.int (i - j))
theorem ok_sub : OpR X (binaryOp .Sub) (rA S oSub) := oI0_of op_sub fun _ _ _ _ => .int _
/-- a product of numbers whose sizes are seen -/
def mulOk (i j : Int) : Bool := decide (-(2 ^ 64) < i ∧ i < 2 ^ 64) || decide (-(2 ^ 64) < j ∧ j < 2 ^ 64)
def oMul := oI fun i j => if mulOk i j = true then some (.int (i * j)) else none
theorem log2_lt {n k : Nat} (h : n < 2 ^ k) (hk : 0 < k) : n.log2 < k := PySem.Flt.log2_lt_of hk h
theorem ok_mul : OpR X (binaryOp .Mult) (rA S oMul) := by
  refine oI_of (gv := fun i j => .int (i * j)) op_mul fun i j w e => ?_
  by_cases c : mulOk i j = true
  · rw [if_pos c] at e
    cases e
    refine ⟨?_, fun _ _ => .int _⟩
    unfold mulOk at c
    simp only [Bool.or_eq_true, decide_eq_true_eq] at c
    exact c
  · rw [if_neg c] at e; cases e
def oDiv := oI fun i j => if 0 < j ∧ j < 2 ^ 64 then some (.int (i / j)) else none
theorem ok_div : OpR X (binaryOp .FloorDiv) (rA S oDiv) := oI_of op_fdivW fun i j w e => by
  by_cases c : 0 < j ∧ j < 2 ^ 64
  · rw [if_pos c] at e
    cases e
    exact ⟨⟨c.1, by have := log2_lt (n := j.natAbs) (k := 64) (by omega) (by decide); omega⟩, fun _ _ => .int _⟩
  · rw [if_neg c] at e; cases e
def oMod := oI fun i j => if 0 < j then some (.int (i % j)) else none
theorem ok_mod : OpR X (binaryOp .Mod) (rA S oMod) := oI_of op_mod fun i j w e => by
  by_cases c : 0 < j
  · rw [if_pos c] at e; cases e; exact ⟨c, fun _ _ => .int _⟩
  · rw [if_neg c] at e; cases e
def oPow := oI fun i j => if 0 ≤ j ∧ j ≤ 1000000 ∧ i.natAbs < 2 ^ 64 then some (.int (i ^ j.toNat)) else none
theorem ok_pow : OpR X (binaryOp .Pow) (rA S oPow) := oI_of op_pow fun i j w e => by
  by_cases c : 0 ≤ j ∧ j ≤ 1000000 ∧ i.natAbs < 2 ^ 64
  · rw [if_pos c] at e; cases e; exact ⟨c, fun _ _ => .int _⟩
  · rw [if_neg c] at e; cases e
def oLt := oI fun i j => some (.bl (decide (i < j)))
def oLe := oI fun i j => some (.bl (decide (i ≤ j)))
def oGt := oI fun i j => some (.bl (decide (j < i)))
def oGe := oI fun i j => some (.bl (decide (j ≤ i)))
theorem ok_lt : OpR X (compareOp .Lt) (rA S oLt) := oI0_of op_lt fun _ _ _ _ => .bl _
theorem ok_le : OpR X (compareOp .LtE) (rA S oLe) := oI0_of op_le fun _ _ _ _ => .bl _
theorem ok_gt : OpR X (compareOp .Gt) (rA S oGt) := oI0_of op_gt fun _ _ _ _ => .bl _
theorem ok_ge : OpR X (compareOp .GtE) (rA S oGe) := oI0_of op_ge fun _ _ _ _ => .bl _
def oNeg : W → HA → Option (W × HA) := fun x h => match x with
  | .int i => some (.int (-i), h)
  | _ => none
theorem ok_neg : UnR X (unaryOp .USub) (rAu S oNeg) := by
  refine unr_imp un_neg fun x H Q q => ?_
  obtain ⟨rho, h, a, l, rx, g⟩ := q
  unfold oNeg at g
  split at g
  · cases rx
    exact ⟨_, rfl, GO.here g l (.int _)⟩
  · exact g.elim
/-- a + b: ints, texts, tuples, lists -/
def oAdd : W → W → HA → Option (W × HA) := fun x y h => match x, y with
  | .int i, .int j => some (.int (i + j), h)
  | .str i, .str j => if i.length + j.length ≤ sizeLine then some (.str (i ++ j), h) else none
  | .tup xs, .tup ys => if xs ≠ [] ∧ xs.length + ys.length ≤ sizeLine then some (.tup (xs ++ ys), h) else none
  | .ref i, .ref j => match h[i]?, h[j]? with
    | some (.lst xs), some (.lst ys) => if xs.length + ys.length ≤ sizeLine then some (.ref h.length, h ++ [.lst (xs ++ ys)]) else none
    | _, _ => none
  | _, _ => none
theorem ok_add (K : S.K = X.K) : OpR X (binaryOp .Add) (rA S oAdd) := by
  refine opr_imp (opr_or op_add (opr_or op_add_str (opr_or op_catT op_cat))) fun x y H Q q => ?_
  obtain ⟨rho, h, a, b, l, rx, ry, g⟩ := q
  unfold oAdd at g
  split at g
  · cases rx
    cases ry
    exact .inl ⟨_, _, rfl, rfl, GO.here g l (.int _)⟩
  · cases rx
    cases ry
    split at g
    · rename_i c
      exact .inr (.inl ⟨_, _, rfl, rfl, c, GO.here g l (.str _)⟩)
    · exact g.elim
  · cases rx with
    | tup hx rx =>
      cases ry with
      | tup hy ry =>
        split at g
        · rename_i c
          rw [K] at hx hy
          have e1 := rx.length
          have e2 := ry.length
          refine .inr (.inr (.inl ⟨_, _, _, _, rfl, rfl, hx, hy, fun z => ?_, by omega, fun z => ?_, fun z p n => g.tupN l (rx.append ry) n⟩))
          · subst z
            exact c.1 (List.length_eq_zero_iff.mp e1)
          · subst z
            have z2 := List.length_eq_zero_iff.mp e2
            subst z2
            rw [List.append_nil] at g
            exact GO.here g l (.tup (by rw [K]; exact hx) rx)
        · exact g.elim
  · cases rx with
    | ref ei =>
      cases ry with
      | ref ej =>
        split at g
        · rename_i o1 o2
          obtain ⟨zs, z1, z2⟩ := lst_of l ei o1
          obtain ⟨us, u1, u2⟩ := lst_of l ej o2
          split at g
          · rename_i c
            refine .inr (.inr (.inr ⟨_, _, _, _, rfl, rfl, z1, u1, by rw [← z2.length, ← u2.length]; exact c, fun p n => g.lstN l (z2.append u2) n⟩))
          · exact g.elim
        · exact g.elim
  · exact g.elim
end

/-! ### data: equality -/
def mapO {α β : Type} (f : α → Option β) : List α → Option (List β)
  | [] => some []
  | a :: r => match f a, mapO f r with
    | some b, some bs => some (b :: bs)
    | _, _ => none
def toD : Nat → HA → W → Option PyData
  | _, _, .non => some .none
  | _, _, .bl b => some (.bool b)
  | _, _, .int i => some (.int i)
  | _, _, .str x => some (.str x)
  | _, _, .xcp _ _ => none
  | n + 1, h, .tup xs => (mapO (toD n h) xs).map .tuple
  | n + 1, h, .cst xs => (mapO (toD n h) xs).map .list
  | n + 1, h, .ref i => match rdL h i with
    | some xs => (mapO (toD n h) xs).map .list
    | none => none
  | 0, _, _ => none
section
variable {X : Cx} {S : Sta} {rho : List Addr} {H : Hp} {h : HA}
theorem mapO_dp {f : W → Option PyData} (hf : ∀ w v d, RV S rho H w v → f w = some d → Dp X.K H v d) : ∀ {ws : List W} {vs : List V} {ds : List PyData}, RVs S rho H ws vs → mapO f ws = some ds → DpAll X.K H vs ds
  | _, _, ds, .nil, e => by cases e; exact .nil
  | w :: ws, v :: vs, ds, .cons r t, e => by
    unfold mapO at e
    split at e
    · rename_i b bs e1 e2
      cases e
      exact .cons (hf w v b r e1) (mapO_dp hf t e2)
    · cases e
theorem dp_of (K : S.K = X.K) (l : Rl S rho h H) : ∀ (n : Nat) (w : W) (v : V) (d : PyData), RV S rho H w v → toD n h w = some d → Dp X.K H v d := by
  intro n
  induction n with
  | zero =>
    intro w v d r e
    cases w with
    | non => cases r; cases e; exact .non
    | bl b => cases r; cases e; exact .bl _
    | int b => cases r; cases e; exact .int _
    | str b => cases r; cases e; exact .str _
    | tup xs => simp [toD] at e
    | ref i => simp [toD] at e
    | cst i => simp [toD] at e
    | xcp _ _ => cases r
  | succ n ih =>
    intro w v d r e
    cases w with
    | non => cases r; cases e; exact .non
    | bl b => cases r; cases e; exact .bl _
    | int b => cases r; cases e; exact .int _
    | str b => cases r; cases e; exact .str _
    | tup xs =>
      cases r with
      | tup hp rs =>
        unfold toD at e
        cases q : mapO (toD n h) xs with
        | none => rw [q] at e; cases e
        | some ds =>
          rw [q] at e
          cases e
          exact .tup (by rw [← K]; exact hp) (mapO_dp (fun w v d r e => ih w v d r e) rs q)
    | cst xs =>
      cases r with
      | cst hp rs =>
        unfold toD at e
        cases q : mapO (toD n h) xs with
        | none => rw [q] at e; cases e
        | some ds =>
          rw [q] at e
          cases e
          exact .lst (by rw [← K]; exact hp.sq) (mapO_dp (fun w v d r e => ih w v d r e) rs q)
    | ref i =>
      cases r with
      | ref hp =>
        unfold toD at e
        cases z : rdL h i with
        | none => rw [z] at e; cases e
        | some xs =>
          rw [z] at e
          obtain ⟨ys, a, b⟩ := rdL_of K l hp z
          cases q : mapO (toD n h) xs with
          | none => simp [q] at e
          | some ds =>
            simp [q] at e
            subst e
            exact .lst a (mapO_dp (fun w v d r e => ih w v d r e) b q)
    | xcp _ _ => cases r
end
/-- == of what needs no look at the heap -/
def scW : W → W → Option Bool
  | .non, .non => some true | .non, .int _ => some false | .int _, .non => some false | .non, .bl _ => some false | .bl _, .non => some false | .non, .str _ => some false | .str _, .non => some false
  | .int i, .int j => some (decide (i = j)) | .bl i, .bl j => some (decide (i = j)) | .str i, .str j => some (decide (i = j))
  | .int _, .str _ => some false | .str _, .int _ => some false | .bl _, .str _ => some false | .str _, .bl _ => some false
  | _, _ => none
def dEq (x y : W) (h : HA) : Option Bool := match toD 9 h x, toD 9 h y with
  | some d, some e => if SeqAt.shaped d = true ∧ SeqAt.shaped e = true then some (PyData.eqv d e) else none
  | _, _ => none
def eqW (x y : W) (h : HA) : Option Bool := match scW x y with
  | some b => some b
  | none => dEq x y h
def oEq : W → W → HA → Option (W × HA) := fun x y h => (eqW x y h).map fun b => (.bl b, h)
def oNe : W → W → HA → Option (W × HA) := fun x y h => (eqW x y h).map fun b => (.bl (!b), h)
section
variable {X : Cx} {S : Sta} {rho : List Addr} {H : Hp} {h : HA}
theorem scW_ok {a b : W} {x y : V} {k : Bool} (rx : RV S rho H a x) (ry : RV S rho H b y) (e : scW a b = some k) : scal x y = true ∧ decide (x = y) = k := by
  cases a <;> cases b <;> first | (simp [scW] at e; done) | skip
  all_goals (cases rx; cases ry; simp [scW] at e; subst e; refine ⟨rfl, ?_⟩; simp)
theorem dEq_ok (K : S.K = X.K) (l : Rl S rho h H) {a b : W} {x y : V} {k : Bool} (rx : RV S rho H a x) (ry : RV S rho H b y) (e : dEq a b h = some k) :
    ∃ d e, Dp X.K H x d ∧ Dp X.K H y e ∧ SeqAt.shaped d = true ∧ SeqAt.shaped e = true ∧ PyData.eqv d e = k := by
  unfold dEq at e
  split at e
  · rename_i d f e1 e2
    split at e
    · rename_i c
      cases e
      exact ⟨d, f, dp_of K l _ _ _ _ rx e1, dp_of K l _ _ _ _ ry e2, c.1, c.2, rfl⟩
    · cases e
  · cases e
theorem ok_eq (K : S.K = X.K) (hu : X.A.units + 64 < cLine) : OpR X (compareOp .Eq) (rA S oEq) := by
  refine opr_imp (opr_or op_eq (op_eqD hu)) fun x y H Q q => ?_
  obtain ⟨rho, h, a, b, l, rx, ry, g⟩ := q
  unfold oEq eqW at g
  split at g
  · rename_i k e
    obtain ⟨e1, e2⟩ := scW_ok rx ry e
    refine .inl ⟨e1, ?_⟩
    rw [e2]
    exact GO.here g l (.bl _)
  · cases e : dEq a b h with
    | none => rw [e] at g; exact g.elim
    | some k =>
      rw [e] at g
      obtain ⟨d, f, h1, h2, h3, h4, h5⟩ := dEq_ok K l rx ry e
      refine .inr ⟨d, f, h1, h2, h3, h4, ?_⟩
      rw [h5]
      exact GO.here g l (.bl _)
theorem ok_ne (K : S.K = X.K) (hu : X.A.units + 64 < cLine) : OpR X (compareOp .NotEq) (rA S oNe) := by
  refine opr_imp (opr_or op_ne (op_neD hu)) fun x y H Q q => ?_
  obtain ⟨rho, h, a, b, l, rx, ry, g⟩ := q
  unfold oNe eqW at g
  split at g
  · rename_i k e
    obtain ⟨e1, e2⟩ := scW_ok rx ry e
    refine .inl ⟨e1, ?_⟩
    rw [e2]
    exact GO.here g l (.bl _)
  · cases e : dEq a b h with
    | none => rw [e] at g; exact g.elim
    | some k =>
      rw [e] at g
      obtain ⟨d, f, h1, h2, h3, h4, h5⟩ := dEq_ok K l rx ry e
      refine .inr ⟨d, f, h1, h2, h3, h4, ?_⟩
      rw [h5]
      exact GO.here g l (.bl _)
/-- is, is not: None, True, False on the right side -/
def isW : W → W → Option Bool
  | .non, .non => some true
  | _, .non => some false
  | .bl a, .bl b => some (decide (a = b))
  | _, _ => none
def oIs : W → W → HA → Option (W × HA) := fun x y h => (isW x y).map fun b => (.bl b, h)
def oIsN : W → W → HA → Option (W × HA) := fun x y h => (isW x y).map fun b => (.bl (!b), h)
theorem ok_is : OpR X (compareOp .Is) (rA S oIs) := by
  refine opr_imp (opr_or op_isN op_is_bl) fun x y H Q q => ?_
  obtain ⟨rho, h, a, b, l, rx, ry, g⟩ := q
  unfold oIs at g
  cases a <;> cases b <;> first | exact g.elim | skip
  all_goals (cases rx <;> cases ry)
  all_goals first
    | exact .inl ⟨rfl, GO.here g l (.bl _)⟩
    | exact .inr ⟨_, _, rfl, rfl, GO.here g l (.bl _)⟩
theorem ok_isn : OpR X (compareOp .IsNot) (rA S oIsN) := by
  refine opr_imp (opr_or op_notN op_isnot_bl) fun x y H Q q => ?_
  obtain ⟨rho, h, a, b, l, rx, ry, g⟩ := q
  unfold oIsN at g
  cases a <;> cases b <;> first | exact g.elim | skip
  all_goals (cases rx <;> cases ry)
  all_goals first
    | exact .inl ⟨rfl, GO.here g l (.bl _)⟩
    | exact .inr ⟨_, _, rfl, rfl, GO.here g l (.bl _)⟩
end
end J

namespace J
open PySem PySem.Spec PyProof.Rows L2 PySem.SeqAt
/-! ### == of values: the same first, then item by item -/
/-- a list's, a tuple's items; true: a list -/
def sqW (h : HA) : W → Option (Bool × List W)
  | .tup xs => some (false, xs)
  | .ref a => (rdL h a).map fun xs => (true, xs)
  | _ => none
/-- scalars -/
def scE : W → W → Option Bool
  | .non, .non => some true
  | .non, .bl _ => some false
  | .non, .int _ => some false
  | .non, .str _ => some false
  | .bl _, .non => some false
  | .bl a, .bl b => some (a == b)
  | .bl a, .int b => some ((if a then 1 else 0) == b)
  | .bl _, .str _ => some false
  | .int _, .non => some false
  | .int a, .bl b => some (a == (if b then 1 else 0))
  | .int a, .int b => some (a == b)
  | .int _, .str _ => some false
  | .str _, .non => some false
  | .str _, .bl _ => some false
  | .str _, .int _ => some false
  | .str a, .str b => some (a == b)
  | _, _ => none
def isSc : W → Bool
  | .non => true
  | .bl _ => true
  | .int _ => true
  | .str _ => true
  | _ => false
/-- item by item, as far as both go -/
def zipE (E : W → W → Option Bool) : List W → List W → Option (List Bool)
  | x :: xs, y :: ys => match E x y, zipE E xs ys with
    | some b, some bs => some (b :: bs)
    | _, _ => none
  | _, _ => some []
/-- two empty dicts -/
def isD0 (h : HA) (a : Nat) : Bool := match h[a]? with
  | some (.dic []) => true
  | _ => false
def dicE (h : HA) : W → W → Option Bool
  | .ref a, .ref b => if isD0 h a = true ∧ isD0 h b = true then some true else none
  | _, _ => none
def scD (h : HA) (x y : W) : Option Bool := match dicE h x y with
  | some b => some b
  | none => scE x y
def eqR (E : W → W → Option Bool) (h : HA) (x y : W) : Option Bool := match sqW h x, sqW h y with
  | some (k, xs), some (j, ys) => if k = j then (if k = true ∧ xs.length ≠ ys.length then some false else (zipE E xs ys).map fun bs => bs.all id && xs.length == ys.length) else some false
  | some _, none => if isSc y = true then some false else none
  | none, some _ => if isSc x = true then some false else none
  | none, none => scD h x y
def sameW : W → W → Bool
  | .ref a, .ref b => a == b
  | _, _ => false
def eqG : Nat → HA → W → W → Option Bool
  | 0, _, _, _ => none
  | n + 1, h, x, y => if sameW x y = true then some true else eqR (eqG n h) h x y
section
variable {X : Cx} {S : Sta} {rho : List Addr} {H : Hp} {h : HA} {pins : List (Addr × Obj)} {sg : L2.St} {s : Shared}
theorem refOf {i : Nat} {v : V} (r : RV S rho H (.ref i) v) : ∃ p, v = .ref p ∧ rho[i]? = some p := by cases r with | ref e => exact ⟨_, rfl, e⟩
theorem zipE_len {E : W → W → Option Bool} : ∀ {xs ys : List W} {bs : List Bool}, zipE E xs ys = some bs → bs.length = min xs.length ys.length
  | [], ys, bs, e => by unfold zipE at e; cases e; simp
  | x :: xs, [], bs, e => by unfold zipE at e; cases e; simp
  | x :: xs, y :: ys, bs, e => by
    unfold zipE at e
    split at e
    · rename_i b cs e1 e2
      cases e
      have := zipE_len e2
      simp [this]
    · cases e
theorem zipE_at {E : W → W → Option Bool} {F : Value → Value → Bool → Prop} (hE : ∀ x y v u v' u' b, RV S rho H x v → RV S rho H y u → RelV v v' → RelV u u' → E x y = some b → F v' u' b) : ∀ {xs ys : List W} {bs : List Bool} {vs us : List V} {vs' us' : List Value}, RVs S rho H xs vs → RVs S rho H ys us → Vals vs vs' → Vals us us' → zipE E xs ys = some bs →
    ∀ j (h1 : j < vs'.length) (h2 : j < us'.length), F vs'[j] us'[j] (bs.getD j true)
  | [], _, _, _, _, _, _, .nil, _, .nil, _, _, j, h1, _ => absurd h1 (Nat.not_lt_zero _)
  | _ :: _, [], _, _, _, _, _, _, .nil, _, .nil, _, j, _, h2 => absurd h2 (Nat.not_lt_zero _)
  | x :: xs, y :: ys, bs, _, _, _, _, .cons r1 t1, .cons r2 t2, .cons q1 p1, .cons q2 p2, e, j, h1, h2 => by
    unfold zipE at e
    split at e
    · rename_i b cs e1 e2
      cases e
      cases j with
      | zero => exact hE _ _ _ _ _ _ _ r1 r2 q1 q2 e1
      | succ j => exact zipE_at hE t1 t2 p1 p2 e2 j (Nat.lt_of_succ_lt_succ h1) (Nat.lt_of_succ_lt_succ h2)
    · cases e
/-- a sequence stands there -/
theorem sqW_ok (K : S.K = X.K) (l : Rl S rho h H) (I : Inv X pins sg H s) {x : W} {v : V} {u : Value} (r : RV S rho H x v) (q : RelV v u) {k : Bool} {xs : List W} (e : sqW h x = some (k, xs)) :
    ∃ (a : Addr) (vs : List V) (us : List Value), u = .ref a ∧ RVs S rho H xs vs ∧ Vals vs us ∧ (if k = true then s.heap.IsList a us.toArray else s.heap.IsTuple a us.toArray) := by
  cases r with
  | tup a b =>
    cases e
    rw [K] at a
    obtain ⟨us, r1, p1, _⟩ := I.tuple a
    cases q
    exact ⟨_, _, us, rfl, b, r1, p1⟩
  | ref hp =>
    have e1 : (rdL h _).map (fun xs => (true, xs)) = some (k, xs) := e
    obtain ⟨zs, e2, e3⟩ := Option.map_eq_some_iff.mp e1
    cases e3
    obtain ⟨ys, a1, a2⟩ := rdL_of K l hp e2
    obtain ⟨us, r1, p1, _⟩ := I.list a1
    cases q
    exact ⟨_, ys, us, rfl, a2, r1, p1.isList⟩
  | _ => cases e
theorem scE_rc {A : Around} {x y : W} {v u : V} {v' u' : Value} {b : Bool} (r1 : RV S rho H x v) (r2 : RV S rho H y u) (q1 : RelV v v') (q2 : RelV u u') (e : scE x y = some b) : RcAt A s v' u' b ∧ RcNeAt A s v' u' (!b) := by
  cases r1 <;> cases r2 <;> first | (cases e; done) | skip
  case non.non => cases e; cases q1; cases q2; exact ⟨.none_none, .none_none⟩
  case non.bl => cases e; cases q1; cases q2; exact ⟨.none_bool _, .none_bool _⟩
  case non.int => cases e; cases q1; obtain ⟨t, rfl⟩ := q2; exact ⟨.none_int _ _, .none_int _ _⟩
  case non.str => cases e; cases q1; obtain ⟨t, rfl⟩ := q2; exact ⟨.none_str _ _, .none_str _ _⟩
  case bl.non => cases e; cases q1; cases q2; exact ⟨.bool_none _, .bool_none _⟩
  case bl.bl => cases e; cases q1; cases q2; exact ⟨.bool_bool _ _, .bool_bool _ _⟩
  case bl.int => cases e; cases q1; obtain ⟨t, rfl⟩ := q2; exact ⟨.bool_int _ _ _, .bool_int _ _ _⟩
  case bl.str => cases e; cases q1; obtain ⟨t, rfl⟩ := q2; exact ⟨.bool_str _ _ _, .bool_str _ _ _⟩
  case int.non => cases e; cases q2; obtain ⟨t, rfl⟩ := q1; exact ⟨.int_none _ _, .int_none _ _⟩
  case int.bl => cases e; cases q2; obtain ⟨t, rfl⟩ := q1; exact ⟨.int_bool _ _ _, .int_bool _ _ _⟩
  case int.int => cases e; obtain ⟨t, rfl⟩ := q1; obtain ⟨t', rfl⟩ := q2; exact ⟨.int_int _ _ _ _, .int_int _ _ _ _⟩
  case int.str => cases e; obtain ⟨t, rfl⟩ := q1; obtain ⟨t', rfl⟩ := q2; exact ⟨.int_str _ _ _ _, .int_str _ _ _ _⟩
  case str.non => cases e; cases q2; obtain ⟨t, rfl⟩ := q1; exact ⟨.str_none _ _, .str_none _ _⟩
  case str.bl => cases e; cases q2; obtain ⟨t, rfl⟩ := q1; exact ⟨.str_bool _ _ _, .str_bool _ _ _⟩
  case str.int => cases e; obtain ⟨t, rfl⟩ := q1; obtain ⟨t', rfl⟩ := q2; exact ⟨.str_int _ _ _ _, .str_int _ _ _ _⟩
  case str.str => cases e; obtain ⟨t, rfl⟩ := q1; obtain ⟨t', rfl⟩ := q2; exact ⟨.str_str _ _ _ _, .str_str _ _ _ _⟩
theorem scE_at {A : Around} {x y : W} {v u : V} {v' u' : Value} {b : Bool} (r1 : RV S rho H x v) (r2 : RV S rho H y u) (q1 : RelV v v') (q2 : RelV u u') (e : scE x y = some b) : EqAt A s v' u' b := by
  cases r1 <;> cases r2 <;> first | (cases e; done) | skip
  case non.non => cases e; cases q1; cases q2; exact .same _
  case non.bl => cases e; cases q1; cases q2; exact .none_bool _
  case non.int => cases e; cases q1; obtain ⟨t, rfl⟩ := q2; exact .none_int _ _
  case non.str => cases e; cases q1; obtain ⟨t, rfl⟩ := q2; exact .none_str _ _
  case bl.non => cases e; cases q1; cases q2; exact .bool_none _
  case bl.bl => cases e; cases q1; cases q2; exact .bool_bool _ _
  case bl.int => cases e; cases q1; obtain ⟨t, rfl⟩ := q2; exact .bool_int _ _ _
  case bl.str => cases e; cases q1; obtain ⟨t, rfl⟩ := q2; exact .bool_str _ _ _
  case int.non => cases e; cases q2; obtain ⟨t, rfl⟩ := q1; exact .int_none _ _
  case int.bl => cases e; cases q2; obtain ⟨t, rfl⟩ := q1; exact .int_bool _ _ _
  case int.int => cases e; obtain ⟨t, rfl⟩ := q1; obtain ⟨t', rfl⟩ := q2; exact .int_int _ _ _ _
  case int.str => cases e; obtain ⟨t, rfl⟩ := q1; obtain ⟨t', rfl⟩ := q2; exact .int_str _ _ _ _
  case str.non => cases e; cases q2; obtain ⟨t, rfl⟩ := q1; exact .str_none _ _
  case str.bl => cases e; cases q2; obtain ⟨t, rfl⟩ := q1; exact .str_bool _ _ _
  case str.int => cases e; obtain ⟨t, rfl⟩ := q1; obtain ⟨t', rfl⟩ := q2; exact .str_int _ _ _ _
  case str.str => cases e; obtain ⟨t, rfl⟩ := q1; obtain ⟨t', rfl⟩ := q2; exact .str_str _ _ _ _
theorem sc_seq {A : Around} {x : W} {v : V} {v' : Value} {a : Addr} {its : Array Value} {k : Bool} (hu : A.units < cLine) (r : RV S rho H x v) (q : RelV v v') (c : isSc x = true) (hl : if k = true then s.heap.IsList a its else s.heap.IsTuple a its) :
    RcAt A s v' (.ref a) false ∧ RcNeAt A s v' (.ref a) true ∧ EqAt A s v' (.ref a) false ∧ RcAt A s (.ref a) v' false ∧ RcNeAt A s (.ref a) v' true ∧ EqAt A s (.ref a) v' false := by
  cases k with
  | true =>
    have hl' : s.heap.IsList a its := hl
    cases r <;> first | (cases c; done) | skip
    case non => cases q; exact ⟨.none_list hl' hu, .none_list hl' hu, .none_list hl' hu, .list_none hl' hu, .list_none hl' hu, .list_none hl' hu⟩
    case bl => cases q; exact ⟨.bool_list _ hl' hu, .bool_list _ hl' hu, .bool_list _ hl' hu, .list_bool _ hl' hu, .list_bool _ hl' hu, .list_bool _ hl' hu⟩
    case int => obtain ⟨t, rfl⟩ := q; exact ⟨.int_list _ _ hl' hu, .int_list _ _ hl' hu, .int_list _ _ hl' hu, .list_int _ _ hl' hu, .list_int _ _ hl' hu, .list_int _ _ hl' hu⟩
    case str => obtain ⟨t, rfl⟩ := q; exact ⟨.str_list _ _ hl' hu, .str_list _ _ hl' hu, .str_list _ _ hl' hu, .list_str _ _ hl' hu, .list_str _ _ hl' hu, .list_str _ _ hl' hu⟩
  | false =>
    have hl' : s.heap.IsTuple a its := hl
    cases r <;> first | (cases c; done) | skip
    case non => cases q; exact ⟨.none_tuple hl' hu, .none_tuple hl' hu, .none_tuple hl' hu, .tuple_none hl' hu, .tuple_none hl' hu, .tuple_none hl' hu⟩
    case bl => cases q; exact ⟨.bool_tuple _ hl' hu, .bool_tuple _ hl' hu, .bool_tuple _ hl' hu, .tuple_bool _ hl' hu, .tuple_bool _ hl' hu, .tuple_bool _ hl' hu⟩
    case int => obtain ⟨t, rfl⟩ := q; exact ⟨.int_tuple _ _ hl' hu, .int_tuple _ _ hl' hu, .int_tuple _ _ hl' hu, .tuple_int _ _ hl' hu, .tuple_int _ _ hl' hu, .tuple_int _ _ hl' hu⟩
    case str => obtain ⟨t, rfl⟩ := q; exact ⟨.str_tuple _ _ hl' hu, .str_tuple _ _ hl' hu, .str_tuple _ _ hl' hu, .tuple_str _ _ hl' hu, .tuple_str _ _ hl' hu, .tuple_str _ _ hl' hu⟩
theorem range_all {n : Nat} {bs : List Bool} (e : bs.length = n) : ((List.range n).all fun j => bs.getD j true) = bs.all id := by
  subst e
  induction bs with
  | nil => rfl
  | cons b bs ih =>
    rw [List.length_cons, List.range_succ_eq_map, List.all_cons, List.all_map]
    simp only [List.all_cons, id_eq, List.getD_cons_zero]
    congr 1
/-- two sequences -/
theorem seq_rc {A : Around} {E : W → W → Option Bool} {x y : W} {v u : V} {v' u' : Value} {k j b : Bool} {xs ys : List W} (K : S.K = X.K) (l : Rl S rho h H) (I : Inv X pins sg H s) (hu : A.units < cLine)
    (hE : ∀ x y v u v' u' b, RV S rho H x v → RV S rho H y u → RelV v v' → RelV u u' → E x y = some b → EqAt A.in1 s v' u' b)
    (r1 : RV S rho H x v) (r2 : RV S rho H y u) (q1 : RelV v v') (q2 : RelV u u') (e1 : sqW h x = some (k, xs)) (e2 : sqW h y = some (j, ys))
    (e : (if k = j then (if k = true ∧ xs.length ≠ ys.length then some false else (zipE E xs ys).map fun bs => bs.all id && xs.length == ys.length) else some false) = some b) :
    RcAt A s v' u' b ∧ RcNeAt A s v' u' (!b) := by
  obtain ⟨a1, vs, vs', rfl, t1, p1, h1⟩ := sqW_ok K l I r1 q1 e1
  obtain ⟨a2, us, us', rfl, t2, p2, h2⟩ := sqW_ok K l I r2 q2 e2
  have n1 : vs'.length = xs.length := by rw [← p1.length, ← t1.length]
  have n2 : us'.length = ys.length := by rw [← p2.length, ← t2.length]
  by_cases kj : k = j
  · subst kj
    rw [if_pos rfl] at e
    cases k with
    | true =>
      have h1' : s.heap.IsList a1 vs'.toArray := h1
      have h2' : s.heap.IsList a2 us'.toArray := h2
      by_cases c : xs.length = ys.length
      · rw [if_neg (fun z => z.2 c)] at e
        obtain ⟨bs, eb, rfl⟩ := Option.map_eq_some_iff.mp e
        have he := zipE_at (F := fun v u b => EqAt A.in1 s v u b) hE t1 t2 p1 p2 eb
        have hsz : vs'.toArray.size = us'.toArray.size := by simp; omega
        have he' : ∀ j (h1 : j < vs'.toArray.size) (h2 : j < us'.toArray.size), EqAt A.in1 s vs'.toArray[j] us'.toArray[j] (bs.getD j true) := fun j g1 g2 => by simpa using he j (by simpa using g1) (by simpa using g2)
        have hb : ((List.range vs'.toArray.size).all fun j => bs.getD j true) = (bs.all id && xs.length == ys.length) := by
          rw [range_all (by rw [zipE_len eb]; simp; omega)]
          simp [c]
        have z1 := RcAt.lists h1' h2' hsz hu he'
        have z2 := RcNeAt.lists h1' h2' hsz hu he'
        rw [hb] at z1 z2
        exact ⟨z1, z2⟩
      · rw [if_pos ⟨rfl, c⟩] at e
        cases e
        have hsz : (vs'.toArray.size != us'.toArray.size) = true := by simp; omega
        exact ⟨.lists_lengths h1' h2' hsz hu, .lists_lengths h1' h2' hsz hu⟩
    | false =>
      have h1' : s.heap.IsTuple a1 vs'.toArray := h1
      have h2' : s.heap.IsTuple a2 us'.toArray := h2
      rw [if_neg (fun z => by cases z.1)] at e
      obtain ⟨bs, eb, rfl⟩ := Option.map_eq_some_iff.mp e
      have he := zipE_at (F := fun v u b => EqAt A.in1 s v u b) hE t1 t2 p1 p2 eb
      have he' : ∀ j (h1 : j < vs'.toArray.size) (h2 : j < us'.toArray.size), EqAt A.in1 s vs'.toArray[j] us'.toArray[j] (bs.getD j true) := fun j g1 g2 => by simpa using he j (by simpa using g1) (by simpa using g2)
      have hb : (((List.range (min vs'.toArray.size us'.toArray.size)).all fun j => bs.getD j true) && vs'.toArray.size == us'.toArray.size) = (bs.all id && xs.length == ys.length) := by
        rw [range_all (by rw [zipE_len eb]; simp [n1, n2])]
        simp [n1, n2]
      have z1 := RcAt.tuples h1' h2' hu he'
      have z2 := RcNeAt.tuples h1' h2' hu he'
      rw [hb] at z1 z2
      exact ⟨z1, z2⟩
  · rw [if_neg kj] at e
    cases e
    cases k <;> cases j <;> first | exact absurd rfl kj | skip
    · exact ⟨.tuple_list h1 h2 hu, .tuple_list h1 h2 hu⟩
    · exact ⟨.list_tuple h1 h2 hu, .list_tuple h1 h2 hu⟩
theorem zipE_same {E : W → W → Option Bool} (hE : ∀ x y v b, RV S rho H x v → RV S rho H y v → E x y = some b → b = true) : ∀ {xs ys : List W} {bs : List Bool} {vs : List V}, RVs S rho H xs vs → RVs S rho H ys vs → zipE E xs ys = some bs → bs.all id = true
  | [], [], bs, _, .nil, .nil, e => by unfold zipE at e; cases e; rfl
  | x :: xs, y :: ys, bs, _, .cons r1 t1, .cons r2 t2, e => by
    unfold zipE at e
    split at e
    · rename_i b cs e1 e2
      cases e
      rw [List.all_cons, zipE_same hE t1 t2 e2, hE _ _ _ _ r1 r2 e1]
      rfl
    · cases e
  | [], _ :: _, _, _, .nil, t, _ => by cases t
  | _ :: _, [], _, _, .cons _ _, t, _ => by cases t
/-- of one and the same thing -/
theorem eqG_same (K : S.K = X.K) (l : Rl S rho h H) (I : Inv X pins sg H s) : ∀ (n : Nat) {x y : W} {v : V} {b : Bool}, RV S rho H x v → RV S rho H y v → eqG n h x y = some b → b = true
  | 0, _, _, _, _, _, _, e => by cases e
  | n + 1, x, y, v, b, r1, r2, e => by
    unfold eqG at e
    split at e
    · cases e; rfl
    · rename_i ns
      have same2 : ∀ {xs ys : List W} {vs : List V} {k : Bool}, RVs S rho H xs vs → RVs S rho H ys vs → (if k = k then (if k = true ∧ xs.length ≠ ys.length then some false else (zipE (eqG n h) xs ys).map fun bs => bs.all id && xs.length == ys.length) else some false) = some b → b = true := by
        intro xs ys vs k t1 t2 e
        have hl : xs.length = ys.length := t1.length.trans t2.length.symm
        rw [if_pos rfl, if_neg (fun z => z.2 hl)] at e
        obtain ⟨bs, eb, rfl⟩ := Option.map_eq_some_iff.mp e
        rw [zipE_same (fun x y v b q1 q2 e => eqG_same K l I n q1 q2 e) t1 t2 eb, hl]
        simp
      unfold eqR at e
      cases r1 with
      | tup a t1 =>
        cases r2 with
        | tup a2 t2 =>
          rw [K] at a a2
          have := I.tuple_inj a a2
          subst this
          exact same2 t1 t2 e
        | cst a2 t2 =>
          have e' : (if isSc (.cst _) = true then some false else none) = some b := e
          cases e'
        | ref hp =>
          cases e2 : sqW h (.ref _) with
          | none =>
            rw [e2] at e
            have e' : (if isSc (.ref _) = true then some false else none) = some b := e
            cases e'
          | some kj =>
            obtain ⟨j, ys⟩ := kj
            obtain ⟨a1, vs, us, z, t1, p1, h1⟩ := sqW_ok K l I (.ref hp) (show RelV (.ref _) (.ref _) from rfl) e2
            rw [K] at a
            obtain ⟨us2, r3, p3, _⟩ := I.tuple a
            cases z
            have hj : j = true := by
              have q : (rdL h _).map (fun xs => (true, xs)) = some (j, ys) := e2
              obtain ⟨_, _, z⟩ := Option.map_eq_some_iff.mp q
              cases z
              rfl
            subst hj
            have h1' : s.heap.IsList _ us.toArray := h1
            obtain ⟨o1, g1, c1, _⟩ := h1'
            obtain ⟨o2, g2, c2, _⟩ := p3
            rw [g1] at g2
            cases g2
            rw [c1] at c2
            exact absurd c2 (by decide)
      | cst a t1 =>
        cases r2 with
        | tup a2 t2 =>
          have e' : (if isSc (.cst _) = true then some false else none) = some b := e
          cases e'
        | cst a2 t2 =>
          have e' : (none : Option Bool) = some b := e
          cases e'
        | ref hp =>
          cases e2 : sqW h (.ref _) with
          | none =>
            rw [e2] at e
            have e' : (none : Option Bool) = some b := e
            cases e'
          | some kj =>
            rw [e2] at e
            have e' : (if isSc (.cst _) = true then some false else none) = some b := e
            cases e'
      | ref hp =>
        cases r2 with
        | tup a t2 =>
          cases e2 : sqW h (.ref _) with
          | none =>
            rw [e2] at e
            have e' : (if isSc (.ref _) = true then some false else none) = some b := e
            cases e'
          | some kj =>
            obtain ⟨j, ys⟩ := kj
            obtain ⟨a1, vs, us, z, t1, p1, h1⟩ := sqW_ok K l I (.ref hp) (show RelV (.ref _) (.ref _) from rfl) e2
            rw [K] at a
            obtain ⟨us2, r3, p3, _⟩ := I.tuple a
            cases z
            have hj : j = true := by
              have q : (rdL h _).map (fun xs => (true, xs)) = some (j, ys) := e2
              obtain ⟨_, _, z⟩ := Option.map_eq_some_iff.mp q
              cases z
              rfl
            subst hj
            have h1' : s.heap.IsList _ us.toArray := h1
            obtain ⟨o1, g1, c1, _⟩ := h1'
            obtain ⟨o2, g2, c2, _⟩ := p3
            rw [g1] at g2
            cases g2
            rw [c1] at c2
            exact absurd c2 (by decide)
        | cst a2 t2 =>
          cases e2 : sqW h (.ref _) with
          | none =>
            rw [e2] at e
            have e' : (none : Option Bool) = some b := e
            cases e'
          | some kj =>
            rw [e2] at e
            have e' : (if isSc (.cst _) = true then some false else none) = some b := e
            cases e'
        | ref hp2 =>
          rename_i i p j
          have : i = j := by
            obtain ⟨h1, g1⟩ := List.getElem?_eq_some_iff.mp hp
            obtain ⟨h2, g2⟩ := List.getElem?_eq_some_iff.mp hp2
            exact (List.getElem_inj l.nd).mp (g1.trans g2.symm)
          subst this
          simp [sameW] at ns
      | non => cases r2; cases e; rfl
      | bl => cases r2; cases e; simp
      | int => cases r2; cases e; simp
      | str => cases r2; cases e; simp
theorem isD0_ok {a : Nat} (c : isD0 h a = true) : h[a]? = some (.dic []) := by
  unfold isD0 at c
  split at c
  · assumption
  · cases c
theorem scD_cases {x y : W} {b : Bool} (e : scD h x y = some b) : (∃ a c, x = .ref a ∧ y = .ref c ∧ h[a]? = some (.dic []) ∧ h[c]? = some (.dic []) ∧ b = true) ∨ scE x y = some b := by
  unfold scD at e
  split at e
  · rename_i b' q
    cases e
    refine .inl ?_
    unfold dicE at q
    split at q
    · split at q
      · rename_i c
        cases q
        exact ⟨_, _, rfl, rfl, isD0_ok c.1, isD0_ok c.2, rfl⟩
      · cases q
    · cases q
  · exact .inr e
theorem scD_sc {x y : W} (c : isSc x = true) : scD h x y = scE x y := by cases x <;> first | rfl | cases c
theorem dict0 {P P' : Program} {w w' : World} {hh : Heap} {a : Addr} (D : Heap.DictOf (mixKind P w) hh a []) : Heap.DictOf (mixKind P' w') hh a [] := by
  obtain ⟨o, es, ep, ho, ed, dd, ks, ps, nd⟩ := D
  have : es = #[] := by
    have : es.toList = [] := by
      cases q : es.toList with
      | nil => rfl
      | cons x l => rw [q] at ps; cases ps
    exact Array.toList_inj.mp this
  subst this
  exact ⟨o, #[], ep, ho, ed, dd, fun i hi => by simp at *, .nil, List.nodup_nil⟩
theorem scD_rc {A : Around} {x y : W} {v u : V} {v' u' : Value} {b : Bool} (l : Rl S rho h H) (I : Inv X pins sg H s) (hu : A.units < cLine) (r1 : RV S rho H x v) (r2 : RV S rho H y u) (q1 : RelV v v') (q2 : RelV u u') (e : scD h x y = some b) : RcAt A s v' u' b ∧ RcNeAt A s v' u' (!b) := by
  rcases scD_cases e with ⟨a, c, rfl, rfl, ha, hc, rfl⟩ | e
  · obtain ⟨p, rfl, hp⟩ := refOf r1
    obtain ⟨p2, rfl, hp2⟩ := refOf r2
    cases q1
    cases q2
    obtain ⟨ys, d1, rr1⟩ := dic_of l hp ha
    obtain ⟨zs, d2, rr2⟩ := dic_of l hp2 hc
    cases rr1
    cases rr2
    obtain ⟨_, s1, vs1, kv1, D1⟩ := I.hok p _ d1
    obtain ⟨_, s2, vs2, kv2, D2⟩ := I.hok p2 _ d2
    cases kv1
    cases kv2
    refine ⟨fun prog w E Q hq => ?_, fun prog w E Q hq => ?_⟩
    · exact PySem.W.keq_eq (knd := mixKind prog w) (ka := []) (kb := []) s1 s2 (dict0 D1) (dict0 D2) hu (fun _ => .nil) (r := true) (by simpa using hq)
    · exact PySem.W.keq_ne (knd := mixKind prog w) (ka := []) (kb := []) s1 s2 (dict0 D1) (dict0 D2) hu (fun _ => .nil) (r := true) (by simpa using hq)
  · exact scE_rc r1 r2 q1 q2 e
theorem eqR_ok (K : S.K = X.K) (l : Rl S rho h H) (I : Inv X pins sg H s) {E : W → W → Option Bool} {A : Around} (hu : A.units < cLine) (hE : ∀ x y v u v' u' b, RV S rho H x v → RV S rho H y u → RelV v v' → RelV u u' → E x y = some b → EqAt A.in1 s v' u' b) {x y : W} {v u : V} {v' u' : Value} {b : Bool}
    (r1 : RV S rho H x v) (r2 : RV S rho H y u) (q1 : RelV v v') (q2 : RelV u u') (e : eqR E h x y = some b) : RcAt A s v' u' b ∧ RcNeAt A s v' u' (!b) := by
  unfold eqR at e
  split at e
  · rename_i k xs j ys e1 e2
    exact seq_rc K l I hu hE r1 r2 q1 q2 e1 e2 e
  · rename_i kx e1 e2
    obtain ⟨k, xs⟩ := kx
    obtain ⟨a1, vs, vs', rfl, t1, p1, h1⟩ := sqW_ok K l I r1 q1 e1
    split at e
    · rename_i c
      cases e
      have z := sc_seq (A := A) hu r2 q2 c (its := vs'.toArray) (a := a1) (k := k) h1
      exact ⟨z.2.2.2.1, z.2.2.2.2.1⟩
    · cases e
  · rename_i kx e1 e2
    obtain ⟨k, xs⟩ := kx
    obtain ⟨a1, vs, vs', rfl, t1, p1, h1⟩ := sqW_ok K l I r2 q2 e2
    split at e
    · rename_i c
      cases e
      have z := sc_seq (A := A) hu r1 q1 c (its := vs'.toArray) (a := a1) (k := k) h1
      exact ⟨z.1, z.2.1⟩
    · cases e
  · exact scD_rc l I hu r1 r2 q1 q2 e
theorem sameW_ref {x y : W} (e : sameW x y = true) : ∃ i, x = .ref i ∧ y = .ref i := by
  cases x <;> cases y <;> first | (cases e; done) | skip
  simp [sameW] at e
  subst e
  exact ⟨_, rfl, rfl⟩
theorem eqG_ok (K : S.K = X.K) (l : Rl S rho h H) (I : Inv X pins sg H s) : ∀ (n : Nat) {A : Around} (hu : A.units + n < cLine) {x y : W} {v u : V} {v' u' : Value} {b : Bool}, RV S rho H x v → RV S rho H y u → RelV v v' → RelV u u' → eqG n h x y = some b → EqAt A s v' u' b
  | 0, _, _, _, _, _, _, _, _, _, _, _, _, _, e => by cases e
  | n + 1, A, hu, x, y, v, u, v', u', b, r1, r2, q1, q2, e => by
    have e0 := e
    unfold eqG at e
    split at e
    · rename_i sm
      cases e
      obtain ⟨i, rfl, rfl⟩ := sameW_ref sm
      obtain ⟨p, rfl, hp⟩ := refOf r1
      obtain ⟨p', rfl, hp'⟩ := refOf r2
      rw [hp] at hp'
      cases hp'
      cases q1
      cases q2
      exact .same _
    · rename_i ns
      have z := eqR_ok K l I (A := A) (E := eqG n h) (by omega) (fun x y v u v' u' b a1 a2 a3 a4 a5 => eqG_ok K l I n (A := A.in1) (by rw [Around.in1_units]; omega) a1 a2 a3 a4 a5) r1 r2 q1 q2 e
      cases hx : isSc x with
      | true =>
        cases hy : isSc y with
        | true =>
          refine scE_at r1 r2 q1 q2 ?_
          unfold eqR at e
          have n1 : sqW h x = none := by cases x <;> first | rfl | cases hx
          have n2 : sqW h y = none := by cases y <;> first | rfl | cases hy
          rw [n1, n2] at e
          exact (scD_sc hx).symm.trans e
        | false =>
          have n1 : sqW h x = none := by cases x <;> first | rfl | cases hx
          unfold eqR at e
          rw [n1] at e
          cases n2 : sqW h y with
          | none =>
            rw [n2] at e
            have e' : scE x y = some b := (scD_sc hx).symm.trans e
            cases x <;> cases y <;> first | (cases e'; done) | (cases hx; done) | (cases hy; done)
          | some kx =>
            rw [n2] at e
            obtain ⟨k, xs⟩ := kx
            obtain ⟨a1, vs, vs', rfl, t1, p1, h1⟩ := sqW_ok K l I r2 q2 n2
            have e' : (if isSc x = true then some false else none) = some b := e
            rw [if_pos hx] at e'
            cases e'
            exact (sc_seq (A := A) (by omega) r1 q1 hx (its := vs'.toArray) (a := a1) (k := k) h1).2.2.1
      | false =>
        have ref_of_seq : ∀ {k : Bool} {xs : List W}, sqW h x = some (k, xs) → ∃ a1, v' = .ref a1 := fun e1 => by
          obtain ⟨a1, vs, vs', rfl, t1, p1, h1⟩ := sqW_ok K l I r1 q1 e1
          exact ⟨_, rfl⟩
        cases n1 : sqW h x with
        | none =>
          unfold eqR at e
          rw [n1] at e
          cases n2 : sqW h y with
          | none =>
            rw [n2] at e
            rcases scD_cases (show scD h x y = some b from e) with ⟨a, c, rfl, rfl, ha, hc, rfl⟩ | e'
            · obtain ⟨p, rfl, hp⟩ := refOf r1
              obtain ⟨p2, rfl, hp2⟩ := refOf r2
              cases q1
              cases q2
              refine .of_refs (fun z => ?_) z.1
              subst z
              apply ns
              have : a = c := by
                obtain ⟨h1, g1⟩ := List.getElem?_eq_some_iff.mp hp
                obtain ⟨h2, g2⟩ := List.getElem?_eq_some_iff.mp hp2
                exact (List.getElem_inj l.nd).mp (g1.trans g2.symm)
              subst this
              simp [sameW]
            · cases x <;> cases y <;> first | (cases e'; done) | (cases hx; done)
          | some kx =>
            rw [n2] at e
            have e' : (if isSc x = true then some false else none) = some b := e
            rw [hx] at e'
            cases e'
        | some kx =>
          obtain ⟨k, xs⟩ := kx
          obtain ⟨a1, rfl⟩ := ref_of_seq n1
          cases n2 : sqW h y with
          | none =>
            obtain ⟨a1', vs, vs', z1, t1, p1, h1⟩ := sqW_ok K l I r1 q1 n1
            cases z1
            unfold eqR at e
            rw [n1, n2] at e
            have e' : (if isSc y = true then some false else none) = some b := e
            cases hy : isSc y with
            | false => rw [hy] at e'; cases e'
            | true =>
              rw [if_pos hy] at e'
              cases e'
              exact (sc_seq (A := A) (by omega) r2 q2 hy (its := vs'.toArray) (a := a1) (k := k) h1).2.2.2.2.2
          | some ky =>
            obtain ⟨j, ys⟩ := ky
            obtain ⟨a2, us, us', rfl, t2, p2, h2⟩ := sqW_ok K l I r2 q2 n2
            by_cases ha : a1 = a2
            · subst ha
              have hv : v = .ref a1 := by cases v <;> first | (cases q1; rfl) | (obtain ⟨t, z⟩ := q1; cases z) | cases q1
              have hw : u = .ref a1 := by cases u <;> first | (cases q2; rfl) | (obtain ⟨t, z⟩ := q2; cases z) | cases q2
              subst hv
              subst hw
              have := eqG_same K l I (n + 1) r1 r2 e0
              subst this
              exact .same _
            · exact .of_refs ha z.1
/-- == -/
def qB (x y : W) (h : HA) : Option Bool := eqR (eqG 9 h) h x y
def qEq : W → W → HA → Option (W × HA) := fun x y h => (qB x y h).map fun b => (.bl b, h)
def qNe : W → W → HA → Option (W × HA) := fun x y h => (qB x y h).map fun b => (.bl (!b), h)
theorem ok_qEq (K : S.K = X.K) (hu : X.A.units + 64 < cLine) : OpR X (compareOp .Eq) (rA S qEq) := by
  intro pins s sg H x y v u Q I rx ry q
  obtain ⟨rho, h, a, b, l, ra, rb, g⟩ := q
  unfold qEq at g
  cases e : qB a b h with
  | none => rw [e] at g; exact g.elim
  | some k =>
    rw [e] at g
    have z := eqR_ok K l I (A := X.A) (E := eqG 9 h) (by omega) (fun x y v u v' u' b a1 a2 a3 a4 a5 => eqG_ok K l I 9 (A := X.A.in1) (by rw [Around.in1_units]; omega) a1 a2 a3 a4 a5) ra rb rx ry e
    exact z.1 _ _ _ _ ⟨.bl _, H, I, rfl, GO.here g l (.bl _)⟩
theorem ok_qNe (K : S.K = X.K) (hu : X.A.units + 64 < cLine) : OpR X (compareOp .NotEq) (rA S qNe) := by
  intro pins s sg H x y v u Q I rx ry q
  obtain ⟨rho, h, a, b, l, ra, rb, g⟩ := q
  unfold qNe at g
  cases e : qB a b h with
  | none => rw [e] at g; exact g.elim
  | some k =>
    rw [e] at g
    have z := eqR_ok K l I (A := X.A) (E := eqG 9 h) (by omega) (fun x y v u v' u' b a1 a2 a3 a4 a5 => eqG_ok K l I 9 (A := X.A.in1) (by rw [Around.in1_units]; omega) a1 a2 a3 a4 a5) ra rb rx ry e
    exact z.2 _ _ _ _ ⟨.bl _, H, I, rfl, GO.here g l (.bl _)⟩
/-! in, not in: over a list or a tuple -/
def anyE (E : W → W → Option Bool) (y : W) : List W → Option Bool
  | [] => some false
  | x :: xs => match E x y, anyE E y xs with
    | some b, some c => some (b || c)
    | _, _ => none
def inB (x y : W) (h : HA) : Option Bool := match sqW h y with
  | some (_, ys) => anyE (eqG 9 h) x ys
  | none => none
def qIn : W → W → HA → Option (W × HA) := fun x y h => (inB x y h).map fun b => (.bl b, h)
def qNin : W → W → HA → Option (W × HA) := fun x y h => (inB x y h).map fun b => (.bl (!b), h)
theorem anyE_ok {E : W → W → Option Bool} {P : Value → Bool → Prop} {x : W} (hE : ∀ y v v' b, RV S rho H y v → RelV v v' → E y x = some b → P v' b) : ∀ {ys : List W} {b : Bool} {vs : List V} {us : List Value}, RVs S rho H ys vs → Vals vs us → anyE E x ys = some b →
    ∃ e : Value → Bool, (∀ y ∈ us, P y (e y)) ∧ us.any e = b
  | [], _, _, _, .nil, .nil, z => by cases z; exact ⟨fun _ => false, by simp, rfl⟩
  | y :: ys, b, _, _, .cons r t, .cons (b := u) (l₂ := us) q p, z => by
    unfold anyE at z
    split at z
    · rename_i b1 c1 e1 e2
      cases z
      obtain ⟨e, he, ha⟩ := anyE_ok hE t p e2
      have h1 := hE _ _ _ _ r q e1
      classical
      by_cases hm : u ∈ us
      · by_cases hb : e u = b1
        · refine ⟨e, fun y hy => ?_, by rw [List.any_cons, hb, ha]⟩
          rcases List.mem_cons.mp hy with rfl | hy
          · rw [hb]; exact h1
          · exact he y hy
        · -- both hold of u: true is told
          have hT : P u true := by
            cases b1 with
            | true => exact h1
            | false =>
              have := he u hm
              have : e u = true := by cases ee : e u with
                | true => rfl
                | false => exact absurd ee hb
              rw [← this]; exact he u hm
          refine ⟨fun y => if y = u then true else e y, fun y hy => ?_, ?_⟩
          · by_cases hyu : y = u
            · subst hyu; show P y (if y = y then true else e y); rw [if_pos rfl]; exact hT
            · show P y (if y = u then true else e y)
              rw [if_neg hyu]
              rcases List.mem_cons.mp hy with rfl | hy
              · exact absurd rfl hyu
              · exact he y hy
          · rw [List.any_cons, if_pos rfl, Bool.true_or]
            cases b1 with
            | true => rfl
            | false =>
              have h2 : e u = true := by cases ee : e u with
                | true => rfl
                | false => exact absurd ee hb
              have : us.any e = true := List.any_eq_true.mpr ⟨u, hm, h2⟩
              rw [← ha, this]; rfl
      · refine ⟨fun y => if y = u then b1 else e y, fun y hy => ?_, ?_⟩
        · by_cases hyu : y = u
          · subst hyu; show P y (if y = y then b1 else e y); rw [if_pos rfl]; exact h1
          · show P y (if y = u then b1 else e y)
            rw [if_neg hyu]
            rcases List.mem_cons.mp hy with rfl | hy
            · exact absurd rfl hyu
            · exact he y hy
        · rw [List.any_cons, if_pos rfl, ← ha]
          congr 1
          have : ∀ (l : List Value), u ∉ l → l.any (fun y => if y = u then b1 else e y) = l.any e := by
            intro l
            induction l with
            | nil => intro _; rfl
            | cons z l ih =>
              intro hn
              rw [List.any_cons, List.any_cons, ih (fun q => hn (List.mem_cons_of_mem _ q)), if_neg (fun q : z = u => hn (by rw [← q]; exact List.mem_cons_self))]
          exact this us hm
    · cases z
theorem in_ok (K : S.K = X.K) (l : Rl S rho h H) (I : Inv X pins sg H s) (hu : X.A.units + 64 < cLine) {x y : W} {v u : V} {v' u' : Value} {b : Bool} (r1 : RV S rho H x v) (r2 : RV S rho H y u) (q1 : RelV v v') (q2 : RelV u u') (e : inB x y h = some b) {prog : Program} {w : World} {E : Value → Shared → Prop} {Q Q' : Value → Shared → Prop} (hq : Q (.bool b) s) (hq' : Q' (.bool (!b)) s) :
    wpAny (model prog w) X.A (compareOp .In v' u') Q E s ∧ wpAny (model prog w) X.A (compareOp .NotIn v' u') Q' E s := by
  unfold inB at e
  split at e
  · rename_i k ys e2
    obtain ⟨a1, vs, us, rfl, t1, p1, h1⟩ := sqW_ok K l I r2 q2 e2
    obtain ⟨f, hf, ha⟩ := anyE_ok (P := fun y b => EqAt X.A.in1 s y v' b) (fun y w w' b rw1 rw2 ee => eqG_ok K l I 9 (A := X.A.in1) (by rw [Around.in1_units]; omega) rw1 r1 rw2 q1 ee) t1 p1 e
    cases k with
    | true =>
      have h1' : s.heap.IsList a1 us.toArray := h1
      exact ⟨in_listAt f h1' (fun y hy => hf y (by simpa using hy)) (by simpa [ha] using hq), notIn_listAt f h1' (fun y hy => hf y (by simpa using hy)) (by simpa [ha] using hq')⟩
    | false =>
      have h1' : s.heap.IsTuple a1 us.toArray := h1
      exact ⟨in_tupleAt f h1' (fun y hy => hf y (by simpa using hy)) (by simpa [ha] using hq), notIn_tupleAt f h1' (fun y hy => hf y (by simpa using hy)) (by simpa [ha] using hq')⟩
  · cases e
theorem ok_qIn (K : S.K = X.K) (hu : X.A.units + 64 < cLine) : OpR X (compareOp .In) (rA S qIn) := by
  intro pins s sg H x y v u Q I rx ry q
  obtain ⟨rho, h, a, b, l, ra, rb, g⟩ := q
  unfold qIn at g
  cases e : inB a b h with
  | none => rw [e] at g; exact g.elim
  | some k =>
    rw [e] at g
    exact (in_ok K l I hu ra rb rx ry e (Q' := fun _ _ => True) ⟨.bl _, H, I, rfl, GO.here g l (.bl _)⟩ trivial).1
theorem ok_qNin (K : S.K = X.K) (hu : X.A.units + 64 < cLine) : OpR X (compareOp .NotIn) (rA S qNin) := by
  intro pins s sg H x y v u Q I rx ry q
  obtain ⟨rho, h, a, b, l, ra, rb, g⟩ := q
  unfold qNin at g
  cases e : inB a b h with
  | none => rw [e] at g; exact g.elim
  | some k =>
    rw [e] at g
    exact (in_ok K l I hu ra rb rx ry e (Q := fun _ _ => True) trivial ⟨.bl _, H, I, rfl, GO.here g l (.bl _)⟩).2
end
end J

namespace J
open PySem PySem.Spec PyProof.Rows L2

/-! ### truth -/
def truW (x : W) (h : HA) : Option Bool := match x with
  | .non => some false
  | .bl b => some b
  | .int i => some (i != 0)
  | .str y => if y.length ≤ sizeLine then some ((y.length : Int) != 0) else none
  | .tup xs => some (!xs.isEmpty)
  | .cst xs => some (!xs.isEmpty)
  | .ref i => match h[i]? with
    | some (.lst xs) => some (!xs.isEmpty)
    | some (.dic xs) => some (!xs.isEmpty)
    | _ => none
  | .xcp _ _ => none
section
variable {X : Cx} {S : Sta} {Wx : Wi} {e a b : Expr} {es rest : List Expr} {m m1 m2 : Ex} {ms : Ax} {t u : Tx} {pos : Pos}
theorem rvs_emp {rho : List Addr} {H : Hp} : ∀ {xs : List W} {ys : List V}, RVs S rho H xs ys → (!ys.isEmpty) = !xs.isEmpty
  | _, _, .nil => rfl
  | _, _, .cons _ _ => rfl
theorem rd_emp {rho : List Addr} {H : Hp} : ∀ {xs : List (Key × W)} {ys : List (Key × V)}, RD S rho H xs ys → (!ys.isEmpty) = !xs.isEmpty
  | _, _, .nil => rfl
  | _, _, .cons _ _ => rfl
theorem truW_ok (K : S.K = X.K) {rho : List Addr} {H : Hp} {h : HA} (l : Rl S rho h H) {w : W} {v : V} {k : Bool} (r : RV S rho H w v) (e : truW w h = some k) : TruV X.K v H k := by
  cases r with
  | non => cases e; rfl
  | bl b => cases e; rfl
  | int i => cases e; rfl
  | str x =>
    unfold truW at e
    dsimp only at e
    split at e
    · rename_i c
      cases e
      exact ⟨c, rfl⟩
    · cases e
  | tup hp rs => cases e; exact .inr (.inl ⟨_, by rw [← K]; exact hp, (rvs_emp rs).symm⟩)
  | cst hp rs => cases e; exact .inl ⟨_, by rw [← K]; exact hp.sq, (rvs_emp rs).symm⟩
  | ref hp =>
    unfold truW at e
    dsimp only at e
    split at e
    · rename_i o
      cases e
      obtain ⟨ys, a1, a2⟩ := lst_of l hp o
      exact .inl ⟨ys, SqL.of a1, (rvs_emp a2).symm⟩
    · rename_i o
      cases e
      obtain ⟨ys, a1, a2⟩ := dic_of l hp o
      exact .inr (.inr ⟨ys, a1, (rd_emp a2).symm⟩)
    · cases e
def ofB (r : Option Bool) (h : HA) : Res Bool := match r with
  | some b => .ok b h
  | none => .stuck
/-- a value as a test -/
def xTru (m : Ex) : Tx := fun ta h => (m ta h).bind fun x h1 => ofB (truW x h1) h1
def xAnd (t u : Tx) : Tx := fun ta h => (t ta h).bind fun b h1 => if b = true then u ta h1 else .ok false h1
def xOr (t u : Tx) : Tx := fun ta h => (t ta h).bind fun b h1 => if b = true then .ok true h1 else u ta h1
def xNot (t : Tx) : Tx := fun ta h => (t ta h).bind fun b h1 => .ok (!b) h1
def eAnd (m1 m2 : Ex) : Ex := fun ta h => (m1 ta h).bind fun x h1 => match truW x h1 with
  | some true => m2 ta h1
  | some false => .ok x h1
  | none => .stuck
def eOr (m1 m2 : Ex) : Ex := fun ta h => (m1 ta h).bind fun x h1 => match truW x h1 with
  | some true => .ok x h1
  | some false => m2 ta h1
  | none => .stuck
def eNot (m : Ex) : Ex := fun ta h => (m ta h).bind fun x h1 => match truW x h1 with
  | some b => .ok (.bl (!b)) h1
  | none => .stuck
def eIf (t : Tx) (m1 m2 : Ex) : Ex := fun ta h => (t ta h).bind fun b h1 => if b = true then m1 ta h1 else m2 ta h1
def DW (S : Sta) (X : Cx) (Wx : Wi) (e : Expr) (m : Tx) : Prop := PW X e (tT S Wx m)
theorem tT_bindE {sg : L2.St} {H : Hp} {Q : Bool → Hp → Prop} {Q1 : VK} {k : En → W → HA → Res Bool} (q : tT S Wx (fun ta h => (m1 ta h).bind (k ta)) sg H Q)
    (f : ∀ rho1 H1 ta v1 w1 h1, Rl S rho1 h1 H1 → RS S Wx rho1 H1 ta sg → RV S rho1 H1 w1 v1 → GB S Wx sg rho1 H1 Q (k ta w1 h1) → Q1 v1 H1) : tE S Wx m1 sg H Q1 := by
  obtain ⟨rho, h, ta, l, r, g⟩ := q
  exact ⟨rho, h, ta, l, r, GB.of_bind g fun rho1 H1 v1 w1 h1 e l1 r1 g1 => f rho1 H1 ta v1 w1 h1 l1 (r.mono e) r1 g1⟩
theorem tT_bindB {sg : L2.St} {H : Hp} {Q Q1 : Bool → Hp → Prop} {k : En → Bool → HA → Res Bool} (q : tT S Wx (fun ta h => (t ta h).bind (k ta)) sg H Q)
    (f : ∀ rho1 H1 ta w1 h1, Rl S rho1 h1 H1 → RS S Wx rho1 H1 ta sg → GB S Wx sg rho1 H1 Q (k ta w1 h1) → Q1 w1 H1) : tT S Wx t sg H Q1 := by
  obtain ⟨rho, h, ta, l, r, g⟩ := q
  exact ⟨rho, h, ta, l, r, GB.of_bindB g fun rho1 H1 w1 h1 e l1 g1 => f rho1 H1 ta w1 h1 l1 (r.mono e) g1⟩
theorem tE_bindB {sg : L2.St} {H : Hp} {Q : VK} {Q1 : Bool → Hp → Prop} {k : En → Bool → HA → Res W} (q : tE S Wx (fun ta h => (t ta h).bind (k ta)) sg H Q)
    (f : ∀ rho1 H1 ta w1 h1, Rl S rho1 h1 H1 → RS S Wx rho1 H1 ta sg → GE S Wx sg rho1 H1 Q (k ta w1 h1) → Q1 w1 H1) : tT S Wx t sg H Q1 := by
  obtain ⟨rho, h, ta, l, r, g⟩ := q
  exact ⟨rho, h, ta, l, r, GB.of_bindE g fun rho1 H1 w1 h1 e l1 g1 => f rho1 H1 ta w1 h1 l1 (r.mono e) g1⟩
theorem tE_bindA {sg : L2.St} {H : Hp} {Q : VK} {Q1 : List V → Hp → Prop} {k : En → List W → HA → Res W} (q : tE S Wx (fun ta h => (ms ta h).bind (k ta)) sg H Q)
    (f : ∀ rho1 H1 ta v1 w1 h1, Rl S rho1 h1 H1 → RS S Wx rho1 H1 ta sg → RVs S rho1 H1 w1 v1 → GE S Wx sg rho1 H1 Q (k ta w1 h1) → Q1 v1 H1) : tA S Wx ms sg H Q1 := by
  obtain ⟨rho, h, ta, l, r, g⟩ := q
  exact ⟨rho, h, ta, l, r, GA.of_bindE g fun rho1 H1 v1 w1 h1 e l1 r1 g1 => f rho1 H1 ta v1 w1 h1 l1 (r.mono e) r1 g1⟩
/-- any expression as a test -/
theorem dt_tru (K : S.K = X.K) (h : DE S X Wx e m) (he : ∀ whole, isTrue e X.env whole = (do let v ← whole; standAt e.pos; holding [v] (truthy v)) := by intro _; rfl) : DT S X Wx e (xTru m) :=
  pt_imp (pt_truth h he) fun sg H Q q => tT_bindE (k := fun _ x h1 => ofB (truW x h1) h1) q fun rho H1 ta v w h1 l rs r g => by
    cases e1 : truW w h1 with
    | none => rw [e1] at g; exact g.elim
    | some k => rw [e1] at g; exact ⟨k, truW_ok K l r e1, g rho H1 Ev.rfl' l⟩
theorem dw_pt (h : DW S X Wx e t) : DT S X Wx e t := PW.pt h
theorem dw_and1 (h : DT S X Wx e t) : DW S X Wx (.BoolOp .And [e] pos) t := pw_and1 h
theorem dw_or1 (h : DT S X Wx e t) : DW S X Wx (.BoolOp .Or [e] pos) t := pw_or1 h
theorem pw_imp {t t' : TT} (h : PW X e t) (f : ∀ sg H Q, t' sg H Q → t sg H Q) : PW X e t' := ⟨fun wh pins s sg H Q I q => h.run wh pins s sg H Q I (f _ _ _ q)⟩
theorem dw_and (h : DT S X Wx a t) (k : DW S X Wx (.BoolOp .And (b :: rest) pos) u) : DW S X Wx (.BoolOp .And (a :: b :: rest) pos) (xAnd t u) :=
  pw_imp (pw_and h k) fun sg H Q q => tT_bindB (k := fun ta b h1 => if b = true then u ta h1 else .ok false h1) q fun rho H1 ta w h1 l rs g => by
    cases w with
    | true => exact ⟨rho, h1, ta, l, rs, g⟩
    | false => exact g rho H1 Ev.rfl' l
theorem dw_or (h : DT S X Wx a t) (k : DW S X Wx (.BoolOp .Or (b :: rest) pos) u) : DW S X Wx (.BoolOp .Or (a :: b :: rest) pos) (xOr t u) :=
  pw_imp (pw_or h k) fun sg H Q q => tT_bindB (k := fun ta b h1 => if b = true then .ok true h1 else u ta h1) q fun rho H1 ta w h1 l rs g => by
    cases w with
    | true => exact g rho H1 Ev.rfl' l
    | false => exact ⟨rho, h1, ta, l, rs, g⟩
theorem dt_not (h : DT S X Wx a t) : DT S X Wx (.UnaryOp .Not a pos) (xNot t) :=
  pt_imp (pt_not h) fun sg H Q q => tT_bindB (k := fun ta b h1 => .ok (!b) h1) q fun rho H1 ta w h1 l rs g => g rho H1 Ev.rfl' l
theorem de_one {op} (h : DE S X Wx a m) : DE S X Wx (.BoolOp op [a] pos) m := pe_one h
theorem de_and (K : S.K = X.K) (h : DE S X Wx a m1) (k : DE S X Wx (.BoolOp .And (b :: rest) pos) m2) : DE S X Wx (.BoolOp .And (a :: b :: rest) pos) (eAnd m1 m2) :=
  pe_imp (pe_andT h k) fun sg H Q q => tE_bind (k := fun ta x h1 => match truW x h1 with | some true => m2 ta h1 | some false => .ok x h1 | none => .stuck) q fun rho H1 ta v w h1 l rs r g => by
    split at g
    · rename_i e1
      exact ⟨true, truW_ok K l r e1, ⟨rho, h1, ta, l, rs, g⟩⟩
    · rename_i e1
      exact ⟨false, truW_ok K l r e1, g rho H1 v Ev.rfl' l r⟩
    · exact g.elim
theorem de_or (K : S.K = X.K) (h : DE S X Wx a m1) (k : DE S X Wx (.BoolOp .Or (b :: rest) pos) m2) : DE S X Wx (.BoolOp .Or (a :: b :: rest) pos) (eOr m1 m2) :=
  pe_imp (pe_orT h k) fun sg H Q q => tE_bind (k := fun ta x h1 => match truW x h1 with | some true => .ok x h1 | some false => m2 ta h1 | none => .stuck) q fun rho H1 ta v w h1 l rs r g => by
    split at g
    · rename_i e1
      exact ⟨true, truW_ok K l r e1, g rho H1 v Ev.rfl' l r⟩
    · rename_i e1
      exact ⟨false, truW_ok K l r e1, ⟨rho, h1, ta, l, rs, g⟩⟩
    · exact g.elim
theorem de_not (K : S.K = X.K) (h : DE S X Wx a m) : DE S X Wx (.UnaryOp .Not a pos) (eNot m) :=
  pe_imp (pe_notT h) fun sg H Q q => tE_bind (k := fun ta x h1 => match truW x h1 with | some b => .ok (.bl (!b)) h1 | none => .stuck) q fun rho H1 ta v w h1 l rs r g => by
    split at g
    · rename_i b e1
      exact ⟨b, truW_ok K l r e1, g rho H1 _ Ev.rfl' l (.bl _)⟩
    · exact g.elim
theorem de_if {c : Expr} (hc : DT S X Wx c t) (ha : DE S X Wx a m1) (hb : DE S X Wx b m2) : DE S X Wx (.IfExp c a b pos) (eIf t m1 m2) :=
  pe_imp (pe_ifExp hc ha hb) fun sg H Q q => tE_bindB (k := fun ta b h1 => if b = true then m1 ta h1 else m2 ta h1) q fun rho H1 ta w h1 l rs g => by
    cases w with
    | true => exact ⟨rho, h1, ta, l, rs, g⟩
    | false => exact ⟨rho, h1, ta, l, rs, g⟩

/-- a < b < c: b asked once -/
def eChain (o o' : W → W → HA → Option (W × HA)) (m1 m2 m3 : Ex) : Ex := fun ta h => (m1 ta h).bind fun x h1 => (m2 ta h1).bind fun y h2 => match o x y h2 with
  | some (.bl true, h3) => (m3 ta h3).bind fun z h4 => ofO (o' y z h4)
  | some (.bl false, h3) => .ok (.bl false) h3
  | _ => .stuck
theorem RV_bl {rho : List Addr} {H : Hp} {k : Bool} {v : V} (r : RV S rho H (.bl k) v) : v = .bl k := by cases r; rfl

/-! ### argument lists, displays -/
def aNil : Ax := fun _ h => .ok [] h
def aCons (m : Ex) (r : Ax) : Ax := fun ta h => (m ta h).bind fun x h1 => (r ta h1).bind fun xs h2 => .ok (x :: xs) h2
theorem da_nil : DA S X Wx [] aNil := pa_imp pa_nil fun sg H Q q => by
  obtain ⟨rho, h, ta, l, _, g⟩ := q
  exact g rho H [] Ev.rfl' l .nil
theorem da_cons (ha : DE S X Wx e m) (hr : DA S X Wx es ms) (hs : starEach (e :: es) X.env = (false, eval e X.env) :: starEach es X.env := by rfl) : DA S X Wx (e :: es) (aCons m ms) :=
  pa_imp (pa_cons ha hr hs) fun sg H Q q => by
    obtain ⟨rho, h, ta, l, r, g⟩ := q
    refine ⟨rho, h, ta, l, r, GA.of_bind (k := fun x h1 => (ms ta h1).bind fun xs h2 => .ok (x :: xs) h2) g fun rho1 H1 v1 w1 h1 ev l1 r1 g1 => ?_⟩
    refine ⟨rho1, h1, ta, l1, r.mono ev, ?_⟩
    cases e1 : ms ta h1 with
    | ok ws h2 =>
      rw [e1] at g1
      exact fun rho2 H2 vs ev2 l2 r2 => g1 rho2 H2 _ ev2 l2 (.cons (r1.mono ev2) r2)
    | exc c fs h2 => rw [e1] at g1; exact g1
    | stuck => rw [e1] at g1; exact g1
def eTup (ms : Ax) : Ex := fun ta h => (ms ta h).bind fun xs h1 => if xs.length ≤ sizeLine then .ok (.tup xs) h1 else .stuck
def eLst (ms : Ax) : Ex := fun ta h => (ms ta h).bind fun xs h1 => if xs.length ≤ sizeLine then .ok (.ref h1.length) (h1 ++ [.lst xs]) else .stuck
theorem de_tup {x1} (ha : DA S X Wx es ms) : DE S X Wx (.Tuple es x1 pos) (eTup ms) :=
  pe_imp (pe_tup ha) fun sg H Q q => tE_bindA (k := fun ta xs h1 => if xs.length ≤ sizeLine then .ok (.tup xs) h1 else .stuck) q fun rho H1 ta vs ws h1 l rs r g => by
    by_cases c : ws.length ≤ sizeLine
    · rw [if_pos c] at g
      refine ⟨by rw [← r.length]; exact c, fun p n => ?_⟩
      exact GO.tupN (S := S) (h := h1) g l r n
    · rw [if_neg c] at g; exact g.elim
theorem de_lst (ha : DA S X Wx es ms) : DE S X Wx (.List es pos) (eLst ms) :=
  pe_imp (pe_lst ha) fun sg H Q q => tE_bindA (k := fun ta xs h1 => if xs.length ≤ sizeLine then .ok (.ref h1.length) (h1 ++ [O.lst xs]) else .stuck) q fun rho H1 ta vs ws h1 l rs r g => by
    by_cases c : ws.length ≤ sizeLine
    · rw [if_pos c] at g
      refine ⟨by rw [← r.length]; exact c, fun p n => ?_⟩
      exact GO.lstN (S := S) (h := h1) g l r n
    · rw [if_neg c] at g; exact g.elim

/-! ### built-ins by name -/
def eFn (o : List W → HA → Option (W × HA)) (ms : Ax) : Ex := fun ta h => (ms ta h).bind fun xs h1 => ofO (o xs h1)
theorem de_callB {x : Str} {p : Pos} {id : String} {o : List W → HA → Option (W × HA)} (ho : CallR X (.builtin id) (rAs S o)) (hg : Gl X x) (hm : X.mg x = none) (hv : bootBuiltins x = some (.builtin id)) (ha : DA S X Wx (e :: es) ms)
    (hn : x ≠ "__name__" := by decide) (hdb : (x == ("__debug__" : Str)) = false := by decide)
    (he : starEach (e :: es) X.env = (false, eval e X.env) :: starEach es X.env := by rfl) (hpl : (backTo pos (starEach es X.env)).any (·.1) = false := by rfl) : DE S X Wx (.Call (.Name x p) (e :: es) [] pos) (eFn o ms) :=
  pe_imp (pe_callB ho hg hm hv ha hn hdb he hpl) fun sg H Q q => tE_bindA (k := fun ta xs h1 => ofO (o xs h1)) q fun rho H1 ta vs ws h1 l rs r g => ⟨rho, h1, ws, l, r, GO.of g⟩
theorem de_callTy {x : Str} {p : Pos} {id : String} {o : List W → HA → Option (W × HA)} (ho : CallR X (.type id) (rAs S o)) (hg : Gl X x) (hm : X.mg x = none) (hv : bootBuiltins x = some (.type id)) (ha : DA S X Wx (e :: es) ms)
    (hn : x ≠ "__name__" := by decide) (hdb : (x == ("__debug__" : Str)) = false := by decide)
    (he : starEach (e :: es) X.env = (false, eval e X.env) :: starEach es X.env := by rfl) (hpl : (backTo pos (starEach es X.env)).any (·.1) = false := by rfl) : DE S X Wx (.Call (.Name x p) (e :: es) [] pos) (eFn o ms) :=
  pe_imp (pe_callTy ho hg hm hv ha hn hdb he hpl) fun sg H Q q => tE_bindA (k := fun ta xs h1 => ofO (o xs h1)) q fun rho H1 ta vs ws h1 l rs r g => ⟨rho, h1, ws, l, r, GO.of g⟩

section
variable {rho : List Addr} {H : Hp} {h : HA}
theorem RVs_one {w : W} {vs : List V} (r : RVs S rho H [w] vs) : ∃ v, vs = [v] ∧ RV S rho H w v := by
  cases r with
  | cons a b => cases b; exact ⟨_, rfl, a⟩
theorem RVs_two {w z : W} {vs : List V} (r : RVs S rho H [w, z] vs) : ∃ v u, vs = [v, u] ∧ RV S rho H w v ∧ RV S rho H z u := by
  cases r with
  | cons a b =>
    cases b with
    | cons c d => cases d; exact ⟨_, _, rfl, a, c⟩
theorem ref_of {i : Nat} {v : V} (r : RV S rho H (.ref i) v) : ∃ p, v = .ref p ∧ rho[i]? = some p := by cases r with | ref e => exact ⟨_, rfl, e⟩
end
/-- the items of a list or a tuple -/
def itW (h : HA) : W → Option (List W)
  | .tup xs => some xs
  | .cst xs => some xs
  | .ref i => rdL h i
  | _ => none
theorem itW_ok (K : S.K = X.K) {rho : List Addr} {H : Hp} {h : HA} (l : Rl S rho h H) {w : W} {v : V} {xs : List W} (r : RV S rho H w v) (e : itW h w = some xs) : ∃ p ys, v = .ref p ∧ (SqL X.K H p ys ∨ SqT X.K H p ys) ∧ RVs S rho H xs ys := by
  cases r with
  | tup a b => cases e; exact ⟨_, _, rfl, .inr (by rw [← K]; exact a), b⟩
  | cst a b => cases e; exact ⟨_, _, rfl, .inl (by rw [← K]; exact a.sq), b⟩
  | ref a =>
    obtain ⟨ys, a1, a2⟩ := rdL_of K l a e
    exact ⟨_, ys, rfl, .inl a1, a2⟩
  | non => cases e
  | bl _ => cases e
  | int _ => cases e
  | str _ => cases e
def fLen : List W → HA → Option (W × HA) := fun xs h => match xs with
  | [.str x] => if x.length ≤ sizeLine then some (.int x.length, h) else none
  | [w] => (itW h w).map fun ys => (.int ys.length, h)
  | _ => none
theorem ok_len (K : S.K = X.K) : CallR X (.builtin "len") (rAs S fLen) := by
  refine clr_imp (clr_or call_len_seq call_len_str) fun xs H Q q => ?_
  obtain ⟨rho, h, as, l, r, g⟩ := q
  unfold fLen at g
  split at g
  · obtain ⟨v, rfl, rv⟩ := RVs_one r
    cases rv
    split at g
    · rename_i c
      exact .inr ⟨_, rfl, c, GO.here g l (.int _)⟩
    · exact g.elim
  · rename_i w _
    obtain ⟨v, rfl, rv⟩ := RVs_one r
    cases e : itW h w with
    | none => rw [e] at g; exact g.elim
    | some ys =>
      rw [e] at g
      obtain ⟨p, zs, rfl, a, b⟩ := itW_ok K l rv e
      exact .inl ⟨p, zs, rfl, a, by rw [← b.length]; exact GO.here g l (.int _)⟩
  · exact g.elim
def fList : List W → HA → Option (W × HA) := fun xs h => match xs with
  | [w] => (itW h w).map fun ys => (.ref h.length, h ++ [.lst ys])
  | _ => none
theorem ok_list (K : S.K = X.K) : CallR X (.type "list") (rAs S fList) := by
  refine clr_imp call_list_of fun xs H Q q => ?_
  obtain ⟨rho, h, as, l, r, g⟩ := q
  unfold fList at g
  split at g
  · rename_i w
    obtain ⟨v, rfl, rv⟩ := RVs_one r
    cases e : itW h w with
    | none => rw [e] at g; exact g.elim
    | some ys =>
      rw [e] at g
      obtain ⟨p, zs, rfl, a, b⟩ := itW_ok K l rv e
      exact ⟨p, zs, rfl, a, fun q n => GO.lstN g l b n⟩
  · exact g.elim
def fTuple : List W → HA → Option (W × HA) := fun xs h => match xs with
  | [w] => (itW h w).map fun ys => (.tup ys, h)
  | _ => none
theorem ok_tuple (K : S.K = X.K) : CallR X (.type "tuple") (rAs S fTuple) := by
  refine clr_imp call_tuple_of fun xs H Q q => ?_
  obtain ⟨rho, h, as, l, r, g⟩ := q
  unfold fTuple at g
  split at g
  · rename_i w
    obtain ⟨v, rfl, rv⟩ := RVs_one r
    cases e : itW h w with
    | none => rw [e] at g; exact g.elim
    | some ys =>
      rw [e] at g
      obtain ⟨p, zs, rfl, a, b⟩ := itW_ok K l rv e
      refine ⟨p, zs, rfl, ?_⟩
      rcases a with a | a
      · exact .inl ⟨a, fun q n => GO.tupN g l b n⟩
      · exact .inr ⟨a, GO.here g l (.tup (by rw [K]; exact a) b)⟩
  · exact g.elim
def fAbs : List W → HA → Option (W × HA) := fun xs h => match xs with
  | [.int i] => some (.int (if i < 0 then -i else i), h)
  | _ => none
theorem ok_abs : CallR X (.builtin "abs") (rAs S fAbs) := by
  refine clr_imp call_abs fun xs H Q q => ?_
  obtain ⟨rho, h, as, l, r, g⟩ := q
  unfold fAbs at g
  split at g
  · obtain ⟨v, rfl, rv⟩ := RVs_one r
    cases rv
    exact ⟨_, rfl, GO.here g l (.int _)⟩
  · exact g.elim
def fInt : List W → HA → Option (W × HA) := fun xs h => match xs with
  | [.int i] => some (.int i, h)
  | [.bl k] => some (.int (if k then 1 else 0), h)
  | _ => none
theorem ok_int : CallR X (.type "int") (rAs S fInt) := by
  refine clr_imp call_int1 fun xs H Q q => ?_
  obtain ⟨rho, h, as, l, r, g⟩ := q
  unfold fInt at g
  split at g
  · obtain ⟨v, rfl, rv⟩ := RVs_one r
    cases rv
    exact .inl ⟨_, rfl, GO.here g l (.int _)⟩
  · obtain ⟨v, rfl, rv⟩ := RVs_one r
    cases rv
    exact .inr ⟨_, rfl, GO.here g l (.int _)⟩
  · exact g.elim

/-! ### subscripts -/
def oIx : W → W → HA → Option (W × HA) := fun x y h => match x, y with
  | .str z, .int i => if z.length ≤ sizeLine then (atI z.cps.toList i).map fun c => (.str ⟨#[c]⟩, h) else none
  | w, .int i => match itW h w with
    | some xs => (atI xs i).map fun v => (v, h)
    | none => none
  | _, _ => none
theorem atI_rv {rho : List Addr} {H : Hp} {xs : List W} {ys : List V} {i : Int} {w : W} (r : RVs S rho H xs ys) (e : atI xs i = some w) : ∃ v, atI ys i = some v ∧ RV S rho H w v := by
  unfold atI at e ⊢
  rw [← r.length]
  cases q : ixN xs.length i with
  | none => rw [q] at e; cases e
  | some j =>
    rw [q] at e
    obtain ⟨v, a, b⟩ := r.get (show xs[j]? = some w from e)
    exact ⟨v, a, b⟩
theorem ok_ix (K : S.K = X.K) : IxR X (rA S oIx) := by
  refine ixr_imp ix_seq fun x y H Q q => ?_
  obtain ⟨rho, h, a, b, l, rx, ry, g⟩ := q
  unfold oIx at g
  split at g
  · cases rx
    cases ry
    split at g
    · rename_i z i c
      cases e : atI z.cps.toList i with
      | none => rw [e] at g; exact g.elim
      | some d =>
        rw [e] at g
        exact .inr (.inr ⟨_, _, d, rfl, rfl, c, e, GO.here g l (.str _)⟩)
    · exact g.elim
  · rename_i i _
    cases ry
    split at g
    · rename_i xs e
      obtain ⟨p, ys, rfl, c, d⟩ := itW_ok K l rx e
      cases e2 : atI xs i with
      | none => rw [e2] at g; exact g.elim
      | some w =>
        rw [e2] at g
        obtain ⟨v, e3, rv⟩ := atI_rv d e2
        rcases c with c | c
        · exact .inl ⟨p, ys, i, v, rfl, rfl, c, e3, GO.here g l rv⟩
        · exact .inr (.inl ⟨p, ys, i, v, rfl, rfl, c, e3, GO.here g l rv⟩)
    · exact g.elim
  · exact g.elim
end
end J

namespace J
open PySem PySem.Spec PyProof.Rows L2

/-! ### isinstance -/
inductive Tg where
  | non | bl | int | str | tup | lst | dic | ins (c : Nat)
def tgW (x : W) (h : HA) : Option Tg := match x with
  | .non => some .non
  | .bl _ => some .bl
  | .int _ => some .int
  | .str _ => some .str
  | .tup _ => some .tup
  | .cst _ => some .lst
  | .ref i => match h[i]? with
    | some (.lst _) => some .lst
    | some (.dic _) => some .dic
    | some (.ins c _) => some (.ins c)
    | _ => none
  | .xcp _ _ => none
def tgV (S : Sta) : Tg → Value
  | .non => .type "NoneType" | .bl => .type "bool" | .int => .type "int" | .str => .type "str" | .tup => .type "tuple" | .lst => .type "list" | .dic => .type "dict"
  | .ins c => .ref (S.ca c)
/-- what the written part must say of a class whose instances are looked at -/
structure Ck (K : PySem.W.Frag) (C : Addr) : Prop where
  cl : Cls K C
  ha : PySem.W.findIn K (.ref C) "__class__" = some (some (.builtin "object.__class__"))
  hn : PySem.W.specialIn K (.builtin "object.__class__") "__get__" = some (some (.builtin "getset_descriptor.__get__"))
  ht : PySem.W.takesIn K (.builtin "object.__class__") = some true
  hm : PySem.W.mroIn K C (.type "object") = some true
section
variable {X : Cx} {S : Sta} {Wx : Wi} {e a b : Expr} {es rest : List Expr} {m m1 m2 : Ex} {ms : Ax} {t u : Tx} {pos : Pos}
/-- the tag of a value, of one of the classes cs where it is an instance -/
def tgC (cs : List Nat) (x : W) (h : HA) : Option Tg := match tgW x h with
  | some (.ins c) => if c ∈ cs then some (.ins c) else none
  | r => r
def eIsi (cs : List Nat) (f : Tg → Option Bool) (m : Ex) : Ex := fun ta h => (m ta h).bind fun x h1 => match tgC cs x h1 with
  | some g => (match f g with
    | some b => .ok (.bl b) h1
    | none => .stuck)
  | none => .stuck
theorem ty_of (K : S.K = X.K) {cs : List Nat} (ck : ∀ c ∈ cs, Ck X.K (S.ca c)) {rho : List Addr} {H : Hp} {h : HA} (l : Rl S rho h H) {w : W} {v : V} {g : Tg} (r : RV S rho H w v) (e : tgC cs w h = some g) : TyX X.K H v (tgV S g) := by
  unfold tgC at e
  cases r with
  | non => cases e; exact .base .non
  | bl b => cases e; exact .base (.bl _)
  | int b => cases e; exact .base (.int _)
  | str b => cases e; exact .base (.str _)
  | tup hp _ =>
    cases e
    rw [K] at hp
    rcases hp with (hp | ⟨o, hp⟩) | ⟨o, its, n, h1, h2, _⟩
    · exact .base (.tup hp)
    · exact .fTuple hp
    · exact .kTuple h1 h2
  | cst hp _ =>
    cases e
    rw [K] at hp
    rcases hp with ⟨o, hp⟩ | ⟨o, its, n, h1, h2, _⟩
    · exact .base (.frz hp)
    · exact .kList h1 h2
  | ref hp =>
    rename_i i p
    obtain ⟨o, ho, ro⟩ := l.lt hp
    cases ro with
    | lst a1 _ => simp [tgW, ho] at e; subst e; exact .base (.lst a1)
    | dic a1 _ => simp [tgW, ho] at e; subst e; exact .base (.dK a1)
    | ins a1 _ =>
      simp [tgW, ho] at e
      obtain ⟨hc, rfl⟩ := e
      have k := ck _ hc
      exact .base (.ins a1 k.cl k.ha k.hn k.ht k.hm)
/-- isinstance(e, T), one class -/
theorem de_isi {cx : Expr} {p : Pos} {cv : V} {u : Value} {cs : List Nat} {f : Tg → Option Bool} (K : S.K = X.K) (ck : ∀ c ∈ cs, Ck X.K (S.ca c)) (hcx : PE X cx (tC cv)) (kc : ClsV cv u) (hf : ∀ g b, f g = some b → PySem.W.kitOne X.K (tgV S g) u = some b)
    (hg : Gl X "isinstance") (hm : X.mg "isinstance" = none) (he : DE S X Wx e m)
    (h1 : starEach (e :: [cx]) X.env = (false, eval e X.env) :: starEach [cx] X.env := by rfl) (h2 : starEach (cx :: []) X.env = (false, eval cx X.env) :: starEach [] X.env := by rfl) (hpl : (backTo pos (starEach [cx] X.env)).any (·.1) = false := by rfl) :
    DE S X Wx (.Call (.Name "isinstance" p) [e, cx] [] pos) (eIsi cs f m) :=
  pe_imp (pe_callB call_isi hg hm PyProof.Rows.boot_isinstance (pa_cons he (pa_cons hcx pa_nil h2) h1) (by decide) (by decide) h1 hpl) fun sg H Q q =>
    tE_bind (k := fun _ x h1 => match tgC cs x h1 with
      | some g => (match f g with
        | some b => .ok (.bl b) h1
        | none => .stuck)
      | none => .stuck) q fun rho H1 ta v w h1 l rs r g => by
      split at g
      · rename_i tg e1
        split at g
        · rename_i b e2
          exact ⟨v, cv, tgV S tg, u, b, rfl, kc, ty_of K ck l r e1, hf _ _ e2, g rho H1 _ Ev.rfl' l (.bl _)⟩
        · exact g.elim
      · exact g.elim
/-- isinstance(e, (T1, T2, ..)) -/
theorem de_isiT {cx : List Expr} {p p2 : Pos} {x1} {cvs : List V} {us : List Value} {cs : List Nat} {f : Tg → Option Bool} (K : S.K = X.K) (ck : ∀ c ∈ cs, Ck X.K (S.ca c)) (hcx : PA X cx (fun _ H Q => Q cvs H)) (kc : Paired ClsV cvs us) (hl : cvs.length ≤ sizeLine)
    (hf : ∀ g b, f g = some b → PySem.W.kitAny X.K (tgV S g) us = some b)
    (hg : Gl X "isinstance") (hm : X.mg "isinstance" = none) (he : DE S X Wx e m)
    (h1 : starEach (e :: [.Tuple cx x1 p2]) X.env = (false, eval e X.env) :: starEach [.Tuple cx x1 p2] X.env := by rfl) (h2 : starEach (.Tuple cx x1 p2 :: []) X.env = (false, eval (.Tuple cx x1 p2) X.env) :: starEach [] X.env := by rfl) (hpl : (backTo pos (starEach [.Tuple cx x1 p2] X.env)).any (·.1) = false := by rfl) :
    DE S X Wx (.Call (.Name "isinstance" p) [e, .Tuple cx x1 p2] [] pos) (eIsi cs f m) :=
  pe_imp (pe_callB call_isiT hg hm PyProof.Rows.boot_isinstance (pa_cons he (pa_cons (pe_tup hcx) pa_nil h2) h1) (by decide) (by decide) h1 hpl) fun sg H Q q =>
    tE_bind (k := fun _ x h1 => match tgC cs x h1 with
      | some g => (match f g with
        | some b => .ok (.bl b) h1
        | none => .stuck)
      | none => .stuck) q fun rho H1 ta v w h1 l rs r g => by
      split at g
      · rename_i tg e1
        split at g
        · rename_i b e2
          refine ⟨hl, fun tp n => ?_⟩
          have ev : Ev S rho H1 rho (upd H1 tp (.tup cvs)) := Ev.lay n
          exact ⟨v, tp, cvs, tgV S tg, us, b, rfl, upd_same, kc, ty_of K ck (l.lay n) (r.mono ev) e1, hf _ _ e2, g rho _ _ ev (l.lay n) (.bl _)⟩
        · exact g.elim
      · exact g.elim
theorem pc_nil : PA X [] (fun _ H Q => Q [] H) := pa_nil
theorem pc_cons {cx : Expr} {cxs : List Expr} {c : V} {cs : List V} (h : PE X cx (tC c)) (k : PA X cxs (fun _ H Q => Q cs H)) (hs : starEach (cx :: cxs) X.env = (false, eval cx X.env) :: starEach cxs X.env := by rfl) : PA X (cx :: cxs) (fun _ H Q => Q (c :: cs) H) := pa_cons h k hs
theorem pc_ty {x : Str} {T : String} (hg : Gl X x) (hm : X.mg x = none) (hv : bootBuiltins x = some (.type T)) (hn : x ≠ "__name__" := by decide) (hd : (x == ("__debug__" : Str)) = false := by decide) : PE X (.Name x pos) (tC (.ty T)) := pe_bltn hg hm hv rfl hn hd
theorem pc_own {x : Str} {C : Addr} (hg : Gl X x) (hm : X.mg x = some (.ref C)) (hd : (x == ("__debug__" : Str)) = false := by decide) : PE X (.Name x pos) (tC (.ref C)) := pe_glob hg hm rfl hd
/-! the built-in classes -/
def isInt : Tg → Option Bool | .int => some true | .bl => some true | .ins _ => none | _ => some false
def isBool : Tg → Option Bool | .bl => some true | .ins _ => none | _ => some false
def isStr : Tg → Option Bool | .str => some true | .ins _ => none | _ => some false
def isTup : Tg → Option Bool | .tup => some true | .ins _ => none | _ => some false
def isLst : Tg → Option Bool | .lst => some true | .ins _ => none | _ => some false
def isLT : Tg → Option Bool | .lst => some true | .tup => some true | .ins _ => none | _ => some false
theorem isInt_ok (K : PySem.W.Frag) (g : Tg) (b : Bool) (e : isInt g = some b) : PySem.W.kitOne K (tgV S g) (.type "int") = some b := by
  cases g <;> cases e <;> exact kit_ty (by decide +kernel)
theorem isBool_ok (K : PySem.W.Frag) (g : Tg) (b : Bool) (e : isBool g = some b) : PySem.W.kitOne K (tgV S g) (.type "bool") = some b := by
  cases g <;> cases e <;> exact kit_ty (by decide +kernel)
theorem isStr_ok (K : PySem.W.Frag) (g : Tg) (b : Bool) (e : isStr g = some b) : PySem.W.kitOne K (tgV S g) (.type "str") = some b := by
  cases g <;> cases e <;> exact kit_ty (by decide +kernel)
theorem isTup_ok (K : PySem.W.Frag) (g : Tg) (b : Bool) (e : isTup g = some b) : PySem.W.kitOne K (tgV S g) (.type "tuple") = some b := by
  cases g <;> cases e <;> exact kit_ty (by decide +kernel)
theorem isLst_ok (K : PySem.W.Frag) (g : Tg) (b : Bool) (e : isLst g = some b) : PySem.W.kitOne K (tgV S g) (.type "list") = some b := by
  cases g <;> cases e <;> exact kit_ty (by decide +kernel)
def kitAB (a : String) : List String → Option Bool
  | [] => some false
  | n :: r => match kitB a n with
    | some true => some true
    | some false => kitAB a r
    | none => none
theorem kitAB_ok {K : PySem.W.Frag} {a : String} : ∀ {ns : List String} {b : Bool}, kitAB a ns = some b → PySem.W.kitAny K (.type a) (ns.map Value.type) = some b
  | [], _, e => by cases e; rfl
  | n :: r, b, e => by
    unfold kitAB at e
    split at e
    · rename_i q
      cases e
      exact kitAny_cons (b := true) (kit_ty q) (fun z => by cases z) (fun _ => rfl)
    · rename_i q
      exact kitAny_cons (b := false) (kit_ty q) (fun _ => kitAB_ok e) (fun z => by cases z)
    · cases e
theorem isLT_ok (K : PySem.W.Frag) (g : Tg) (b : Bool) (e : isLT g = some b) : PySem.W.kitAny K (tgV S g) [.type "list", .type "tuple"] = some b := by
  cases g <;> cases e <;> exact kitAB_ok (ns := ["list", "tuple"]) (by decide +kernel)
theorem paired_lt : Paired ClsV [.ty "list", .ty "tuple"] [.type "list", .type "tuple"] := .cons (.ty _) (.cons (.ty _) .nil)

/-! ### slices -/
def cutL {α : Type} (xs : List α) (lo hi : Option Int) : List α := (xs.drop (HT.sIx xs.length 0 lo)).take (HT.sIx xs.length xs.length hi - HT.sIx xs.length 0 lo)
def oSl (x : W) (lo hi : Option Int) (h : HA) : Option (W × HA) := match x with
  | .str z => if z.length ≤ sizeLine then some (.str (cutS z lo hi), h) else none
  | .tup xs => if HT.sIx xs.length 0 lo = 0 ∧ HT.sIx xs.length xs.length hi = xs.length then none else some (.tup (cutL xs lo hi), h)
  | .ref i => match rdL h i with
    | some xs => some (.ref h.length, h ++ [O.lst (cutL xs lo hi)])
    | none => none
  | _ => none
def rSl (S : Sta) (o : W → Option Int → Option Int → HA → Option (W × HA)) : V → Option Int → Option Int → Hp → VK → Prop := fun x lo hi H Q => ∃ rho h a, Rl S rho h H ∧ RV S rho H a x ∧ GO S rho H Q (o a lo hi h)
theorem RVs_cut {rho : List Addr} {H : Hp} {xs : List W} {ys : List V} (r : RVs S rho H xs ys) (lo hi : Option Int) : RVs S rho H (cutL xs lo hi) (cutV ys lo hi) := by
  unfold cutL cutV
  rw [r.length]
  exact (r.drop _).take _
theorem slr_imp {r r' : V → Option Int → Option Int → Hp → VK → Prop} (h : SlR X r) (i : ∀ x lo hi H Q, r' x lo hi H Q → r x lo hi H Q) : SlR X r' := fun pins s sg H x v vl vu lo hi sl Q I rx hs pl pu q => h pins s sg H x v vl vu lo hi sl Q I rx hs pl pu (i _ _ _ _ _ q)
theorem ok_sl (K : S.K = X.K) : SlR X (rSl S oSl) := by
  refine slr_imp (SlR.or sl_list (SlR.or sl_tup sl_str)) fun x lo hi H Q q => ?_
  obtain ⟨rho, h, a, l, rx, g⟩ := q
  unfold oSl at g
  split at g
  · cases rx
    split at g
    · rename_i c
      exact .inr (.inr ⟨_, rfl, c, GO.here g l (.str _)⟩)
    · exact g.elim
  · cases rx with
    | tup hp r =>
      split at g
      · exact g.elim
      · rename_i c
        refine .inr (.inl ⟨_, _, rfl, by rw [← K]; exact hp, by rw [← r.length]; exact c, fun p n => ?_⟩)
        exact GO.tupN g l (RVs_cut r lo hi) n
  · cases rx with
    | ref hp =>
      split at g
      · rename_i xs e
        obtain ⟨ys, a1, a2⟩ := rdL_of K l hp e
        exact .inl ⟨_, ys, rfl, a1, fun p n => GO.lstN g l (RVs_cut a2 lo hi) n⟩
      · exact g.elim
  · exact g.elim
def toI (x : W) (h1 : HA) : Res (Option Int) := match x with
  | .int i => .ok (some i) h1
  | _ => .stuck
def partV (lo : Option Ex) : En → HA → Res (Option Int) := match lo with
  | none => fun _ h => .ok none h
  | some m => fun ta h => (m ta h).bind toI
theorem Res.bind_assoc {α β γ : Type} (r : Res α) (f : α → HA → Res β) (k : β → HA → Res γ) : (r.bind f).bind k = r.bind fun a h => (f a h).bind k := by
  cases r <;> rfl
def eSl (m : Ex) (lo hi : Option Ex) : Ex := fun ta h => (m ta h).bind fun x h1 => (partV lo ta h1).bind fun l h2 => (partV hi ta h2).bind fun u h3 => ofO (oSl x l u h3)
def tPt (S : Sta) (Wx : Wi) (lo : Option Ex) : TO := match lo with
  | none => tNoPart
  | some m => tPart (tE S Wx m)
def DP (S : Sta) (X : Cx) (Wx : Wi) (e : Option Expr) (lo : Option Ex) : Prop := PO X e (tPt S Wx lo)
theorem dp_none : DP S X Wx none none := po_none
theorem dp_some (h : DE S X Wx e m) : DP S X Wx (some e) (some m) := po_some h
theorem part_of {sg : L2.St} {lo : Option Ex} {ta : En} {rho : List Addr} {H : Hp} {h : HA} {Q : VK} {k : Option Int → HA → Res W} {R : Option Int → Hp → Prop} (l : Rl S rho h H) (rs : RS S Wx rho H ta sg) (g : GE S Wx sg rho H Q ((partV lo ta h).bind k))
    (f : ∀ rho1 H1 o h1, Ev S rho H rho1 H1 → Rl S rho1 h1 H1 → GE S Wx sg rho1 H1 Q (k o h1) → R o H1) : tPt S Wx lo sg H R := by
  cases lo with
  | none => exact f rho H none h Ev.rfl' l g
  | some m =>
    have g' : GE S Wx sg rho H Q (((m ta h).bind toI).bind k) := g
    rw [Res.bind_assoc] at g'
    refine ⟨rho, h, ta, l, rs, GE.of_bind g' fun rho1 H1 v1 w1 h1 ev l1 r1 g1 => ?_⟩
    cases w1 with
    | int i => cases r1; exact ⟨_, rfl, f rho1 H1 _ h1 ev l1 g1⟩
    | _ => exact g1.elim
theorem de_sl {lo hi : Option Expr} {l u : Option Ex} {p2 : Pos} (K : S.K = X.K) (he : DE S X Wx e m) (hl : DP S X Wx lo l) (hu : DP S X Wx hi u) : DE S X Wx (.Subscript e (.Slice lo hi none p2) pos) (eSl m l u) :=
  pe_imp (pe_slice (ok_sl K) he hl hu) fun sg H Q q => tE_bind (k := fun ta x h1 => (partV l ta h1).bind fun l h2 => (partV u ta h2).bind fun u h3 => ofO (oSl x l u h3)) q fun rho H1 ta v w h1 ll rs r g =>
    part_of (S := S) ll rs g fun rho2 H2 o2 h2 ev2 l2 g2 => part_of l2 (rs.mono ev2) g2 fun rho3 H3 o3 h3 ev3 l3 g3 => ⟨rho3, h3, w, l3, (r.mono ev2).mono ev3, GO.of g3⟩

/-! ### attributes -/
theorem RF_len {rho : List Addr} {H : Hp} : ∀ {fs : List (Nat × W)} {gs : List (Str × V)}, RF S rho H fs gs → fs.length = gs.length
  | _, _, .nil => rfl
  | _, _, .cons _ _ t => by rw [List.length_cons, List.length_cons, RF_len t]
theorem nm_inj (nd : S.nm.Nodup) {i j : Nat} {x : Str} (a : S.nm[i]? = some x) (b : S.nm[j]? = some x) : i = j := nd_ix nd a b
theorem RF_get {rho : List Addr} {H : Hp} (nd : S.nm.Nodup) {f : Nat} {x : Str} (hx : S.nm[f]? = some x) : ∀ {fs : List (Nat × W)} {gs : List (Str × V)} {w : W}, RF S rho H fs gs → fs.lookup f = some w → ∃ v, gs.lookup x = some v ∧ RV S rho H w v
  | _, _, _, .nil, e => by cases e
  | _, _, _, .cons (i := i) (x := y) (fs := fs) hn r t, e => by
    by_cases q : f = i
    · subst q
      have : x = y := Option.some.inj (hx.symm.trans hn)
      subst this
      rw [List.lookup_cons_self] at e
      cases e
      exact ⟨_, List.lookup_cons_self, r⟩
    · have q1 : (f == i) = false := by simpa using q
      have q2 : (x == y) = false := by
        have z : x ≠ y := fun z => q (nm_inj nd hx (z ▸ hn))
        simpa using z
      rw [List.lookup_cons, q1] at e
      rw [List.lookup_cons, q2]
      exact RF_get nd hx t e
theorem RF_no {rho : List Addr} {H : Hp} {x : Str} : ∀ {fs : List (Nat × W)} {gs : List (Str × V)}, RF S rho H fs gs → (∀ (i : Nat) (y : Str), S.nm[i]? = some y → y ≠ x) → gs.lookup x = none
  | _, _, .nil, _ => rfl
  | _, _, .cons (x := y) hn r t, h => by
    have q2 : (x == y) = false := by
      have z : x ≠ y := fun z => h _ _ hn z.symm
      simpa using z
    rw [List.lookup_cons, q2]
    exact RF_no t h
def putA (f : Nat) (w : W) : List (Nat × W) → List (Nat × W)
  | [] => [(f, w)]
  | (g, x) :: r => if g = f then (g, w) :: r else (g, x) :: putA f w r
theorem RF_put {rho : List Addr} {H : Hp} (nd : S.nm.Nodup) {f : Nat} {x : Str} (hx : S.nm[f]? = some x) {w : W} {v : V} (rv : RV S rho H w v) : ∀ {fs : List (Nat × W)} {gs : List (Str × V)}, RF S rho H fs gs → RF S rho H (putA f w fs) (putF x v gs)
  | _, _, .nil => .cons hx rv .nil
  | _, _, .cons (i := i) (x := y) hn r t => by
    unfold putA putF
    by_cases q : i = f
    · subst q
      have : x = y := Option.some.inj (hx.symm.trans hn)
      subst this
      rw [if_pos rfl, if_pos rfl]
      exact .cons hn rv t
    · rw [if_neg q, if_neg (fun z : y = x => q (nm_inj nd hn (by rw [z]; exact hx)))]
      exact .cons hn r (RF_put nd hx rv t)
/-- an attribute is read, of an instance of one of the classes cs -/
def oFld (cs : List Nat) (f : Nat) : W → HA → Option (W × HA) := fun x h => match x with
  | .ref i => match h[i]? with
    | some (.ins c fs) => if c ∈ cs then (fs.lookup f).map fun w => (w, h) else none
    | _ => none
  | _ => none
theorem de_fld {x : Str} {f : Nat} {cs : List Nat} (nd : S.nm.Nodup) (hx : S.nm[f]? = some x) (ck : ∀ c ∈ cs, Cls X.K (S.ca c) ∧ NoAttr X.K (S.ca c) x) (he : DE S X Wx e m) (hb : attributeBase e x X.env (eval e X.env) = eval e X.env := by rfl) : DE S X Wx (.Attribute e x pos) (eUn (oFld cs f) m) :=
  pe_imp (pe_fld he hb) fun sg H Q q => tE_bind (k := fun _ x h1 => ofO (oFld cs f x h1)) q fun rho H1 ta v w h1 l rs r g => by
    have g := GO.of g
    unfold oFld at g
    split at g
    · rename_i i
      split at g
      · rename_i c fs o
        split at g
        · rename_i hc
          cases e1 : fs.lookup f with
          | none => rw [e1] at g; exact g.elim
          | some z =>
            rw [e1] at g
            cases r with
            | ref hp =>
              obtain ⟨dx, gs, a1, a2⟩ := ins_of l hp o
              obtain ⟨v, e2, rv⟩ := RF_get nd hx a2 e1
              exact ⟨_, _, dx, gs, v, rfl, a1, (ck c hc).1, (ck c hc).2, e2, GO.here g l rv⟩
        · exact g.elim
      · exact g.elim
    · exact g.elim
end
end J

namespace J
open PySem PySem.Spec PyProof.Rows L2

/-! ### defs as functions -/
abbrev Mir := List W → HA → Res W
def wishX (E : XK) : Wi := ⟨fun c d _ H => E c d H, none⟩
/-- the promise: as the function g says; n parameters -/
def spM (S : Sta) (n : Nat) (g : Mir) : Sp := fun vs H Q E => vs.length = n ∧ ∃ rho h ws, Rl S rho h H ∧ RVs S rho H ws vs ∧ GE S (wishX E) [] rho H Q (g ws h)
/-- the def at f runs as g; ds: the values of its last parameters where they are left out -/
structure FnM (P : Program) (w : World) (K : PySem.W.Frag) (mg : Str → Option Value) (base : Heap) (S : Sta) (k : Nat) (f : Addr) (n : Nat) (g : Mir) (ds : List W) : Prop where
  ex : ∃ (fd : FuncData) (ps : List Str) (dus : List Value) (dvs : List V), ps.length = n ∧ FnOk P w K mg base (L2.CX P w) k f fd ps (spM S n g) ∧ Binds K fd ps dus ∧ Vals dvs dus ∧ ∀ rho H, RVs S rho H ds dvs
section
variable {X : Cx} {S : Sta} {Wx : Wi} {e a b o : Expr} {es rest : List Expr} {m m1 m2 : Ex} {ms : Ax} {t u : Tx} {pos p apos : Pos} {k n : Nat} {f : Addr} {g : Mir} {ds : List W} {x : Str}
theorem GE_wish {sg : L2.St} {rho : List Addr} {H : Hp} {Q : VK} {r : Res W} (h : GE S Wx sg rho H Q r) : GE S (wishX fun c d H => Wx.wx c d sg H) [] rho H Q r := by
  cases r with
  | ok w h' => exact h
  | exc c fs h' => exact h
  | stuck => exact h
/-- a callee runs, with values -/
theorem run_m {pins : List (Addr × Obj)} {sg : L2.St} {H : Hp} {s : Shared} {Q : VK} {us : List Value} {vs : List V} {ws : List W} {rho : List Addr} {h : HA} (G : FnM X.prog X.w X.K X.mg X.base S k f n g ds) (hr : Room k X.A) (tk : Takes X Wx.wx)
    (I : Inv X pins sg H s) (r : Vals vs us) (l : Rl S rho h H) (rw : RVs S rho H ws vs) (hn : ws.length + ds.length = n) (q : GE S Wx sg rho H Q (g (ws ++ ds) h)) : wpAny (model X.prog X.w) X.A (call (.ref f) us) (EP X pins sg Q) X.xe s := by
  obtain ⟨fd, ps, dus, dvs, hp, F, hb, hd, hR⟩ := G.ex
  have hall := rw.append (hR rho H)
  have hlen : (vs ++ dvs).length = n := by rw [← hall.length, List.length_append]; exact hn
  have hv := r.append hd
  have hu : (us ++ dus).length = ps.length := by rw [← hv.length, hlen, hp]
  have hs : spM S n g (vs ++ dvs) H Q (WE Wx.wx sg) := ⟨hlen, rho, h, ws ++ ds, l, hall, GE_wish q⟩
  refine wpAny_call (codeAny_mono (F.run X.A X.stack s H ⟨us, []⟩ (us ++ dus) (vs ++ dvs) Q (WE Wx.wx sg) hr I.env0 (hb s us I.kIn hu) hv hs) fun res s2 z => ?_)
  cases res with
  | error er => exact passAt tk sg pins H s er s2 I z
  | ok fl => cases fl with
    | ret rv => exact I.after z
    | _ => exact z.elim
/-- a def of the text, by its name -/
structure Df (P : Program) (w : World) (K : PySem.W.Frag) (mg : Str → Option Value) (base : Heap) (S : Sta) (k : Nat) (x : Str) (n : Nat) (g : Mir) (ds : List W) : Prop where
  ex : ∃ f, mg x = some (.ref f) ∧ PySem.W.keepIn K (.ref f) = true ∧ FnM P w K mg base S k f n g ds
def eCall (g : Mir) (n : Nat) (ds : List W) (ms : Ax) : Ex := fun ta h => (ms ta h).bind fun ws h1 => if ws.length + ds.length = n then g (ws ++ ds) h1 else .stuck
theorem de_call (G : Df X.prog X.w X.K X.mg X.base S k x n g ds) (hr : Room k X.A) (tk : Takes X Wx.wx) (hg : Gl X x) (ha : DA S X Wx (e :: es) ms) (hdb : (x == ("__debug__" : Str)) = false := by decide)
    (he : starEach (e :: es) X.env = (false, eval e X.env) :: starEach es X.env := by rfl) (hpl : (backTo pos (starEach es X.env)).any (·.1) = false := by rfl) : DE S X Wx (.Call (.Name x p) (e :: es) [] pos) (eCall g n ds ms) := by
  obtain ⟨f, hm, hk, F⟩ := G.ex
  refine ⟨fun pins s sg H Q I q => wpAny_Call_Name_kw (ld_glob I hg hm ?_ hdb)⟩
  have q' := tE_bindA (k := fun ta ws h1 => if ws.length + ds.length = n then g (ws ++ ds) h1 else .stuck) (Q1 := fun vs H1 => ∃ rho h ws, Rl S rho h H1 ∧ RVs S rho H1 ws vs ∧ GE S Wx sg rho H1 Q (if ws.length + ds.length = n then g (ws ++ ds) h else .stuck)) q fun rho1 H1 ta v1 w1 h1 l1 rs r1 g1 => ⟨rho1, h1, w1, l1, r1, g1⟩
  refine PySem.W.callWith_K (h₀ := X.base) I.ok.mod.kin hk (thn (ha.run pos pins s sg H _ I q') fun us s1 ⟨vs, H1, I1, r, rho, h, ws, l, rw', g1⟩ => ⟨I1.kIn, ?_⟩) he hpl
  by_cases c : ws.length + ds.length = n
  · rw [if_pos c] at g1
    exact run_m F hr tk I1 r l rw' c g1
  · rw [if_neg c] at g1; exact g1.elim
theorem de_call0 (G : Df X.prog X.w X.K X.mg X.base S k x n g ds) (hr : Room k X.A) (tk : Takes X Wx.wx) (hg : Gl X x) (hn : ds.length = n) (hdb : (x == ("__debug__" : Str)) = false := by decide) : DE S X Wx (.Call (.Name x p) [] [] pos) (fun _ h => g ds h) := by
  obtain ⟨f, hm, hk, F⟩ := G.ex
  refine ⟨fun pins s sg H Q I q => wpAny_Call_Name_kw (ld_glob I hg hm ?_ hdb)⟩
  obtain ⟨rho, h, ta, l, rs, g1⟩ := q
  exact PySem.W.callWith_K0 I.kIn hk (run_m (us := []) (ws := []) F hr tk I .nil l .nil (by simpa using hn) g1)

/-! ### methods -/
/-- a method m of the class numbered c -/
structure Mt (P : Program) (w : World) (K : PySem.W.Frag) (mg : Str → Option Value) (base : Heap) (S : Sta) (k : Nat) (c : Nat) (m : Str) (n : Nat) (g : Mir) (ds : List W) : Prop where
  cl : Cls K (S.ca c)
  ex : ∃ f, Meth K (S.ca c) m f ∧ FnM P w K mg base S k f n g ds
/-- which method of which class: by the classes' numbers -/
structure Alt where
  c : Nat
  n : Nat
  g : Mir
  ds : List W
def altAt (c : Nat) : List Alt → Option Alt
  | [] => none
  | a :: r => if a.c = c then some a else altAt c r
theorem altAt_ok {c : Nat} {a : Alt} {P : Alt → Prop} : ∀ {l : List Alt}, (∀ b ∈ l, P b) → altAt c l = some a → P a ∧ a.c = c
  | [], _, e => by cases e
  | b :: r, h, e => by
    unfold altAt at e
    split at e
    · rename_i q
      cases e
      exact ⟨h _ List.mem_cons_self, q⟩
    · exact altAt_ok (fun b hb => h b (List.mem_cons_of_mem _ hb)) e
def clsOf (h : HA) : W → Option Nat
  | .ref i => match h[i]? with
    | some (.ins c _) => some c
    | _ => none
  | _ => none
def eMeth (al : List Alt) (m : Ex) (ms : Ax) : Ex := fun ta h => (m ta h).bind fun x h1 => match clsOf h1 x with
  | some c => (match altAt c al with
    | some a => (ms ta h1).bind fun ws h2 => if (x :: ws).length + a.ds.length = a.n then a.g (x :: ws ++ a.ds) h2 else .stuck
    | none => .stuck)
  | none => .stuck
theorem cls_of {rho : List Addr} {H : Hp} {h : HA} {w : W} {v : V} {c : Nat} (l : Rl S rho h H) (r : RV S rho H w v) (e : clsOf h w = some c) : ∃ a dx fs gs, v = .ref a ∧ H a = some (.ins (S.ca c) dx gs) ∧ RF S rho H fs gs := by
  unfold clsOf at e
  split at e
  · rename_i i
    split at e
    · rename_i c' fs o
      cases e
      cases r with
      | ref hp =>
        obtain ⟨dx, gs, a1, a2⟩ := ins_of l hp o
        exact ⟨_, dx, fs, gs, rfl, a1, a2⟩
    · cases e
  · cases e
theorem de_meth {mn : Str} {al : List Alt} {pl : Sem Bool} (ho : DE S X Wx o m) (G : ∀ a ∈ al, Mt X.prog X.w X.K X.mg X.base S k a.c mn a.n a.g a.ds) (hr : Room k X.A) (tk : Takes X Wx.wx) (hno : ∀ (i : Nat) (y : Str), S.nm[i]? = some y → y ≠ mn) (ha : DA S X Wx (e :: es) ms)
    (hst : starEach (e :: es) X.env = (false, eval e X.env) :: starEach es X.env := by rfl) (hpl : (backTo pos (starEach es X.env)).any (·.1) = false := by rfl)
    (ht : eval (.Call (.Attribute o mn apos) (e :: es) [] pos) X.env = (do
      let ov ← eval o X.env
      standAt apos.atName
      let (f, first) ← holding [ov] (getMethod ov mn pl)
      callWith pos f first (backTo pos (starEach (e :: es) X.env)) (backToKw pos (keywordEach [] X.env))) := by rfl) : DE S X Wx (.Call (.Attribute o mn apos) (e :: es) [] pos) (eMeth al m ms) := by
  refine ⟨fun pins s sg H Q I q => PySem.W.methodCall_KW (pl := pl) (thn (ho.run pins s sg H (fun x1 H1 => ∃ rho h ta w c, Rl S rho h H1 ∧ RS S Wx rho H1 ta sg ∧ RV S rho H1 w x1 ∧ clsOf h w = some c ∧ GE S Wx sg rho H1 Q (match altAt c al with
    | some a => (ms ta h).bind fun ws h2 => if (w :: ws).length + a.ds.length = a.n then a.g (w :: ws ++ a.ds) h2 else .stuck
    | none => .stuck)) I ?_) fun uo s1 hh => ?_) ht⟩
  · refine tE_bind (k := fun ta x h1 => match clsOf h1 x with
      | some c => (match altAt c al with
        | some a => (ms ta h1).bind fun ws h2 => if (x :: ws).length + a.ds.length = a.n then a.g (x :: ws ++ a.ds) h2 else .stuck
        | none => .stuck)
      | none => .stuck) q fun rho1 H1 ta v1 w1 h1 l1 rs r1 g1 => ?_
    split at g1
    · rename_i c hc
      exact ⟨rho1, h1, ta, w1, c, l1, rs, r1, hc, g1⟩
    · exact g1.elim
  · obtain ⟨x1, H1, I1, rx, rho, h, ta, w, c, l, rs, r, hc, g1⟩ := hh
    obtain ⟨ad, dx, fs, gs, rfl, ea, ef⟩ := cls_of l r hc
    obtain rfl : uo = Value.ref ad := rx
    split at g1
    · rename_i al1 hal
      obtain ⟨M, rfl⟩ := altAt_ok (P := fun a => Mt X.prog X.w X.K X.mg X.base S k a.c mn a.n a.g a.ds) G hal
      obtain ⟨f, hM, F⟩ := M.ex
      refine getmeth_ok I1 ea M.cl hM (RF_no ef hno) ?_
      have q' : tA S Wx ms sg H1 fun vs H2 => ∃ rho h ws, Rl S rho h H2 ∧ RVs S rho H2 (w :: ws) (V.ref ad :: vs) ∧ GE S Wx sg rho H2 Q (if (w :: ws).length + al1.ds.length = al1.n then al1.g (w :: ws ++ al1.ds) h else .stuck) :=
        ⟨rho, h, ta, l, rs, GA.of_bindE (k := fun ws h2 => if (w :: ws).length + al1.ds.length = al1.n then al1.g (w :: ws ++ al1.ds) h2 else .stuck) g1 fun rho2 H2 v2 w2 h2 ev l2 r2 g2 => ⟨rho2, h2, w2, l2, .cons (r.mono ev) r2, g2⟩⟩
      refine PySem.W.callWith_K (first := [.ref ad]) (h₀ := X.base) I.ok.mod.kin hM.kp (thn (ha.run pos pins s1 sg H1 _ I1 q') fun us s2 ⟨vs, H2, I2, rr, rho2, h2, ws, l2, r2, g2⟩ => ⟨I2.kIn, ?_⟩) hst hpl
      by_cases cc : (w :: ws).length + al1.ds.length = al1.n
      · rw [if_pos cc] at g2
        exact run_m (us := .ref ad :: us) (vs := .ref ad :: vs) F hr tk I2 (.cons rfl rr) l2 r2 cc g2
      · rw [if_neg cc] at g2; exact g2.elim
    · exact g1.elim
def eMeth0 (al : List Alt) (m : Ex) : Ex := fun ta h => (m ta h).bind fun x h1 => match clsOf h1 x with
  | some c => (match altAt c al with
    | some a => if 1 + a.ds.length = a.n then a.g ([x] ++ a.ds) h1 else .stuck
    | none => .stuck)
  | none => .stuck
theorem de_meth0 {mn : Str} {al : List Alt} {pl : Sem Bool} (ho : DE S X Wx o m) (G : ∀ a ∈ al, Mt X.prog X.w X.K X.mg X.base S k a.c mn a.n a.g a.ds) (hr : Room k X.A) (tk : Takes X Wx.wx) (hno : ∀ (i : Nat) (y : Str), S.nm[i]? = some y → y ≠ mn)
    (ht : eval (.Call (.Attribute o mn apos) [] [] pos) X.env = (do
      let ov ← eval o X.env
      standAt apos.atName
      let (f, first) ← holding [ov] (getMethod ov mn pl)
      callWith pos f first (backTo pos (starEach [] X.env)) (backToKw pos (keywordEach [] X.env))) := by rfl) : DE S X Wx (.Call (.Attribute o mn apos) [] [] pos) (eMeth0 al m) := by
  refine ⟨fun pins s sg H Q I q => PySem.W.methodCall_KW (pl := pl) (thn (ho.run pins s sg H (fun x1 H1 => ∃ rho h w c, Rl S rho h H1 ∧ RV S rho H1 w x1 ∧ clsOf h w = some c ∧ GE S Wx sg rho H1 Q (match altAt c al with
    | some a => if 1 + a.ds.length = a.n then a.g ([w] ++ a.ds) h else .stuck
    | none => .stuck)) I ?_) fun uo s1 hh => ?_) ht⟩
  · refine tE_bind (k := fun ta x h1 => match clsOf h1 x with
      | some c => (match altAt c al with
        | some a => if 1 + a.ds.length = a.n then a.g ([x] ++ a.ds) h1 else .stuck
        | none => .stuck)
      | none => .stuck) q fun rho1 H1 ta v1 w1 h1 l1 rs r1 g1 => ?_
    split at g1
    · rename_i c hc
      exact ⟨rho1, h1, w1, c, l1, r1, hc, g1⟩
    · exact g1.elim
  · obtain ⟨x1, H1, I1, rx, rho, h, w, c, l, r, hc, g1⟩ := hh
    obtain ⟨ad, dx, fs, gs, rfl, ea, ef⟩ := cls_of l r hc
    obtain rfl : uo = Value.ref ad := rx
    split at g1
    · rename_i al1 hal
      obtain ⟨M, rfl⟩ := altAt_ok (P := fun a => Mt X.prog X.w X.K X.mg X.base S k a.c mn a.n a.g a.ds) G hal
      obtain ⟨f, hM, F⟩ := M.ex
      refine getmeth_ok I1 ea M.cl hM (RF_no ef hno) ?_
      by_cases cc : 1 + al1.ds.length = al1.n
      · rw [if_pos cc] at g1
        exact PySem.W.callWith_K0 (first := [.ref ad]) I1.kIn hM.kp (run_m (us := [.ref ad]) (vs := [.ref ad]) F hr tk I1 (.cons rfl .nil) l (.cons r .nil) (by simpa using cc) g1)
      · rw [if_neg cc] at g1; exact g1.elim
    · exact g1.elim

/-! ### new instances -/
structure Nw (P : Program) (w : World) (K : PySem.W.Frag) (mg : Str → Option Value) (base : Heap) (S : Sta) (k : Nat) (c : Nat) (x : Str) (n : Nat) (g : Mir) (ds : List W) : Prop where
  at_ : mg x = some (.ref (S.ca c))
  ex : ∃ f, Mk K (S.ca c) f ∧ FnM P w K mg base S k f n g ds
def newC (c : Nat) (n : Nat) (g : Mir) (ds : List W) (ws : List W) (h : HA) : Res W := if (1 + ws.length) + ds.length = n then (match g (.ref h.length :: ws ++ ds) (h ++ [O.ins c []]) with
    | .ok .non h2 => .ok (.ref h.length) h2
    | .ok _ _ => .stuck
    | .exc e fs h2 => .exc e fs h2
    | .stuck => .stuck) else .stuck
def eNew (c : Nat) (n : Nat) (g : Mir) (ds : List W) (ms : Ax) : Ex := fun ta h => (ms ta h).bind (newC c n g ds)
theorem run_new {pins : List (Addr × Obj)} {sg : L2.St} {H : Hp} {s : Shared} {Q : VK} {us : List Value} {vs : List V} {ws : List W} {rho : List Addr} {h : HA} {c : Nat} (M : Mk X.K (S.ca c) f) (G : FnM X.prog X.w X.K X.mg X.base S k f n g ds) (hr : Room (k + 1) X.A) (tk : Takes X Wx.wx)
    (I : Inv X pins sg H s) (r : Vals vs us) (l : Rl S rho h H) (rw : RVs S rho H ws vs) (q : GE S Wx sg rho H Q (newC c n g ds ws h)) : wpAny (model X.prog X.w) X.A (call (.ref (S.ca c)) us) (EP X pins sg Q) X.xe s := by
  unfold newC at q
  by_cases hn : (1 + ws.length) + ds.length = n
  · rw [if_pos hn] at q
    obtain ⟨fd, ps, dus, dvs, hp, F, hb, hd, hR⟩ := G.ex
    have f0 : H s.heap.objs.size = none := I.hok.fresh (Nat.le_refl _)
    have f1 : H (s.heap.objs.size + 1) = none := I.hok.fresh (Nat.le_succ _)
    have l0 := l.lay (o := .own (s.heap.objs.size + 1)) f0
    have f1' : upd H s.heap.objs.size (.own (s.heap.objs.size + 1)) (s.heap.objs.size + 1) = none := by rw [upd_ne (Nat.succ_ne_self _)]; exact f1
    have ev0 : Ev S rho H rho (upd H s.heap.objs.size (.own (s.heap.objs.size + 1))) := Ev.lay f0
    have ev1 := Ev.new (u := HO.ins (S.ca c) s.heap.objs.size []) l0 f1'
    have ev := ev0.trans ev1
    have l1 := l0.new (u := HO.ins (S.ca c) s.heap.objs.size []) (o := O.ins c []) f1' (.ins upd_same .nil)
    have hall : RVs S (rho ++ [s.heap.objs.size + 1]) _ (.ref h.length :: ws ++ ds) (V.ref (s.heap.objs.size + 1) :: (vs ++ dvs)) := .cons (.ref (last_new l0)) ((rw.mono ev).append (hR _ _))
    have hv : Vals (V.ref (s.heap.objs.size + 1) :: (vs ++ dvs)) (Value.ref (s.heap.objs.size + 1) :: (us ++ dus)) := .cons rfl (r.append hd)
    have hlen : (V.ref (s.heap.objs.size + 1) :: (vs ++ dvs)).length = n := by rw [← hall.length]; simp; omega
    have hu : (Value.ref (s.heap.objs.size + 1) :: us ++ dus).length = ps.length := by
      rw [hp, ← hlen]; exact hv.length.symm
    have I2 := Inv.made (C := S.ca c) I
    have hs : spM S n g (V.ref (s.heap.objs.size + 1) :: (vs ++ dvs)) (upd (upd H s.heap.objs.size (.own (s.heap.objs.size + 1))) (s.heap.objs.size + 1) (.ins (S.ca c) s.heap.objs.size [])) (fun v H2 => v = .non ∧ Q (.ref (s.heap.objs.size + 1)) H2) (WE Wx.wx sg) := by
      refine ⟨hlen, _, _, _, l1, hall, ?_⟩
      cases z : g (.ref h.length :: ws ++ ds) (h ++ [O.ins c []]) with
      | ok w2 h2 =>
        rw [z] at q
        cases w2 with
        | non => exact fun rho2 H2 v2 e2 l2 r2 => by cases r2; exact ⟨rfl, q rho2 H2 _ (ev.trans e2) l2 (.ref (e2.at (last_new l0)))⟩
        | _ => exact q.elim
      | exc e fs h2 => rw [z] at q; exact fun rho2 H2 d e2 l2 x2 => q rho2 H2 d (ev.trans e2) l2 x2
      | stuck => rw [z] at q; exact q.elim
    refine wpAny_call (make_map (f := f) I.kIn M.makes M.init (beq_iff_eq.mp M.fn) (codeAny_mono (F.run _ X.stack _ _ ⟨Value.ref (s.heap.objs.size + 1) :: us, []⟩ (Value.ref (s.heap.objs.size + 1) :: (us ++ dus)) _ _ (WE Wx.wx sg) (hr.make (S.ca c) us [])
      (I2.env0.make (S.ca c) us []) (hb _ (Value.ref (s.heap.objs.size + 1) :: us) I2.kIn hu) hv hs) fun res s2 z => ?_))
    cases res with
    | error er => exact passAt tk sg pins _ _ er s2 I2 z
    | ok fl => cases fl with
      | ret rv =>
        obtain ⟨v, H', I3, rr, ev', q3⟩ := I2.after z
        subst ev'
        exact ⟨rr, ⟨V.ref (s.heap.objs.size + 1), H', I3, rfl, q3⟩⟩
      | _ => exact z.elim
  · rw [if_neg hn] at q; exact q.elim
theorem de_new {c : Nat} (G : Nw X.prog X.w X.K X.mg X.base S k c x n g ds) (hr : Room (k + 1) X.A) (tk : Takes X Wx.wx) (hg : Gl X x) (ha : DA S X Wx (e :: es) ms) (hdb : (x == ("__debug__" : Str)) = false := by decide)
    (he : starEach (e :: es) X.env = (false, eval e X.env) :: starEach es X.env := by rfl) (hpl : (backTo pos (starEach es X.env)).any (·.1) = false := by rfl) : DE S X Wx (.Call (.Name x p) (e :: es) [] pos) (eNew c n g ds ms) := by
  obtain ⟨f, M, F⟩ := G.ex
  refine ⟨fun pins s sg H Q I q => wpAny_Call_Name_kw (ld_glob I hg G.at_ ?_ hdb)⟩
  have q' := tE_bindA (k := fun _ => newC c n g ds) (Q1 := fun vs H1 => ∃ rho h ws, Rl S rho h H1 ∧ RVs S rho H1 ws vs ∧ GE S Wx sg rho H1 Q (newC c n g ds ws h)) q fun rho1 H1 ta v1 w1 h1 l1 rs r1 g1 => ⟨rho1, h1, w1, l1, r1, g1⟩
  refine PySem.W.callWith_K (h₀ := X.base) I.ok.mod.kin M.kp (thn (ha.run pos pins s sg H _ I q') fun us s1 ⟨vs, H1, I1, r, rho, h, ws, l, rw', g1⟩ => ⟨I1.kIn, ?_⟩) he hpl
  exact run_new M F hr tk I1 r l rw' g1
theorem de_new0 {c : Nat} (G : Nw X.prog X.w X.K X.mg X.base S k c x n g ds) (hr : Room (k + 1) X.A) (tk : Takes X Wx.wx) (hg : Gl X x) (hdb : (x == ("__debug__" : Str)) = false := by decide) : DE S X Wx (.Call (.Name x p) [] [] pos) (fun _ h => newC c n g ds [] h) := by
  obtain ⟨f, M, F⟩ := G.ex
  refine ⟨fun pins s sg H Q I q => wpAny_Call_Name_kw (ld_glob I hg G.at_ ?_ hdb)⟩
  obtain ⟨rho, h, ta, l, rs, g1⟩ := q
  exact PySem.W.callWith_K0 I.kIn M.kp (run_new (us := []) (ws := []) M F hr tk I .nil l .nil g1)
end
end J

namespace J
open PySem PySem.Spec PyProof.Rows L2

/-! ### statements -/
inductive SR where
  | nx (ta : En) (h : HA) | rt (w : W) (h : HA) | bk (ta : En) (h : HA) | ct (ta : En) (h : HA)
  | exc (c : Nat) (fs : List (Nat × W)) (ta : En) (h : HA) | stuck
abbrev Sx := En → HA → SR
def SR.then (r : SR) (k : Sx) : SR := match r with
  | .nx ta h => k ta h
  | .rt w h => .rt w h
  | .bk ta h => .bk ta h
  | .ct ta h => .ct ta h
  | .exc c fs ta h => .exc c fs ta h
  | .stuck => .stuck
/-- an expression's value, then a statement -/
def Res.to {α : Type} (r : Res α) (ta : En) (k : α → HA → SR) : SR := match r with
  | .ok w h => k w h
  | .exc c fs h => .exc c fs ta h
  | .stuck => .stuck
section
variable (S : Sta)
def GSX (Wx : Wi) (rho : List Addr) (H : Hp) (c : Nat) (fs : List (Nat × W)) (ta : En) (h' : HA) : Prop :=
  ∀ rho' H' sg d, Ev S rho H rho' H' → Rl S rho' h' H' → RS S Wx rho' H' ta sg → RX S rho' H' d fs → Wx.wx (.ref (S.ca c)) d sg H'
def GS (Wx : Wi) (D : Ends) (rho : List Addr) (H : Hp) : SR → Prop
  | .nx ta h' => ∀ rho' H' sg, Ev S rho H rho' H' → Rl S rho' h' H' → RS S Wx rho' H' ta sg → D.nx sg H'
  | .rt w h' => ∀ rho' H' v, Ev S rho H rho' H' → Rl S rho' h' H' → RV S rho' H' w v → D.rt v H'
  | .bk ta h' => ∀ rho' H' sg, Ev S rho H rho' H' → Rl S rho' h' H' → RS S Wx rho' H' ta sg → D.bk sg H'
  | .ct ta h' => ∀ rho' H' sg, Ev S rho H rho' H' → Rl S rho' h' H' → RS S Wx rho' H' ta sg → D.ct sg H'
  | .exc c fs ta h' => GSX S Wx rho H c fs ta h'
  | .stuck => False
def tS (Wx : Wi) (m : Sx) : TS := fun D sg H => ∃ rho h ta, Rl S rho h H ∧ RS S Wx rho H ta sg ∧ GS S Wx D rho H (m ta h)
def DS (X : Cx) (Wx : Wi) (st : Stmt) (m : Sx) : Prop := PS X st (tS S Wx m)
def DB (X : Cx) (Wx : Wi) (st : List Stmt) (m : Sx) : Prop := PSs X st (tS S Wx m)
end
section
variable {X : Cx} {S : Sta} {Wx : Wi} {e a b o : Expr} {es rest : List Expr} {st : Stmt} {sts bd : List Stmt} {m m1 m2 : Ex} {ms : Ax} {t : Tx} {s1 s2 : Sx} {pos p pos' : Pos} {rho rho' : List Addr} {H H' : Hp} {D D' : Ends} {sg : L2.St} {ta : En} {h : HA}
theorem GS.mono {r : SR} (e : Ev S rho H rho' H') (g : GS S Wx D rho H r) : GS S Wx D rho' H' r := by
  cases r with
  | nx ta h => exact fun r2 H2 sg e2 l rs => g r2 H2 sg (e.trans e2) l rs
  | rt ta h => exact fun r2 H2 sg e2 l rs => g r2 H2 sg (e.trans e2) l rs
  | bk ta h => exact fun r2 H2 sg e2 l rs => g r2 H2 sg (e.trans e2) l rs
  | ct ta h => exact fun r2 H2 sg e2 l rs => g r2 H2 sg (e.trans e2) l rs
  | exc c fs ta h => exact fun r2 H2 sg d e2 l rs x => g r2 H2 sg d (e.trans e2) l rs x
  | stuck => exact g
/-- an expression within a statement -/
theorem GS.of_to {r : Res W} {k : W → HA → SR} {Q1 : VK} (rs : RS S Wx rho H ta sg) (g : GS S Wx D rho H (r.to ta k))
    (f : ∀ rho1 H1 v1 w1 h1, Ev S rho H rho1 H1 → Rl S rho1 h1 H1 → RV S rho1 H1 w1 v1 → GS S Wx D rho1 H1 (k w1 h1) → Q1 v1 H1) : GE S Wx sg rho H Q1 r := by
  cases r with
  | ok w h => exact fun r2 H2 v e l rv => f r2 H2 v w h e l rv (GS.mono e g)
  | exc c fs h => exact fun r2 H2 d e l x => g r2 H2 sg d e l (rs.mono e) x
  | stuck => exact g
theorem GS.of_toB {r : Res Bool} {k : Bool → HA → SR} {Q1 : Bool → Hp → Prop} (rs : RS S Wx rho H ta sg) (g : GS S Wx D rho H (r.to ta k))
    (f : ∀ rho1 H1 w1 h1, Ev S rho H rho1 H1 → Rl S rho1 h1 H1 → GS S Wx D rho1 H1 (k w1 h1) → Q1 w1 H1) : GB S Wx sg rho H Q1 r := by
  cases r with
  | ok w h => exact fun r2 H2 e l => f r2 H2 w h e l (GS.mono e g)
  | exc c fs h => exact fun r2 H2 d e l x => g r2 H2 sg d e l (rs.mono e) x
  | stuck => exact g
theorem tS_to {k : En → W → HA → SR} {Q1 : VK} (q : tS S Wx (fun ta h => (m ta h).to ta (k ta)) D sg H)
    (f : ∀ rho1 H1 ta v1 w1 h1, Rl S rho1 h1 H1 → RS S Wx rho1 H1 ta sg → RV S rho1 H1 w1 v1 → GS S Wx D rho1 H1 (k ta w1 h1) → Q1 v1 H1) : tE S Wx m sg H Q1 := by
  obtain ⟨rho, h, ta, l, r, g⟩ := q
  exact ⟨rho, h, ta, l, r, GS.of_to r g fun rho1 H1 v1 w1 h1 e l1 r1 g1 => f rho1 H1 ta v1 w1 h1 l1 (r.mono e) r1 g1⟩
theorem tS_toB {k : En → Bool → HA → SR} {Q1 : Bool → Hp → Prop} (q : tS S Wx (fun ta h => (t ta h).to ta (k ta)) D sg H)
    (f : ∀ rho1 H1 ta w1 h1, Rl S rho1 h1 H1 → RS S Wx rho1 H1 ta sg → GS S Wx D rho1 H1 (k ta w1 h1) → Q1 w1 H1) : tT S Wx t sg H Q1 := by
  obtain ⟨rho, h, ta, l, r, g⟩ := q
  exact ⟨rho, h, ta, l, r, GS.of_toB r g fun rho1 H1 w1 h1 e l1 g1 => f rho1 H1 ta w1 h1 l1 (r.mono e) g1⟩
/-- from one end to another -/
theorem GS.ends {r : SR} (g : GS S Wx D rho H r) (fn : ∀ ta h, r = .nx ta h → ∀ rho' H' sg, Ev S rho H rho' H' → Rl S rho' h H' → RS S Wx rho' H' ta sg → D.nx sg H' → D'.nx sg H')
    (ft : ∀ v H', D.rt v H' → D'.rt v H') (fb : ∀ sg H', D.bk sg H' → D'.bk sg H') (fc : ∀ sg H', D.ct sg H' → D'.ct sg H') : GS S Wx D' rho H r := by
  cases r with
  | nx ta h => exact fun r2 H2 sg e2 l rs => fn ta h rfl r2 H2 sg e2 l rs (g r2 H2 sg e2 l rs)
  | rt ta h => exact fun r2 H2 sg e2 l rs => ft _ _ (g r2 H2 sg e2 l rs)
  | bk ta h => exact fun r2 H2 sg e2 l rs => fb _ _ (g r2 H2 sg e2 l rs)
  | ct ta h => exact fun r2 H2 sg e2 l rs => fc _ _ (g r2 H2 sg e2 l rs)
  | exc c fs ta h => exact g
  | stuck => exact g
theorem GS.of_then {r : SR} {k : Sx} (g : GS S Wx D rho H (r.then k)) : GS S Wx { D with nx := tS S Wx k D } rho H r := by
  cases r with
  | nx ta h => exact fun r2 H2 sg e2 l rs => ⟨r2, h, ta, l, rs, GS.mono e2 g⟩
  | rt ta h => exact g
  | bk ta h => exact g
  | ct ta h => exact g
  | exc c fs ta h => exact g
  | stuck => exact g

/-! ### plain statements -/
def sPass : Sx := fun ta h => .nx ta h
def sBrk : Sx := fun ta h => .bk ta h
def sCnt : Sx := fun ta h => .ct ta h
def sSeq (s1 s2 : Sx) : Sx := fun ta h => (s1 ta h).then s2
def sExp (m : Ex) : Sx := fun ta h => (m ta h).to ta fun _ h1 => .nx ta h1
def sRet (m : Ex) : Sx := fun ta h => (m ta h).to ta fun w h1 => .rt w h1
def sRetN : Sx := fun _ h => .rt .non h
def sIf (t : Tx) (s1 s2 : Sx) : Sx := fun ta h => (t ta h).to ta fun b h1 => if b = true then s1 ta h1 else s2 ta h1
theorem db_nil : DB S X Wx [] sPass := pss_imp pss_nil fun D sg H q => by
  obtain ⟨rho, h, ta, l, r, g⟩ := q
  exact g rho H sg Ev.rfl' l r
theorem db_cons (h1 : DS S X Wx st s1) (h2 : DB S X Wx sts s2) : DB S X Wx (st :: sts) (sSeq s1 s2) := pss_imp (pss_cons h1 h2) fun D sg H q => by
  obtain ⟨rho, h, ta, l, r, g⟩ := q
  exact ⟨rho, h, ta, l, r, GS.of_then g⟩
theorem db_one (h1 : DS S X Wx st s1) : DB S X Wx [st] s1 := pss_one h1
theorem ds_pass : DS S X Wx (.Pass pos) sPass := ps_imp ps_pass fun D sg H q => by
  obtain ⟨rho, h, ta, l, r, g⟩ := q
  exact g rho H sg Ev.rfl' l r
theorem ds_brk : DS S X Wx (.Break pos) sBrk := ps_imp ps_break fun D sg H q => by
  obtain ⟨rho, h, ta, l, r, g⟩ := q
  exact g rho H sg Ev.rfl' l r
theorem ds_cnt : DS S X Wx (.Continue pos) sCnt := ps_imp ps_continue fun D sg H q => by
  obtain ⟨rho, h, ta, l, r, g⟩ := q
  exact g rho H sg Ev.rfl' l r
theorem ds_exp (he : DE S X Wx e m) (hs : swapsWith e none pos.line X.env = pure false := by rfl) : DS S X Wx (.Expr e pos) (sExp m) := ps_imp (ps_expr he hs) fun D sg H q =>
  tS_to (k := fun ta _ h1 => .nx ta h1) q fun rho1 H1 ta v1 w1 h1 l rs r g => g rho1 H1 sg Ev.rfl' l rs
theorem ds_ret (he : DE S X Wx e m) : DS S X Wx (.Return (some e) pos) (sRet m) := ps_imp (ps_ret he) fun D sg H q =>
  tS_to (k := fun ta w h1 => .rt w h1) q fun rho1 H1 ta v1 w1 h1 l rs r g => g rho1 H1 v1 Ev.rfl' l r
theorem ds_retN : DS S X Wx (.Return none pos) sRetN := ps_imp ps_retN fun D sg H q => by
  obtain ⟨rho, h, ta, l, r, g⟩ := q
  exact g rho H .non Ev.rfl' l .non
theorem ds_if {c : Expr} {x y : List Stmt} (hc : DT S X Wx c t) (ha : DB S X Wx x s1) (hb : DB S X Wx y s2) : DS S X Wx (.If c x y pos) (sIf t s1 s2) := ps_imp (ps_if hc ha hb) fun D sg H q =>
  tS_toB (k := fun ta b h1 => if b = true then s1 ta h1 else s2 ta h1) q fun rho1 H1 ta w h1 l rs g => by
    cases w with
    | true => exact ⟨rho1, h1, ta, l, rs, g⟩
    | false => exact ⟨rho1, h1, ta, l, rs, g⟩

/-! ### targets -/
abbrev Tgt := W → En → HA → Option (En × HA)
abbrev Tgs := List W → En → HA → Option (En × HA)
def GG (S : Sta) (Wx : Wi) (rho : List Addr) (H : Hp) (Q : L2.St → Hp → Prop) : Option (En × HA) → Prop
  | some (ta, h') => ∀ rho' H' sg', Ev S rho H rho' H' → Rl S rho' h' H' → RS S Wx rho' H' ta sg' → Q sg' H'
  | none => False
def tG (S : Sta) (Wx : Wi) (g : Tgt) : TG := fun v sg H Q => ∃ rho h ta w, Rl S rho h H ∧ RS S Wx rho H ta sg ∧ RV S rho H w v ∧ GG S Wx rho H Q (g w ta h)
def tGs (S : Sta) (Wx : Wi) (g : Tgs) : TGs := fun vs sg H Q => ∃ rho h ta ws, Rl S rho h H ∧ RS S Wx rho H ta sg ∧ RVs S rho H ws vs ∧ GG S Wx rho H Q (g ws ta h)
def DG (S : Sta) (X : Cx) (Wx : Wi) (e : Expr) (g : Tgt) : Prop := PG X e (tG S Wx g)
def DGs (S : Sta) (X : Cx) (Wx : Wi) (es : List Expr) (g : Tgs) : Prop := PGs X es (tGs S Wx g)
def gNm (i : Nat) : Tgt := fun w ta h => some (ta.set i (some w), h)
def gsNil : Tgs := fun ws ta h => match ws with
  | [] => some (ta, h)
  | _ => none
def gsCons (g : Tgt) (r : Tgs) : Tgs := fun ws ta h => match ws with
  | w :: ws => (match g w ta h with
    | some (ta1, h1) => r ws ta1 h1
    | none => none)
  | [] => none
/-- a, b, .. = a tuple of that length -/
def gTp (n : Nat) (r : Tgs) : Tgt := fun w ta h => match w with
  | .tup xs => if xs.length = n then r xs ta h else none
  | _ => none
/-- .. a list or a tuple of that length -/
def gLT (n : Nat) (r : Tgs) : Tgt := fun w ta h => match itW h w with
  | some xs => if xs.length = n then r xs ta h else none
  | none => none
theorem pg_imp {x : Expr} {g g' : TG} (q : PG X x g) (f : ∀ v sg H Q, g' v sg H Q → g v sg H Q) : PG X x g' := ⟨fun pins s sg H v u Q I r z => q.run pins s sg H v u Q I r (f _ _ _ _ z)⟩
theorem pgs_imp {x : List Expr} {g g' : TGs} (q : PGs X x g) (f : ∀ v sg H Q, g' v sg H Q → g v sg H Q) : PGs X x g' := ⟨fun pins s sg H v u Q I r z => q.run pins s sg H v u Q I r (f _ _ _ _ z)⟩
theorem GG.mono {Q : L2.St → Hp → Prop} {r : Option (En × HA)} (e : Ev S rho H rho' H') (g : GG S Wx rho H Q r) : GG S Wx rho' H' Q r := by
  cases r with
  | some p => obtain ⟨ta, h⟩ := p; exact fun r2 H2 sg e2 l rs => g r2 H2 sg (e.trans e2) l rs
  | none => exact g
theorem dg_name {i : Nat} {x : Str} (hN : X.N.Nodup) (hi : X.N[i]? = some x) (hx : Loc X.env.scope x) (hf : X.fn x = true ∨ X.env.scope.names.lookup x = some .local := by first | exact .inl rfl | exact .inr rfl | assumption) : DG S X Wx (.Name x pos) (gNm i) :=
  pg_imp (pg_name hN hi hx hf) fun v sg H Q q => by
    obtain ⟨rho, h, ta, w, l, rs, r, g⟩ := q
    exact g rho H _ Ev.rfl' l (rs.set r)
theorem dgs_nil : DGs S X Wx [] gsNil := pgs_imp pgs_nil fun v sg H Q q => by
  obtain ⟨rho, h, ta, w, l, rs, r, g⟩ := q
  cases r with
  | nil => exact ⟨rfl, g rho H _ Ev.rfl' l rs⟩
  | cons _ _ => exact g.elim
theorem dgs_cons {g : Tgt} {r : Tgs} (hg : DG S X Wx e g) (k : DGs S X Wx es r) (hs : (assignEach (e :: es) X.env).map (·.2) = assign e X.env :: (assignEach es X.env).map (·.2) := by rfl) : DGs S X Wx (e :: es) (gsCons g r) :=
  pgs_imp (pgs_cons hg k hs) fun v sg H Q q => by
    obtain ⟨rho, h, ta, ws, l, rs, rv, g0⟩ := q
    cases rv with
    | nil => exact g0.elim
    | cons r1 r2 =>
      rename_i w ws v vs
      refine ⟨v, vs, rfl, ⟨rho, h, ta, w, l, rs, r1, ?_⟩⟩
      cases z : g w ta h with
      | none => simp only [gsCons, z] at g0; exact g0
      | some p =>
        obtain ⟨ta1, h1⟩ := p
        simp only [gsCons, z] at g0
        exact fun rho1 H1 sg1 ev l1 rs1 => ⟨rho1, h1, ta1, ws, l1, rs1, r2.mono ev, GG.mono ev g0⟩
theorem dg_tup {k n : Nat} {r : Tgs} (K : S.K = X.K) (hc : X.calm = true) (hr : DGs S X Wx es r) (hn : (assignEach es X.env).length = n := by rfl) (hst : (assignEach es X.env).findIdx? (·.1) = none := by rfl) : DG S X Wx (.Tuple es k pos) (gTp n r) :=
  pg_imp (pg_tup hc hr hn hst) fun v sg H Q q => by
    obtain ⟨rho, h, ta, w, l, rs, rv, g⟩ := q
    cases rv with
    | tup hp r1 =>
      unfold gTp at g
      dsimp only at g
      split at g
      · rename_i c
        exact ⟨_, _, rfl, by rw [← K]; exact hp, by rw [← r1.length]; exact c, ⟨rho, h, ta, _, l, rs, r1, g⟩⟩
      · exact g.elim
    | _ => exact g.elim
theorem pg_or {x : Expr} {g g' : TG} (q : PG X x g) (q' : PG X x g') : PG X x (fun v sg H Q => g v sg H Q ∨ g' v sg H Q) := ⟨fun pins s sg H v u Q I r z => z.elim (fun z => q.run pins s sg H v u Q I r z) fun z => q'.run pins s sg H v u Q I r z⟩
theorem dg_lt {k n : Nat} {r : Tgs} (K : S.K = X.K) (hc : X.calm = true) (hr : DGs S X Wx es r) (hn : (assignEach es X.env).length = n := by rfl) (hst : (assignEach es X.env).findIdx? (·.1) = none := by rfl) : DG S X Wx (.Tuple es k pos) (gLT n r) :=
  pg_imp (pg_or (pg_tup hc hr hn hst) (pg_unl hc hr hn hst)) fun v sg H Q q => by
    obtain ⟨rho, h, ta, w, l, rs, rv, g⟩ := q
    unfold gLT at g
    split at g
    · rename_i xs e
      split at g
      · rename_i c
        obtain ⟨p, ys, rfl, a, b⟩ := itW_ok K l rv e
        rcases a with a | a
        · exact .inr ⟨p, ys, rfl, a, by rw [← b.length]; exact c, ⟨rho, h, ta, xs, l, rs, b, g⟩⟩
        · exact .inl ⟨p, ys, rfl, a, by rw [← b.length]; exact c, ⟨rho, h, ta, xs, l, rs, b, g⟩⟩
      · exact g.elim
    · exact g.elim
/-- o[i] = w, o a list -/
def setW (o i w : W) (h : HA) : Option HA := match o, i with
  | .ref a, .int k => (match h[a]? with
    | some (.lst xs) => (match ixN xs.length k with
      | some j => some (h.set a (.lst (xs.set j w)))
      | none => none)
    | _ => none)
  | _, _ => none
def gSb (m1 m2 : Ex) : Tgt := fun w ta h => match m1 ta h with
  | .ok o h1 => (match m2 ta h1 with
    | .ok i h2 => (match setW o i w h2 with
      | some h3 => some (ta, h3)
      | none => none)
    | _ => none)
  | _ => none
theorem dg_sub (ho : DE S X Wx o m1) (hi : DE S X Wx a m2) (ha : ∀ v, assign (.Subscript o a pos) X.env v = (do
      let ov ← holding [v] (eval o X.env)
      let iv ← holding [v, ov] (eval a X.env)
      standAt pos
      holding [v, ov, iv] (setItem ov iv v)
      release [v, ov, iv] []) := by intro _; rfl) : DG S X Wx (.Subscript o a pos) (gSb m1 m2) :=
  pg_imp (pg_sub ho hi set_list ha) fun v sg H Q q => by
    obtain ⟨rho, h, ta, w, l, rs, rv, g⟩ := q
    unfold gSb at g
    split at g
    · rename_i o1 h1 e1
      split at g
      · rename_i i1 h2 e2
        split at g
        · rename_i h3 e3
          refine ⟨rho, h, ta, l, rs, ?_⟩
          rw [e1]
          intro rho1 H1 v1 ev1 l1 r1
          refine ⟨rho1, h1, ta, l1, rs.mono ev1, ?_⟩
          rw [e2]
          intro rho2 H2 v2 ev2 l2 r2
          unfold setW at e3
          split at e3
          · rename_i a1 k1
            split at e3
            · rename_i xs ox
              split at e3
              · rename_i j ej
                cases e3
                cases r2
                obtain ⟨p, rfl, hp⟩ := ref_of (r1.mono ev2)
                obtain ⟨ys, b1, b2⟩ := lst_of l2 hp ox
                refine ⟨p, ys, k1, j, rfl, rfl, b1, by rw [← b2.length]; exact ej, ?_⟩
                have ev3 := Ev.put (u := HO.lst (ys.set j v)) l2 hp
                have rv2 := (rv.mono (ev1.trans ev2))
                exact g rho2 _ sg ((ev1.trans ev2).trans ev3) (l2.put hp (.lst upd_same ((b2.set rv2 j).mono ev3))) (rs.mono ((ev1.trans ev2).trans ev3))
              · cases e3
            · cases e3
          · cases e3
        · exact g.elim
      · exact g.elim
    · exact g.elim
/-! ### assignments -/
def sAsg (m : Ex) (g : Tgt) : Sx := fun ta h => (m ta h).to ta fun w h1 => match g w ta h1 with
  | some (ta1, h2) => .nx ta1 h2
  | none => .stuck
def sSet (i : Nat) (m : Ex) : Sx := fun ta h => (m ta h).to ta fun w h1 => .nx (ta.set i (some w)) h1
theorem ds_asg {tg : Expr} {g : Tgt} (he : DE S X Wx e m) (hg : DG S X Wx tg g) (hs : swapsWithSole [tg] e pos.line X.env = pure false := by rfl) (hw : swappedStores [tg] e X.env = pure none := by rfl)
    (h1 : (assignEach [tg] X.env).map (·.2) = [assign tg X.env] := by rfl) : DS S X Wx (.Assign [tg] e pos) (sAsg m g) := ps_imp (ps_asg he hg hs hw h1) fun D sg H q =>
  tS_to (k := fun ta w h1 => match g w ta h1 with | some (ta1, h2) => .nx ta1 h2 | none => .stuck) q fun rho1 H1 ta v1 w1 h1 l rs r g1 => by
    refine ⟨rho1, h1, ta, w1, l, rs, r, ?_⟩
    cases z : g w1 ta h1 with
    | none => rw [z] at g1; exact g1
    | some p => obtain ⟨ta1, h2⟩ := p; rw [z] at g1; exact g1
theorem ds_set {i : Nat} {x : Str} (hN : X.N.Nodup) (hi : X.N[i]? = some x) (hx : Loc X.env.scope x) (he : DE S X Wx e m) (hs : swapsWith e (some (.Name x pos')) pos.line X.env = pure false := by rfl)
    (hf : X.fn x = true ∨ X.env.scope.names.lookup x = some .local := by first | exact .inl rfl | exact .inr rfl | assumption) : DS S X Wx (.Assign [.Name x pos'] e pos) (sSet i m) := ps_imp (ps_set hN hi hx he hs hf) fun D sg H q =>
  tS_to (k := fun ta w h1 => .nx (ta.set i (some w)) h1) q fun rho1 H1 ta v1 w1 h1 l rs r g1 => g1 rho1 H1 _ Ev.rfl' l (rs.set r)
/-- o.x = e -/
def setF (f : Nat) (o w : W) (h : HA) : Option HA := match o with
  | .ref i => (match h[i]? with
    | some (.ins c fs) => if fs.length < 1000 then some (h.set i (.ins c (putA f w fs))) else none
    | _ => none)
  | _ => none
def sFd (cs : List Nat) (f : Nat) (mo mv : Ex) : Sx := fun ta h => (mv ta h).to ta fun w h1 => (mo ta h1).to ta fun o h2 => match clsOf h2 o with
  | some c => if c ∈ cs then (match setF f o w h2 with
    | some h3 => .nx ta h3
    | none => .stuck) else .stuck
  | none => .stuck
theorem ds_fld {x : Str} {f : Nat} {cs : List Nat} (nd : S.nm.Nodup) (hx : S.nm[f]? = some x) (ck : ∀ c ∈ cs, Cls X.K (S.ca c) ∧ NoAttr X.K (S.ca c) x) (ho : DE S X Wx o m1) (hv : DE S X Wx e m2)
    (hs : swapsWith e (some (.Attribute o x pos')) pos.line X.env = pure false := by rfl) : DS S X Wx (.Assign [.Attribute o x pos'] e pos) (sFd cs f m1 m2) := ps_imp (ps_fld ho hv hs) fun D sg H q => by
  refine tS_to (k := fun ta w h1 => (m1 ta h1).to ta fun o h2 => match clsOf h2 o with
    | some c => if c ∈ cs then (match setF f o w h2 with
      | some h3 => .nx ta h3
      | none => .stuck) else .stuck
    | none => .stuck) q fun rho1 H1 ta v1 w1 h1 l rs r g1 => ?_
  refine ⟨rho1, h1, ta, l, rs, GS.of_to rs g1 fun rho2 H2 v2 w2 h2 ev l2 r2 g2 => ?_⟩
  split at g2
  · rename_i c hc
    split at g2
    · rename_i hcc
      split at g2
      · rename_i h3 e3
        unfold setF at e3
        split at e3
        · rename_i i
          split at e3
          · rename_i c' fs oi
            have : c' = c := by
              simp only [clsOf, oi] at hc
              exact Option.some.inj hc
            subst this
            split at e3
            · rename_i lt
              cases e3
              obtain ⟨p, rfl, hp⟩ := ref_of r2
              obtain ⟨dx, gs, a1, a2⟩ := ins_of l2 hp oi
              refine ⟨p, S.ca c', dx, gs, rfl, a1, (ck _ hcc).1, (ck _ hcc).2, by rw [← RF_len a2]; exact lt, ?_⟩
              have ev3 := Ev.put (u := HO.ins (S.ca c') dx (putF x v1 gs)) l2 hp
              exact g2 rho2 _ sg ev3 (l2.put hp (.ins upd_same ((RF_put nd hx (r.mono ev) a2).mono ev3))) ((rs.mono ev).mono ev3)
            · cases e3
          · cases e3
        · cases e3
      · exact g2.elim
    · exact g2.elim
  · exact g2.elim
end
end J

namespace J
open PySem PySem.Spec PyProof.Rows L2
section
variable {X : Cx} {S : Sta} {Wx : Wi} {e a b o : Expr} {es rest : List Expr} {st : Stmt} {sts bd : List Stmt} {m m1 m2 : Ex} {ms : Ax} {t : Tx} {s1 s2 : Sx} {pos p pos' : Pos} {rho rho' : List Addr} {H H' : Hp} {D D' : Ends} {sg : L2.St} {ta : En} {h : HA}

/-! ### loops over items that stand -/
/-- one turn's end -/
def SR.turn (r : SR) (k : En → HA → SR) : SR := match r with
  | .nx ta h => k ta h
  | .ct ta h => k ta h
  | .bk ta h => .nx ta h
  | .rt w h => .rt w h
  | .exc c fs ta h => .exc c fs ta h
  | .stuck => .stuck
/-- for w in items: body -/
def forT (g : Tgt) (b : Sx) : List W → Sx
  | [], ta, h => .nx ta h
  | w :: ws, ta, h => match g w ta h with
    | some (ta1, h1) => (b ta1 h1).turn (forT g b ws)
    | none => .stuck
/-- for w in the list at i, as it stands at each turn; mk k w: what the turn is handed -/
def forL (i : Nat) (mk : Nat → W → W) (g : Tgt) (b : Sx) : Nat → Nat → Sx
  | 0, k, ta, h => match rdL h i with
    | some xs => if xs.length ≤ k then .nx ta h else .stuck
    | none => .stuck
  | n + 1, k, ta, h => match rdL h i with
    | some xs => (match xs[k]? with
      | some w => (match g (mk k w) ta h with
        | some (ta1, h1) => (b ta1 h1).turn (forL i mk g b n (k + 1))
        | none => .stuck)
      | none => .stuck)
    | none => .stuck
theorem GS.of_turn {r : SR} {k : Sx} (g : GS S Wx D rho H (r.turn k)) : GS S Wx { D with nx := tS S Wx k D, ct := tS S Wx k D, bk := D.nx } rho H r := by
  cases r with
  | nx ta h => exact fun r2 H2 sg e2 l rs => ⟨r2, h, ta, l, rs, GS.mono e2 g⟩
  | ct ta h => exact fun r2 H2 sg e2 l rs => ⟨r2, h, ta, l, rs, GS.mono e2 g⟩
  | rt ta h => exact g
  | bk ta h => exact g
  | exc c fs ta h => exact g
  | stuck => exact g
/-- what ps_for asks of the loop over J -/
def LoopG (J : It) (g : TG) (tb : TS) (D : Ends) (sg : L2.St) (H1 : Hp) : Prop := ∃ W : Nat → Nat → L2.St → Hp → Prop, (∃ m, W 0 m sg H1) ∧ ∀ i m sg H, W i m sg H →
  (J.stop i H ∧ D.nx sg H) ∨ (J.go i H ∧ ∃ N : L2.St → Hp → Prop, (∀ sg' H', N sg' H' → ∃ m', m' < m ∧ W (i + 1) m' sg' H') ∧ ∀ x H', J.yld i H x H' → g x sg H' fun sg2 H2 => tb { D with nx := N, ct := N, bk := D.nx } sg2 H2)
/-- one turn, the rest k of the loop, a fact F that stays -/
theorem turn_of {F : List Addr → Hp → Prop} (mono : ∀ rho H rho' H', Ev S rho H rho' H' → F rho H → F rho' H') {g : Tgt} {b k : Sx} {w : W} {x : V} {N : L2.St → Hp → Prop} (l : Rl S rho h H) (rs : RS S Wx rho H ta sg) (r : RV S rho H w x) (f : F rho H)
    (q : GS S Wx D rho H (match g w ta h with | some (ta1, h1) => (b ta1 h1).turn k | none => .stuck))
    (hN : ∀ rho' H' h' ta' sg', Rl S rho' h' H' → RS S Wx rho' H' ta' sg' → F rho' H' → GS S Wx D rho' H' (k ta' h') → N sg' H') : tG S Wx g x sg H fun sg2 H2 => tS S Wx b { D with nx := N, ct := N, bk := D.nx } sg2 H2 := by
  refine ⟨rho, h, ta, w, l, rs, r, ?_⟩
  cases z : g w ta h with
  | none => rw [z] at q; exact q
  | some p =>
    obtain ⟨ta1, h1⟩ := p
    rw [z] at q
    intro rho2 H2 sg2 ev2 l2 rs2
    refine ⟨rho2, h1, ta1, l2, rs2, ?_⟩
    have q2 : GS S Wx D rho2 H2 ((b ta1 h1).turn k) := GS.mono ev2 q
    have f2 := mono _ _ _ _ ev2 f
    cases y : b ta1 h1 with
    | nx ta3 h3 => rw [y] at q2; exact fun r3 H3 sg3 e3 l3 rs3 => hN r3 H3 h3 ta3 sg3 l3 rs3 (mono _ _ _ _ e3 f2) (GS.mono e3 q2)
    | ct ta3 h3 => rw [y] at q2; exact fun r3 H3 sg3 e3 l3 rs3 => hN r3 H3 h3 ta3 sg3 l3 rs3 (mono _ _ _ _ e3 f2) (GS.mono e3 q2)
    | rt ta3 h3 => rw [y] at q2; exact q2
    | bk ta3 h3 => rw [y] at q2; exact q2
    | exc c fs ta3 h3 => rw [y] at q2; exact q2
    | stuck => rw [y] at q2; exact q2
theorem loopT {J : It} {g : Tgt} {b : Sx} {xs : List W} (F : List Addr → Hp → Prop) (mono : ∀ rho H rho' H', Ev S rho H rho' H' → F rho H → F rho' H')
    (hgo : ∀ i rho H, F rho H → i < xs.length → J.go i H) (hst : ∀ rho H, F rho H → J.stop xs.length H)
    (hy : ∀ i rho h H x H' w, Rl S rho h H → F rho H → xs[i]? = some w → J.yld i H x H' → ∃ rho', Ev S rho H rho' H' ∧ Rl S rho' h H' ∧ RV S rho' H' w x)
    (l : Rl S rho h H) (rs : RS S Wx rho H ta sg) (f : F rho H) (q : GS S Wx D rho H (forT g b xs ta h)) : LoopG J (tG S Wx g) (tS S Wx b) D sg H := by
  refine ⟨fun i m sg H => ∃ rho h ta, Rl S rho h H ∧ RS S Wx rho H ta sg ∧ F rho H ∧ i ≤ xs.length ∧ m = xs.length - i ∧ GS S Wx D rho H (forT g b (xs.drop i) ta h), ⟨xs.length, rho, h, ta, l, rs, f, Nat.zero_le _, rfl, by simpa using q⟩, ?_⟩
  rintro i m sg H ⟨rho, h, ta, l, rs, f, hi, rfl, q⟩
  by_cases hlt : i < xs.length
  · refine .inr ⟨hgo i rho H f hlt, fun sg' H' => ∃ rho h ta, Rl S rho h H' ∧ RS S Wx rho H' ta sg' ∧ F rho H' ∧ GS S Wx D rho H' (forT g b (xs.drop (i + 1)) ta h), ?_, fun x H' y => ?_⟩
    · rintro sg' H' ⟨rho', h', ta', l', rs', f', q'⟩
      exact ⟨xs.length - (i + 1), by omega, rho', h', ta', l', rs', f', hlt, rfl, q'⟩
    · rw [List.drop_eq_getElem_cons hlt] at q
      obtain ⟨rho', ev, l', r⟩ := hy i rho h H x H' xs[i] l f (List.getElem?_eq_getElem hlt) y
      exact turn_of mono l' (rs.mono ev) r (mono _ _ _ _ ev f) (GS.mono ev q) fun rho2 H2 h2 ta2 sg2 l2 rs2 f2 q2 => ⟨rho2, h2, ta2, l2, rs2, f2, q2⟩
  · have e : i = xs.length := by omega
    subst e
    rw [List.drop_length] at q
    exact .inl ⟨hst rho H f, q rho H sg Ev.rfl' l rs⟩
theorem loopL {J : It} {g : Tgt} {b : Sx} {i0 n : Nat} {mk : Nat → W → W} (F : List Addr → Hp → Prop) (mono : ∀ rho H rho' H', Ev S rho H rho' H' → F rho H → F rho' H')
    (hgo : ∀ i rho h H xs w, Rl S rho h H → F rho H → rdL h i0 = some xs → xs[i]? = some w → J.go i H) (hst : ∀ i rho h H xs, Rl S rho h H → F rho H → rdL h i0 = some xs → xs.length ≤ i → J.stop i H)
    (hy : ∀ i rho h H x H' xs w, Rl S rho h H → F rho H → rdL h i0 = some xs → xs[i]? = some w → J.yld i H x H' → ∃ rho', Ev S rho H rho' H' ∧ Rl S rho' h H' ∧ RV S rho' H' (mk i w) x)
    (l : Rl S rho h H) (rs : RS S Wx rho H ta sg) (f : F rho H) (q : GS S Wx D rho H (forL i0 mk g b n 0 ta h)) : LoopG J (tG S Wx g) (tS S Wx b) D sg H := by
  refine ⟨fun i m sg H => ∃ rho h ta, Rl S rho h H ∧ RS S Wx rho H ta sg ∧ F rho H ∧ GS S Wx D rho H (forL i0 mk g b m i ta h), ⟨n, rho, h, ta, l, rs, f, q⟩, ?_⟩
  rintro i m sg H ⟨rho, h, ta, l, rs, f, q⟩
  cases m with
  | zero =>
    unfold forL at q
    split at q
    · rename_i xs e
      split at q
      · rename_i c
        exact .inl ⟨hst i rho h H xs l f e c, q rho H sg Ev.rfl' l rs⟩
      · exact q.elim
    · exact q.elim
  | succ m =>
    unfold forL at q
    split at q
    · rename_i xs e
      split at q
      · rename_i w ew
        refine .inr ⟨hgo i rho h H xs w l f e ew, fun sg' H' => ∃ rho h ta, Rl S rho h H' ∧ RS S Wx rho H' ta sg' ∧ F rho H' ∧ GS S Wx D rho H' (forL i0 mk g b m (i + 1) ta h), ?_, fun x H' y => ?_⟩
        · rintro sg' H' ⟨rho', h', ta', l', rs', f', q'⟩
          exact ⟨m, Nat.lt_succ_self _, rho', h', ta', l', rs', f', q'⟩
        · obtain ⟨rho', ev, l', r⟩ := hy i rho h H x H' xs w l f e ew y
          exact turn_of mono l' (rs.mono ev) r (mono _ _ _ _ ev f) (GS.mono ev q) fun rho2 H2 h2 ta2 sg2 l2 rs2 f2 q2 => ⟨rho2, h2, ta2, l2, rs2, f2, q2⟩
      · exact q.elim
    · exact q.elim
/-- over a list (as it stands at each turn), or over a tuple -/
def iSeq (K : PySem.W.Frag) (tl : TE) : TI := fun sg H R => tl sg H fun x H1 => ∃ a, x = .ref a ∧ (((∃ xs, SqL K H1 a xs) ∧ R (Itl K a) H1) ∨ ((∃ xs, SqT K H1 a xs) ∧ R (Itt K a) H1))
theorem pi_seq {tg l : Expr} {tl : TE} (hl : PE X l tl) : PI X tg l (iSeq X.K tl) := by
  refine ⟨fun pins s sg H R I q => thn (hl.run pins s sg H _ I q) fun v s1 hh => ?_⟩
  obtain ⟨x, H1, I1, r1, a, e, q1⟩ := hh
  subst e
  cases r1
  have fp : ∀ b ∈ [s1.heap.objs.size], FpOk X pins H1 b := fun b hb => by
    obtain rfl : b = s1.heap.objs.size := by simpa using hb
    exact I1.fpOk (Nat.le_refl _) (I1.hok.fresh (Nat.le_refl _))
  rcases q1 with ⟨⟨xs, hq⟩, q2⟩ | ⟨⟨xs, hq⟩, q2⟩
  · obtain ⟨its, rv, pl, hz⟩ := I1.list hq
    exact wpAny_pyIter_list pl.isList ⟨_, [s1.heap.objs.size], _, _, H1, rfl, I1.kept (t' := s1.toks) (fun b o q => Heap.get?_push_of_some _ q), turn_list a _, ⟨_, Heap.get?_push_size _ rfl, rfl, rfl⟩, fp, q2⟩
  · obtain ⟨its, rv, pl, hz⟩ := I1.tuple hq
    exact wpAny_pyIter_tuple (show s1.heap.IsTuple a its.toArray from pl) ⟨_, [s1.heap.objs.size], _, _, H1, rfl, I1.kept (t' := s1.toks) (fun b o q => Heap.get?_push_of_some _ q), turn_tuple a _, ⟨_, Heap.get?_push_size _ rfl, rfl, rfl⟩, fp, q2⟩
/-- for x in e: e a list or a tuple -/
def sFor (m : Ex) (g : Tgt) (b : Sx) : Sx := fun ta h => (m ta h).to ta fun w h1 => match w with
  | .tup xs => forT g b xs ta h1
  | .cst xs => forT g b xs ta h1
  | .ref i => (match rdL h1 i with
    | some xs => forL i (fun _ w => w) g b xs.length 0 ta h1
    | none => .stuck)
  | _ => .stuck
theorem ds_for {tg it : Expr} {g : Tgt} {b : Sx} (K : S.K = X.K) (hp : PassesOwn (model X.prog X.w) X.A X.env X.xe) (hc : X.calm = true) (he : DE S X Wx it m) (hg : DG S X Wx tg g) (hb : DB S X Wx bd b)
    (hs : ∀ x, foldedSetIterable it X.env x = pure x := by intro _; rfl) : DS S X Wx (.For tg it bd [] pos) (sFor m g b) := ps_imp (ps_for hp hc (pi_seq he) hg hb hs) fun D sg H q => by
  refine tS_to (k := fun ta w h1 => match w with
    | .tup xs => forT g b xs ta h1
    | .cst xs => forT g b xs ta h1
    | .ref i => (match rdL h1 i with
      | some xs => forL i (fun _ w => w) g b xs.length 0 ta h1
      | none => .stuck)
    | _ => .stuck) q fun rho1 H1 ta v1 w1 h1 l rs r g1 => ?_
  split at g1
  · rename_i xs
    cases r with
    | tup hp r1 =>
      rename_i p ys
      rw [K] at hp
      refine ⟨p, rfl, .inr ⟨⟨ys, hp⟩, loopT (S := S) (Wx := Wx) (xs := xs) (fun rho H => SqT X.K H p ys ∧ RVs S rho H xs ys) (fun rho H rho' H' ev f => ⟨by rw [← K]; exact ev.tup _ _ (by rw [K]; exact f.1), f.2.mono ev⟩) (fun i rho H f hi => ?_) (fun rho H f => ?_) (fun i rho h H x H' w l f hw y => ?_) l rs ⟨hp, r1⟩ g1⟩⟩
      · obtain ⟨v, e1, _⟩ := f.2.get (List.getElem?_eq_getElem hi)
        exact ⟨ys, v, f.1, e1⟩
      · exact ⟨ys, f.1, by rw [← f.2.length]; exact Nat.le_refl _⟩
      · obtain ⟨rfl, y⟩ := y
        obtain ⟨v, e1, rv⟩ := f.2.get hw
        have := y ys f.1
        rw [e1] at this
        cases this
        exact ⟨rho, Ev.rfl', l, rv⟩
  · rename_i xs
    cases r with
    | cst hp r1 =>
      rename_i p ys
      refine ⟨p, rfl, .inl ⟨⟨ys, by rw [← K]; exact hp.sq⟩, loopT (S := S) (Wx := Wx) (xs := xs) (fun rho H => SqK S.K H p ys ∧ RVs S rho H xs ys) (fun rho H rho' H' ev f => ⟨ev.cst _ _ f.1, f.2.mono ev⟩) (fun i rho H f hi => ?_) (fun rho H f => ?_) (fun i rho h H x H' w l f hw y => ?_) l rs ⟨hp, r1⟩ g1⟩⟩
      · obtain ⟨v, e1, _⟩ := f.2.get (List.getElem?_eq_getElem hi)
        exact ⟨ys, v, by rw [← K]; exact f.1.sq, e1⟩
      · exact ⟨ys, by rw [← K]; exact f.1.sq, by rw [← f.2.length]; exact Nat.le_refl _⟩
      · obtain ⟨rfl, y⟩ := y
        obtain ⟨v, e1, rv⟩ := f.2.get hw
        have := y ys (by rw [← K]; exact f.1.sq)
        rw [e1] at this
        cases this
        exact ⟨rho, Ev.rfl', l, rv⟩
  · rename_i i
    split at g1
    · rename_i xs e
      obtain ⟨p, rfl, hp⟩ := ref_of r
      obtain ⟨ys, a1, a2⟩ := rdL_of K l hp e
      refine ⟨p, rfl, .inl ⟨⟨ys, a1⟩, loopL (S := S) (Wx := Wx) (fun rho H => rho[i]? = some p) (fun rho H rho' H' ev f => ev.at f) (fun k rho h H xs w l f e ew => ?_) (fun k rho h H xs l f e ew => ?_) (fun k rho h H x H' xs w l f e ew y => ?_) l rs hp g1⟩⟩
      · obtain ⟨ys, a1, a2⟩ := rdL_of K l f e
        obtain ⟨v, e1, _⟩ := a2.get ew
        exact ⟨ys, v, a1, e1⟩
      · obtain ⟨ys, a1, a2⟩ := rdL_of K l f e
        exact ⟨ys, a1, by rw [← a2.length]; exact ew⟩
      · obtain ⟨rfl, y⟩ := y
        obtain ⟨ys, a1, a2⟩ := rdL_of K l f e
        obtain ⟨v, e1, rv⟩ := a2.get ew
        have := y ys a1
        rw [e1] at this
        cases this
        exact ⟨rho, Ev.rfl', l, rv⟩
    · exact g1.elim
  · exact g1.elim
/-- lo, lo + 1, .. -/
def numW (lo : Int) : Nat → List W
  | 0 => []
  | n + 1 => .int lo :: numW (lo + 1) n
theorem numW_len : ∀ (n : Nat) (lo : Int), (numW lo n).length = n
  | 0, _ => rfl
  | n + 1, lo => by unfold numW; rw [List.length_cons, numW_len n]
theorem numW_at : ∀ (n : Nat) (lo : Int) (i : Nat) (w : W), (numW lo n)[i]? = some w → w = .int (lo + i) ∧ i < n
  | 0, _, i, w, e => by simp [numW] at e
  | n + 1, lo, 0, w, e => by simp [numW] at e; subst e; exact ⟨by simp, by omega⟩
  | n + 1, lo, i + 1, w, e => by
    unfold numW at e
    obtain ⟨a, b⟩ := numW_at n (lo + 1) i w (by simpa using e)
    refine ⟨?_, by omega⟩
    rw [a]
    congr 1
    omega
/-- the numbers of range(..) -/
def rng1 : List W → Option (List W)
  | [.int j] => if -(2 ^ 62) ≤ j ∧ j < 2 ^ 62 then some (numW 0 j.toNat) else none
  | _ => none
def rng2 : List W → Option (List W)
  | [.int i, .int j] => if -(2 ^ 62) ≤ i ∧ i < 2 ^ 62 ∧ -(2 ^ 62) ≤ j ∧ j < 2 ^ 62 then some (numW i (j - i).toNat) else none
  | _ => none
def sForR (rng : List W → Option (List W)) (ms : Ax) (g : Tgt) (b : Sx) : Sx := fun ta h => (ms ta h).to ta fun ws h1 => match rng ws with
  | some xs => forT g b xs ta h1
  | none => .stuck
theorem loopR {g : Tgt} {b : Sx} {lo : Int} {n : Nat} (l : Rl S rho h H) (rs : RS S Wx rho H ta sg) (q : GS S Wx D rho H (forT g b (numW lo n) ta h)) : LoopG (Itr lo n) (tG S Wx g) (tS S Wx b) D sg H :=
  loopT (S := S) (Wx := Wx) (fun _ _ => True) (fun _ _ _ _ _ _ => trivial) (fun i _ _ _ hi => by rw [numW_len] at hi; exact hi) (fun _ _ _ => by rw [numW_len]; exact Nat.le_refl _) (fun i rho h H x H' w l f hw y => by
    obtain ⟨rfl, rfl⟩ := y
    obtain ⟨rfl, _⟩ := numW_at _ _ _ _ hw
    exact ⟨rho, Ev.rfl', l, .int _⟩) l rs trivial q
theorem GS.of_toA {r : Res (List W)} {k : List W → HA → SR} {Q1 : List V → Hp → Prop} (rs : RS S Wx rho H ta sg) (g : GS S Wx D rho H (r.to ta k))
    (f : ∀ rho1 H1 v1 w1 h1, Ev S rho H rho1 H1 → Rl S rho1 h1 H1 → RVs S rho1 H1 w1 v1 → GS S Wx D rho1 H1 (k w1 h1) → Q1 v1 H1) : GA S Wx sg rho H Q1 r := by
  cases r with
  | ok w h => exact fun r2 H2 v e l rv => f r2 H2 v w h e l rv (GS.mono e g)
  | exc c fs h => exact fun r2 H2 d e l x => g r2 H2 sg d e l (rs.mono e) x
  | stuck => exact g
theorem tS_toA {k : En → List W → HA → SR} {Q1 : List V → Hp → Prop} (q : tS S Wx (fun ta h => (ms ta h).to ta (k ta)) D sg H)
    (f : ∀ rho1 H1 ta v1 w1 h1, Rl S rho1 h1 H1 → RS S Wx rho1 H1 ta sg → RVs S rho1 H1 w1 v1 → GS S Wx D rho1 H1 (k ta w1 h1) → Q1 v1 H1) : tA S Wx ms sg H Q1 := by
  obtain ⟨rho, h, ta, l, r, g⟩ := q
  exact ⟨rho, h, ta, l, r, GS.of_toA r g fun rho1 H1 v1 w1 h1 e l1 r1 g1 => f rho1 H1 ta v1 w1 h1 l1 (r.mono e) r1 g1⟩
theorem ds_forR1 {tg : Expr} {g : Tgt} {b : Sx} (hp : PassesOwn (model X.prog X.w) X.A X.env X.xe) (hc : X.calm = true) (hgl : Gl X "range") (hm : X.mg "range" = none) (ha : DA S X Wx [a] ms) (hg : DG S X Wx tg g) (hb : DB S X Wx bd b)
    (h1 : starEach [a] X.env = [(false, eval a X.env)] := by rfl) (hs : ∀ x, foldedSetIterable (.Call (.Name "range" p) [a] [] pos') X.env x = pure x := by intro _; rfl) : DS S X Wx (.For tg (.Call (.Name "range" p) [a] [] pos') bd [] pos) (sForR rng1 ms g b) := ps_imp (ps_for hp hc (pi_range1 hgl hm ha h1) hg hb hs) fun D sg H q =>
  tS_toA (k := fun ta ws h1 => match rng1 ws with
    | some xs => forT g b xs ta h1
    | none => .stuck) q fun rho1 H1 ta v1 w1 h1 l rs r g1 => by
    split at g1
    · rename_i xs e
      unfold rng1 at e
      split at e
      · split at e
        · rename_i c
          cases e
          obtain ⟨v, rfl, rv⟩ := RVs_one r
          cases rv
          exact ⟨_, rfl, c.1, c.2, loopR l rs g1⟩
        · cases e
      · cases e
    · exact g1.elim
theorem ds_forR2 {tg : Expr} {g : Tgt} {bb : Sx} (hp : PassesOwn (model X.prog X.w) X.A X.env X.xe) (hc : X.calm = true) (hgl : Gl X "range") (hm : X.mg "range" = none) (ha : DA S X Wx [a, b] ms) (hg : DG S X Wx tg g) (hb : DB S X Wx bd bb)
    (h1 : starEach [a, b] X.env = [(false, eval a X.env), (false, eval b X.env)] := by rfl) (h2 : starEach [b] X.env = [(false, eval b X.env)] := by rfl) (hs : ∀ x, foldedSetIterable (.Call (.Name "range" p) [a, b] [] pos') X.env x = pure x := by intro _; rfl) : DS S X Wx (.For tg (.Call (.Name "range" p) [a, b] [] pos') bd [] pos) (sForR rng2 ms g bb) := ps_imp (ps_for hp hc (pi_range2 hgl hm ha h1 h2) hg hb hs) fun D sg H q =>
  tS_toA (k := fun ta ws h1 => match rng2 ws with
    | some xs => forT g bb xs ta h1
    | none => .stuck) q fun rho1 H1 ta v1 w1 h1 l rs r g1 => by
    split at g1
    · rename_i xs e
      unfold rng2 at e
      split at e
      · split at e
        · rename_i c
          cases e
          obtain ⟨v, u, rfl, rv, ru⟩ := RVs_two r
          cases rv
          cases ru
          exact ⟨_, _, rfl, c, loopR l rs g1⟩
        · cases e
      · cases e
    · exact g1.elim
/-- (0, x), (1, y), .. -/
def enumW : Nat → List W → List W
  | _, [] => []
  | k, x :: xs => .tup [.int (k : Nat), x] :: enumW (k + 1) xs
theorem enumW_len : ∀ (xs : List W) (k : Nat), (enumW k xs).length = xs.length
  | [], _ => rfl
  | x :: xs, k => by unfold enumW; rw [List.length_cons, List.length_cons, enumW_len xs]
theorem enumW_at : ∀ (xs : List W) (k i : Nat) (w : W), (enumW k xs)[i]? = some w → ∃ x, xs[i]? = some x ∧ w = .tup [.int ((k + i : Nat) : Int), x]
  | [], _, i, w, e => by simp [enumW] at e
  | x :: xs, k, 0, w, e => by simp [enumW] at e; subst e; exact ⟨x, rfl, rfl⟩
  | x :: xs, k, i + 1, w, e => by
    unfold enumW at e
    obtain ⟨y, a, b⟩ := enumW_at xs (k + 1) i w (by simpa using e)
    refine ⟨y, by simpa using a, ?_⟩
    rw [b, show k + 1 + i = k + (i + 1) by omega]
/-- for k, x in enumerate(list) -/
def sForE (ms : Ax) (g : Tgt) (b : Sx) : Sx := fun ta h => (ms ta h).to ta fun ws h1 => match ws with
  | [.ref i] => (match rdL h1 i with
    | some xs => forL i (fun k w => .tup [.int (k : Nat), w]) g b xs.length 0 ta h1
    | none => .stuck)
  | [.cst xs] => forT g b (enumW 0 xs) ta h1
  | _ => .stuck
theorem ds_forE {elts : List Expr} {kk : Nat} {tpos : Pos} {g : Tgt} {b : Sx} (K : S.K = X.K) (hp : PassesOwn (model X.prog X.w) X.A X.env X.xe) (hc : X.calm = true) (hgl : Gl X "enumerate") (hm : X.mg "enumerate" = none) (ha : DA S X Wx [a] ms) (hg : DG S X Wx (.Tuple elts kk tpos) g) (hb : DB S X Wx bd b)
    (h1 : starEach [a] X.env = [(false, eval a X.env)] := by rfl) (hs : ∀ x, foldedSetIterable (.Call (.Name "enumerate" p) [a] [] pos') X.env x = pure x := by intro _; rfl) : DS S X Wx (.For (.Tuple elts kk tpos) (.Call (.Name "enumerate" p) [a] [] pos') bd [] pos) (sForE ms g b) := ps_imp (ps_for hp hc (pi_enum hgl hm ha h1) hg hb hs) fun D sg H q =>
  tS_toA (k := fun ta ws h1 => match ws with
    | [.ref i] => (match rdL h1 i with
      | some xs => forL i (fun k w => .tup [.int (k : Nat), w]) g b xs.length 0 ta h1
      | none => .stuck)
    | [.cst xs] => forT g b (enumW 0 xs) ta h1
    | _ => .stuck) q fun rho1 H1 ta v1 w1 h1 l rs r g1 => by
    split at g1
    · rename_i i
      split at g1
      · rename_i xs e
        obtain ⟨v, rfl, rv⟩ := RVs_one r
        obtain ⟨p, rfl, hp⟩ := ref_of rv
        obtain ⟨ys, a1, a2⟩ := rdL_of K l hp e
        refine ⟨p, ys, rfl, a1, loopL (S := S) (Wx := Wx) (fun rho H => rho[i]? = some p) (fun rho H rho' H' ev f => ev.at f) (fun k rho h H xs w l f e ew => ?_) (fun k rho h H xs l f e ew => ?_) (fun k rho h H x H' xs w l f e ew y => ?_) l rs hp g1⟩
        · obtain ⟨ys, a1, a2⟩ := rdL_of K l f e
          obtain ⟨v, e1, _⟩ := a2.get ew
          exact ⟨ys, v, a1, e1⟩
        · obtain ⟨ys, a1, a2⟩ := rdL_of K l f e
          exact ⟨ys, a1, by rw [← a2.length]; exact ew⟩
        · obtain ⟨T, z, rfl, hn, rfl, y⟩ := y
          obtain ⟨ys, a1, a2⟩ := rdL_of K l f e
          obtain ⟨v, e1, rv⟩ := a2.get ew
          have := y ys a1
          rw [e1] at this
          cases this
          exact ⟨rho, Ev.lay hn, l.lay hn, .tup (SqT.of upd_same) (.cons (.int _) (.cons (rv.mono (Ev.lay hn)) .nil))⟩
      · exact g1.elim
    · rename_i xs
      obtain ⟨v, rfl, rv⟩ := RVs_one r
      cases rv with
      | cst hp r1 =>
        rename_i p ys
        refine ⟨p, ys, rfl, by rw [← K]; exact hp.sq, loopT (S := S) (Wx := Wx) (xs := enumW 0 xs) (fun rho H => SqK S.K H p ys ∧ RVs S rho H xs ys) (fun rho H rho' H' ev f => ⟨ev.cst _ _ f.1, f.2.mono ev⟩) (fun i rho H f hi => ?_) (fun rho H f => ?_) (fun i rho h H x H' w l f hw y => ?_) l rs ⟨hp, r1⟩ g1⟩
        · rw [enumW_len] at hi
          obtain ⟨v, e1, _⟩ := f.2.get (List.getElem?_eq_getElem hi)
          exact ⟨ys, v, by rw [← K]; exact f.1.sq, e1⟩
        · exact ⟨ys, by rw [← K]; exact f.1.sq, by rw [enumW_len, ← f.2.length]; exact Nat.le_refl _⟩
        · obtain ⟨T, z, rfl, hn, rfl, y⟩ := y
          obtain ⟨x0, hx0, rfl⟩ := enumW_at _ _ _ _ hw
          obtain ⟨v, e1, rv⟩ := f.2.get hx0
          have := y ys (by rw [← K]; exact f.1.sq)
          rw [e1] at this
          cases this
          exact ⟨rho, Ev.lay hn, l.lay hn, .tup (SqT.of upd_same) (.cons (by rw [Nat.zero_add]; exact .int _) (.cons (rv.mono (Ev.lay hn)) .nil))⟩
    · exact g1.elim
end
end J

namespace J
open PySem PySem.Spec PyProof.Rows L2
section
variable {X : Cx} {S : Sta} {Wx : Wi} {e a b o : Expr} {es rest : List Expr} {st : Stmt} {sts bd : List Stmt} {m m1 m2 : Ex} {ms : Ax} {t : Tx} {s1 s2 : Sx} {pos p pos' : Pos} {rho rho' : List Addr} {H H' : Hp} {D D' : Ends} {sg : L2.St} {ta : En} {h : HA}

/-! ### comprehensions -/
def wipeA (ta : En) : List Nat → En
  | [] => ta
  | v :: vs => (wipeA ta vs).set v none
theorem RS_wipe (r : RS S Wx rho H ta sg) : ∀ vs : List Nat, RS S Wx rho H (wipeA ta vs) (wipe sg vs)
  | [] => r
  | v :: vs => (RS_wipe r vs).drop
def W0 : Wi := ⟨fun _ _ _ _ => False, none⟩
/-- no caught exception is named in a block -/
def clrX (ta : En) : En := ta.map fun o => match o with
  | some w => if noX w = true then some w else none
  | none => none
theorem RS_clr (r : RS S Wx rho H ta sg) : RS S W0 rho H (clrX ta) sg := by
  refine ⟨by unfold clrX; rw [List.length_map]; exact r.len, fun i w q => ?_⟩
  unfold clrX at q
  rw [List.getElem?_map] at q
  cases z : ta[i]? with
  | none => rw [z] at q; cases q
  | some o =>
    rw [z] at q
    cases o with
    | none => cases q
    | some w' =>
      simp only [Option.map_some] at q
      split at q
      · rename_i c
        cases q
        obtain ⟨v, e1, r1⟩ := r.at_ i w z
        rcases r1 with r1 | ⟨c', fs, a, dd, gs, rfl, _⟩
        · exact ⟨v, e1, .inl r1⟩
        · cases c
      · cases q
theorem RS_W0 (hcur : Wx.cur = none) (r : RS S Wx rho H ta sg) : RS S W0 rho H ta sg := ⟨r.len, fun i w q => by
  obtain ⟨v, e1, r1⟩ := r.at_ i w q
  rcases r1 with r1 | ⟨_, _, _, _, _, _, _, z, _⟩
  · exact ⟨v, e1, .inl r1⟩
  · rw [hcur] at z; cases z⟩
/-- targets that store nothing beyond the slots vs -/
def GGv (S : Sta) (Wx : Wi) (vs : List Nat) (sg : L2.St) (rho : List Addr) (H : Hp) (Q : L2.St → Hp → Prop) : Option (En × HA) → Prop
  | some (ta, h') => ∀ rho' H' sg', Ev S rho H rho' H' → Rl S rho' h' H' → RS S Wx rho' H' ta sg' → wipe sg' vs = wipe sg vs → Q sg' H'
  | none => False
def tGv (S : Sta) (Wx : Wi) (vs : List Nat) (g : Tgt) : TG := fun v sg H Q => ∃ rho h ta w, Rl S rho h H ∧ RS S Wx rho H ta sg ∧ RV S rho H w v ∧ GGv S Wx vs sg rho H Q (g w ta h)
def tGsv (S : Sta) (Wx : Wi) (vs : List Nat) (g : Tgs) : TGs := fun v sg H Q => ∃ rho h ta w, Rl S rho h H ∧ RS S Wx rho H ta sg ∧ RVs S rho H w v ∧ GGv S Wx vs sg rho H Q (g w ta h)
def DGv (S : Sta) (X : Cx) (Wx : Wi) (vs : List Nat) (e : Expr) (g : Tgt) : Prop := PG X e (tGv S Wx vs g)
def DGsv (S : Sta) (X : Cx) (Wx : Wi) (vs : List Nat) (es : List Expr) (g : Tgs) : Prop := PGs X es (tGsv S Wx vs g)
theorem set_comm' {α : Type} (l : List α) {i j : Nat} (x y : α) (h : i ≠ j) : (l.set i x).set j y = (l.set j y).set i x := List.set_comm x y h
theorem wipe_set {i : Nat} {x : Option V} : ∀ {vs : List Nat} {sg : L2.St}, i ∈ vs → wipe (sg.set i x) vs = wipe sg vs
  | [], _, h => by cases h
  | v :: vs, sg, h => by
    unfold wipe
    by_cases hv : i ∈ vs
    · rw [wipe_set hv]
    · have e : i = v := by
        rcases List.mem_cons.mp h with z | z
        · exact z
        · exact absurd z hv
      subst e
      have aux : ∀ (us : List Nat), i ∉ us → wipe (sg.set i x) us = (wipe sg us).set i x := by
        intro us
        induction us with
        | nil => intro _; rfl
        | cons u us ih =>
          intro hn
          unfold wipe
          rw [ih (fun z => hn (List.mem_cons_of_mem _ z)), List.set_comm _ _ (fun z => hn (by rw [z]; exact List.mem_cons_self))]
      rw [aux vs hv, List.set_set]
theorem dgv_name {i : Nat} {x : Str} {vs : List Nat} (hN : X.N.Nodup) (hi : X.N[i]? = some x) (hx : Loc X.env.scope x) (hv : i ∈ vs := by decide) (hf : X.fn x = true ∨ X.env.scope.names.lookup x = some .local := by first | exact .inl rfl | exact .inr rfl | assumption) : DGv S X Wx vs (.Name x pos) (gNm i) :=
  pg_imp (pg_name hN hi hx hf) fun v sg H Q q => by
    obtain ⟨rho, h, ta, w, l, rs, r, g⟩ := q
    exact g rho H _ Ev.rfl' l (rs.set r) (wipe_set hv)
theorem dgsv_nil {vs : List Nat} : DGsv S X Wx vs [] gsNil := pgs_imp pgs_nil fun v sg H Q q => by
  obtain ⟨rho, h, ta, w, l, rs, r, g⟩ := q
  cases r with
  | nil => exact ⟨rfl, g rho H _ Ev.rfl' l rs rfl⟩
  | cons _ _ => exact g.elim
theorem dgsv_cons {vs : List Nat} {g : Tgt} {r : Tgs} (hg : DGv S X Wx vs e g) (k : DGsv S X Wx vs es r) (hs : (assignEach (e :: es) X.env).map (·.2) = assign e X.env :: (assignEach es X.env).map (·.2) := by rfl) : DGsv S X Wx vs (e :: es) (gsCons g r) :=
  pgs_imp (pgs_cons hg k hs) fun v sg H Q q => by
    obtain ⟨rho, h, ta, ws, l, rs, rv, g0⟩ := q
    cases rv with
    | nil => exact g0.elim
    | cons r1 r2 =>
      rename_i w ws v vs
      refine ⟨v, vs, rfl, ⟨rho, h, ta, w, l, rs, r1, ?_⟩⟩
      cases z : g w ta h with
      | none => simp only [gsCons, z] at g0; exact g0
      | some p =>
        obtain ⟨ta1, h1⟩ := p
        simp only [gsCons, z] at g0
        intro rho1 H1 sg1 ev l1 rs1 ew
        refine ⟨rho1, h1, ta1, ws, l1, rs1, r2.mono ev, ?_⟩
        cases y : r ws ta1 h1 with
        | none => rw [y] at g0; exact g0
        | some p2 =>
          obtain ⟨ta2, h2⟩ := p2
          rw [y] at g0
          exact fun rho2 H2 sg2 ev2 l2 rs2 ew2 => g0 rho2 H2 sg2 (ev.trans ev2) l2 rs2 (ew2.trans ew)
theorem dgv_tup {vs : List Nat} {k n : Nat} {r : Tgs} (K : S.K = X.K) (hc : X.calm = true) (hr : DGsv S X Wx vs es r) (hn : (assignEach es X.env).length = n := by rfl) (hst : (assignEach es X.env).findIdx? (·.1) = none := by rfl) : DGv S X Wx vs (.Tuple es k pos) (gTp n r) :=
  pg_imp (pg_tup hc hr hn hst) fun v sg H Q q => by
    obtain ⟨rho, h, ta, w, l, rs, rv, g⟩ := q
    cases rv with
    | tup hp r1 =>
      unfold gTp at g
      dsimp only at g
      split at g
      · rename_i c
        exact ⟨_, _, rfl, by rw [← K]; exact hp, by rw [← r1.length]; exact c, ⟨rho, h, ta, _, l, rs, r1, g⟩⟩
      · exact g.elim
    | _ => exact g.elim
/-- a clause's tests -/
def DTs (S : Sta) (X : Cx) (Wx : Wi) (ifs : List Expr) (t : Tx) : Prop := PTs X ifs (tT S Wx t)
def xYes : Tx := fun _ h => .ok true h
theorem pts_imp {ifs : List Expr} {t t' : TT} (h : PTs X ifs t) (f : ∀ sg H Q, t' sg H Q → t sg H Q) : PTs X ifs t' := ⟨fun pins s sg H Q I q => h.run pins s sg H Q I (f _ _ _ q)⟩
theorem dts_nil : DTs S X Wx [] xYes := pts_imp pts_nil fun sg H Q q => by
  obtain ⟨rho, h, ta, l, rs, g⟩ := q
  exact g rho H Ev.rfl' l
theorem dts_one (h : DT S X Wx e t) : DTs S X Wx [e] t := pts_one h
/-- the new list's items, item by item; acc: those so far -/
def lcT (g : Tgt) (t : Tx) (el : Ex) (ta : En) : List W → List W → HA → Option (List W × HA)
  | [], acc, h => some (acc, h)
  | w :: ws, acc, h => match g w ta h with
    | some (ta1, h1) => (match t ta1 h1 with
      | .ok true h2 => (match el ta1 h2 with
        | .ok y h3 => if acc.length < sizeLine then lcT g t el ta ws (acc ++ [y]) h3 else none
        | _ => none)
      | .ok false h2 => lcT g t el ta ws acc h2
      | _ => none)
    | none => none
/-- .. over the list at i as it stands -/
def lcL (i : Nat) (mk : Nat → W → W) (g : Tgt) (t : Tx) (el : Ex) (ta : En) : Nat → Nat → List W → HA → Option (List W × HA)
  | 0, k, acc, h => match rdL h i with
    | some xs => if xs.length ≤ k then some (acc, h) else none
    | none => none
  | n + 1, k, acc, h => match rdL h i with
    | some xs => (match xs[k]? with
      | some w => (match g (mk k w) ta h with
        | some (ta1, h1) => (match t ta1 h1 with
          | .ok true h2 => (match el ta1 h2 with
            | .ok y h3 => if acc.length < sizeLine then lcL i mk g t el ta n (k + 1) (acc ++ [y]) h3 else none
            | _ => none)
          | .ok false h2 => lcL i mk g t el ta n (k + 1) acc h2
          | _ => none)
        | none => none)
      | none => none)
    | none => none
/-- the end: the new list -/
def lcE (r : Option (List W × HA)) : Res W := match r with
  | some (acc, h) => .ok (.ref h.length) (h ++ [O.lst acc])
  | none => .stuck
def LcG (J : It) (g : TG) (tt : TT) (te : TE) (vs : List Nat) (sg : L2.St) (H1 : Hp) (Q : VK) : Prop := ∀ D, H1 D = none → ∃ W : Nat → Nat → Hp → Prop, (∃ m, W 0 m (upd H1 D (.lst []))) ∧ ∀ i m H, W i m H →
  (J.stop i H ∧ Q (.ref D) H) ∨ (J.go i H ∧ ∃ Nx : Hp → Prop, (∀ H', Nx H' → ∃ m', m' < m ∧ W (i + 1) m' H') ∧ ∀ x H', J.yld i H x H' → g x (wipe sg vs) H' fun sg2 H2 => wipe sg2 vs = wipe sg vs ∧ tt sg2 H2 fun b H3 =>
    if b = true then te sg2 H3 fun y H4 => ∃ acc, H4 D = some (.lst acc) ∧ acc.length < sizeLine ∧ Nx (upd H4 D (.lst (acc ++ [y]))) else Nx H3)
theorem wipe_wipe (sg : L2.St) (vs : List Nat) : wipe (wipe sg vs) vs = wipe sg vs := by
  induction vs with
  | nil => rfl
  | cons v vs ih =>
    have aux : ∀ us : List Nat, ∀ l : L2.St, l[v]? = some none ∨ l[v]? = none → (wipe l us)[v]? = some none ∨ (wipe l us)[v]? = none := by
      intro us
      induction us with
      | nil => intro l q; exact q
      | cons u us ih2 =>
        intro l q
        unfold wipe
        by_cases z : u = v
        · subst z
          rw [List.getElem?_set]
          simp
          by_cases zz : u < (wipe l us).length
          · exact .inl zz
          · exact .inr (by omega)
        · rw [List.getElem?_set_ne z]; exact ih2 l q
    have e1 : ∀ us : List Nat, ∀ l : L2.St, wipe (l.set v none) us = (wipe l us).set v none := by
      intro us
      induction us with
      | nil => intro l; rfl
      | cons u us ih2 =>
        intro l
        unfold wipe
        rw [ih2]
        by_cases z : u = v
        · subst z; rfl
        · rw [List.set_comm _ _ (fun q => z q.symm)]
    show (wipe ((wipe sg vs).set v none) vs).set v none = (wipe sg vs).set v none
    rw [e1, List.set_set, ih]
/-- one turn of a block -/
theorem lc_turn {F : List Addr → Hp → Prop} (mono : ∀ rho H rho' H', Tv S rho H rho' H' → F rho H → F rho' H') {g : Tgt} {el : Ex} {w : W} {x : V} {vs : List Nat} {rho0 : List Addr} {H1 : Hp} {Dn : Addr} {acc : List W} {av : List V} {Nx : Hp → Prop}
    {k : List W → HA → Option (List W × HA)} {Z : Option (List W × HA) → Prop}
    (l : Rl S rho h H) (rs : RS S W0 rho H ta (wipe sg vs)) (r : RV S rho H w x) (f : F rho H) (ev : Ev S rho0 H1 rho H) (n1 : H1 Dn = none) (nr : Dn ∉ rho) (hD : H Dn = some (.lst av)) (ra : RVs S rho H acc av)
    (q : Z (match g w ta h with
      | some (ta1, h1) => (match t ta1 h1 with
        | .ok true h2 => (match el ta1 h2 with
          | .ok y h3 => if acc.length < sizeLine then k (acc ++ [y]) h3 else none
          | _ => none)
        | .ok false h2 => k acc h2
        | _ => none)
      | none => none)) (zn : ¬ Z none)
    (hN : ∀ rho' H' h' acc' av', Rl S rho' h' H' → F rho' H' → Ev S rho0 H1 rho' H' → Dn ∉ rho' → H' Dn = some (.lst av') → RVs S rho' H' acc' av' → (∀ (i : Nat) (w : W), (ta[i]? = some (some w)) → ∃ v, (wipe sg vs)[i]? = some (some v) ∧ RV S rho' H' w v) → Z (k acc' h') → Nx H') :
    tGv S W0 vs g x (wipe sg vs) H fun sg2 H2 => wipe sg2 vs = wipe sg vs ∧ tT S W0 t sg2 H2 fun b H3 =>
      if b = true then tE S W0 el sg2 H3 fun y H4 => ∃ acc, H4 Dn = some (.lst acc) ∧ acc.length < sizeLine ∧ Nx (upd H4 Dn (.lst (acc ++ [y]))) else Nx H3 := by
  have env : ∀ {rho' H'}, Ev S rho H rho' H' → ∀ (i : Nat) (w : W), ta[i]? = some (some w) → ∃ v, (wipe sg vs)[i]? = some (some v) ∧ RV S rho' H' w v := fun {rho' H'} e i w z => by
    obtain ⟨v, e1, r1⟩ := rs.at_ i w z
    rcases r1 with r1 | ⟨_, _, _, _, _, _, _, z2, _⟩
    · exact ⟨v, e1, r1.mono e⟩
    · cases z2
  have ne : ∀ {rho' H'}, Ev S rho H rho' H' → Dn ∉ rho' := fun {rho' H'} e hm => by
    rcases e.fresh _ hm with z | z
    · exact nr z
    · rw [hD] at z; cases z
  refine ⟨rho, h, ta, w, l, rs, r, ?_⟩
  cases z1 : g w ta h with
  | none => rw [z1] at q; exact zn q
  | some p =>
    obtain ⟨ta1, h1⟩ := p
    rw [z1] at q
    intro rho2 H2 sg2 ev2 l2 rs2 ew
    rw [wipe_wipe] at ew
    refine ⟨ew, rho2, h1, ta1, l2, rs2, ?_⟩
    dsimp only at q
    cases z2 : t ta1 h1 with
    | exc _ _ _ => rw [z2] at q; exact absurd q zn
    | stuck => rw [z2] at q; exact absurd q zn
    | ok bb h2 =>
      rw [z2] at q
      intro rho3 H3 ev3 l3
      have ev23 := ev2.trans ev3
      cases bb with
      | false =>
        exact hN rho3 H3 h2 acc av l3 (mono _ _ _ _ ev23.tv f) (ev.trans ev23) (ne ev23) (ev23.out _ _ hD nr) (ra.mono ev23) (env ev23) q
      | true =>
        refine ⟨rho3, h2, ta1, l3, rs2.mono ev3, ?_⟩
        dsimp only at q
        cases z3 : el ta1 h2 with
        | exc _ _ _ => rw [z3] at q; exact absurd q zn
        | stuck => rw [z3] at q; exact absurd q zn
        | ok y h3 =>
          rw [z3] at q
          dsimp only at q
          split at q
          · rename_i lt
            intro rho4 H4 v4 ev4 l4 r4
            have ev24 := ev23.trans ev4
            have hD4 := ev24.out _ _ hD nr
            have nt : Free H4 Dn := ⟨by
              rintro ys (c | ⟨ob, c⟩) <;> (rw [hD4] at c; cases c), fun o u c => by rw [hD4] at c; cases c⟩
            have tv : Tv S rho4 H4 rho4 (upd H4 Dn (.lst (av ++ [v4]))) := Tv.side nt
            refine ⟨av, hD4, by rw [← ra.length]; exact lt, ?_⟩
            refine hN rho4 _ h3 (acc ++ [y]) (av ++ [v4]) (l4.side (ne ev24) nt) ?_ ((ev.trans ev24).side n1 nt) (ne ev24) upd_same (((ra.mono ev24).append (.cons r4 .nil)).monoT tv) (fun i w c => ?_) q
            · exact mono _ _ _ _ tv (mono _ _ _ _ ev24.tv f)
            · obtain ⟨v, c1, c2⟩ := env ev24 i w c
              exact ⟨v, c1, c2.monoT tv⟩
          · exact absurd q zn
/-- the frame's values hold on -/
def EnvH (S : Sta) (ta : En) (sg : L2.St) (rho : List Addr) (H : Hp) : Prop := ∀ (i : Nat) (w : W), ta[i]? = some (some w) → ∃ v, sg[i]? = some (some v) ∧ RV S rho H w v
theorem EnvH.rs (hl : ta.length = sg.length) (q : EnvH S ta sg rho H) : RS S W0 rho H ta sg := ⟨hl, fun i w z => let ⟨v, a, b⟩ := q i w z; ⟨v, a, .inl b⟩⟩
theorem lc_end {rho0 : List Addr} {H1 : Hp} {Dn : Addr} {acc : List W} {av : List V} {Q : VK} {sg0 : L2.St} (l : Rl S rho h H) (ev : Ev S rho0 H1 rho H) (n1 : H1 Dn = none) (nr : Dn ∉ rho) (hD : H Dn = some (.lst av)) (ra : RVs S rho H acc av)
    (q : GE S Wx sg0 rho0 H1 Q (lcE (some (acc, h)))) : Q (.ref Dn) H :=
  q (rho ++ [Dn]) H (.ref Dn) (ev.add n1) (l.add nr (.lst hD (ra.monoT Tv.add))) (.ref (last_new l))
theorem lcLoopT {J : It} {g : Tgt} {el : Ex} {xs : List W} {vs : List Nat} {Q : VK} {sg0 : L2.St} (F : List Addr → Hp → Prop) (mono : ∀ rho H rho' H', Tv S rho H rho' H' → F rho H → F rho' H')
    (hgo : ∀ i rho H, F rho H → i < xs.length → J.go i H) (hst : ∀ rho H, F rho H → J.stop xs.length H)
    (hy : ∀ i rho h H x H' w, Rl S rho h H → F rho H → xs[i]? = some w → J.yld i H x H' → ∃ rho', Ev S rho H rho' H' ∧ Rl S rho' h H' ∧ RV S rho' H' w x)
    (l : Rl S rho h H) (rs : RS S W0 rho H ta (wipe sg vs)) (f : F rho H) (q : GE S Wx sg0 rho H Q (lcE (lcT g t el ta xs [] h))) : LcG J (tGv S W0 vs g) (tT S W0 t) (tE S W0 el) vs sg H Q := by
  intro Dn n1
  have env0 : EnvH S ta (wipe sg vs) rho H := fun i w z => by
    obtain ⟨v, e1, r1⟩ := rs.at_ i w z
    rcases r1 with r1 | ⟨_, _, _, _, _, _, _, z2, _⟩
    · exact ⟨v, e1, r1⟩
    · cases z2
  refine ⟨fun i m H2 => ∃ rho2 h2 acc av, Rl S rho2 h2 H2 ∧ EnvH S ta (wipe sg vs) rho2 H2 ∧ F rho2 H2 ∧ Ev S rho H rho2 H2 ∧ Dn ∉ rho2 ∧ H2 Dn = some (.lst av) ∧ RVs S rho2 H2 acc av ∧ i ≤ xs.length ∧ m = xs.length - i ∧
    GE S Wx sg0 rho H Q (lcE (lcT g t el ta (xs.drop i) acc h2)), ⟨xs.length, rho, h, [], [], l.lay n1, fun i w z => ?_, mono _ _ _ _ (Ev.lay n1).tv f, Ev.lay n1, l.fresh n1, upd_same, .nil, Nat.zero_le _, rfl, by simpa using q⟩, ?_⟩
  · obtain ⟨v, a, b⟩ := env0 i w z
    exact ⟨v, a, b.mono (Ev.lay n1)⟩
  rintro i m H2 ⟨rho2, h2, acc, av, l2, en2, f2, ev2, nr2, hD2, ra2, hi, rfl, q2⟩
  by_cases hlt : i < xs.length
  · refine .inr ⟨hgo i rho2 H2 f2 hlt, fun H' => ∃ rho3 h3 acc av, Rl S rho3 h3 H' ∧ EnvH S ta (wipe sg vs) rho3 H' ∧ F rho3 H' ∧ Ev S rho H rho3 H' ∧ Dn ∉ rho3 ∧ H' Dn = some (.lst av) ∧ RVs S rho3 H' acc av ∧ GE S Wx sg0 rho H Q (lcE (lcT g t el ta (xs.drop (i + 1)) acc h3)), ?_, fun x H' y => ?_⟩
    · rintro H' ⟨rho3, h3, acc3, av3, l3, en3, f3, ev3, nr3, hD3, ra3, q3⟩
      exact ⟨xs.length - (i + 1), by omega, rho3, h3, acc3, av3, l3, en3, f3, ev3, nr3, hD3, ra3, hlt, rfl, q3⟩
    · rw [List.drop_eq_getElem_cons hlt] at q2
      obtain ⟨rho', ev, l', r⟩ := hy i rho2 h2 H2 x H' xs[i] l2 f2 (List.getElem?_eq_getElem hlt) y
      have nr' : Dn ∉ rho' := fun hm => by
        rcases ev.fresh _ hm with z | z
        · exact nr2 z
        · rw [hD2] at z; cases z
      refine lc_turn (S := S) (k := lcT g t el ta (xs.drop (i + 1))) (Z := fun r => GE S Wx sg0 rho H Q (lcE r)) mono l' ((EnvH.rs rs.len (fun i w z => let ⟨v, a, b⟩ := en2 i w z; ⟨v, a, b.mono ev⟩))) r (mono _ _ _ _ ev.tv f2) (ev2.trans ev) n1 nr' (ev.out _ _ hD2 nr2) (ra2.mono ev) q2 (fun z => z) fun rho3 H3 h3 acc3 av3 l3 f3 ev3 nr3 hD3 ra3 en3 q3 => ⟨rho3, h3, acc3, av3, l3, en3, f3, ev3, nr3, hD3, ra3, q3⟩
  · have e : i = xs.length := by omega
    subst e
    rw [List.drop_length] at q2
    exact .inl ⟨hst rho2 H2 f2, lc_end l2 ev2 n1 nr2 hD2 ra2 q2⟩
theorem lcLoopL {J : It} {g : Tgt} {el : Ex} {i0 n : Nat} {mk : Nat → W → W} {vs : List Nat} {Q : VK} {sg0 : L2.St} (F : List Addr → Hp → Prop) (mono : ∀ rho H rho' H', Tv S rho H rho' H' → F rho H → F rho' H')
    (hgo : ∀ i rho h H xs w, Rl S rho h H → F rho H → rdL h i0 = some xs → xs[i]? = some w → J.go i H) (hst : ∀ i rho h H xs, Rl S rho h H → F rho H → rdL h i0 = some xs → xs.length ≤ i → J.stop i H)
    (hy : ∀ i rho h H x H' xs w, Rl S rho h H → F rho H → rdL h i0 = some xs → xs[i]? = some w → J.yld i H x H' → ∃ rho', Ev S rho H rho' H' ∧ Rl S rho' h H' ∧ RV S rho' H' (mk i w) x)
    (l : Rl S rho h H) (rs : RS S W0 rho H ta (wipe sg vs)) (f : F rho H) (q : GE S Wx sg0 rho H Q (lcE (lcL i0 mk g t el ta n 0 [] h))) : LcG J (tGv S W0 vs g) (tT S W0 t) (tE S W0 el) vs sg H Q := by
  intro Dn n1
  have env0 : EnvH S ta (wipe sg vs) rho H := fun i w z => by
    obtain ⟨v, e1, r1⟩ := rs.at_ i w z
    rcases r1 with r1 | ⟨_, _, _, _, _, _, _, z2, _⟩
    · exact ⟨v, e1, r1⟩
    · cases z2
  refine ⟨fun i m H2 => ∃ rho2 h2 acc av, Rl S rho2 h2 H2 ∧ EnvH S ta (wipe sg vs) rho2 H2 ∧ F rho2 H2 ∧ Ev S rho H rho2 H2 ∧ Dn ∉ rho2 ∧ H2 Dn = some (.lst av) ∧ RVs S rho2 H2 acc av ∧
    GE S Wx sg0 rho H Q (lcE (lcL i0 mk g t el ta m i acc h2)), ⟨n, rho, h, [], [], l.lay n1, fun i w z => ?_, mono _ _ _ _ (Ev.lay n1).tv f, Ev.lay n1, l.fresh n1, upd_same, .nil, q⟩, ?_⟩
  · obtain ⟨v, a, b⟩ := env0 i w z
    exact ⟨v, a, b.mono (Ev.lay n1)⟩
  rintro i m H2 ⟨rho2, h2, acc, av, l2, en2, f2, ev2, nr2, hD2, ra2, q2⟩
  cases m with
  | zero =>
    unfold lcL at q2
    cases e : rdL h2 i0 with
    | none => rw [e] at q2; exact q2.elim
    | some xs =>
      rw [e] at q2
      dsimp only at q2
      split at q2
      · rename_i c
        exact .inl ⟨hst i rho2 h2 H2 xs l2 f2 e c, lc_end l2 ev2 n1 nr2 hD2 ra2 q2⟩
      · exact q2.elim
  | succ m =>
    unfold lcL at q2
    cases e : rdL h2 i0 with
    | none => rw [e] at q2; exact q2.elim
    | some xs =>
      rw [e] at q2
      dsimp only at q2
      cases ew : xs[i]? with
      | none => rw [ew] at q2; exact q2.elim
      | some w =>
        rw [ew] at q2
        dsimp only at q2
        refine .inr ⟨hgo i rho2 h2 H2 xs w l2 f2 e ew, fun H' => ∃ rho3 h3 acc av, Rl S rho3 h3 H' ∧ EnvH S ta (wipe sg vs) rho3 H' ∧ F rho3 H' ∧ Ev S rho H rho3 H' ∧ Dn ∉ rho3 ∧ H' Dn = some (.lst av) ∧ RVs S rho3 H' acc av ∧ GE S Wx sg0 rho H Q (lcE (lcL i0 mk g t el ta m (i + 1) acc h3)), ?_, fun x H' y => ?_⟩
        · rintro H' ⟨rho3, h3, acc3, av3, l3, en3, f3, ev3, nr3, hD3, ra3, q3⟩
          exact ⟨m, Nat.lt_succ_self _, rho3, h3, acc3, av3, l3, en3, f3, ev3, nr3, hD3, ra3, q3⟩
        · obtain ⟨rho', ev, l', r⟩ := hy i rho2 h2 H2 x H' xs w l2 f2 e ew y
          have nr' : Dn ∉ rho' := fun hm => by
            rcases ev.fresh _ hm with z | z
            · exact nr2 z
            · rw [hD2] at z; cases z
          refine lc_turn (S := S) (k := lcL i0 mk g t el ta m (i + 1)) (Z := fun r => GE S Wx sg0 rho H Q (lcE r)) mono l' ((EnvH.rs rs.len (fun i w z => let ⟨v, a, b⟩ := en2 i w z; ⟨v, a, b.mono ev⟩))) r (mono _ _ _ _ ev.tv f2) (ev2.trans ev) n1 nr' (ev.out _ _ hD2 nr2) (ra2.mono ev) q2 (fun z => z) fun rho3 H3 h3 acc3 av3 l3 f3 ev3 nr3 hD3 ra3 en3 q3 => ⟨rho3, h3, acc3, av3, l3, en3, f3, ev3, nr3, hD3, ra3, q3⟩
/-- what is walked: a value's items -/
def eLc (m : Ex) (g : Tgt) (t : Tx) (el : Ex) (vs : List Nat) : Ex := fun ta h => (m ta h).bind fun w h1 => match w with
  | .tup xs => lcE (lcT g t el (wipeA ta vs) xs [] h1)
  | .cst xs => lcE (lcT g t el (wipeA ta vs) xs [] h1)
  | .ref i => (match rdL h1 i with
    | some xs => lcE (lcL i (fun _ w => w) g t el (wipeA ta vs) xs.length 0 [] h1)
    | none => .stuck)
  | _ => .stuck
def eLcR (rng : List W → Option (List W)) (ms : Ax) (g : Tgt) (t : Tx) (el : Ex) (vs : List Nat) : Ex := fun ta h => (ms ta h).bind fun ws h1 => match rng ws with
  | some xs => lcE (lcT g t el (wipeA ta vs) xs [] h1)
  | none => .stuck
def eLcE (ms : Ax) (g : Tgt) (t : Tx) (el : Ex) (vs : List Nat) : Ex := fun ta h => (ms ta h).bind fun ws h1 => match ws with
  | [.ref i] => (match rdL h1 i with
    | some xs => lcE (lcL i (fun k w => .tup [.int (k : Nat), w]) g t el (wipeA ta vs) xs.length 0 [] h1)
    | none => .stuck)
  | _ => .stuck
/-- the reading of a walk over a list or a tuple, in a block -/
theorem tLc_seq {g : Tgt} {el : Ex} {vs : List Nat} (K : S.K = X.K) (hcur : Wx.cur = none) {Q : VK} (q : tE S Wx (eLc m g t el vs) sg H Q) : tLc (iSeq X.K (tE S Wx m)) (tGv S W0 vs g) (tT S W0 t) (tE S W0 el) vs sg H Q := by
  refine tE_bind (k := fun ta w h1 => match w with
    | .tup xs => lcE (lcT g t el (wipeA ta vs) xs [] h1)
    | .cst xs => lcE (lcT g t el (wipeA ta vs) xs [] h1)
    | .ref i => (match rdL h1 i with
      | some xs => lcE (lcL i (fun _ w => w) g t el (wipeA ta vs) xs.length 0 [] h1)
      | none => .stuck)
    | _ => .stuck) q fun rho1 H1 ta v1 w1 h1 l rs r g1 => ?_
  have rs' := RS_W0 hcur (RS_wipe rs vs)
  split at g1
  · rename_i xs
    cases r with
    | tup hp r1 =>
      rename_i p ys
      rw [K] at hp
      refine ⟨p, rfl, .inr ⟨⟨ys, hp⟩, lcLoopT (S := S) (Wx := Wx) (xs := xs) (fun rho H => SqT X.K H p ys ∧ RVs S rho H xs ys) (fun rho H rho' H' ev f => ⟨by rw [← K]; exact ev.tup _ _ (by rw [K]; exact f.1), f.2.monoT ev⟩) (fun i rho H f hi => ?_) (fun rho H f => ?_) (fun i rho h H x H' w l f hw y => ?_) l rs' ⟨hp, r1⟩ g1⟩⟩
      · obtain ⟨v, e1, _⟩ := f.2.get (List.getElem?_eq_getElem hi)
        exact ⟨ys, v, f.1, e1⟩
      · exact ⟨ys, f.1, by rw [← f.2.length]; exact Nat.le_refl _⟩
      · obtain ⟨rfl, y⟩ := y
        obtain ⟨v, e1, rv⟩ := f.2.get hw
        have := y ys f.1
        rw [e1] at this
        cases this
        exact ⟨rho, Ev.rfl', l, rv⟩
  · rename_i xs
    cases r with
    | cst hp r1 =>
      rename_i p ys
      refine ⟨p, rfl, .inl ⟨⟨ys, by rw [← K]; exact hp.sq⟩, lcLoopT (S := S) (Wx := Wx) (xs := xs) (fun rho H => SqK S.K H p ys ∧ RVs S rho H xs ys) (fun rho H rho' H' ev f => ⟨ev.cst _ _ f.1, f.2.monoT ev⟩) (fun i rho H f hi => ?_) (fun rho H f => ?_) (fun i rho h H x H' w l f hw y => ?_) l rs' ⟨hp, r1⟩ g1⟩⟩
      · obtain ⟨v, e1, _⟩ := f.2.get (List.getElem?_eq_getElem hi)
        exact ⟨ys, v, by rw [← K]; exact f.1.sq, e1⟩
      · exact ⟨ys, by rw [← K]; exact f.1.sq, by rw [← f.2.length]; exact Nat.le_refl _⟩
      · obtain ⟨rfl, y⟩ := y
        obtain ⟨v, e1, rv⟩ := f.2.get hw
        have := y ys (by rw [← K]; exact f.1.sq)
        rw [e1] at this
        cases this
        exact ⟨rho, Ev.rfl', l, rv⟩
  · rename_i i
    cases e : rdL h1 i with
    | none => rw [e] at g1; exact g1.elim
    | some xs =>
      rw [e] at g1
      obtain ⟨p, rfl, hp⟩ := ref_of r
      obtain ⟨ys, a1, a2⟩ := rdL_of K l hp e
      refine ⟨p, rfl, .inl ⟨⟨ys, a1⟩, lcLoopL (S := S) (Wx := Wx) (fun rho H => rho[i]? = some p) (fun rho H rho' H' ev f => ev.at_ _ _ f) (fun k rho h H xs w l f e ew => ?_) (fun k rho h H xs l f e ew => ?_) (fun k rho h H x H' xs w l f e ew y => ?_) l rs' hp g1⟩⟩
      · obtain ⟨ys, a1, a2⟩ := rdL_of K l f e
        obtain ⟨v, e1, _⟩ := a2.get ew
        exact ⟨ys, v, a1, e1⟩
      · obtain ⟨ys, a1, a2⟩ := rdL_of K l f e
        exact ⟨ys, a1, by rw [← a2.length]; exact ew⟩
      · obtain ⟨rfl, y⟩ := y
        obtain ⟨ys, a1, a2⟩ := rdL_of K l f e
        obtain ⟨v, e1, rv⟩ := a2.get ew
        have := y ys a1
        rw [e1] at this
        cases this
        exact ⟨rho, Ev.rfl', l, rv⟩
  · exact g1.elim
theorem lcR_ok {g : Tgt} {el : Ex} {vs : List Nat} {lo : Int} {n : Nat} {Q : VK} {sg0 : L2.St} (l : Rl S rho h H) (rs : RS S W0 rho H ta (wipe sg vs)) (q : GE S Wx sg0 rho H Q (lcE (lcT g t el ta (numW lo n) [] h))) : LcG (Itr lo n) (tGv S W0 vs g) (tT S W0 t) (tE S W0 el) vs sg H Q :=
  lcLoopT (S := S) (Wx := Wx) (fun _ _ => True) (fun _ _ _ _ _ _ => trivial) (fun i _ _ _ hi => by rw [numW_len] at hi; exact hi) (fun _ _ _ => by rw [numW_len]; exact Nat.le_refl _) (fun i rho h H x H' w l f hw y => by
    obtain ⟨rfl, rfl⟩ := y
    obtain ⟨rfl, _⟩ := numW_at _ _ _ _ hw
    exact ⟨rho, Ev.rfl', l, .int _⟩) l rs trivial q
theorem tLc_r1 {g : Tgt} {el : Ex} {vs : List Nat} (hcur : Wx.cur = none) {Q : VK} (q : tE S Wx (eLcR rng1 ms g t el vs) sg H Q) : tLc (iRng1 (tA S Wx ms)) (tGv S W0 vs g) (tT S W0 t) (tE S W0 el) vs sg H Q := by
  refine tE_bindA (k := fun ta ws h1 => match rng1 ws with
    | some xs => lcE (lcT g t el (wipeA ta vs) xs [] h1)
    | none => .stuck) q fun rho1 H1 ta v1 w1 h1 l rs r g1 => ?_
  have rs' := RS_W0 hcur (RS_wipe rs vs)
  cases e : rng1 w1 with
  | none => rw [e] at g1; exact g1.elim
  | some xs =>
    rw [e] at g1
    unfold rng1 at e
    split at e
    · split at e
      · rename_i c
        cases e
        obtain ⟨v, rfl, rv⟩ := RVs_one r
        cases rv
        exact ⟨_, rfl, c.1, c.2, lcR_ok l rs' g1⟩
      · cases e
    · cases e
theorem tLc_r2 {g : Tgt} {el : Ex} {vs : List Nat} (hcur : Wx.cur = none) {Q : VK} (q : tE S Wx (eLcR rng2 ms g t el vs) sg H Q) : tLc (iRng2 (tA S Wx ms)) (tGv S W0 vs g) (tT S W0 t) (tE S W0 el) vs sg H Q := by
  refine tE_bindA (k := fun ta ws h1 => match rng2 ws with
    | some xs => lcE (lcT g t el (wipeA ta vs) xs [] h1)
    | none => .stuck) q fun rho1 H1 ta v1 w1 h1 l rs r g1 => ?_
  have rs' := RS_W0 hcur (RS_wipe rs vs)
  cases e : rng2 w1 with
  | none => rw [e] at g1; exact g1.elim
  | some xs =>
    rw [e] at g1
    unfold rng2 at e
    split at e
    · split at e
      · rename_i c
        cases e
        obtain ⟨v, u, rfl, rv, ru⟩ := RVs_two r
        cases rv
        cases ru
        exact ⟨_, _, rfl, c, lcR_ok l rs' g1⟩
      · cases e
    · cases e
theorem tLc_en {g : Tgt} {el : Ex} {vs : List Nat} (K : S.K = X.K) (hcur : Wx.cur = none) {Q : VK} (q : tE S Wx (eLcE ms g t el vs) sg H Q) : tLc (iEnum X.K (tA S Wx ms)) (tGv S W0 vs g) (tT S W0 t) (tE S W0 el) vs sg H Q := by
  refine tE_bindA (k := fun ta ws h1 => match ws with
    | [.ref i] => (match rdL h1 i with
      | some xs => lcE (lcL i (fun k w => .tup [.int (k : Nat), w]) g t el (wipeA ta vs) xs.length 0 [] h1)
      | none => .stuck)
    | _ => .stuck) q fun rho1 H1 ta v1 w1 h1 l rs r g1 => ?_
  have rs' := RS_W0 hcur (RS_wipe rs vs)
  split at g1
  · rename_i i
    cases e : rdL h1 i with
    | none => rw [e] at g1; exact g1.elim
    | some xs =>
      rw [e] at g1
      obtain ⟨v, rfl, rv⟩ := RVs_one r
      obtain ⟨p, rfl, hp⟩ := ref_of rv
      obtain ⟨ys, a1, a2⟩ := rdL_of K l hp e
      refine ⟨p, ys, rfl, a1, lcLoopL (S := S) (Wx := Wx) (fun rho H => rho[i]? = some p) (fun rho H rho' H' ev f => ev.at_ _ _ f) (fun k rho h H xs w l f e ew => ?_) (fun k rho h H xs l f e ew => ?_) (fun k rho h H x H' xs w l f e ew y => ?_) l rs' hp g1⟩
      · obtain ⟨ys, a1, a2⟩ := rdL_of K l f e
        obtain ⟨v, e1, _⟩ := a2.get ew
        exact ⟨ys, v, a1, e1⟩
      · obtain ⟨ys, a1, a2⟩ := rdL_of K l f e
        exact ⟨ys, a1, by rw [← a2.length]; exact ew⟩
      · obtain ⟨T, z, rfl, hn, rfl, y⟩ := y
        obtain ⟨ys, a1, a2⟩ := rdL_of K l f e
        obtain ⟨v, e1, rv⟩ := a2.get ew
        have := y ys a1
        rw [e1] at this
        cases this
        exact ⟨rho, Ev.lay hn, l.lay hn, .tup (SqT.of upd_same) (.cons (.int _) (.cons (rv.mono (Ev.lay hn)) .nil))⟩
  · exact g1.elim
end
end J

namespace J
open PySem PySem.Spec PyProof.Rows L2
section
variable {X : Cx} {S : Sta} {Wx : Wi} {e a b o : Expr} {es rest : List Expr} {st : Stmt} {sts bd : List Stmt} {m m1 m2 : Ex} {ms : Ax} {t : Tx} {s1 s2 : Sx} {pos p pos' : Pos} {rho rho' : List Addr} {H H' : Hp} {D D' : Ends} {sg : L2.St} {ta : En} {h : HA}
/-- the block of a comprehension, in the parts that its rules ask -/
abbrev Blk (X : Cx) (scope : Scope) (s : Shared) (H : Hp) (C : Addr) (cl : List (Str × Addr)) (fp : List Addr) : Cx := X.blk s H scope (compEnvC scope cl C X.env) fp
theorem de_lc {elt tg it : Expr} {ifs : List Expr} {scope : Scope} {own : List (Str × Nat)} {g : Tgt} {t : Tx} {el : Ex} (K : S.K = X.K) (hcur : Wx.cur = none) (hc : X.calm = true) (hN : X.N.Nodup) (hi : DE S X Wx it m) (ok : BlkOk X.N X.env.scope scope own)
    (hg : ∀ s H C cl fp, DGv S (Blk X scope s H C cl fp) W0 (own.map (·.2)) tg g) (ht : ∀ s H C cl fp, DTs S (Blk X scope s H C cl fp) W0 ifs t) (he : ∀ s H C cl fp, DE S (Blk X scope s H C cl fp) W0 elt el)
    (hs : ∀ x, foldedSetIterable it X.env x = pure x := by intro _; rfl) : DE S X Wx (.ListComp elt [⟨tg, it, ifs, 0⟩] scope pos) (eLc m g t el (own.map (·.2))) :=
  pe_imp (pe_lc hc hN (pi_seq hi) ok hg ht he hs) fun sg H Q q => tLc_seq K hcur q
theorem de_lcR1 {elt tg : Expr} {ifs : List Expr} {scope : Scope} {own : List (Str × Nat)} {g : Tgt} {t : Tx} {el : Ex} (hcur : Wx.cur = none) (hc : X.calm = true) (hN : X.N.Nodup) (hgl : Gl X "range") (hm : X.mg "range" = none) (ha : DA S X Wx [a] ms) (ok : BlkOk X.N X.env.scope scope own)
    (hg : ∀ s H C cl fp, DGv S (Blk X scope s H C cl fp) W0 (own.map (·.2)) tg g) (ht : ∀ s H C cl fp, DTs S (Blk X scope s H C cl fp) W0 ifs t) (he : ∀ s H C cl fp, DE S (Blk X scope s H C cl fp) W0 elt el)
    (h1 : starEach [a] X.env = [(false, eval a X.env)] := by rfl) (hs : ∀ x, foldedSetIterable (.Call (.Name "range" p) [a] [] pos') X.env x = pure x := by intro _; rfl) : DE S X Wx (.ListComp elt [⟨tg, .Call (.Name "range" p) [a] [] pos', ifs, 0⟩] scope pos) (eLcR rng1 ms g t el (own.map (·.2))) :=
  pe_imp (pe_lc hc hN (pi_range1 hgl hm ha h1) ok hg ht he hs) fun sg H Q q => tLc_r1 hcur q
theorem de_lcR2 {elt tg : Expr} {ifs : List Expr} {scope : Scope} {own : List (Str × Nat)} {g : Tgt} {t : Tx} {el : Ex} (hcur : Wx.cur = none) (hc : X.calm = true) (hN : X.N.Nodup) (hgl : Gl X "range") (hm : X.mg "range" = none) (ha : DA S X Wx [a, b] ms) (ok : BlkOk X.N X.env.scope scope own)
    (hg : ∀ s H C cl fp, DGv S (Blk X scope s H C cl fp) W0 (own.map (·.2)) tg g) (ht : ∀ s H C cl fp, DTs S (Blk X scope s H C cl fp) W0 ifs t) (he : ∀ s H C cl fp, DE S (Blk X scope s H C cl fp) W0 elt el)
    (h1 : starEach [a, b] X.env = [(false, eval a X.env), (false, eval b X.env)] := by rfl) (h2 : starEach [b] X.env = [(false, eval b X.env)] := by rfl) (hs : ∀ x, foldedSetIterable (.Call (.Name "range" p) [a, b] [] pos') X.env x = pure x := by intro _; rfl) : DE S X Wx (.ListComp elt [⟨tg, .Call (.Name "range" p) [a, b] [] pos', ifs, 0⟩] scope pos) (eLcR rng2 ms g t el (own.map (·.2))) :=
  pe_imp (pe_lc hc hN (pi_range2 hgl hm ha h1 h2) ok hg ht he hs) fun sg H Q q => tLc_r2 hcur q
theorem de_lcE {elt : Expr} {elts : List Expr} {kk : Nat} {tpos : Pos} {ifs : List Expr} {scope : Scope} {own : List (Str × Nat)} {g : Tgt} {t : Tx} {el : Ex} (K : S.K = X.K) (hcur : Wx.cur = none) (hc : X.calm = true) (hN : X.N.Nodup) (hgl : Gl X "enumerate") (hm : X.mg "enumerate" = none) (ha : DA S X Wx [a] ms) (ok : BlkOk X.N X.env.scope scope own)
    (hg : ∀ s H C cl fp, DGv S (Blk X scope s H C cl fp) W0 (own.map (·.2)) (.Tuple elts kk tpos) g) (ht : ∀ s H C cl fp, DTs S (Blk X scope s H C cl fp) W0 ifs t) (he : ∀ s H C cl fp, DE S (Blk X scope s H C cl fp) W0 elt el)
    (h1 : starEach [a] X.env = [(false, eval a X.env)] := by rfl) (hs : ∀ x, foldedSetIterable (.Call (.Name "enumerate" p) [a] [] pos') X.env x = pure x := by intro _; rfl) : DE S X Wx (.ListComp elt [⟨.Tuple elts kk tpos, .Call (.Name "enumerate" p) [a] [] pos', ifs, 0⟩] scope pos) (eLcE ms g t el (own.map (·.2))) :=
  pe_imp (pe_lc hc hN (pi_enum hgl hm ha h1) ok hg ht he hs) fun sg H Q q => tLc_en K hcur q
/-! .. given to a name -/
theorem ds_setLc {i : Nat} {y : Str} {py : Pos} {elt tg it : Expr} {ifs : List Expr} {scope : Scope} {own : List (Str × Nat)} {g : Tgt} {t : Tx} {el : Ex} {spos : Pos} (K : S.K = X.K) (hcur : Wx.cur = none) (hc : X.calm = true) (hN : X.N.Nodup) (hy : X.N[i]? = some y) (hyl : X.env.scope.names.lookup y = some .local)
    (hsw : swapsWith (.ListComp elt [⟨tg, it, ifs, 0⟩] scope pos) (some (.Name y py)) spos.line X.env = pure true) (hi : DE S X Wx it m) (ok : BlkOk X.N X.env.scope scope own)
    (hg : ∀ s H C cl fp, DGv S (Blk X scope s H C cl fp) W0 (own.map (·.2)) tg g) (ht : ∀ s H C cl fp, DTs S (Blk X scope s H C cl fp) W0 ifs t) (he : ∀ s H C cl fp, DE S (Blk X scope s H C cl fp) W0 elt el)
    (hs : ∀ x, foldedSetIterable it X.env x = pure x := by intro _; rfl) : DS S X Wx (.Assign [.Name y py] (.ListComp elt [⟨tg, it, ifs, 0⟩] scope pos) spos) (sSet i (eLc m g t el (own.map (·.2)))) :=
  ps_imp (ps_setLc hc hN hy hyl hsw (pi_seq hi) ok hg ht he hs) fun D sg H q => tLc_seq K hcur (Q := fun x H1 => D.nx (sg.set i (some x)) H1) (tS_to (k := fun ta w h1 => .nx (ta.set i (some w)) h1) q fun rho1 H1 ta v1 w1 h1 l rs r g1 => g1 rho1 H1 _ Ev.rfl' l (rs.set r))
theorem ds_setLcR1 {i : Nat} {y : Str} {py : Pos} {elt tg : Expr} {ifs : List Expr} {scope : Scope} {own : List (Str × Nat)} {g : Tgt} {t : Tx} {el : Ex} {spos : Pos} (hcur : Wx.cur = none) (hc : X.calm = true) (hN : X.N.Nodup) (hy : X.N[i]? = some y) (hyl : X.env.scope.names.lookup y = some .local)
    (hsw : swapsWith (.ListComp elt [⟨tg, .Call (.Name "range" p) [a] [] pos', ifs, 0⟩] scope pos) (some (.Name y py)) spos.line X.env = pure true) (hgl : Gl X "range") (hm : X.mg "range" = none) (ha : DA S X Wx [a] ms) (ok : BlkOk X.N X.env.scope scope own)
    (hg : ∀ s H C cl fp, DGv S (Blk X scope s H C cl fp) W0 (own.map (·.2)) tg g) (ht : ∀ s H C cl fp, DTs S (Blk X scope s H C cl fp) W0 ifs t) (he : ∀ s H C cl fp, DE S (Blk X scope s H C cl fp) W0 elt el)
    (h1 : starEach [a] X.env = [(false, eval a X.env)] := by rfl) (hs : ∀ x, foldedSetIterable (.Call (.Name "range" p) [a] [] pos') X.env x = pure x := by intro _; rfl) : DS S X Wx (.Assign [.Name y py] (.ListComp elt [⟨tg, .Call (.Name "range" p) [a] [] pos', ifs, 0⟩] scope pos) spos) (sSet i (eLcR rng1 ms g t el (own.map (·.2)))) :=
  ps_imp (ps_setLc hc hN hy hyl hsw (pi_range1 hgl hm ha h1) ok hg ht he hs) fun D sg H q => tLc_r1 hcur (Q := fun x H1 => D.nx (sg.set i (some x)) H1) (tS_to (k := fun ta w h1 => .nx (ta.set i (some w)) h1) q fun rho1 H1 ta v1 w1 h1 l rs r g1 => g1 rho1 H1 _ Ev.rfl' l (rs.set r))
theorem ds_setLcR2 {i : Nat} {y : Str} {py : Pos} {elt tg : Expr} {ifs : List Expr} {scope : Scope} {own : List (Str × Nat)} {g : Tgt} {t : Tx} {el : Ex} {spos : Pos} (hcur : Wx.cur = none) (hc : X.calm = true) (hN : X.N.Nodup) (hy : X.N[i]? = some y) (hyl : X.env.scope.names.lookup y = some .local)
    (hsw : swapsWith (.ListComp elt [⟨tg, .Call (.Name "range" p) [a, b] [] pos', ifs, 0⟩] scope pos) (some (.Name y py)) spos.line X.env = pure true) (hgl : Gl X "range") (hm : X.mg "range" = none) (ha : DA S X Wx [a, b] ms) (ok : BlkOk X.N X.env.scope scope own)
    (hg : ∀ s H C cl fp, DGv S (Blk X scope s H C cl fp) W0 (own.map (·.2)) tg g) (ht : ∀ s H C cl fp, DTs S (Blk X scope s H C cl fp) W0 ifs t) (he : ∀ s H C cl fp, DE S (Blk X scope s H C cl fp) W0 elt el)
    (h1 : starEach [a, b] X.env = [(false, eval a X.env), (false, eval b X.env)] := by rfl) (h2 : starEach [b] X.env = [(false, eval b X.env)] := by rfl) (hs : ∀ x, foldedSetIterable (.Call (.Name "range" p) [a, b] [] pos') X.env x = pure x := by intro _; rfl) : DS S X Wx (.Assign [.Name y py] (.ListComp elt [⟨tg, .Call (.Name "range" p) [a, b] [] pos', ifs, 0⟩] scope pos) spos) (sSet i (eLcR rng2 ms g t el (own.map (·.2)))) :=
  ps_imp (ps_setLc hc hN hy hyl hsw (pi_range2 hgl hm ha h1 h2) ok hg ht he hs) fun D sg H q => tLc_r2 hcur (Q := fun x H1 => D.nx (sg.set i (some x)) H1) (tS_to (k := fun ta w h1 => .nx (ta.set i (some w)) h1) q fun rho1 H1 ta v1 w1 h1 l rs r g1 => g1 rho1 H1 _ Ev.rfl' l (rs.set r))
theorem ds_setLcE {i : Nat} {y : Str} {py : Pos} {elt : Expr} {elts : List Expr} {kk : Nat} {tpos : Pos} {ifs : List Expr} {scope : Scope} {own : List (Str × Nat)} {g : Tgt} {t : Tx} {el : Ex} {spos : Pos} (K : S.K = X.K) (hcur : Wx.cur = none) (hc : X.calm = true) (hN : X.N.Nodup) (hy : X.N[i]? = some y) (hyl : X.env.scope.names.lookup y = some .local)
    (hsw : swapsWith (.ListComp elt [⟨.Tuple elts kk tpos, .Call (.Name "enumerate" p) [a] [] pos', ifs, 0⟩] scope pos) (some (.Name y py)) spos.line X.env = pure true) (hgl : Gl X "enumerate") (hm : X.mg "enumerate" = none) (ha : DA S X Wx [a] ms) (ok : BlkOk X.N X.env.scope scope own)
    (hg : ∀ s H C cl fp, DGv S (Blk X scope s H C cl fp) W0 (own.map (·.2)) (.Tuple elts kk tpos) g) (ht : ∀ s H C cl fp, DTs S (Blk X scope s H C cl fp) W0 ifs t) (he : ∀ s H C cl fp, DE S (Blk X scope s H C cl fp) W0 elt el)
    (h1 : starEach [a] X.env = [(false, eval a X.env)] := by rfl) (hs : ∀ x, foldedSetIterable (.Call (.Name "enumerate" p) [a] [] pos') X.env x = pure x := by intro _; rfl) : DS S X Wx (.Assign [.Name y py] (.ListComp elt [⟨.Tuple elts kk tpos, .Call (.Name "enumerate" p) [a] [] pos', ifs, 0⟩] scope pos) spos) (sSet i (eLcE ms g t el (own.map (·.2)))) :=
  ps_imp (ps_setLc hc hN hy hyl hsw (pi_enum hgl hm ha h1) ok hg ht he hs) fun D sg H q => tLc_en K hcur (Q := fun x H1 => D.nx (sg.set i (some x)) H1) (tS_to (k := fun ta w h1 => .nx (ta.set i (some w)) h1) q fun rho1 H1 ta v1 w1 h1 l rs r g1 => g1 rho1 H1 _ Ev.rfl' l (rs.set r))

/-! ### methods of lists -/
def isL (h : HA) : W → Bool
  | .ref i => (rdL h i).isSome
  | _ => false
def eLm (f : W → List W → HA → Option (W × HA)) (m : Ex) (ms : Ax) : Ex := fun ta h => (m ta h).bind fun x h1 => if isL h1 x = true then (ms ta h1).bind fun ws h2 => ofO (f x ws h2) else .stuck
theorem isL_ok (K : S.K = X.K) (l : Rl S rho h H) {w : W} {v : V} (r : RV S rho H w v) (c : isL h w = true) : tyV X.K "list" v H := by
  unfold isL at c
  split at c
  · obtain ⟨p, rfl, hp⟩ := ref_of r
    obtain ⟨xs, e⟩ := Option.isSome_iff_exists.mp c
    obtain ⟨ys, a1, _⟩ := rdL_of K l hp e
    exact .inl ⟨rfl, ys, a1⟩
  · cases c
theorem de_lm {name : Str} {id : String} {apos cpos : Pos} {f : W → List W → HA → Option (W × HA)} (K : S.K = X.K) (slot : Slot "list" name id) (hty : typeOf (.builtin id) = pure (.type "method_descriptor")) (hm : MtR X id (rAm S f)) (ho : DE S X Wx o m) (ha : DA S X Wx (e :: es) ms)
    (hbase : attributeBase o name X.env (eval o X.env) = eval o X.env := by rfl)
    (hfew : ((backTo cpos (starEach (e :: es) X.env)).all (fun x => !x.1) && (backToKw cpos (keywordEach [] X.env)).all (fun x => x.1.isSome)
      && decide ((e :: es).length + ([] : List Keyword).length + (if ([] : List Keyword).isEmpty then 0 else 1) < 30)) = true := by rfl)
    (hline : (apos.endLine == cpos.line) = true := by rfl) (hs : starEach (e :: es) X.env = (false, eval e X.env) :: starEach es X.env := by rfl) (hplain : (backTo cpos (starEach es X.env)).any (·.1) = false := by rfl) : DE S X Wx (.Call (.Attribute o name apos) (e :: es) [] cpos) (eLm f m ms) :=
  pe_imp (pe_bm PySem.F.plainAttrs_list slot hty hm ho ha hbase hfew hline hs hplain) fun sg H Q q =>
    tE_bind (k := fun ta x h1 => if isL h1 x = true then (ms ta h1).bind fun ws h2 => ofO (f x ws h2) else .stuck) q fun rho H1 ta v w h1 l rs r g => by
      by_cases c : isL h1 w = true
      · rw [if_pos c] at g
        refine ⟨isL_ok K l r c, rho, h1, ta, l, rs, GA.of_bindE g fun rho2 H2 v2 w2 h2 ev l2 r2 g2 => ⟨rho2, h2, w, w2, l2, r.mono ev, r2, GO.of g2⟩⟩
      · rw [if_neg c] at g; exact g.elim
theorem de_lm0 {name : Str} {id : String} {apos cpos : Pos} {f : W → List W → HA → Option (W × HA)} (K : S.K = X.K) (slot : Slot "list" name id) (hty : typeOf (.builtin id) = pure (.type "method_descriptor")) (hm : MtR X id (rAm S f)) (ho : DE S X Wx o m)
    (hbase : attributeBase o name X.env (eval o X.env) = eval o X.env := by rfl) (hline : (apos.endLine == cpos.line) = true := by rfl) : DE S X Wx (.Call (.Attribute o name apos) [] [] cpos) (eLm f m aNil) :=
  pe_imp (pe_bm0 PySem.F.plainAttrs_list slot hty hm ho hbase hline) fun sg H Q q =>
    tE_bind (k := fun ta x h1 => if isL h1 x = true then (aNil ta h1).bind fun ws h2 => ofO (f x ws h2) else .stuck) q fun rho H1 ta v w h1 l rs r g => by
      by_cases c : isL h1 w = true
      · rw [if_pos c] at g
        exact ⟨isL_ok K l r c, ⟨rho, h1, w, [], l, r, .nil, GO.of g⟩⟩
      · rw [if_neg c] at g; exact g.elim
/-- a list that may be written -/
def wrL (h : HA) (i : Nat) : Option (List W) := match h[i]? with
  | some (.lst xs) => some xs
  | _ => none
theorem wrL_of (l : Rl S rho h H) {i : Nat} {p : Addr} {xs : List W} (e : rho[i]? = some p) (c : wrL h i = some xs) : ∃ ys, H p = some (.lst ys) ∧ RVs S rho H xs ys := by
  unfold wrL at c
  split at c
  · rename_i o
    cases c
    exact lst_of l e o
  · cases c
theorem GO.put {Q : VK} {i : Nat} {p : Addr} {w : W} {v : V} {xs : List W} {ys : List V} (g : GO S rho H Q (some (w, h.set i (.lst xs)))) (l : Rl S rho h H) (e : rho[i]? = some p) (r : RV S rho H w v) (rs : RVs S rho H xs ys) : Q v (upd H p (.lst ys)) := by
  have ev := Ev.put (u := HO.lst ys) l e
  exact g rho _ v ev (l.put e (.lst upd_same (rs.mono ev))) (r.mono ev)
def mAppend : W → List W → HA → Option (W × HA) := fun x ws h => match x, ws with
  | .ref i, [w] => (match wrL h i with
    | some xs => if xs.length < sizeLine then some (.non, h.set i (.lst (xs ++ [w]))) else none
    | none => none)
  | _, _ => none
theorem ok_append : MtR X "list.append" (rAm S mAppend) := mtr_imp mt_append fun x xs H Q q => by
  obtain ⟨rho, h, a, as, l, r, rs, g⟩ := q
  unfold mAppend at g
  split at g
  · rename_i i w
    obtain ⟨p, rfl, hp⟩ := ref_of r
    obtain ⟨v, rfl, rv⟩ := RVs_one rs
    split at g
    · rename_i xs e
      obtain ⟨ys, a1, a2⟩ := wrL_of l hp e
      split at g
      · rename_i lt
        exact ⟨p, ys, v, rfl, rfl, a1, by rw [← a2.length]; exact lt, GO.put g l hp .non (a2.append (.cons rv .nil))⟩
      · exact g.elim
    · exact g.elim
  · exact g.elim
def mExtend : W → List W → HA → Option (W × HA) := fun x ws h => match x, ws with
  | .ref i, [.ref j] => (match wrL h i, wrL h j with
    | some xs, some ys => if xs.length + ys.length ≤ sizeLine then some (.non, h.set i (.lst (xs ++ ys))) else none
    | _, _ => none)
  | _, _ => none
theorem ok_extend : MtR X "list.extend" (rAm S mExtend) := mtr_imp mt_extend fun x xs H Q q => by
  obtain ⟨rho, h, a, as, l, r, rs, g⟩ := q
  unfold mExtend at g
  split at g
  · rename_i i j
    obtain ⟨p, rfl, hp⟩ := ref_of r
    obtain ⟨v, rfl, rv⟩ := RVs_one rs
    obtain ⟨p2, rfl, hp2⟩ := ref_of rv
    split at g
    · rename_i xs ys e e2
      obtain ⟨zs, a1, a2⟩ := wrL_of l hp e
      obtain ⟨us, b1, b2⟩ := wrL_of l hp2 e2
      split at g
      · rename_i lt
        exact ⟨p, p2, zs, us, rfl, rfl, a1, b1, by rw [← a2.length, ← b2.length]; exact lt, GO.put g l hp .non (a2.append b2)⟩
      · exact g.elim
    · exact g.elim
  · exact g.elim
/-- pop(), pop(i) -/
def mPop : W → List W → HA → Option (W × HA) := fun x ws h => match x, ws with
  | .ref i, [] => (match wrL h i with
    | some xs => (match xs[xs.length - 1]? with
      | some y => some (y, h.set i (.lst xs.dropLast))
      | none => none)
    | none => none)
  | _, _ => none
theorem ok_pop : MtR X "list.pop" (rAm S mPop) := mtr_imp mt_pop fun x xs H Q q => by
  obtain ⟨rho, h, a, as, l, r, rs, g⟩ := q
  unfold mPop at g
  split at g
  · rename_i i
    obtain ⟨p, rfl, hp⟩ := ref_of r
    cases rs
    split at g
    · rename_i xs e
      obtain ⟨ys, a1, a2⟩ := wrL_of l hp e
      split at g
      · rename_i y ey
        obtain ⟨v, e1, rv⟩ := a2.get ey
        exact ⟨p, ys, v, rfl, rfl, a1, by rw [← a2.length]; exact e1, GO.put g l hp rv a2.dropLast⟩
      · exact g.elim
    · exact g.elim
  · exact g.elim
def mPopAt : W → List W → HA → Option (W × HA) := fun x ws h => match x, ws with
  | .ref i, [.int k] => (match wrL h i with
    | some xs => if 0 ≤ k ∧ k < 2 ^ 63 then (match xs[k.toNat]? with
      | some y => some (y, h.set i (.lst (xs.eraseIdx k.toNat)))
      | none => none) else none
    | none => none)
  | _, _ => none
theorem ok_popAt : MtR X "list.pop" (rAm S mPopAt) := mtr_imp mt_popAt fun x xs H Q q => by
  obtain ⟨rho, h, a, as, l, r, rs, g⟩ := q
  unfold mPopAt at g
  split at g
  · rename_i i k
    obtain ⟨p, rfl, hp⟩ := ref_of r
    obtain ⟨v, rfl, rv⟩ := RVs_one rs
    cases rv
    split at g
    · rename_i xs e
      obtain ⟨ys, a1, a2⟩ := wrL_of l hp e
      split at g
      · rename_i c
        split at g
        · rename_i y ey
          obtain ⟨v, e1, rv⟩ := a2.get ey
          have lt : k.toNat < xs.length := (List.getElem?_eq_some_iff.mp ey).1
          refine ⟨p, ys, k, k.toNat, v, rfl, rfl, a1, by omega, c.2, ?_, e1, GO.put g l hp rv (a2.eraseIdx _)⟩
          exact seqIndex_of c.1 (by rw [← a2.length]; omega)
        · exact g.elim
      · exact g.elim
    · exact g.elim
  · exact g.elim
def mInsert : W → List W → HA → Option (W × HA) := fun x ws h => match x, ws with
  | .ref i, [.int k, w] => (match wrL h i with
    | some xs => if xs.length < sizeLine ∧ 0 ≤ k ∧ k < 2 ^ 63 then some (.non, h.set i (.lst (xs.take k.toNat ++ [w] ++ xs.drop k.toNat))) else none
    | none => none)
  | _, _ => none
theorem ok_insert : MtR X "list.insert" (rAm S mInsert) := mtr_imp mt_insert fun x xs H Q q => by
  obtain ⟨rho, h, a, as, l, r, rs, g⟩ := q
  unfold mInsert at g
  split at g
  · rename_i i k w
    obtain ⟨p, rfl, hp⟩ := ref_of r
    obtain ⟨v, u, rfl, rv, ru⟩ := RVs_two rs
    cases rv
    split at g
    · rename_i xs e
      obtain ⟨ys, a1, a2⟩ := wrL_of l hp e
      split at g
      · rename_i c
        exact ⟨p, ys, k, u, rfl, rfl, a1, by rw [← a2.length]; exact c.1, c.2.1, c.2.2, GO.put g l hp .non (((a2.take _).append (.cons ru .nil)).append (a2.drop _))⟩
      · exact g.elim
    · exact g.elim
  · exact g.elim

/-! ### a def, by its body -/
def startA (n : Nat) (ws : List W) : En := ws.map some ++ List.replicate (n - ws.length) none
def runB (b : Sx) (n : Nat) : Mir := fun ws h => match b (startA n ws) h with
  | .nx _ h' => .ok .non h'
  | .rt w h' => .ok w h'
  | .exc c fs _ h' => .exc c fs h'
  | _ => .stuck
theorem RS_start {ws : List W} {vs : List V} (N : List Str) (r : RVs S rho H ws vs) : RS S Wx rho H (startA N.length ws) (L2.start N vs) := by
  refine ⟨by unfold startA L2.start; simp [r.length], fun i w e => ?_⟩
  unfold startA at e
  by_cases hi : i < ws.length
  · rw [List.getElem?_append_left (by simpa using hi), List.getElem?_map] at e
    cases z : ws[i]? with
    | none => rw [z] at e; cases e
    | some w' =>
      rw [z] at e
      cases e
      obtain ⟨v, e1, rv⟩ := r.get z
      refine ⟨v, ?_, .inl rv⟩
      unfold L2.start
      rw [List.getElem?_append_left (by rw [List.length_map, ← r.length]; exact hi), List.getElem?_map, e1]
      rfl
  · rw [List.getElem?_append_right (by simpa using hi), List.getElem?_replicate] at e
    split at e <;> cases e
/-- a def of the text without defaults -/
abbrev FnP (K : PySem.W.Frag) (x qual : Str) (st : Stmt) (f : Addr) (fd : FuncData) : Prop := FunD K x qual (defArgs st) (defBody st) (defScope st) [] [] f fd
/-- what stands around a def's body -/
abbrev Bx (P : Program) (w : World) (K : PySem.W.Frag) (mg : Str → Option Value) (base : Heap) (N : List Str) (qual : Str) (st : Stmt) (f : Addr) (cdv : Value) (A : Around) (outer : List Env) (s : Shared) (H : Hp) (E : XK) : Cx :=
  cxOf (L2.CX P w) P w K mg base N qual (defScope st) f cdv A outer s H E
theorem fnok_of {P : Program} {w : World} {K : PySem.W.Frag} {mg : Str → Option Value} {base : Heap} {x qual : Str} {st : Stmt} {dfl : List V} {f : Addr} {fd : FuncData} {N ps : List Str} {k n : Nat} {b : Sx} (F : FunD K x qual (defArgs st) (defBody st) (defScope st) dfl [] f fd) (Sc : FnScope N ps (defScope st)) (hn : ps.length = n)
    (hbody : ∀ (cdv : Value) (A : Around) (outer : List Env) (s : Shared) (H : Hp) (E : XK), Room k (A.deeper (envOfC qual (defScope st) s.heap.objs.size f cdv)) → DB S (Bx P w K mg base N qual st f cdv A outer s H E) (wishX E) (defBody st) b) :
    FnOk P w K mg base (L2.CX P w) (k + 1) f fd ps (spM S n (runB b N.length)) := by
  refine F.ok Sc (fun vs H Q E h => h.1.trans hn.symm) (fun cdv A outer s H vs Q E hr h => ⟨_, hbody cdv A outer s H E hr, ?_⟩)
  obtain ⟨hl, rho, ha, ws, l, r, g⟩ := h
  refine ⟨rho, ha, startA N.length ws, l, RS_start N r, ?_⟩
  unfold runB at g
  cases z : b (startA N.length ws) ha with
  | nx ta h2 => rw [z] at g; exact fun r2 H2 sg e2 l2 rs => g r2 H2 .non e2 l2 .non
  | rt w2 h2 => rw [z] at g; exact g
  | bk _ _ => rw [z] at g; exact g.elim
  | ct _ _ => rw [z] at g; exact g.elim
  | exc c fs ta h2 => rw [z] at g; exact fun r2 H2 sg d e2 l2 rs x => g r2 H2 d e2 l2 x
  | stuck => rw [z] at g; exact g.elim
theorem fnm_of {P : Program} {w : World} {K : PySem.W.Frag} {mg : Str → Option Value} {base : Heap} {x qual : Str} {st : Stmt} {f : Addr} {fd : FuncData} {N ps : List Str} {k n : Nat} {b : Sx} (F : FnP K x qual st f fd) (Sc : FnScope N ps (defScope st)) (hn : ps.length = n) (hb : Binds K fd ps [])
    (hbody : ∀ (cdv : Value) (A : Around) (outer : List Env) (s : Shared) (H : Hp) (E : XK), Room k (A.deeper (envOfC qual (defScope st) s.heap.objs.size f cdv)) → DB S (Bx P w K mg base N qual st f cdv A outer s H E) (wishX E) (defBody st) b) :
    FnM P w K mg base S (k + 1) f n (runB b N.length) [] := ⟨fd, ps, [], [], hn, fnok_of F Sc hn hbody, hb, .nil, fun _ _ => .nil⟩
theorem takes_body {P : Program} {w : World} {K : PySem.W.Frag} {mg : Str → Option Value} {base : Heap} {N : List Str} {qual : Str} {st : Stmt} {f : Addr} {cdv : Value} {A : Around} {outer : List Env} {s : Shared} {H : Hp} {E : XK} :
    Takes (Bx P w K mg base N qual st f cdv A outer s H E) (wishX E).wx := takes_of rfl rfl rfl rfl
theorem passes_body {P : Program} {w : World} {K : PySem.W.Frag} {mg : Str → Option Value} {base : Heap} {N : List Str} {qual : Str} {st : Stmt} {f : Addr} {cdv : Value} {A : Around} {outer : List Env} {s : Shared} {H : Hp} {E : XK} :
    PassesOwn (model (Bx P w K mg base N qual st f cdv A outer s H E).prog (Bx P w K mg base N qual st f cdv A outer s H E).w) (Bx P w K mg base N qual st f cdv A outer s H E).A (Bx P w K mg base N qual st f cdv A outer s H E).env (Bx P w K mg base N qual st f cdv A outer s H E).xe := passes_of rfl
end
end J

namespace J
open PySem PySem.Spec PyProof.Rows L2
/-! ### own exceptions with attributes -/
/-- self.x = x, .. for the names xs -/
def xfs (xs : List Str) (ws : List V) : List (Str × V) := (xs.zip ws).reverse
/-- the promise of such an __init__ -/
def spI (C : Addr) (xs : List Str) : Sp := fun vs H Q _ => ∃ (a : Addr) (ws : List V), vs = .ref a :: ws ∧ ws.length = xs.length ∧ H a = some (exo a C none) ∧
  ∀ (d : Addr) (H' : Hp), H d = none → d ≠ a → H' a = some (exo a C (some d)) → H' d = some (exd d (xfs xs ws)) → (∀ b, b ≠ a → b ≠ d → H' b = H b) → Q .non H'
section
variable {P : Program} {w : World} {K : PySem.W.Frag} {mg : Str → Option Value} {base : Heap} {CX : CXT} {C : Addr}
theorem exo_exd {a d C : Addr} {fs : List (Str × V)} : exo a C (some d) ≠ exd d fs → True := fun _ => trivial
theorem ok_xinit1 {x qual : Str} {st : Stmt} {f : Addr} {fd : FuncData} {p1 p2 p3 p4 : Pos} (F : FnP K "__init__" qual st f fd) (Sc : FnScope ["self", x] ["self", x] (defScope st)) (T : OexC K C) (h1 : PySem.W.findIn K (.ref C) x = some none)
    (hb : defBody st = [.Assign [.Attribute (.Name "self" p1) x p2] (.Name x p3) p4])
    (hx : (x == ("__debug__" : Str)) = false := by decide) (hx2 : (x == ("__classdict__" : Str)) = false := by decide)
    (v0 : (defScope st).names.lookup ("self" : Str) = some .local := by rfl) (v1 : (defScope st).names.lookup x = some .local := by rfl) : FnOk P w K mg base (L2.CX P w) 1 f fd ["self", x] (spI C [x]) := by
  refine F.ok Sc (fun vs H Q E h => ?_) (fun cdv A outer s H vs Q E hr h => ?_)
  · obtain ⟨a, ws, rfl, hl, _⟩ := h
    simp [hl]
  · obtain ⟨a, ws, rfl, hl, ha, k⟩ := h
    match ws, hl with
    | [y], _ =>
      rw [hb]
      refine ⟨_, pss_one (ps_ost (pe_var (i := 0) rfl (.inl v0) (by decide) (by decide)) (pe_var (i := 1) rfl (.inl v1) hx hx2)), ?_⟩
      refine ⟨_, rfl, _, rfl, a, C, rfl, T, h1, .inl ⟨ha, fun d hd ne => ?_⟩⟩
      exact k d _ hd ne upd_same (by rw [upd_ne ne, upd_same]; rfl) fun b hb hb2 => by rw [upd_ne hb, upd_ne hb2]
theorem ok_xinit2 {x y qual : Str} {st : Stmt} {f : Addr} {fd : FuncData} {p1 p2 p3 p4 q1 q2 q3 q4 : Pos} (F : FnP K "__init__" qual st f fd) (Sc : FnScope ["self", x, y] ["self", x, y] (defScope st)) (T : OexC K C) (h1 : PySem.W.findIn K (.ref C) x = some none) (h2 : PySem.W.findIn K (.ref C) y = some none)
    (hb : defBody st = [.Assign [.Attribute (.Name "self" p1) x p2] (.Name x p3) p4, .Assign [.Attribute (.Name "self" q1) y q2] (.Name y q3) q4])
    (hx : (x == ("__debug__" : Str)) = false := by decide) (hx2 : (x == ("__classdict__" : Str)) = false := by decide) (hy : (y == ("__debug__" : Str)) = false := by decide) (hy2 : (y == ("__classdict__" : Str)) = false := by decide)
    (v0 : (defScope st).names.lookup ("self" : Str) = some .local := by rfl) (v1 : (defScope st).names.lookup x = some .local := by rfl) (v2 : (defScope st).names.lookup y = some .local := by rfl) : FnOk P w K mg base (L2.CX P w) 1 f fd ["self", x, y] (spI C [x, y]) := by
  refine F.ok Sc (fun vs H Q E h => ?_) (fun cdv A outer s H vs Q E hr h => ?_)
  · obtain ⟨a, ws, rfl, hl, _⟩ := h
    simp [hl]
  · obtain ⟨a, ws, rfl, hl, ha, k⟩ := h
    match ws, hl with
    | [u, v], _ =>
      rw [hb]
      refine ⟨_, pss_cons (ps_ost (pe_var (i := 0) rfl (.inl v0) (by decide) (by decide)) (pe_var (i := 1) rfl (.inl v1) hx hx2)) (pss_one (ps_ost (pe_var (i := 0) rfl (.inl v0) (by decide) (by decide)) (pe_var (i := 2) rfl (.inl v2) hy hy2))), ?_⟩
      refine ⟨_, rfl, _, rfl, a, C, rfl, T, h1, .inl ⟨ha, fun d hd ne => ?_⟩⟩
      refine ⟨_, rfl, _, rfl, a, C, rfl, T, h2, .inr ⟨d, [(x, u)], upd_same, by rw [upd_ne ne, upd_same], by simp, ?_⟩⟩
      exact k d _ hd ne (by rw [upd_ne (Ne.symm ne), upd_same]) upd_same fun b hb hb2 => by rw [upd_ne hb2, upd_ne hb, upd_ne hb2]
theorem ok_xinit3 {x y z qual : Str} {st : Stmt} {f : Addr} {fd : FuncData} {p1 p2 p3 p4 q1 q2 q3 q4 r1 r2 r3 r4 : Pos} (F : FnP K "__init__" qual st f fd) (Sc : FnScope ["self", x, y, z] ["self", x, y, z] (defScope st)) (T : OexC K C) (h1 : PySem.W.findIn K (.ref C) x = some none) (h2 : PySem.W.findIn K (.ref C) y = some none) (h3 : PySem.W.findIn K (.ref C) z = some none)
    (hb : defBody st = [.Assign [.Attribute (.Name "self" p1) x p2] (.Name x p3) p4, .Assign [.Attribute (.Name "self" q1) y q2] (.Name y q3) q4, .Assign [.Attribute (.Name "self" r1) z r2] (.Name z r3) r4])
    (hx : (x == ("__debug__" : Str)) = false := by decide) (hx2 : (x == ("__classdict__" : Str)) = false := by decide) (hy : (y == ("__debug__" : Str)) = false := by decide) (hy2 : (y == ("__classdict__" : Str)) = false := by decide) (hz : (z == ("__debug__" : Str)) = false := by decide) (hz2 : (z == ("__classdict__" : Str)) = false := by decide)
    (v0 : (defScope st).names.lookup ("self" : Str) = some .local := by rfl) (v1 : (defScope st).names.lookup x = some .local := by rfl) (v2 : (defScope st).names.lookup y = some .local := by rfl) (v3 : (defScope st).names.lookup z = some .local := by rfl) : FnOk P w K mg base (L2.CX P w) 1 f fd ["self", x, y, z] (spI C [x, y, z]) := by
  refine F.ok Sc (fun vs H Q E h => ?_) (fun cdv A outer s H vs Q E hr h => ?_)
  · obtain ⟨a, ws, rfl, hl, _⟩ := h
    simp [hl]
  · obtain ⟨a, ws, rfl, hl, ha, k⟩ := h
    match ws, hl with
    | [u, v, w], _ =>
      rw [hb]
      refine ⟨_, pss_cons (ps_ost (pe_var (i := 0) rfl (.inl v0) (by decide) (by decide)) (pe_var (i := 1) rfl (.inl v1) hx hx2)) (pss_cons (ps_ost (pe_var (i := 0) rfl (.inl v0) (by decide) (by decide)) (pe_var (i := 2) rfl (.inl v2) hy hy2)) (pss_one (ps_ost (pe_var (i := 0) rfl (.inl v0) (by decide) (by decide)) (pe_var (i := 3) rfl (.inl v3) hz hz2)))), ?_⟩
      refine ⟨_, rfl, _, rfl, a, C, rfl, T, h1, .inl ⟨ha, fun d hd ne => ?_⟩⟩
      refine ⟨_, rfl, _, rfl, a, C, rfl, T, h2, .inr ⟨d, [(x, u)], upd_same, by rw [upd_ne ne, upd_same], by simp, ?_⟩⟩
      refine ⟨_, rfl, _, rfl, a, C, rfl, T, h3, .inr ⟨d, [(y, v), (x, u)], by rw [upd_ne (Ne.symm ne), upd_same], upd_same, by simp, ?_⟩⟩
      exact k d _ hd ne (by rw [upd_ne (Ne.symm ne), upd_ne (Ne.symm ne), upd_same]) upd_same fun b hb hb2 => by rw [upd_ne hb2, upd_ne hb2, upd_ne hb, upd_ne hb2]
/-- what a raise of such a class asks -/
structure Xc (P : Program) (w : World) (K : PySem.W.Frag) (mg : Str → Option Value) (base : Heap) (S : Sta) (k c : Nat) (x : Str) (fids : List Nat) : Prop where
  at_ : mg x = some (.ref (S.ca c))
  T : OexC K (S.ca c)
  ex : ∃ (fI : Addr) (fd : FuncData) (ps xs : List Str), PySem.W.findIn K (.ref (S.ca c)) "__init__" = some (some (.ref fI)) ∧ PySem.W.typeIn K (.ref fI) = some (.type "function") ∧ FnOk P w K mg base (L2.CX P w) k fI fd ps (spI (S.ca c) xs) ∧ Binds K fd ps [] ∧
    xs.length = fids.length ∧ ∀ (i : Nat) (x : Str), xs[i]? = some x → ∃ j : Nat, fids[i]? = some j ∧ S.nm[j]? = some x
end
section
variable {X : Cx} {S : Sta} {Wx : Wi} {e a b o : Expr} {es rest : List Expr} {st : Stmt} {sts bd : List Stmt} {m m1 m2 : Ex} {ms : Ax} {t : Tx} {s1 s2 : Sx} {pos p pos' : Pos} {rho rho' : List Addr} {H H' : Hp} {D D' : Ends} {sg : L2.St} {ta : En} {h : HA}
theorem RF_zip {fids : List Nat} : ∀ {xs : List Str} {ws : List W} {vs : List V} {fs : List Nat} , RVs S rho H ws vs → xs.length = fs.length → (∀ (i : Nat) (x : Str), xs[i]? = some x → ∃ j : Nat, fs[i]? = some j ∧ S.nm[j]? = some x) → RF S rho H (fs.zip ws) (xs.zip vs)
  | [], ws, vs, [], _, _, _ => by cases ws <;> cases vs <;> exact .nil
  | x :: xs, [], vs, f :: fs, r, _, _ => by cases r; exact .nil
  | x :: xs, w :: ws, [], f :: fs, r, _, _ => by cases r
  | x :: xs, w :: ws, v :: vs, f :: fs, r, hl, h => by
    cases r with
    | cons r1 r2 =>
      obtain ⟨j, e1, e2⟩ := h 0 x rfl
      simp at e1
      subst e1
      exact .cons e2 r1 (RF_zip (fids := fids) r2 (by simpa using hl) fun i y q => by simpa using h (i + 1) y (by simpa using q))
theorem RF_app {fs fs' : List (Nat × W)} {gs gs' : List (Str × V)} (r : RF S rho H fs gs) (q : RF S rho H fs' gs') : RF S rho H (fs ++ fs') (gs ++ gs') := by
  induction r with
  | nil => exact q
  | cons n v t ih => exact .cons n v ih
theorem RF_rev {fs : List (Nat × W)} {gs : List (Str × V)} (r : RF S rho H fs gs) : RF S rho H fs.reverse gs.reverse := by
  induction r with
  | nil => exact .nil
  | cons n v t ih => rw [List.reverse_cons, List.reverse_cons]; exact RF_app ih (.cons n v .nil)
def sRaise (c : Nat) (fids : List Nat) (ms : Ax) : Sx := fun ta h => (ms ta h).to ta fun ws h1 => if ws.length = fids.length ∧ ws.length ≤ 1000 then .exc c (fids.zip ws).reverse ta h1 else .stuck
theorem ds_raise {k c : Nat} {x : Str} {fids : List Nat} (K : S.K = X.K) (hc : X.calm = true) (tk : Takes X Wx.wx) (Xk : Xc X.prog X.w X.K X.mg X.base S k c x fids) (hr : Room (k + 1) X.A) (hg : Gl X x) (ha : DA S X Wx (e :: es) ms) (hdb : (x == ("__debug__" : Str)) = false := by decide)
    (he : starEach (e :: es) X.env = (false, eval e X.env) :: starEach es X.env := by rfl) (hpl : (backTo pos (starEach es X.env)).any (·.1) = false := by rfl) : DS S X Wx (.Raise (some (.Call (.Name x p) (e :: es) [] pos)) none pos') (sRaise c fids ms) := by
  obtain ⟨fI, fd, ps, xs, iC, tI, F1, hb, hl, hnm⟩ := Xk.ex
  refine ps_imp (ps_raise hc tk (pmk_oex Xk.T iC tI F1 hr hb .nil passL hg Xk.at_ ha hdb he hpl)) fun D sg H q => ?_
  refine tS_toA (k := fun ta ws h1 => if ws.length = fids.length ∧ ws.length ≤ 1000 then .exc c (fids.zip ws).reverse ta h1 else .stuck) q fun rho1 H1 ta v1 w1 h1 l rs r g1 => ?_
  split at g1
  · rename_i lw
    have lv := r.length
    refine ⟨by omega, fun ad hn => ⟨ad, v1, by simp, by rw [← lv, lw.1, hl], upd_same, fun d H2 hd ne e1 e2 e3 => ?_⟩⟩
    have hd1 : H1 d = none := by rw [upd_ne ne] at hd; exact hd
    refine ⟨rfl, d, xfs xs v1, e1, e2, hd1, ?_⟩
    have eq : upd (del H2 ad) d (.xd (xfs xs v1)) = upd H1 d (.xd (xfs xs v1)) := by
      funext b
      by_cases hb : b = d
      · subst hb; rw [upd_same, upd_same]
      · rw [upd_ne hb, upd_ne hb]
        by_cases hb2 : b = ad
        · subst hb2; rw [del_same, hn]
        · rw [del_ne hb2, e3 b hb2 hb, upd_ne hb2]
    rw [eq]
    have ev : Ev S rho1 H1 rho1 (upd H1 d (.xd (xfs xs v1))) := Ev.lay hd1
    refine g1 rho1 _ sg (some d) ev (l.lay hd1) (rs.mono ev) (.inr ⟨d, xfs xs v1, rfl, l.fresh hd1, upd_same, ?_⟩)
    exact RF_rev (RF_zip (fids := fids) (r.mono ev) hl hnm)
  · exact g1.elim

/-! ### try .. except C as n -/
/-- the suite's end: the name is gone -/
def SR.drop (r : SR) (i : Nat) : SR := match r with
  | .nx ta h => .nx ((clrX ta).set i none) h
  | .rt w h => .rt w h
  | .bk ta h => .bk ((clrX ta).set i none) h
  | .ct ta h => .ct ((clrX ta).set i none) h
  | _ => .stuck
def sTry (mt : Nat → Option Bool) (i : Nat) (b hd : Sx) : Sx := fun ta h => match b ta h with
  | .exc c fs ta1 h1 => (match mt c with
    | some true => if fs.isEmpty = true then (hd (ta1.set i none) h1).drop i else (hd (ta1.set i (some (.xcp c fs))) h1).drop i
    | some false => .exc c fs ta1 h1
    | none => .stuck)
  | r => r
theorem RS_out {Wx' : Wi} {i : Nat} (r : RS S Wx' rho H ta sg) : RS S Wx rho H ((clrX ta).set i none) (sg.set i none) := by
  have q := RS_clr r
  refine RS.drop ⟨q.len, fun j w z => ?_⟩
  obtain ⟨v, e1, r1⟩ := q.at_ j w z
  rcases r1 with r1 | ⟨_, _, _, _, _, _, _, z2, _⟩
  · exact ⟨v, e1, .inl r1⟩
  · cases z2
theorem GS.drop {r : SR} {i : Nat} {Wx' : Wi} (g : GS S Wx D rho H (r.drop i)) : GS S Wx' { nx := fun sg' H' => D.nx (sg'.set i none) H', rt := D.rt, bk := fun sg' H' => D.bk (sg'.set i none) H', ct := fun sg' H' => D.ct (sg'.set i none) H' } rho H r := by
  cases r with
  | nx ta h => exact fun r2 H2 sg e2 l rs => g r2 H2 _ e2 l (RS_out rs)
  | rt w h => exact g
  | bk ta h => exact fun r2 H2 sg e2 l rs => g r2 H2 _ e2 l (RS_out rs)
  | ct ta h => exact fun r2 H2 sg e2 l rs => g r2 H2 _ e2 l (RS_out rs)
  | exc c fs ta h => exact g.elim
  | stuck => exact g.elim
/-- the wish within the suite of the caught exception at a -/
def Wsu (cur : Option (Addr × Nat × Addr)) : Wi := ⟨fun _ _ _ _ => False, cur⟩
/-- what stands at a, where the caught one is told -/
def CurOk (S : Sta) (a : Addr) (oe : Obj) (cur : Option (Addr × Nat × Addr)) : Prop := (∃ vs, oe.data = .fields vs) ∧ ∀ a' c dd, cur = some (a', c, dd) → a' = a ∧ Zc (.ref (S.ca c)) (some dd) oe
theorem ds_try {x n : Str} {cc : Addr} {i : Nat} {bb hd : Sx} {b0 : Stmt} {suite : List Stmt} {np : Pos} {mt : Nat → Option Bool} (K : S.K = X.K) (hcur : Wx.cur = none) (hs : X.stack = X.env :: X.outer) (hf : X.env.frame = some X.env.locals) (hN : X.N.Nodup) (hi : X.N[i]? = some n) (hln : X.env.kindOf n = some .local)
    (hc : Names X x (.ref cc)) (hmt : ∀ c b, mt c = some b → PySem.W.exmOne X.K (.ref (S.ca c)) (.ref cc) = some b) (tk : Takes X Wx.wx)
    (hb : ∀ (W : WX) (pn : List (Addr × Obj)) (xe : Value → Shared → Prop), Takes (X.tr pn xe) W → PassesOwn (model X.prog X.w) X.A X.env xe → DB S (X.tr pn xe) ⟨W, none⟩ bd bb)
    (hsu : ∀ (a : Addr) (oe : Obj) (cur : Option (Addr × Nat × Addr)) (pn : List (Addr × Obj)), CurOk S a oe cur → DB S (X.suite a ((a, oe) :: pn)) (Wsu cur) (b0 :: suite) hd) :
    DS S X Wx (.Try bd [.ExceptHandler (some (.Name x np)) (some n) (b0 :: suite) pos'] [] [] pos) (sTry mt i bb hd) := by
  have base := ps_try_as (X := X) (x := x) (n := n) (c := .ref cc) (i := i) (body := bd) (suite := suite) (b₀ := b0) (np := np) (pos := pos) (pos' := pos') (tb := fun W => tS S ⟨W, none⟩ bb)
    (ts := fun a cls d D sg H => ∃ c, cls = .ref (S.ca c) ∧ ∃ cur, (∀ a' c' dd, cur = some (a', c', dd) → a' = a ∧ c' = c ∧ d = some dd) ∧ tS S (Wsu cur) hd D sg H)
    hs hf hN hi hln hc tk (fun W pn xe t1 t2 => hb W pn xe t1 t2) (fun a oe cls d pn hz hfd => ?_)
  · refine ps_imp base fun D sg H q => ?_
    obtain ⟨rho, h, ta, l, rs, g⟩ := q
    refine ⟨rho, h, ta, l, ⟨rs.len, fun j w z => ?_⟩, ?_⟩
    · obtain ⟨v, e1, r1⟩ := rs.at_ j w z
      rcases r1 with r1 | ⟨_, _, _, _, _, _, _, z2, _⟩
      · exact ⟨v, e1, .inl r1⟩
      · rw [hcur] at z2; cases z2
    have cv : ∀ {rho' H' ta' sg'} {W : WX}, RS S ⟨W, none⟩ rho' H' ta' sg' → RS S Wx rho' H' ta' sg' := fun {rho' H' ta' sg' W} r => ⟨r.len, fun j w z => by
      obtain ⟨v, e1, r1⟩ := r.at_ j w z
      rcases r1 with r1 | ⟨_, _, _, _, _, _, _, z2, _⟩
      · exact ⟨v, e1, .inl r1⟩
      · cases z2⟩
    unfold sTry at g
    cases z : bb ta h with
    | nx ta1 h1 => rw [z] at g; exact fun r2 H2 sg2 e2 l2 rs2 => g r2 H2 sg2 e2 l2 (cv rs2)
    | rt w1 h1 => rw [z] at g; exact g
    | bk ta1 h1 => rw [z] at g; exact fun r2 H2 sg2 e2 l2 rs2 => g r2 H2 sg2 e2 l2 (cv rs2)
    | ct ta1 h1 => rw [z] at g; exact fun r2 H2 sg2 e2 l2 rs2 => g r2 H2 sg2 e2 l2 (cv rs2)
    | stuck => rw [z] at g; exact g
    | exc c fs ta1 h1 =>
      rw [z] at g
      dsimp only at g
      intro rho2 H2 sg2 d ev2 l2 rs2 x2
      cases zm : mt c with
      | none => rw [zm] at g; exact g.elim
      | some bm =>
        rw [zm] at g
        refine ⟨bm, hmt c bm zm, fun hbm a0 ha0 => ?_, fun hbm => ?_⟩
        · subst hbm
          dsimp only at g
          rcases x2 with ⟨rfl, rfl⟩ | ⟨dd, gs, rfl, nd, hd2, rf2⟩
          · rw [if_pos (show ([] : List (Nat × W)).isEmpty = true from rfl)] at g
            refine ⟨c, rfl, none, (fun a' c' dd q => by cases q), rho2, h1, ta1.set i none, l2, ?_, ?_⟩
            · have r3 := (RS.drop (i := i) (z := some (.ref a0)) rs2)
              exact ⟨r3.len, fun j w q => by
                obtain ⟨v, e1, r1⟩ := r3.at_ j w q
                rcases r1 with r1 | ⟨_, _, _, _, _, _, _, z2, _⟩
                · exact ⟨v, e1, .inl r1⟩
                · cases z2⟩
            · exact GS.drop (GS.mono ev2 g)
          · by_cases hfs : fs.isEmpty = true
            · rw [if_pos hfs] at g
              refine ⟨c, rfl, none, (fun a' c' dd q => by cases q), rho2, h1, ta1.set i none, l2, ?_, ?_⟩
              · have r3 := (RS.drop (i := i) (z := some (.ref a0)) rs2)
                exact ⟨r3.len, fun j w q => by
                  obtain ⟨v, e1, r1⟩ := r3.at_ j w q
                  rcases r1 with r1 | ⟨_, _, _, _, _, _, _, z2, _⟩
                  · exact ⟨v, e1, .inl r1⟩
                  · cases z2⟩
              · exact GS.drop (GS.mono ev2 g)
            · rw [if_neg hfs] at g
              refine ⟨c, rfl, some (a0, c, dd), (fun a' c' dd' q => by cases q; exact ⟨rfl, rfl, rfl⟩), rho2, h1, ta1.set i (some (.xcp c fs)), l2, ?_, GS.drop (GS.mono ev2 g)⟩
              refine ⟨by rw [List.length_set, List.length_set]; exact rs2.len, fun j w q => ?_⟩
              by_cases hj : i = j
              · subst hj
                by_cases hl : i < ta1.length
                · rw [List.getElem?_set_self hl] at q
                  cases q
                  exact ⟨.ref a0, List.getElem?_set_self (by rw [← rs2.len]; exact hl), .inr ⟨c, fs, a0, dd, gs, rfl, rfl, rfl, nd, hd2, rf2⟩⟩
                · rw [List.getElem?_eq_none (by simpa using hl)] at q; cases q
              · rw [List.getElem?_set_ne hj] at q
                rw [List.getElem?_set_ne hj]
                obtain ⟨v, e1, r1⟩ := rs2.at_ j w q
                rcases r1 with r1 | ⟨_, _, _, _, _, _, _, z2, _⟩
                · exact ⟨v, e1, .inl r1⟩
                · cases z2
        · subst hbm
          exact g rho2 H2 sg2 d ev2 l2 (cv rs2) x2
  · refine ⟨fun pins s sg H D I q => ?_⟩
    obtain ⟨c, rfl, cur, hcu, q⟩ := q
    refine (hsu a oe cur pn ⟨hfd, fun a' c' dd e => ?_⟩).run pins s sg H D I q
    obtain ⟨rfl, rfl, rfl⟩ := hcu a' c' dd e
    exact ⟨rfl, hz⟩
/-- e.f within the suite, e the caught exception of one of the classes cs -/
def eXf (i : Nat) (cs : List Nat) (f : Nat) : Ex := fun ta h => match ta[i]? with
  | some (some (.xcp c fs)) => if c ∈ cs then (match fs.lookup f with
    | some w => .ok w h
    | none => .stuck) else .stuck
  | _ => .stuck
theorem de_xf {a0 : Addr} {oe : Obj} {cur : Option (Addr × Nat × Addr)} {pn : List (Addr × Obj)} {x n : Str} {i f : Nat} {cs : List Nat} {np : Pos} (cok : CurOk S a0 oe cur) (nd : S.nm.Nodup) (hf : S.nm[f]? = some n)
    (ck : ∀ c ∈ cs, XfC X.K (S.ca c) ∧ PySem.W.findIn X.K (.ref (S.ca c)) n = some none) (hN : X.N[i]? = some x) (hv : Vis X.env.scope x)
    (hd : (x == ("__debug__" : Str)) = false := by decide) (hcd : (x == ("__classdict__" : Str)) = false := by decide)
    (hb : attributeBase (.Name x np) n X.env (eval (.Name x np) X.env) = eval (.Name x np) X.env := by rfl) : DE S (X.suite a0 ((a0, oe) :: pn)) (Wsu cur) (.Attribute (.Name x np) n pos) (eXf i cs f) := by
  refine ⟨fun pins s sg H Q I q => ?_⟩
  obtain ⟨rho, h, ta, l, rs, g⟩ := q
  unfold eXf at g
  split at g
  · rename_i c fs e
    split at g
    · rename_i hc
      cases z : fs.lookup f with
      | none => rw [z] at g; exact g.elim
      | some w =>
        rw [z] at g
        obtain ⟨v, e1, r1⟩ := rs.at_ i _ e
        rcases r1 with r1 | ⟨c', fs', a', dd, gs, q1, rfl, q3, q4, q5, q6⟩
        · cases r1
        · cases q1
          obtain ⟨rfl, hz⟩ := cok.2 a' c dd q3
          obtain ⟨y, y1, y2⟩ := RF_get nd hf q6 z
          exact (pe_xf (X := X) (a := a') (C := S.ca c) (oe := oe) (cls := .ref (S.ca c)) (d := some dd) (pn := pn) (n := n) (ck c hc).1 (ck c hc).2 hz cok.1 (pe_var (X := X.suite a' ((a', oe) :: pn)) (i := i) hN hv hd hcd) hb).run pins s sg H Q I ⟨.ref a', e1, rfl, rfl, dd, gs, y, rfl, q5, y1, g rho H y Ev.rfl' l y2⟩
    · exact g.elim
  · exact g.elim
/-! ### while -/
def sWhile (t : Tx) (b : Sx) : Nat → Sx
  | 0, _, _ => .stuck
  | n + 1, ta, h => (t ta h).to ta fun k h1 => if k = true then (b ta h1).turn (sWhile t b n) else .nx ta h1
theorem ds_while {c : Expr} {b : Sx} {n : Nat} (hp : PassesOwn (model X.prog X.w) X.A X.env X.xe) (hc : DT S X Wx c t) (hb : DB S X Wx bd b) : DS S X Wx (.While c bd [] pos) (sWhile t b n) := ps_imp (ps_while hp hc hb) fun D sg H q => by
  refine ⟨fun m sg H => tS S Wx (sWhile t b m) D sg H, ⟨n, q⟩, fun m sg H q => ?_⟩
  cases m with
  | zero => obtain ⟨_, _, _, _, _, g⟩ := q; exact g.elim
  | succ m =>
    refine tS_toB (k := fun ta k h1 => if k = true then (b ta h1).turn (sWhile t b m) else .nx ta h1) q fun rho1 H1 ta w h1 l rs g => ?_
    cases w with
    | false => exact g rho1 H1 sg Ev.rfl' l rs
    | true => exact ⟨tS S Wx (sWhile t b m) D, fun sg' H' z => ⟨m, Nat.lt_succ_self _, z⟩, rho1, h1, ta, l, rs, GS.of_turn g⟩
end
end J

namespace J
open PySem PySem.Spec PyProof.Rows L2
section
variable {X : Cx} {S : Sta} {Wx : Wi} {e a b o : Expr} {es rest : List Expr} {m m1 m2 : Ex} {ms : Ax} {pos p apos : Pos} {k n : Nat} {f : Addr} {g : Mir} {ds : List W}
/-! ### a == b, a an instance of a class with an own __eq__ -/
/-- the type of the right one is no class below the left one's -/
def rightOk (K : PySem.W.Frag) (S : Sta) (cs : List Nat) (C : Addr) : Prop := ∀ g : Tg, (∀ c, g = .ins c → c ∈ cs) → PySem.W.notFirst K C (tgV S g) = true
structure Eqo (P : Program) (w : World) (K : PySem.W.Frag) (mg : Str → Option Value) (base : Heap) (S : Sta) (k : Nat) (cs : List Nat) (c : Nat) (g : Mir) : Prop where
  nf : rightOk K S cs (S.ca c)
  ex : ∃ f, PySem.W.findIn K (.ref (S.ca c)) "__eq__" = some (some (.ref f)) ∧ PySem.W.isFn K (.ref f) = true ∧ FnM P w K mg base S k f 2 g []
/-- data: as ever; an instance of the class c0: its own __eq__ -/
def eqC (cs : List Nat) (c0 : Nat) (g : Mir) (neg : Bool) (x y : W) (h : HA) : Res W := match clsOf h x with
  | some c => if c = c0 ∧ neg = false then (match tgC cs y h with
    | some _ => g [x, y] h
    | none => .stuck) else .stuck
  | none => ofO (if neg = true then qNe x y h else qEq x y h)
def eEqC (cs : List Nat) (c0 : Nat) (g : Mir) (m1 m2 : Ex) : Ex := fun ta h => (m1 ta h).bind fun x h1 => (m2 ta h1).bind fun y h2 => eqC cs c0 g false x y h2
theorem kit_type {pins : List (Addr × Obj)} {sg : L2.St} {H : Hp} {s : Shared} (K : S.K = X.K) {cs : List Nat} (ck : ∀ c ∈ cs, Ck X.K (S.ca c)) (I : Inv X pins sg H s) {v : V} {u : Value} {tg : Tg} (ru : RelV v u) (ty : TyX X.K H v (tgV S tg)) : PySem.W.Looks (model X.prog X.w) s.heap (typeOf u) (tgV S tg) := by
  obtain ⟨Pr, kx, hp, _⟩ := kit_of I ru ty
  exact kx.ty _ _ I.kIn hp
theorem pc_eqC {cs : List Nat} {c0 : Nat} (K : S.K = X.K) (ck : ∀ c ∈ cs, Ck X.K (S.ca c)) (G : Eqo X.prog X.w X.K X.mg X.base S k cs c0 g) (hr : Room k X.A) (tk : Takes X Wx.wx) (ha : DE S X Wx a m1) (hb : DE S X Wx b m2) : PC X .Eq a b (tE S Wx (eEqC cs c0 g m1 m2)) := by
  obtain ⟨f, hs, hf, F⟩ := G.ex
  refine ⟨fun pins s sg H Q I q => ?_⟩
  obtain ⟨rho, h, ta, l, rs, g0⟩ := q
  have q1 : tE S Wx m1 sg H fun x H1 => ∃ rho h w, Rl S rho h H1 ∧ RS S Wx rho H1 ta sg ∧ RV S rho H1 w x ∧ GE S Wx sg rho H1 Q ((m2 ta h).bind fun y h2 => eqC cs c0 g false w y h2) :=
    ⟨rho, h, ta, l, rs, GE.of_bind g0 fun rho1 H1 v1 w1 h1 e l1 r1 g1 => ⟨rho1, h1, w1, l1, rs.mono e, r1, g1⟩⟩
  refine thn (ha.run pins s sg H _ I q1) fun v s1 hh => ?_
  obtain ⟨x, H1, I1, rx, rho1, h1, w1, l1, rs1, r1, g1⟩ := hh
  have q2 : tE S Wx m2 sg H1 fun y H2 => ∃ rho h w2, Rl S rho h H2 ∧ RV S rho H2 w1 x ∧ RV S rho H2 w2 y ∧ GE S Wx sg rho H2 Q (eqC cs c0 g false w1 w2 h) :=
    ⟨rho1, h1, ta, l1, rs1, GE.of_bind g1 fun rho2 H2 v2 w2 h2 e l2 r2 g2 => ⟨rho2, h2, w2, l2, r1.mono e, r2, g2⟩⟩
  refine thn (hb.run pins s1 sg H1 _ I1 q2) fun u s2 hh => ?_
  obtain ⟨y, H2, I2, ry, rho2, h2, w2, l2, rx2, ry2, g2⟩ := hh
  unfold eqC at g2
  split at g2
  · rename_i c hc
    split at g2
    · rename_i hcc
      obtain ⟨rfl, _⟩ := hcc
      split at g2
      · rename_i tg ht
        have ty := ty_of K ck l2 ry2 ht
        obtain ⟨ad, dx, fs, gs, rfl, ea, ef⟩ := cls_of l2 rx2 hc
        obtain rfl : v = Value.ref ad := rx
        obtain ⟨mA, J0, _⟩ := ins_get I2.hok ea
        obtain ⟨od, J1, _⟩ := J0.look
        obtain ⟨mm, hF⟩ := I2.fr
        have ok2 := G.nf tg fun c' e' => by
          subst e'
          unfold tgC at ht
          split at ht
          · split at ht
            · cases ht; assumption
            · cases ht
          · rename_i hno
            exact absurd ht (hno c')
        refine PySem.W.cmp_K (op := .Eq) hr.units0 hF I2.ok.mod.kin J1 (kit_type K ck I2 ry ty) ok2 hs hf ?_
        refine thn (run_m (us := [.ref ad, u]) (vs := [.ref ad, y]) (ws := [w1, w2]) F hr tk I2 (.cons (show L2.RelV (V.ref ad) (Value.ref ad) from rfl) (.cons ry .nil)) l2 (.cons rx2 (.cons ry2 .nil)) rfl (by simpa using g2)) fun r s3 hh => ?_
        obtain ⟨z, H3, I3, rz, qz⟩ := hh
        have fin : EP X pins sg Q r s3 := ⟨z, H3, I3, rz, qz⟩
        cases z <;> first
          | (cases rz; exact fin)
          | (obtain ⟨tt, rfl⟩ := rz; exact fin)
      · exact g2.elim
    · exact g2.elim
  · exact ok_qEq K hr.units pins s2 sg H2 x y v u Q I2 rx ry ⟨rho2, h2, w1, w2, l2, rx2, ry2, GO.of g2⟩
theorem de_eqC {cs : List Nat} {c0 : Nat} (K : S.K = X.K) (ck : ∀ c ∈ cs, Ck X.K (S.ca c)) (G : Eqo X.prog X.w X.K X.mg X.base S k cs c0 g) (hr : Room k X.A) (tk : Takes X Wx.wx) (ha : DE S X Wx a m1) (hb : DE S X Wx b m2)
    (hm : behindInMarks .Eq b = false := by first | exact nomark _ | rfl) : DE S X Wx (.Compare a [.Eq] [b] pos) (eEqC cs c0 g m1 m2) := pe_cmp (pc_eqC K ck G hr tk ha hb) hm
end
/-! ### the law's end -/
/-- what the law promises -/
def spL (K : PySem.W.Frag) : Sp := fun vs H Q _ => ∃ (a : Addr) (ns : List Int), vs = [.ref a] ∧ SqL K H a (ns.map V.int) ∧ ns.length ≤ 63 ∧ (∀ z ∈ ns, Builtin.Int.intBits z ≤ 1048576) ∧ Only H ∧ ∀ H', Q (.bl true) H'
theorem rvs_ints {S : Sta} {rho : List Addr} {H : Hp} : ∀ ns : List Int, RVs S rho H (ns.map W.int) (ns.map V.int)
  | [] => .nil
  | n :: ns => .cons (.int n) (rvs_ints ns)
theorem law_of {P : Program} {w : World} {K : PySem.W.Frag} {mg : Str → Option Value} {base : Heap} {S : Sta} {k : Nat} {f : Addr} {fd : FuncData} {ps : List Str} {g : Mir} (hK : S.K = K) (F : FnOk P w K mg base (L2.CX P w) k f fd ps (spM S 1 g))
    (hg : ∀ ns : List Int, ns.length ≤ 63 → (∀ z ∈ ns, Builtin.Int.intBits z ≤ 1048576) → ∃ h', g [.cst (ns.map W.int)] [] = .ok (.bl true) h') : FnOk P w K mg base (L2.CX P w) k f fd ps (spL K) := by
  refine F.imp fun vs H Q E hh => ?_
  obtain ⟨a, ns, rfl, hS, hl, hb, hO, hQ⟩ := hh
  obtain ⟨h', e⟩ := hg ns hl hb
  refine ⟨rfl, [], [], [.cst (ns.map W.int)], ⟨rfl, List.nodup_nil, fun i o p z => by cases i <;> cases z⟩, .cons (.cst ?_ (rvs_ints ns)) .nil, ?_⟩
  · rw [hK]
    rcases hS with (z | ⟨o, z⟩) | z
    · rcases hO a with c | ⟨o, xs, c⟩
      · rw [c] at z; cases z
      · rw [c] at z; cases z
    · exact .inl ⟨o, z⟩
    · exact .inr z
  · rw [e]
    intro rho' H' v _ _ rv
    cases rv
    exact hQ H'
theorem walk_J {l : PySem.W.OpenLaw} {k : Nat} {q : Program} {loose : List Str} {XP : (Str → Option Value) → Heap → Prop} {YP : World → Heap → Prop} {d : DefRec} {x : Str}
    (hn : l.most = some 63) (hdf : d.params.defaults = []) (hr : Room k callerA)
    (F : ∀ (w : World) (mg : Str → Option Value) (fa : Addr) (h : Heap), YP w h → h.Ns mainGlobals mg → mg d.name = some (.ref fa) →
      ∃ (K : PySem.W.Frag) (fd : FuncData), K.In h ∧ (∀ (s : Shared) (u : Value), BindsTo s fd ⟨[u], []⟩ [(x, u)]) ∧
        ∀ base : Heap, K.In base → base.Ns mainGlobals mg → FnOk l.prog w K mg base (L2.CX l.prog w) k fa fd [x] (spL K)) :
    PySem.W.WalkO q loose XP YP l.row.toRowW d [] (fun f vs => PySem.call f vs) := by
  refine Att.attach_callB hn hdf fun w s0 s1 mg mb fa o pm cd doc a vs ns G Y ho hd hcd hmg hobj hints hlen hbits hg => ?_
  obtain ⟨K, fd, KX, hb, hF⟩ := F w mg fa _ Y G.T.g hmg
  exact law_call KX G.T.g G.T.b G.T.builtins G.T.nolimit hg hobj hints (Nat.le_trans hlen (by decide)) hr hF hb (fun H hO hS => ⟨a, ns, rfl, hS, hlen, hbits, hO, fun _ => rfl⟩) fun H e s' z => by
    obtain ⟨_, _, _, _, _, _, _, _, _, _, _, _, c⟩ := z
    exact c
end J

namespace J
open PySem PySem.Spec PyProof.Rows L2
section
variable {X : Cx} {S : Sta} {Wx : Wi} {e a b c o : Expr} {es rest : List Expr} {m m1 m2 m3 : Ex} {ms : Ax} {pos p pos' : Pos} {rho : List Addr} {H : Hp} {h : HA}
theorem chain_imp {f f' : W → W → HA → Option (W × HA)} {sg : L2.St} {Q : VK} (q : tE S Wx (eChain f f' m1 m2 m3) sg H Q) : tChain (rA S f) (rA S f') (tE S Wx m1) (tE S Wx m2) (tE S Wx m3) sg H Q := by
    refine tE_bind (k := fun ta x h1 => (m2 ta h1).bind fun y h2 => match f x y h2 with
      | some (.bl true, h3) => (m3 ta h3).bind fun z h4 => ofO (f' y z h4)
      | some (.bl false, h3) => .ok (.bl false) h3
      | _ => .stuck) q fun rho1 H1 ta v1 w1 h1 l1 rs r1 g1 => ?_
    refine ⟨rho1, h1, ta, l1, rs, GE.of_bind g1 fun rho2 H2 v2 w2 h2 ev l2 r2 g2 => ?_⟩
    refine ⟨rho2, h2, w1, w2, l2, r1.mono ev, r2, ?_⟩
    cases z : f w1 w2 h2 with
    | none => rw [z] at g2; exact g2.elim
    | some pr =>
      obtain ⟨d, h3⟩ := pr
      rw [z] at g2
      intro rho3 H3 v3 ev3 l3 r3
      cases d with
      | bl k =>
        cases r3
        refine ⟨k, rfl, ?_⟩
        cases k with
        | true =>
          refine ⟨rho3, h3, ta, l3, rs.mono (ev.trans ev3), GE.of_bind (GE.mono ev3 g2) fun rho4 H4 v4 w4 h4 ev4 l4 r4 g4 => ?_⟩
          exact ⟨rho4, h4, w2, w4, l4, (r2.mono ev3).mono ev4, r4, GO.of g4⟩
        | false => exact g2 rho3 H3 _ ev3 l3 (.bl _)
      | _ => exact g2.elim
theorem de_chain {op op' : CmpOp} {f f' : W → W → HA → Option (W × HA)} (ho : OpR X (compareOp op) (rA S f)) (ho' : OpR X (compareOp op') (rA S f')) (ha : DE S X Wx a m1) (hb : DE S X Wx b m2) (hc : DE S X Wx c m3)
    (hm : lastMarks [op, op'] [b, c] = false := by with_unfolding_all rfl) : DE S X Wx (.Compare a [op, op'] [b, c] pos) (eChain f f' m1 m2 m3) :=
  pe_imp (pe_chain ho ho' ha hb hc hm) fun sg H Q q => chain_imp q
/-! ### comparisons as tests -/
def xTb (m : Ex) : Tx := fun ta h => (m ta h).bind fun x h1 => match x with
  | .bl b => .ok b h1
  | _ => .stuck
theorem xTb_imp {sg : L2.St} {Q : Bool → Hp → Prop} (q : tT S Wx (xTb m) sg H Q) : tE S Wx m sg H fun x H' => ∃ k, x = .bl k ∧ Q k H' :=
  tT_bindE (k := fun _ x h1 => match x with
    | .bl b => .ok b h1
    | _ => .stuck) q fun rho H1 ta v w h l rs r g => by
    cases w with
    | bl b =>
      cases r
      exact ⟨b, rfl, g rho H1 Ev.rfl' l⟩
    | _ => exact g.elim
theorem dt_cmp {op : CmpOp} {o : W → W → HA → Option (W × HA)} (ho : OpR X (compareOp op) (rA S o)) (ha : DE S X Wx a m1) (hb : DE S X Wx b m2) (hm : behindInMarks op b = false := by first | exact nomark _ | rfl) : DT S X Wx (.Compare a [op] [b] pos) (xTb (eOp o m1 m2)) :=
  pt_imp (pt_cmpR ho ha hb hm) fun sg H Q q => two (xTb_imp q) fun rho H x y a b h l rx ry g => ⟨rho, h, a, b, l, rx, ry, GO.of g⟩
theorem dt_chain {op op' : CmpOp} {f f' : W → W → HA → Option (W × HA)} (ho : OpR X (compareOp op) (rA S f)) (ho' : OpR X (compareOp op') (rA S f')) (ha : DE S X Wx a m1) (hb : DE S X Wx b m2) (hc : DE S X Wx c m3)
    (hm : lastMarks [op, op'] [b, c] = false := by with_unfolding_all rfl) : DT S X Wx (.Compare a [op, op'] [b, c] pos) (xTb (eChain f f' m1 m2 m3)) :=
  pt_imp (pt_chain ho ho' ha hb hc hm) fun sg H Q q => chain_imp (xTb_imp q)
theorem dt_eqC {cs : List Nat} {c0 k : Nat} {g : Mir} (K : S.K = X.K) (ck : ∀ c ∈ cs, Ck X.K (S.ca c)) (G : Eqo X.prog X.w X.K X.mg X.base S k cs c0 g) (hr : Room k X.A) (tk : Takes X Wx.wx) (ha : DE S X Wx a m1) (hb : DE S X Wx b m2)
    (hm : behindInMarks .Eq b = false := by first | exact nomark _ | rfl) : DT S X Wx (.Compare a [.Eq] [b] pos) (xTb (eEqC cs c0 g m1 m2)) :=
  pt_imp (pt_cmp (pc_eqC K ck G hr tk ha hb) hm) fun sg H Q q => xTb_imp q
/-! ### list(range(..)) -/
theorem cr_range1 : CallR X (.type "range") (fun vs H Q => ∃ j, vs = [V.int j] ∧ ∀ p, H p = none → Q (.ref p) (upd H p (.rng 0 j))) := by
  intro pins s sg H vs us Q I r q
  obtain ⟨j, rfl, q⟩ := q
  obtain ⟨u1, rfl, ri⟩ := vals1 r
  obtain ⟨t, rfl⟩ := ri
  refine call_range_1 ⟨.ref s.heap.objs.size, upd H s.heap.objs.size (.rng 0 j), I.laid (t' := s.toks + 1 + 1) (fun b o e => Heap.get?_push_of_some _ e) (Nat.le_refl _) ?_, rfl, q _ (I.hok.fresh (Nat.le_refl _))⟩
  exact ⟨s.toks, t, s.toks + 1, Heap.get?_push_size _ rfl⟩
def numV (lo : Int) : Nat → List V
  | 0 => []
  | n + 1 => .int lo :: numV (lo + 1) n
theorem numV_len : ∀ (n : Nat) (lo : Int), (numV lo n).length = n
  | 0, _ => rfl
  | n + 1, lo => by unfold numV; rw [List.length_cons, numV_len n]
theorem num_rv : ∀ (n : Nat) (lo : Int), RVs S rho H (numW lo n) (numV lo n)
  | 0, _ => .nil
  | n + 1, lo => .cons (.int lo) (num_rv n (lo + 1))
theorem num_vals : ∀ (n : Nat) (lo : Int) (us : List Value), us.length = n → (∀ (i : Nat) (v : Value), us[i]? = some v → ∃ t, v = .int (lo + i) t) → Vals (numV lo n) us
  | 0, _, us, hl, _ => by cases us <;> first | exact .nil | cases hl
  | n + 1, lo, [], hl, _ => by cases hl
  | n + 1, lo, u :: us, hl, hv => by
    obtain ⟨t, e⟩ := hv 0 u rfl
    refine .cons ⟨t, by rw [e]; simp⟩ (num_vals n (lo + 1) us (by simpa using hl) fun i v q => ?_)
    obtain ⟨t, e⟩ := hv (i + 1) v (by simpa using q)
    refine ⟨t, ?_⟩
    rw [e]
    congr 1
    omega
theorem call_listR (hc : X.calm = true) : CallR X (.type "list") (fun xs H Q => ∃ (r : Addr) (lo hi : Int), xs = [.ref r] ∧ H r = some (.rng lo hi) ∧ (-(2 ^ 62) ≤ lo ∧ lo < 2 ^ 62 ∧ -(2 ^ 62) ≤ hi ∧ hi < 2 ^ 62) ∧ (hi - lo).toNat ≤ sizeLine ∧ ∀ l, H l = none → Q (.ref l) (upd H l (.lst (numV lo (hi - lo).toNat)))) := by
  intro pins s sg H xs us Q I r q
  obtain ⟨ra, lo, hi, rfl, hr, ⟨c1, c2, c3, c4⟩, hz, q⟩ := q
  obtain ⟨u, rfl, ru⟩ := vals1 r
  obtain rfl : u = Value.ref ra := ru
  obtain ⟨t, u, v, e⟩ := I.hok ra _ hr
  have hsz : Builtin.Range.rangeSize lo hi 1 = (((hi - lo).toNat : Nat) : Int) := by rw [rangeSize_one]; split <;> omega
  rw [sizeLine_eq] at hz
  refine call_list_range (I.ok.hd hc) (show IsRange s.heap ra lo hi 1 t u v from e) (small_one c1 c2 c3 c4) hsz (by omega) fun h' tk acc' c' hk hS hit => ?_
  have hl : acc'.toList.length = (hi - lo).toNat := by rw [Array.length_toList]; exact hit.1
  have rv : Vals (numV lo (hi - lo).toNat) acc'.toList := num_vals _ _ _ hl fun i v q => by
    obtain ⟨t, e⟩ := hit.2 i v (by simpa using q)
    exact ⟨t, by rw [e, Int.mul_one]⟩
  refine ⟨.ref s.heap.objs.size, upd H s.heap.objs.size (.lst (numV lo (hi - lo).toNat)), I.laid (t' := tk) hk (Nat.le_refl _) ?_, rfl, q _ (I.hok.fresh (Nat.le_refl _))⟩
  refine ⟨by rw [numV_len, sizeLine_eq]; exact hz, acc'.toList, c', rv, ?_⟩
  rw [hS]
def eListR (rng : List W → Option (List W)) (ms : Ax) : Ex := fun ta h => (ms ta h).bind fun ws h1 => match rng ws with
  | some xs => if xs.length ≤ sizeLine then .ok (.ref h1.length) (h1 ++ [O.lst xs]) else .stuck
  | none => .stuck
theorem de_listR1 {p2 : Pos} (hc : X.calm = true) (hg : Gl X "list") (hm : X.mg "list" = none) (hg2 : Gl X "range") (hm2 : X.mg "range" = none) (ha : DA S X Wx [a] ms)
    (h1 : starEach [a] X.env = (false, eval a X.env) :: starEach [] X.env := by rfl) (hp1 : (backTo pos' (starEach [] X.env)).any (·.1) = false := by rfl)
    (h2 : starEach (.Call (.Name "range" p2) [a] [] pos' :: []) X.env = (false, eval (.Call (.Name "range" p2) [a] [] pos') X.env) :: starEach [] X.env := by rfl) (hp2 : (backTo pos (starEach [] X.env)).any (·.1) = false := by rfl) :
    DE S X Wx (.Call (.Name "list" p) [.Call (.Name "range" p2) [a] [] pos'] [] pos) (eListR rng1 ms) :=
  pe_imp (pe_callTy (call_listR hc) hg hm PyProof.Rows.boot_list (pa_cons (pe_callTy cr_range1 hg2 hm2 PyProof.Rows.boot_range ha (by decide) (by decide) h1 hp1) pa_nil h2) (by decide) (by decide) h2 hp2) fun sg H Q q =>
    tE_bindA (k := fun ta ws h1 => match rng1 ws with
      | some xs => if xs.length ≤ sizeLine then .ok (.ref h1.length) (h1 ++ [O.lst xs]) else .stuck
      | none => .stuck) q fun rho1 H1 ta v1 w1 h1 l rs r g1 => by
      split at g1
      · rename_i xs e
        unfold rng1 at e
        split at e
        · rename_i j
          split at e
          · rename_i cc
            cases e
            obtain ⟨v, rfl, rv⟩ := RVs_one r
            cases rv
            split at g1
            · rename_i lz
              rw [numW_len] at lz
              refine ⟨j, rfl, fun pr n => ⟨pr, 0, j, rfl, upd_same, ⟨by decide, by decide, cc.1, cc.2⟩, by rw [Int.sub_zero]; exact lz, fun pl nl => ?_⟩⟩
              rw [Int.sub_zero]
              have ev0 : Ev S rho1 H1 rho1 (upd H1 pr (.rng 0 j)) := Ev.lay n
              have l0 := l.lay (o := .rng 0 j) n
              exact g1 _ _ _ (ev0.trans (Ev.new l0 nl)) (l0.new nl (.lst upd_same (num_rv _ _))) (.ref (last_new l0))
            · exact g1.elim
          · cases e
        · cases e
      · exact g1.elim
/-! ### {i: j, k: l} -/
def eDic2 (i j k l : Int) : Ex := fun _ h => .ok (.ref h.length) (h ++ [O.dic [(.inl i, .int j), (.inl k, .int l)]])
theorem de_dic2 {i j k l : Int} {q1 q2 q3 q4 : Pos} {x1 x2 x3 x4} (hik : i ≠ k) : DE S X Wx (.Dict [some (.Constant (.int i) x1 q1), some (.Constant (.int k) x2 q2)] [.Constant (.int j) x3 q3, .Constant (.int l) x4 q4] pos) (eDic2 i j k l) :=
  pe_imp (pe_disp (pps_cons pe_int pe_int (pps_cons pe_int pe_int pps_nil)) rfl rfl (by simp) (by simp)) fun sg H Q q => by
    obtain ⟨rho, h, ta, lr, rs, g⟩ := q
    intro p n
    refine ⟨upd_same, [(.inl i, .int j), (.inl k, .int l)], rfl, by simp, ?_⟩
    have e : mergeK [] [((.inl i : Key), V.int j), (.inl k, .int l)] = [(.inl i, .int j), (.inl k, .int l)] := by
      have hk : ¬ ((Sum.inl i : Key) = .inl k) := fun z => hik (Sum.inl.inj z)
      simp [mergeK, putK, hk]
    rw [e]
    have e2 : upd (upd H p (.dK [])) p (.dK [((.inl i : Key), V.int j), (.inl k, .int l)]) = upd H p (.dK [(.inl i, .int j), (.inl k, .int l)]) := upd_upd
    rw [e2]
    exact g _ _ _ (Ev.new lr n) (lr.new n (.dic upd_same (.cons (.int _) (.cons (.int _) .nil)))) (.ref (last_new lr))
end
end J

namespace J
open PySem PySem.Spec PyProof.Rows L2
/-! ### facts of the written part, decided -/
def oexB (K : PySem.W.Frag) (C : Addr) : Bool := (match K.lookup C with
    | some ⟨.type c, _, .cls cd, sl⟩ => c == "type" && ((match cd.mro with
      | .ref C' :: bm => C' == C && PySem.HandSPX.refsVE bm
      | _ => false) && (cd.hasDict && (!cd.hasDel && (match sl.toList with
      | [_, _, _, _, some (.builtin n), _] => n == "ValueError.__new__"
      | _ => false))))
    | _ => false) && (He.eqO (PySem.W.findIn K (.ref C) "__setattr__") (some (some (.builtin "object.__setattr__"))) && (decide (PySem.W.subIn K (.ref C) (.type "BaseException") = some true) && (decide (PySem.W.typeIn K (.ref C) = some (.type "type")) && PySem.W.keepIn K (.ref C))))
theorem oexB_ok {K : PySem.W.Frag} {C : Addr} (h : oexB K C = true) : OexC K C := by
  unfold oexB at h
  obtain ⟨h1, h⟩ := He.ba h
  obtain ⟨h2, h⟩ := He.ba h
  obtain ⟨h3, h⟩ := He.ba h
  obtain ⟨h4, h5⟩ := He.ba h
  refine ⟨?_, He.eqO_ok h2, of_decide_eq_true h3, of_decide_eq_true h4, h5⟩
  split at h1
  · rename_i c dd cd sl ho
    obtain ⟨e1, h1⟩ := He.ba h1
    obtain ⟨e2, h1⟩ := He.ba h1
    obtain ⟨e3, h1⟩ := He.ba h1
    obtain ⟨e4, e5⟩ := He.ba h1
    obtain ⟨nm, bs, mro, ns, q, hd, sn, sub, ab, col, del⟩ := cd
    dsimp only at e2 e3 e4
    cases mro with
    | nil => cases e2
    | cons v bm =>
      obtain ⟨C', rfl⟩ : ∃ C', v = .ref C' := by
        cases v <;> first | exact ⟨_, rfl⟩ | cases e2
      obtain ⟨f1, f2⟩ := He.ba e2
      have g1 : c = "type" := beq_iff_eq.mp e1
      have g2 : C' = C := beq_iff_eq.mp f1
      have g3 : hd = true := e3
      have g4 : del = false := by
        cases del with
        | false => rfl
        | true => cases e4
      subst g1 g2 g3 g4
      split at e5
      · rename_i k0 k1 k2 k3 n k5 hs
        have g5 : n = "ValueError.__new__" := beq_iff_eq.mp e5
        subst g5
        have hsl : sl = #[k0, k1, k2, k3, some (.builtin "ValueError.__new__"), k5] := by
          have := congrArg List.toArray hs
          simpa using this
        subst hsl
        exact ⟨nm, q, ns, bs, bm, sn, sub, ab, col, dd, k0, k1, k2, k3, k5, ho, f2⟩
      · cases e5
  · cases h1
def ckB (K : PySem.W.Frag) (C : Addr) : Bool := He.eqO (PySem.W.findIn K (.ref C) "__class__") (some (some (.builtin "object.__class__"))) &&
  (He.eqO (PySem.W.specialIn K (.builtin "object.__class__") "__get__") (some (some (.builtin "getset_descriptor.__get__"))) && (decide (PySem.W.takesIn K (.builtin "object.__class__") = some true) && decide (PySem.W.mroIn K C (.type "object") = some true)))
theorem ckB_ok {K : PySem.W.Frag} {C : Addr} (c : Cls K C) (h : ckB K C = true) : Ck K C := by
  obtain ⟨h1, h⟩ := He.ba h
  obtain ⟨h2, h⟩ := He.ba h
  obtain ⟨h3, h4⟩ := He.ba h
  exact ⟨c, He.eqO_ok h1, He.eqO_ok h2, of_decide_eq_true h3, of_decide_eq_true h4⟩
/-- the tags of the built-in kinds -/
def tgs : List Tg := [.non, .bl, .int, .str, .tup, .lst, .dic]
theorem tgs_all {p : Tg → Bool} (h : tgs.all p = true) (g : Tg) (hg : ∀ c, g ≠ .ins c) : p g = true := by
  have := List.all_eq_true.mp h
  cases g with
  | ins c => exact absurd rfl (hg c)
  | _ => exact this _ (by simp [tgs])
def rightB (K : PySem.W.Frag) (S : Sta) (cs : List Nat) (C : Addr) : Bool := tgs.all (fun g => PySem.W.notFirst K C (tgV S g)) && cs.all fun c => PySem.W.notFirst K C (.ref (S.ca c))
theorem rightB_ok {K : PySem.W.Frag} {S : Sta} {cs : List Nat} {C : Addr} (h : rightB K S cs C = true) : rightOk K S cs C := fun g hg => by
  obtain ⟨h1, h2⟩ := He.ba h
  cases g with
  | ins c => exact List.all_eq_true.mp h2 c (hg c rfl)
  | _ => exact tgs_all (p := fun g => PySem.W.notFirst K C (tgV S g)) h1 _ (fun c z => by cases z)
/-- isinstance of an own class: cs the classes looked at, su those below it -/
def isOwn (cs su : List Nat) : Tg → Option Bool
  | .ins c => if c ∈ cs then some (decide (c ∈ su)) else none
  | _ => some false
def ownB (K : PySem.W.Frag) (S : Sta) (cs su : List Nat) (C : Addr) : Bool := tgs.all (fun g => decide (PySem.W.kitOne K (tgV S g) (.ref C) = some false)) && cs.all fun c => decide (PySem.W.kitOne K (.ref (S.ca c)) (.ref C) = some (decide (c ∈ su)))
theorem ownB_ok {K : PySem.W.Frag} {S : Sta} {cs su : List Nat} {C : Addr} (h : ownB K S cs su C = true) : ∀ g b, isOwn cs su g = some b → PySem.W.kitOne K (tgV S g) (.ref C) = some b := fun g b e => by
  obtain ⟨h1, h2⟩ := He.ba h
  have key : ∀ g : Tg, (∀ c, g ≠ .ins c) → PySem.W.kitOne K (tgV S g) (.ref C) = some false := fun g hg => of_decide_eq_true (tgs_all (p := fun g => decide (PySem.W.kitOne K (tgV S g) (.ref C) = some false)) h1 g hg)
  cases g with
  | ins c =>
    have e1 : (if c ∈ cs then some (decide (c ∈ su)) else none) = some b := e
    by_cases hc : c ∈ cs
    · rw [if_pos hc] at e1
      rw [← Option.some.inj e1]
      exact of_decide_eq_true (List.all_eq_true.mp h2 c hc)
    · rw [if_neg hc] at e1
      exact absurd e1 (by simp)
  | _ =>
    cases e
    exact key _ (fun c z => by cases z)
/-- a list of facts, each by its place -/
abbrev Exs : Type := List (PySem.W.Frag → Bool)
def exAll (l : Exs) (K : PySem.W.Frag) : Bool := l.all fun f => f K
theorem ex_at {l : Exs} {K : PySem.W.Frag} (h : exAll l K = true) (i : Nat) {f : PySem.W.Frag → Bool} (e : l[i]? = some f := by rfl) : f K = true := List.all_eq_true.mp h f (List.mem_of_getElem? e)
theorem no_mem {α : Type} {p : α → Prop} : ∀ c ∈ ([] : List α), p c := fun _ h => nomatch h
theorem mem_cons' {α : Type} {p : α → Prop} {a : α} {l : List α} (h : p a) (k : ∀ c ∈ l, p c) : ∀ c ∈ a :: l, p c := fun c hc => by
  rcases List.mem_cons.mp hc with rfl | hc
  · exact h
  · exact k c hc
theorem lookup_mem' {β : Type} {c : Nat} {b : β} : ∀ {l : List (Nat × β)}, l.lookup c = some b → (c, b) ∈ l
  | [], h => by cases h
  | (d, u) :: r, h => by
    rw [List.lookup_cons] at h
    cases q : (c == d) with
    | true =>
      rw [q] at h
      rw [← Option.some.inj h, beq_iff_eq.mp q]
      exact List.mem_cons_self
    | false =>
      rw [q] at h
      exact List.mem_cons_of_mem _ (lookup_mem' h)
/-- which classes an except clause takes -/
def mtB (K : PySem.W.Frag) (S : Sta) (l : List (Nat × Bool)) (C : Addr) : Bool := l.all fun p => decide (PySem.W.exmOne K (.ref (S.ca p.1)) (.ref C) = some p.2)
theorem mtB_ok {K : PySem.W.Frag} {S : Sta} {l : List (Nat × Bool)} {C : Addr} (h : mtB K S l C = true) : ∀ c b, l.lookup c = some b → PySem.W.exmOne K (.ref (S.ca c)) (.ref C) = some b := fun c b e =>
  of_decide_eq_true (List.all_eq_true.mp h (c, b) (lookup_mem' e))
/-- promises of fewer levels -/
theorem tk0 {X : Cx} : Takes X (W0).wx := fun u s' x => by
  obtain ⟨_, _, _, _, _, _, _, _, _, _, _, _, _, _, _, _, z⟩ := x
  exact z.elim
theorem FnM.up {P : Program} {w : World} {K : PySem.W.Frag} {mg : Str → Option Value} {base : Heap} {S : Sta} {k k' : Nat} {f : Addr} {n : Nat} {g : Mir} {ds : List W} (h : FnM P w K mg base S k f n g ds) (hk : k ≤ k') : FnM P w K mg base S k' f n g ds := by
  obtain ⟨fd, ps, dus, dvs, hp, F, hb, hd, hR⟩ := h.ex
  exact ⟨fd, ps, dus, dvs, hp, F.mono hk, hb, hd, hR⟩
end J

namespace J
open PySem PySem.Spec PyProof.Rows L2
section
variable {X : Cx} {S : Sta} {Wx : Wi} {e a b c o : Expr} {es rest : List Expr} {m m1 m2 m3 : Ex} {ms : Ax} {pos p pos' : Pos} {rho : List Addr} {H : Hp} {h : HA}
/-! ### max, min of two -/
def fMax2 : List W → HA → Option (W × HA) := fun xs h => match xs with
  | [.int i, .int j] => some (.int (if j > i then j else i), h)
  | _ => none
theorem ok_max2 (hc : X.calm = true) : CallR X (.builtin "max") (rAs S fMax2) := by
  refine clr_imp (call_max2 hc) fun xs H Q q => ?_
  obtain ⟨rho, h, as, l, r, g⟩ := q
  unfold fMax2 at g
  split at g
  · obtain ⟨v1, v2, rfl, r1, r2⟩ := RVs_two r
    cases r1
    cases r2
    exact ⟨_, _, rfl, GO.here g l (.int _)⟩
  · exact g.elim
def fMin2 : List W → HA → Option (W × HA) := fun xs h => match xs with
  | [.int i, .int j] => some (.int (if j < i then j else i), h)
  | _ => none
theorem ok_min2 (hc : X.calm = true) : CallR X (.builtin "min") (rAs S fMin2) := by
  refine clr_imp (call_min2 hc) fun xs H Q q => ?_
  obtain ⟨rho, h, as, l, r, g⟩ := q
  unfold fMin2 at g
  split at g
  · obtain ⟨v1, v2, rfl, r1, r2⟩ := RVs_two r
    cases r1
    cases r2
    exact ⟨_, _, rfl, GO.here g l (.int _)⟩
  · exact g.elim
/-! ### in, not in: data of any depth -/
def rInT (K : PySem.W.Frag) : R2 := fun x y H Q => ∃ d ds, Dp K H x d ∧ Dp K H y (.tuple ds) ∧ SeqAt.shaped d = true ∧ SeqAt.shaped (.tuple ds) = true ∧ Q (.bl (ds.any fun z => PyData.eqv z d)) H
def rNotInT (K : PySem.W.Frag) : R2 := fun x y H Q => ∃ d ds, Dp K H x d ∧ Dp K H y (.tuple ds) ∧ SeqAt.shaped d = true ∧ SeqAt.shaped (.tuple ds) = true ∧ Q (.bl (!ds.any fun z => PyData.eqv z d)) H
theorem op_inT (hu : X.A.units + 65 < cLine) : OpR X (compareOp .In) (rInT X.K) := by
  intro pins s sg H x y v u Q I rx ry h
  obtain ⟨d, ds, hd, he, sd, se, q⟩ := h
  obtain ⟨as, r1⟩ := Dp.reads I d x v hd rx
  obtain ⟨bs, r2⟩ := Dp.reads I (.tuple ds) y u he ry
  exact SeqAt.in_tuple_reads r2 r1 (SeqAt.canLay_of_shaped se) (SeqAt.canLay_of_shaped sd) (room_in_shaped sd hu) ⟨.bl _, H, I, rfl, q⟩
theorem op_notInT (hu : X.A.units + 65 < cLine) : OpR X (compareOp .NotIn) (rNotInT X.K) := by
  intro pins s sg H x y v u Q I rx ry h
  obtain ⟨d, ds, hd, he, sd, se, q⟩ := h
  obtain ⟨as, r1⟩ := Dp.reads I d x v hd rx
  obtain ⟨bs, r2⟩ := Dp.reads I (.tuple ds) y u he ry
  exact SeqAt.notIn_tuple_reads r2 r1 (SeqAt.canLay_of_shaped se) (SeqAt.canLay_of_shaped sd) (room_in_shaped sd hu) ⟨.bl _, H, I, rfl, q⟩
def inD (x y : W) (h : HA) : Option Bool := match toD 9 h x, toD 9 h y with
  | some d, some (.list ds) => if SeqAt.shaped d = true ∧ SeqAt.shaped (.list ds) = true then some (ds.any fun z => PyData.eqv z d) else none
  | some d, some (.tuple ds) => if SeqAt.shaped d = true ∧ SeqAt.shaped (.tuple ds) = true then some (ds.any fun z => PyData.eqv z d) else none
  | _, _ => none
def oIn : W → W → HA → Option (W × HA) := fun x y h => (inD x y h).map fun b => (.bl b, h)
def oNotIn : W → W → HA → Option (W × HA) := fun x y h => (inD x y h).map fun b => (.bl (!b), h)
theorem ok_in (K : S.K = X.K) (hu : X.A.units + 65 < cLine) : OpR X (compareOp .In) (rA S oIn) := by
  refine opr_imp (opr_or (op_inD hu) (op_inT hu)) fun x y H Q q => ?_
  obtain ⟨rho, h, a, b, l, rx, ry, g⟩ := q
  unfold oIn inD at g
  split at g
  · rename_i d ds e1 e2
    split at g
    · rename_i c
      exact .inl ⟨d, ds, dp_of K l _ _ _ _ rx e1, dp_of K l _ _ _ _ ry e2, c.1, c.2, GO.here g l (.bl _)⟩
    · exact g.elim
  · rename_i d ds e1 e2
    split at g
    · rename_i c
      exact .inr ⟨d, ds, dp_of K l _ _ _ _ rx e1, dp_of K l _ _ _ _ ry e2, c.1, c.2, GO.here g l (.bl _)⟩
    · exact g.elim
  · exact g.elim
theorem ok_notIn (K : S.K = X.K) (hu : X.A.units + 65 < cLine) : OpR X (compareOp .NotIn) (rA S oNotIn) := by
  refine opr_imp (opr_or (op_notInD hu) (op_notInT hu)) fun x y H Q q => ?_
  obtain ⟨rho, h, a, b, l, rx, ry, g⟩ := q
  unfold oNotIn inD at g
  split at g
  · rename_i d ds e1 e2
    split at g
    · rename_i c
      exact .inl ⟨d, ds, dp_of K l _ _ _ _ rx e1, dp_of K l _ _ _ _ ry e2, c.1, c.2, GO.here g l (.bl _)⟩
    · exact g.elim
  · rename_i d ds e1 e2
    split at g
    · rename_i c
      exact .inr ⟨d, ds, dp_of K l _ _ _ _ rx e1, dp_of K l _ _ _ _ ry e2, c.1, c.2, GO.here g l (.bl _)⟩
    · exact g.elim
  · exact g.elim
theorem L2Room65 {k : Nat} {A : Around} (r : Room k A) : A.units + 65 < cLine := by have := r.un; omega
end
end J

namespace J
open PySem PySem.Spec PyProof.Rows L2
section
variable {X : Cx} {S : Sta} {Wx : Wi} {pos : Pos}
/-- {} -/
def eDic0 : Ex := fun _ h => .ok (.ref h.length) (h ++ [O.dic []])
theorem de_dic0 : DE S X Wx (.Dict [] [] pos) eDic0 :=
  pe_imp pe_dnewK fun sg H Q q => by
    obtain ⟨rho, h, ta, l, r, g⟩ := q
    intro p n
    exact g _ _ _ (Ev.new l n) (l.new n (.dic upd_same .nil)) (.ref (last_new l))
/-- a def with defaults, all arguments written -/
theorem binds_full {K : PySem.W.Frag} {x qual : Str} {params : Arguments} {body : List Stmt} {scope : Scope} {dvs : List V} {f : Addr} {fd : FuncData} {ps : List Str} (F : FunD K x qual params body scope dvs [] f fd) (hd : dvs ≠ [])
    (h : ∀ (T : Addr) (kV doc pm : Value) (an : Option Addr) (cdv ct : Value) (us its : List Value), us.length = ps.length → its.length = dvs.length →
      ∃ k, bindArgs (PySem.W.fnOf x qual params body scope (.ref T) kV doc pm an cdv ct) ⟨us, []⟩ = seqItems? (.ref T) >>= k ∧ k (some its.toArray) = pure (ps.zip us)) : Binds K fd ps [] := by
  obtain ⟨ds, v, b⟩ := F.binds1 (ps := ps) ps.length dvs.length hd (by rw [Nat.sub_self, Nat.add_zero]) fun T kV doc pm an cdv ct us its h1 h2 => by
    obtain ⟨k, e1, e2⟩ := h T kV doc pm an cdv ct us its h1 h2
    refine ⟨k, e1, ?_⟩
    rw [e2, ← h2, List.drop_length, List.append_nil]
  rw [List.drop_length] at v
  cases v
  exact b
theorem fnm_ofD {P : Program} {w : World} {K : PySem.W.Frag} {mg : Str → Option Value} {base : Heap} {x qual : Str} {st : Stmt} {dfl : List V} {f : Addr} {fd : FuncData} {N ps : List Str} {k n : Nat} {b : Sx} (F : FunD K x qual (defArgs st) (defBody st) (defScope st) dfl [] f fd) (Sc : FnScope N ps (defScope st)) (hn : ps.length = n) (hb : Binds K fd ps [])
    (hbody : ∀ (cdv : Value) (A : Around) (outer : List Env) (s : Shared) (H : Hp) (E : XK), Room k (A.deeper (envOfC qual (defScope st) s.heap.objs.size f cdv)) → DB S (Bx P w K mg base N qual st f cdv A outer s H E) (wishX E) (defBody st) b) :
    FnM P w K mg base S (k + 1) f n (runB b N.length) [] := ⟨fd, ps, [], [], hn, fnok_of F Sc hn hbody, hb, .nil, fun _ _ => .nil⟩
/-- a * b: ints; a list as often -/
def qMul : W → W → HA → Option (W × HA) := fun x y h => match x, y with
  | .int i, .int j => if mulOk i j = true then some (.int (i * j), h) else none
  | .ref a, .int k => (match h[a]? with
    | some (.lst xs) => if -(2 ^ 63) ≤ k ∧ k < 2 ^ 63 ∧ xs.length * k.toNat ≤ sizeLine then some (.ref h.length, h ++ [.lst ((List.replicate k.toNat xs).flatten)]) else none
    | _ => none)
  | _, _ => none
theorem RVs_rep {S : Sta} {rho : List Addr} {H : Hp} {xs : List W} {ys : List V} (r : RVs S rho H xs ys) : ∀ n, RVs S rho H (List.replicate n xs).flatten (List.replicate n ys).flatten
  | 0 => .nil
  | n + 1 => by
    rw [List.replicate_succ, List.replicate_succ, List.flatten_cons, List.flatten_cons]
    exact r.append (RVs_rep r n)
theorem ok_qMul (K : S.K = X.K) : OpR X (binaryOp .Mult) (rA S qMul) := by
  refine opr_imp (opr_or (ok_mul (S := S)) op_rep) fun x y H Q q => ?_
  obtain ⟨rho, h, a, b, l, rx, ry, g⟩ := q
  unfold qMul at g
  split at g
  · rename_i i j
    refine .inl ⟨rho, h, .int i, .int j, l, rx, ry, ?_⟩
    unfold oMul oI
    dsimp only
    split at g
    · rename_i c
      rw [if_pos c]
      exact g
    · exact g.elim
  · rename_i a k
    split at g
    · rename_i xs e
      split at g
      · rename_i c
        obtain ⟨p, rfl, hp⟩ := refOf rx
        obtain ⟨ys, d1, r1⟩ := lst_of l hp e
        cases ry
        refine .inr ⟨p, k, ys, rfl, rfl, d1, c.1, c.2.1, by rw [← r1.length]; exact c.2.2, fun q n => ?_⟩
        exact GO.lstN g l (RVs_rep r1 _) n
      · exact g.elim
    · exact g.elim
  · exact g.elim
end
end J

/-! super().__init__(text) in the __init__ of an own exception below ValueError -/
namespace J
open PySem PySem.Spec PyProof.Rows L2 NdefX
/-- an __init__ with the cell __class__: it stands in the class D; its file is fl -/
structure SupF (K : PySem.W.Frag) (D : Addr) (x qual : Str) (st : Stmt) (f : Addr) (fd : FuncData) (fl : Str) : Prop where
  ex : ∃ (oc : Value) (od : Option Addr) (doc pm : Value) (an : Option Addr) (cda cc : Addr) (ct : Value) (osl : Array (Option Value)),
    fd = PySem.W.fnX x qual (defArgs st) (defBody st) (defScope st) [("__class__", cc)] .none .none doc pm an (.ref cda) ct ∧ K.lookup f = some ⟨oc, od, .func fd, osl⟩ ∧ PySem.W.codeIn K (.ref cda) qual = true ∧
    (∃ (ccl : Value) (cdd : Option Addr) (vs : Array Value) (ccs : Array (Option Value)) (tf : Tok), K.lookup cda = some ⟨ccl, cdd, .fields vs, ccs⟩ ∧ vs[2]? = some (.str fl tf)) ∧
    ∃ (cl : Value) (cld : Option Addr) (csl : Array (Option Value)), K.lookup cc = some ⟨cl, cld, .cell (some (.ref D)), csl⟩
  cls : ∃ cd, PySem.W.clsIn K D = some cd
  sup : PySem.W.nsIn K mainGlobals "super" = some none
  opq : PySem.W.nsIn K cStatics "thirdparty.any" = some none
/-- what the class C of the instance says -/
structure SupI (K : PySem.W.Frag) (C D : Addr) : Prop where
  sub : PySem.W.mroIn K C (.ref D) = some true
  ini : PySem.W.ks_superIn K C D "__init__" = some (some (.builtin "ValueError.__init__"))
  ve : PySem.W.subIn K (.ref C) (.type "ValueError") = some true
section
variable {P : Program} {w : World} {K : PySem.W.Frag} {mg : Str → Option Value} {base : Heap} {C D : Addr} {qual fl : Str} {st : Stmt} {f : Addr} {fd : FuncData}
theorem sup_call {A : Around} {E : Value → Shared → Prop} {s : Shared} {u e t1 : Addr} {rest : List Value} {Q : Value → Shared → Prop} (T : OexC K C) (KX : K.In s.heap)
    (hu : s.heap.get? u = some (PySem.W.kxs_mw "ValueError.__init__" e)) (he : s.heap.get? e = some ({ cls := .ref C, dict := none, data := .fields #[.ref t1, .none, .none, .none, .bool false, .none] } : Obj)) (hrest : rest.length ≤ sizeLine)
    (hq : ∀ h' t2, (∀ b o, b ≠ e → s.heap.get? b = some o → h'.get? b = some o) → h'.get? e = some ({ cls := .ref C, dict := none, data := .fields #[.ref t2, .none, .none, .none, .bool false, .none] } : Obj) → Q .none { s with heap := h' }) :
    wpAny (model P w) A (call (.ref u) rest) Q E s := by
  obtain ⟨nm, q, N, bs, bm, sn, sub, ab, col, dd, k0, k1, k2, k3, k5, hC, hbm⟩ := T.cls
  have hC' := KX _ _ hC
  obtain ⟨hh, g, d, tk, os⟩ := s
  refine wpAny_call (codeAny_of_tree ?_)
  show wpAny _ A.in1 (callAny (.ref u) ⟨rest, []⟩) _ _ _
  simp only [callAny]
  refine wpAny_bind (wpAny_load hu ?_)
  simp only [PySem.W.kxs_mw, show (Value.type "method-wrapper" == Value.type "method" || Value.type "method-wrapper" == Value.type "builtin_function_or_method" || Value.type "method-wrapper" == Value.type "method-wrapper") = true by decide, if_true]
  refine PySem.W.KFB.if_so (by decide) ?_
  refine wpAny_bind (PySem.W.check_bound_init F.excBase_ValueError.toExcCallFacts hC' he rfl ?_)
  refine wpAny_bind (wpAny_pure (wpAny_pure ?_))
  refine ⟨plainId_quiet F.excBase_ValueError.init.plain _, codeAny_builtin F.excBase_ValueError.initEntry ?_⟩
  refine PySem.W.exc_init_tree (cls := .ref C) (t0 := t1) (dv := none) (c2 := .none) (c3 := .none) (b4 := .bool false) he hrest fun h' k e' _ => ?_
  exact hq h' _ k e'
/-- THE RULE: such an __init__ by the rest of its body -/
theorem fn_sup {N ps xs : List Str} {z : Str} {j : Nat} {p0 p1 p2 p3 p4 p5 : Pos} {rest : List Stmt} {k : Nat} (F : SupF K D "__init__" qual st f fd fl) (I : SupI K C D) (Sc : NScope N ps ["__class__"] (defScope st)) (hps : ps[0]? = some ("self" : Str))
    (har : ∃ ar, ((defArgs st).posonlyargs ++ (defArgs st).args).head? = some ar ∧ ar.arg = "self") (T : OexC K C) (hfl : ((P.main.file : Str) == fl) = true) (htop : (P.main.scope.names.lookup ("super" : Str)).isSome = false) (hmg : mg "super" = none)
    (hb : defBody st = .Expr (.Call (.Attribute (.Call (.Name "super" p0) [] [] p1) "__init__" p2) [.Constant (.str z) j p3] [] p4) p5 :: rest) (hks : (defScope st).names.lookup ("super" : Str) = some .globalImplicit) (hlen : xs.length + 1 = ps.length)
    (he : ∀ env : Env, ∃ pl : Sem Bool, eval (.Call (.Attribute (.Call (.Name "super" p0) [] [] p1) "__init__" p2) [.Constant (.str z) j p3] [] p4) env = (do
      let ov ← attributeBase (.Call (.Name "super" p0) [] [] p1) "__init__" env (eval (.Call (.Name "super" p0) [] [] p1) env)
      standAt p2.atName
      let (f, first) ← holding [ov] (getMethod ov "__init__" pl)
      callWith p4 f first (backTo p4 (starEach [.Constant (.str z) j p3] env)) []))
    (hrest : ∀ (F' : NF) (A : Around) (outer : List Env) (s : Shared) (H : Hp) (vs : List V) (Q : VK) (E : XK), F'.scope = defScope st → Room k (A.deeper (envF F' f s.heap.objs.size)) → spI C xs vs H Q E →
      ∃ t, PSs (ncx (L2.CX P w) P w K mg base N F' f A outer s H E) rest t ∧ t { nx := fun _ H' => Q .non H', rt := Q } (startF N vs [none]) H) : FnOk P w K mg base (L2.CX P w) (k + 1) f fd ps (spI C xs) := by
  obtain ⟨oc, od, doc, pm, an, cda, cc, ct, osl, rfl, lk, hcd, ⟨ccl, cdd, vs0, ccs, tf, hcode, hvs⟩, cl, cld, csl, hcell⟩ := F.ex
  obtain ⟨cdD, hD⟩ := F.cls
  have hl : ∀ vs H Q E, spI C xs vs H Q E → vs.length = ps.length := by
    rintro vs H Q E ⟨a, ws, rfl, h, _⟩
    simp only [List.length_cons]
    omega
  refine ⟨hl, fun A outer s H args us vs Q E hr e0 hb' r hsp => ?_⟩
  have hlv := hl _ _ _ _ hsp
  have KX : K.In s.heap := e0.mod.kin.keeps fun b o e => (e0.bs b o e).1
  have lim : s.heap.NoLimit := e0.mod.nolimit.keeps fun b o e => (e0.bs b o e).1
  refine codeAny_call_function hr.depth (KX _ _ lk) rfl Sc.co Sc.gen rfl (PySem.W.codeRec_of KX hcd) (hb' _ _ _ _ ?_)
  refine wpAny_newFunctionEnv Sc.nocell (fun ⟨n, _⟩ hy => Sc.par n (List.of_mem_zip hy).1) (fun h₁ hns hsb => ⟨lim.fresh _ hsb, ?_⟩) Sc.kind
  obtain ⟨F', eF⟩ : ∃ F' : NF, F' = ⟨"__init__", qual, defArgs st, defBody st, defScope st, [("__class__", cc)], cda⟩ := ⟨_, rfl⟩
  have eEnv : callEnv (PySem.W.fnX "__init__" qual (defArgs st) (defBody st) (defScope st) [("__class__", cc)] .none .none doc pm an (.ref cda) ct) s.heap.objs.size f = envF F' f s.heap.objs.size := by rw [eF]; rfl
  show codeAny _ _ (.func (defBody st) (callEnv (PySem.W.fnX "__init__" qual (defArgs st) (defBody st) (defScope st) [("__class__", cc)] .none .none doc pm an (.ref cda) ct) s.heap.objs.size f)) _ _
  rw [eEnv]
  refine ks_codeAny_funcAt ?_
  have kp : ∀ b o, s.heap.get? b = some o → h₁.get? b = some o := fun b o e => hsb.extBut b o (Nat.ne_of_lt (Heap.lt_size e)) (Heap.get?_push_of_some _ e)
  have hcB := e0.bs _ _ (e0.mod.kin _ _ hcell)
  have Cat : CellsAt F'.cl ["__class__"] [none] s.heap H := by
    rw [eF]
    have lk1 : ∀ (y : Str) (c : Addr), ([("__class__", cc)] : List (Str × Addr)).lookup y = some c → y = "__class__" ∧ c = cc := fun y c e => by
      simp only [List.lookup] at e
      split at e
      · rename_i h
        cases e
        exact ⟨by simpa using h, rfl⟩
      · cases e
    refine ⟨rfl, fun y c e => ?_, fun x y c e1 e2 => ?_, fun i y e => ?_⟩
    · obtain ⟨_, rfl⟩ := lk1 y c e
      exact ⟨hcB.2, _, _, hcB.1, rfl⟩
    · rw [(lk1 x c e1).1, (lk1 y c e2).1]
    · match i, e with
      | 0, e => cases e; exact ⟨cc, rfl, fun v q => by simp at q⟩
      | i + 1, e => simp at e
  have I1 : Inv (ncx (L2.CX P w) P w K mg base N F' f A outer s H E) [] (startF N vs [none]) H { s with heap := h₁, toks := s.toks + (ps.zip us).length } := inv_startN (F := F') (by rw [eF]; exact Sc) hr.hd e0 hlv r Cat hns kp
  obtain ⟨t, ht, hq⟩ := hrest F' A outer s H vs Q E (by rw [eF]) (hr.deeper _) hsp
  obtain ⟨a, ws, rfl, hw, ha, kk⟩ := hsp
  revert I1
  generalize ({ s with heap := h₁, toks := s.toks + (ps.zip us).length } : Shared) = s1
  intro I1
  rw [hb]
  have X1 := I1.kIn
  have hN0 : N[0]? = some ("self" : Str) := by
    have h := congrArg (fun l => l[0]?) Sc.pre
    simp only [List.getElem?_take, List.getElem?_append] at h
    have h1 : 0 < ps.length := by omega
    rw [if_pos (by simp), if_pos h1, hps] at h
    exact h
  obtain ⟨m, hnm, hlook⟩ := I1.loc
  have hself : (defScope st).names.lookup ("self" : Str) = some .local := Sc.par _ (List.mem_of_getElem? hps)
  have hms : m "self" = some (.ref a) := by
    obtain ⟨u, ru, lu⟩ := hlook 0 "self" (.ref a) hN0 (by simp [startF]) (.inl (by show F'.scope.names.lookup _ = _; rw [eF]; exact hself))
    cases (show u = Value.ref a from ru)
    rcases lu with ⟨_, q⟩ | ⟨q, _⟩
    · exact q
    · have q' : (F'.scope.names.lookup ("self" : Str)) = some .cell ∨ (F'.scope.names.lookup ("self" : Str)) = some .free := q
      rw [eF] at q'
      rcases q' with q' | q' <;> rw [hself] at q' <;> cases q'
  obtain ⟨t1, ho⟩ := exo_at I1.hok (C := C) (d := none) ha
  refine ks_wpAt_execs_cons (ks_wpAt_Expr_any ?_ I1.quiet (by rfl))
  obtain ⟨pl, hpl⟩ := he (envF F' f s.heap.objs.size)
  refine ks_wpAt_MethodCall (pl := pl) ?_ hpl
  obtain ⟨ar, har1, har2⟩ := har
  have kfree : (envF F' f s.heap.objs.size).kindOf "__class__" = some .free := by show F'.scope.names.lookup _ = _; rw [eF]; exact Sc.frk _ (by simp)
  have ksup : (envF F' f s.heap.objs.size).kindOf "super" = some .globalImplicit := by show F'.scope.names.lookup _ = _; rw [eF]; exact hks
  have kself : (envF F' f s.heap.objs.size).kindOf "self" = some .local := by show F'.scope.names.lookup _ = _; rw [eF]; exact hself
  have kk1 : (envF F' f s.heap.objs.size).scope.kind = .function := by show F'.scope.kind = _; rw [eF]; exact Sc.kind
  obtain ⟨oD, hD1, hD2⟩ : ∃ oD, s1.heap.get? D = some oD ∧ oD.data = .cls cdD := by
    unfold PySem.W.clsIn at hD
    split at hD
    · rename_i c d cd' sl ho'
      cases hD
      exact ⟨_, X1 _ _ ho', rfl⟩
    · cases hD
  refine ks_wpAt_super_base (env := envF F' f s.heap.objs.size) (f := f) (cc := cda) ksup kfree rfl rfl (X1 _ _ lk) rfl har1 (by rw [eF]) (X1 _ _ hcode) rfl hvs hfl htop ?_
  obtain ⟨mb, hm1, hm2⟩ := I1.mod.blt
  refine PySem.W.ks_loadName_global kk1 ksup (Calls.loadGlobal_builtin (by exact I1.mod.glob.keeps I1.bk) hmg (by exact hm1.keeps I1.bk) ((hm2 "super" (by decide)).trans (by decide +kernel : bootBuiltins "super" = some (.type "super"))) ⟨rfl, ?_⟩)
  refine wpAny_loadName_free (c := cc) (v := .ref D) kk1 kfree (by rw [eF]; rfl) ⟨_, X1 _ _ hcell, rfl⟩ ?_
  rw [har2]
  refine wpAny_loadName_local kk1 kself hnm hms ?_
  obtain ⟨hh, g, d, tk, os⟩ := s1
  refine ks_wpAny_isType_cls hD1 hD2 ⟨rfl, ?_⟩
  refine ks_wpAny_call_super hD1 hD2 ho rfl (fun c e => by cases e) (PySem.W.looks_mroIn X1 I.sub) fun h2 e2 k2 => ?_
  -- the method-wrapper
  have I2 : Inv (ncx (L2.CX P w) P w K mg base N F' f A outer s H E) [] (startF N (.ref a :: ws) [none]) H ⟨h2, g, d, tk, os⟩ := I1.kept (t' := tk) k2
  have X2 := I2.kIn
  obtain ⟨t2, ho2⟩ := exo_at I2.hok (C := C) (d := none) ha
  have IA : PySem.W.InstAt h2 a _ C none := ⟨ho2, rfl, rfl, trivial⟩
  have hI : PySem.W.Looks (model P w) h2 (isInstance (.ref a) (.type "ValueError")) true := IA.type.andThen (PySem.W.looks_subIn X2 I.ve)
  have hini := I.ini
  cases hc : PySem.W.clsIn K C with
  | none => unfold PySem.W.ks_superIn at hini; rw [hc] at hini; cases hini
  | some cd =>
    unfold PySem.W.ks_superIn at hini
    rw [hc] at hini
    refine PySem.W.kxs_getMethod PySem.W.kxs_ValueError (so := hh.objs.size) (D := D) (x := a) (C := C) e2 (PySem.W.looks_opaque X2 F.opq) (l₀ := cd.mro) (fun A Q E s k q => wpAny_bind ((PySem.W.looks_clsIn X2 hc) A _ E s k (wpAny_pure q))) rfl X2 hini hI (PySem.W.ks_ne X2 IA hc) rfl ?_
    have k3 : ∀ b o, h2.get? b = some o → (h2.push (PySem.W.kxs_mw "ValueError.__init__" a)).get? b = some o := fun b o e => Heap.get?_push_of_some _ e
    have I3 : Inv (ncx (L2.CX P w) P w K mg base N F' f A outer s H E) [] (startF N (.ref a :: ws) [none]) H ⟨h2.push (PySem.W.kxs_mw "ValueError.__init__" a), g, d, tk + 1, os⟩ := I2.kept (t' := tk + 1) k3
    have hu3 : (h2.push (PySem.W.kxs_mw "ValueError.__init__" a)).get? h2.objs.size = some (PySem.W.kxs_mw "ValueError.__init__" a) := Heap.get?_push_at rfl rfl
    refine PySem.W.kxs_callWith (i := "ValueError.__init__") (x := a) (by rfl) (Calls.evalArgs_plain ?_)
    have I4 : Inv (ncx (L2.CX P w) P w K mg base N F' f A outer s H E) [(h2.objs.size, PySem.W.kxs_mw "ValueError.__init__" a)] (startF N (.ref a :: ws) [none]) H ⟨h2.push (PySem.W.kxs_mw "ValueError.__init__" a), g, d, tk + 1, os⟩ := I3.pins_of fun p hp => by
      cases List.mem_singleton.mp hp
      refine ⟨hu3, I2.hok.fresh (Nat.le_refl _), ?_, I2.nofs (Nat.le_refl _), fun v e => by cases e⟩
      exact Nat.ne_of_gt I2.lt
    have hpa : PA (ncx (L2.CX P w) P w K mg base N F' f A outer s H E) [.Constant (.str z) j p3] _ := pa_cons pe_str pa_nil
    refine wpAny_mono (hpa.run p4 _ _ _ _ (fun vs H1 => H1 = H ∧ vs.length = 1) I4 ?_) (fun vs s5 h5 => ?_) (fun e s' h' => h')
    · exact ⟨rfl, rfl⟩
    · obtain ⟨vs5, H5, I5, r5, rfl, l5⟩ := h5
      have hu5 := (I5.pin _ (List.mem_append_right _ (List.mem_singleton.mpr rfl))).1
      refine ⟨hu5, ?_⟩
      obtain ⟨t5, ho5⟩ := exo_at I5.hok (C := C) (d := none) ha
      refine sup_call T I5.kIn hu5 ho5 (by rw [List.nil_append, ← r5.length, l5, sizeLine_eq]; omega) fun h' t6 k6 e6 => ?_
      have J := I5.write (t' := s5.toks) (x := a) (e := a) (o := exo a C none) (by rw [ha]; exact True.intro) (.inl rfl) k6 ⟨_, e6⟩ (exo_ok e6)
      have eu : upd H5 a (exo a C none) = H5 := by
        funext b
        by_cases hb : b = a
        · rw [hb, upd_same, ha]
        · rw [upd_ne hb]
      rw [eu] at J
      have J0 : Inv (ncx (L2.CX P w) P w K mg base N F' f A outer s H5 E) [] (startF N (.ref a :: ws) [none]) H5 { s5 with heap := h' } := J.pins_of fun p hp => absurd hp (by simp)
      refine PyProof.Rows.wpAt_of_any ?_
      refine wpAny_mono (ht.run [] _ (startF N (.ref a :: ws) [none]) H5 _ J0 hq) (fun fl' s' hs => ?_) fun e s' hs => hs
      have fin : ∀ {σ' : L2.St} {H' : Hp} {v : V} {u : Value}, Inv (ncx (L2.CX P w) P w K mg base N F' f A outer s H5 E) [] σ' H' s' → L2.RelV v u → Q v H' → CE outer P w H5 s Q u s' :=
        fun {σ' H' v u} J rv q => ⟨v, H', J.os, J.bare, J.base, J.hok, rv, q⟩
      cases fl' with
      | ret u =>
        obtain ⟨v, σ', H', J, rv, q⟩ := hs
        exact fin J rv q
      | next =>
        obtain ⟨σ', H', J, q⟩ := hs
        exact fin (v := V.non) (u := Value.none) J rfl q
      | brk =>
        obtain ⟨_, _, _, q⟩ := hs
        exact False.elim q
      | cont =>
        obtain ⟨_, _, _, q⟩ := hs
        exact False.elim q

theorem ok_sinit1 {x : Str} {z : Str} {j : Nat} {p0 p1 p2 p3 p4 p5 q1 q2 q3 q4 : Pos} (F : SupF K D "__init__" qual st f fd fl) (I : SupI K C D) (Sc : NScope ["self", x, "__class__"] ["self", x] ["__class__"] (defScope st))
    (har : ∃ ar, ((defArgs st).posonlyargs ++ (defArgs st).args).head? = some ar ∧ ar.arg = "self") (T : OexC K C) (h1 : PySem.W.findIn K (.ref C) x = some none) (hfl : ((P.main.file : Str) == fl) = true) (htop : (P.main.scope.names.lookup ("super" : Str)).isSome = false) (hmg : mg "super" = none)
    (hb : defBody st = [.Expr (.Call (.Attribute (.Call (.Name "super" p0) [] [] p1) "__init__" p2) [.Constant (.str z) j p3] [] p4) p5, .Assign [.Attribute (.Name "self" q1) x q2] (.Name x q3) q4]) (hks : (defScope st).names.lookup ("super" : Str) = some .globalImplicit)
    (he : ∀ env : Env, ∃ pl : Sem Bool, eval (.Call (.Attribute (.Call (.Name "super" p0) [] [] p1) "__init__" p2) [.Constant (.str z) j p3] [] p4) env = (do
      let ov ← attributeBase (.Call (.Name "super" p0) [] [] p1) "__init__" env (eval (.Call (.Name "super" p0) [] [] p1) env)
      standAt p2.atName
      let (f, first) ← holding [ov] (getMethod ov "__init__" pl)
      callWith p4 f first (backTo p4 (starEach [.Constant (.str z) j p3] env)) []))
    (hx : (x == ("__debug__" : Str)) = false := by decide) (hx2 : (x == ("__classdict__" : Str)) = false := by decide)
    (v0 : (defScope st).names.lookup ("self" : Str) = some .local := by rfl) (v1 : (defScope st).names.lookup x = some .local := by rfl) : FnOk P w K mg base (L2.CX P w) 1 f fd ["self", x] (spI C [x]) := by
  refine fn_sup F I Sc rfl har T hfl htop hmg hb hks rfl he fun F' A outer s H vs Q E eS hr h => ?_
  obtain ⟨a, ws, rfl, hl, ha, k⟩ := h
  match ws, hl with
  | [y], _ =>
    refine ⟨_, pss_one (ps_ost (pe_var (i := 0) rfl (.inl (by show F'.scope.names.lookup _ = _; rw [eS]; exact v0)) (by decide) (by decide)) (pe_var (i := 1) rfl (.inl (by show F'.scope.names.lookup _ = _; rw [eS]; exact v1)) hx hx2)), ?_⟩
    refine ⟨_, rfl, _, rfl, a, C, rfl, T, h1, .inl ⟨ha, fun d hd ne => ?_⟩⟩
    exact k d _ hd ne upd_same (by rw [upd_ne ne, upd_same]; rfl) fun b hb hb2 => by rw [upd_ne hb, upd_ne hb2]
theorem ok_sinit2 {x y : Str} {z : Str} {j : Nat} {p0 p1 p2 p3 p4 p5 q1 q2 q3 q4 r1 r2 r3 r4 : Pos} (F : SupF K D "__init__" qual st f fd fl) (I : SupI K C D) (Sc : NScope ["self", x, y, "__class__"] ["self", x, y] ["__class__"] (defScope st))
    (har : ∃ ar, ((defArgs st).posonlyargs ++ (defArgs st).args).head? = some ar ∧ ar.arg = "self") (T : OexC K C) (h1 : PySem.W.findIn K (.ref C) x = some none) (h2 : PySem.W.findIn K (.ref C) y = some none) (hfl : ((P.main.file : Str) == fl) = true) (htop : (P.main.scope.names.lookup ("super" : Str)).isSome = false) (hmg : mg "super" = none)
    (hb : defBody st = [.Expr (.Call (.Attribute (.Call (.Name "super" p0) [] [] p1) "__init__" p2) [.Constant (.str z) j p3] [] p4) p5, .Assign [.Attribute (.Name "self" q1) x q2] (.Name x q3) q4, .Assign [.Attribute (.Name "self" r1) y r2] (.Name y r3) r4]) (hks : (defScope st).names.lookup ("super" : Str) = some .globalImplicit)
    (he : ∀ env : Env, ∃ pl : Sem Bool, eval (.Call (.Attribute (.Call (.Name "super" p0) [] [] p1) "__init__" p2) [.Constant (.str z) j p3] [] p4) env = (do
      let ov ← attributeBase (.Call (.Name "super" p0) [] [] p1) "__init__" env (eval (.Call (.Name "super" p0) [] [] p1) env)
      standAt p2.atName
      let (f, first) ← holding [ov] (getMethod ov "__init__" pl)
      callWith p4 f first (backTo p4 (starEach [.Constant (.str z) j p3] env)) []))
    (hx : (x == ("__debug__" : Str)) = false := by decide) (hx2 : (x == ("__classdict__" : Str)) = false := by decide) (hy : (y == ("__debug__" : Str)) = false := by decide) (hy2 : (y == ("__classdict__" : Str)) = false := by decide)
    (v0 : (defScope st).names.lookup ("self" : Str) = some .local := by rfl) (v1 : (defScope st).names.lookup x = some .local := by rfl) (v2 : (defScope st).names.lookup y = some .local := by rfl) : FnOk P w K mg base (L2.CX P w) 1 f fd ["self", x, y] (spI C [x, y]) := by
  refine fn_sup F I Sc rfl har T hfl htop hmg hb hks rfl he fun F' A outer s H vs Q E eS hr h => ?_
  obtain ⟨a, ws, rfl, hl, ha, k⟩ := h
  match ws, hl with
  | [u, v], _ =>
    refine ⟨_, pss_cons (ps_ost (pe_var (i := 0) rfl (.inl (by show F'.scope.names.lookup _ = _; rw [eS]; exact v0)) (by decide) (by decide)) (pe_var (i := 1) rfl (.inl (by show F'.scope.names.lookup _ = _; rw [eS]; exact v1)) hx hx2)) (pss_one (ps_ost (pe_var (i := 0) rfl (.inl (by show F'.scope.names.lookup _ = _; rw [eS]; exact v0)) (by decide) (by decide)) (pe_var (i := 2) rfl (.inl (by show F'.scope.names.lookup _ = _; rw [eS]; exact v2)) hy hy2))), ?_⟩
    refine ⟨_, rfl, _, rfl, a, C, rfl, T, h1, .inl ⟨ha, fun d hd ne => ?_⟩⟩
    refine ⟨_, rfl, _, rfl, a, C, rfl, T, h2, .inr ⟨d, [(x, u)], upd_same, by rw [upd_ne ne, upd_same], by simp, ?_⟩⟩
    exact k d _ hd ne (by rw [upd_ne (Ne.symm ne), upd_same]) upd_same fun b hb hb2 => by rw [upd_ne hb2, upd_ne hb, upd_ne hb2]
/-! ### the facts, as a Bool of the written part -/
def strAt (v : Option Value) (fl : Str) : Bool := match v with
  | some (.str z _) => decide (z = fl)
  | _ => false
def cellB (K : PySem.W.Frag) (cc D : Addr) : Bool := match K.lookup cc with
  | some ⟨_, _, .cell (some (.ref d)), _⟩ => decide (d = D)
  | _ => false
def fileB (K : PySem.W.Frag) (cda : Addr) (fl : Str) : Bool := match K.lookup cda with
  | some ⟨_, _, .fields vs, _⟩ => strAt vs[2]? fl
  | _ => false
theorem strAt_ok {v : Option Value} {fl : Str} (h : strAt v fl = true) : ∃ t, v = some (.str fl t) := by
  unfold strAt at h
  split at h
  · have := of_decide_eq_true h; subst this; exact ⟨_, rfl⟩
  · cases h
theorem cellB_ok {cc : Addr} (h : cellB K cc D = true) : ∃ (cl : Value) (cld : Option Addr) (csl : Array (Option Value)), K.lookup cc = some ⟨cl, cld, .cell (some (.ref D)), csl⟩ := by
  unfold cellB at h
  split at h
  · rename_i e
    have := of_decide_eq_true h
    subst this
    exact ⟨_, _, _, e⟩
  · cases h
theorem fileB_ok {cda : Addr} (h : fileB K cda fl = true) : ∃ (ccl : Value) (cdd : Option Addr) (vs : Array Value) (ccs : Array (Option Value)) (tf : Tok), K.lookup cda = some ⟨ccl, cdd, .fields vs, ccs⟩ ∧ vs[2]? = some (.str fl tf) := by
  unfold fileB at h
  split at h
  · rename_i e
    obtain ⟨t, q⟩ := strAt_ok h
    exact ⟨_, _, _, _, t, e, q⟩
  · cases h
/-- the function at f, its closure's names only; what stands behind is told by supB -/
abbrev FnC : Type := Option (Str × Str × Arguments × FuncBody × Scope × Addr × List Str × Addr)
def fnC (K : PySem.W.Frag) (f : Addr) : FnC := match K.lookup f with
  | some ⟨_, _, .func fd, _⟩ => some (fd.name, fd.qualname, fd.params, fd.body, fd.scope, fd.globals, fd.closure.map (·.1), fd.builtins)
  | _ => none
def supB (K : PySem.W.Frag) (D f : Addr) (qual fl : Str) : Bool := match K.lookup f with
  | some ⟨_, _, .func fd, _⟩ => (match fd.closure, fd.code, fd.defaults, fd.kwdefaults with
    | [(_, cc)], .ref cda, .none, .none => PySem.W.codeIn K (.ref cda) qual && (fileB K cda fl && cellB K cc D)
    | _, _, _, _ => false) && ((PySem.W.clsIn K D).isSome && (He.eqO (PySem.W.nsIn K mainGlobals "super") (some none) && He.eqO (PySem.W.nsIn K cStatics "thirdparty.any") (some none)))
  | _ => false
theorem supF_of {x : Str} (e : fnC K f = some (x, qual, defArgs st, FuncBody.stmts (defBody st), defScope st, mainGlobals, [("__class__" : Str)], builtinsNs)) (h : supB K D f qual fl = true) : ∃ fd, SupF K D x qual st f fd fl := by
  unfold fnC at e
  unfold supB at h
  cases q : K.lookup f with
  | none => rw [q] at e; cases e
  | some o =>
    obtain ⟨oc, od, dt, osl⟩ := o
    rw [q] at e h
    cases dt with
    | func fd =>
      obtain ⟨n1, n2, n3, n4, n5, n6, n7, n8, n9, n10, n11, n12, n13, n14, n15⟩ := fd
      simp only [Option.some.injEq, Prod.mk.injEq] at e
      obtain ⟨h1, h2, h3, h4, h5, h6, h7, h8⟩ := e
      subst h1 h2 h3 h4 h5 h6 h8
      simp only [Bool.and_eq_true] at h
      obtain ⟨h, c1, c2, c3⟩ := h
      match n7, h7, n13, n8, n9, h with
      | [(nm, cc)], h7, .ref cda, .none, .none, h =>
        simp only [List.map_cons, List.map_nil, List.cons.injEq, and_true] at h7
        subst h7
        simp only [Bool.and_eq_true] at h
        exact ⟨_, ⟨oc, od, n10, n11, n12, cda, cc, n14, osl, rfl, q, h.1, fileB_ok h.2.1, cellB_ok h.2.2⟩, Option.isSome_iff_exists.mp c1, He.eqO_ok c2, He.eqO_ok c3⟩
    | _ => cases e
def supIB (K : PySem.W.Frag) (C D : Addr) : Bool := decide (PySem.W.mroIn K C (.ref D) = some true) && (He.eqO (PySem.W.ks_superIn K C D "__init__") (some (some (.builtin "ValueError.__init__"))) && decide (PySem.W.subIn K (.ref C) (.type "ValueError") = some true))
theorem supIB_ok (h : supIB K C D = true) : SupI K C D := by
  simp only [supIB, Bool.and_eq_true] at h
  exact ⟨of_decide_eq_true h.1, He.eqO_ok h.2.1, of_decide_eq_true h.2.2⟩
theorem SupF.binds {x fl : Str} {ps : List Str} (F : SupF K D x qual st f fd fl) (h : ∀ (cc : Addr) (doc pm : Value) (an : Option Addr) (cda : Addr) (ct : Value) (us : List Value), us.length = ps.length → bindArgs (PySem.W.fnX x qual (defArgs st) (defBody st) (defScope st) [("__class__", cc)] .none .none doc pm an (.ref cda) ct) ⟨us, []⟩ = pure (ps.zip us)) : Binds K fd ps [] := by
  obtain ⟨oc, od, doc, pm, an, cda, cc, ct, osl, rfl, _⟩ := F.ex
  exact .all (h cc doc pm an cda ct)
end
end J

/-! the head's facts, and those of the __init__s with a cell __class__ -/
namespace J
open PySem PySem.Spec PyProof.Rows L2
structure CDef where
  cls : Str
  qual : Str
  st : Stmt
def cAd (K : PySem.W.Frag) (c : CDef) : Addr := He.ma K (He.ga K c.cls) "__init__"
def cVal (c : CDef) : FnC := some ("__init__", c.qual, defArgs c.st, FuncBody.stmts (defBody c.st), defScope c.st, mainGlobals, [("__class__" : Str)], builtinsNs)
abbrev AlY : Type := He.AlX × List FnC
/-- the written part: what the globals reach, and the statics -/
abbrev frY (g : Addr → Option Obj) (n : Nat) : PySem.W.Frag := He.frT g (cStatics :: He.asD g n)
def obsY (n : Nat) (fa : List He.Fa) (fn : List He.DefD) (cl : List CDef) (ex : PySem.W.Frag → Bool) (g : Addr → Option Obj) : AlY := ((He.obsT fa fn [] (frY g n), ex (frY g n)), cl.map fun c => fnC (frY g n) (cAd (frY g n) c))
def valY (fn : List He.DefD) (cl : List CDef) (w : World) : AlY := ((He.valT fn [] w, true), cl.map cVal)
structure SaysY (fa : List He.Fa) (fn : List He.DefD) (cl : List CDef) (ex : PySem.W.Frag → Bool) (w : World) (h : Heap) (K : PySem.W.Frag) : Prop where
  x : He.SaysX fa fn [] [] ex w h K
  c : ∀ (i : Nat) (d : CDef), cl[i]? = some d → fnC K (cAd K d) = cVal d
theorem saysY_of {n : Nat} {fa : List He.Fa} {fn : List He.DefD} {cl : List CDef} {ex : PySem.W.Frag → Bool} {w : World} {h : Heap} (e : obsY n fa fn cl ex h.get? = valY fn cl w) : SaysY fa fn cl ex w h (frY h.get? n) := by
  have e1 : He.obsT fa fn [] (frY h.get? n) = He.valT fn [] w := congrArg (fun z : AlY => z.1.1) e
  have e3 : ex (frY h.get? n) = true := congrArg (fun z : AlY => z.1.2) e
  have e2 : (cl.map fun c => fnC (frY h.get? n) (cAd (frY h.get? n) c)) = cl.map cVal := congrArg (fun z : AlY => z.2) e
  refine ⟨⟨e1, e3, fun p hp => absurd hp (by simp), fun p hp => absurd hp (by simp), fun p hp => absurd hp (by simp)⟩, fun i d hd => ?_⟩
  have z := congrArg (fun l => l[i]?) e2
  simp only [List.getElem?_map, hd, Option.map_some, Option.some.injEq] at z
  exact z
def hookY (n : Nat) (fa : List He.Fa) (fn : List He.DefD) (cl : List CDef) (ex : PySem.W.Frag → Bool) : PySem.W.Hook where
  α := AlY
  obs := fun s => obsY n fa fn cl ex s.heap.get?
  val := fun w => valY fn cl w
  says := fun w h => ∃ K : PySem.W.Frag, K.In h ∧ SaysY fa fn cl ex w h K
  of := fun _ _ e => ⟨_, He.frT_in, saysY_of e⟩
  keeps := fun _ _ _ ⟨K, hK, c⟩ k => ⟨K, PySem.W.Frag.In.keeps hK k, ⟨c.x.t, c.x.more, c.x.hd, c.x.out, fun p hp => k _ _ (c.x.empty p hp)⟩, c.c⟩
theorem obsY_eq {n : Nat} {fa : List He.Fa} {fn : List He.DefD} {cl : List CDef} {ex : PySem.W.Frag → Bool} {g : Addr → Option Obj} {s : Shared} (h : ∀ a, g a = s.heap.get? a) : obsY n fa fn cl ex g = (hookY n fa fn cl ex).obs s := by
  have e : g = s.heap.get? := funext h
  rw [e] <;> rfl
/-- what is asked of the program -/
def PFile (P : Program) (fl : Str) : Prop := ((P.main.file : Str) == fl) = true ∧ (P.main.scope.names.lookup ("super" : Str)).isSome = false
end J

/-! sorted of ints and of tuples of ints; sorted(set(..)) of such tuples -/
namespace J
open PySem PySem.Spec PyProof.Rows L2
def intsW : List W → Option (List Int)
  | [] => some []
  | .int i :: r => (intsW r).map (i :: ·)
  | _ => none
def tupI : W → Option (List Int)
  | .tup xs => intsW xs
  | _ => none
def keysW : List W → Option (List (List Int))
  | [] => some []
  | x :: r => match tupI x with
    | some k => (keysW r).map (k :: ·)
    | none => none
/-- the bound of what stands in a sorted tuple -/
def cB : Int := 1099511627776
def okKs (ks : List (List Int)) : Bool := match ks with
  | [] => false
  | k :: _ => decide (1 ≤ k.length) && ks.all fun l => decide (l.length = k.length) && l.all fun m => decide (0 ≤ m ∧ m < cB)
section
variable {α : Type}
def insK (f : α → Int) (x : α) : List α → List α
  | [] => [x]
  | y :: r => if f x ≤ f y then x :: y :: r else y :: insK f x r
def sortK (f : α → Int) (l : List α) : List α := l.foldr (insK f) []
theorem insK_perm (f : α → Int) (x : α) : ∀ l, (insK f x l).Perm (x :: l)
  | [] => .refl _
  | y :: r => by
    unfold insK
    split
    · exact .refl _
    · exact ((insK_perm f x r).cons y).trans (.swap x y r)
theorem sortK_perm (f : α → Int) : ∀ l, (sortK f l).Perm l
  | [] => .refl _
  | x :: r => (insK_perm f x _).trans ((sortK_perm f r).cons x)
theorem insK_sorted (f : α → Int) (x : α) : ∀ l, l.Pairwise (fun a b => f a ≤ f b) → (insK f x l).Pairwise (fun a b => f a ≤ f b)
  | [], _ => .cons (fun _ h => nomatch h) .nil
  | y :: r, .cons h t => by
    unfold insK
    split
    · rename_i c
      refine .cons (fun z hz => ?_) (.cons h t)
      rcases List.mem_cons.mp hz with rfl | hz
      · exact c
      · have := h z hz
        omega
    · rename_i c
      refine .cons (fun z hz => ?_) (insK_sorted f x r t)
      rcases List.mem_cons.mp ((insK_perm f x r).mem_iff.mp hz) with rfl | hz
      · omega
      · exact h z hz
theorem sortK_sorted (f : α → Int) : ∀ l, (sortK f l).Pairwise (fun a b => f a ≤ f b)
  | [] => .nil
  | x :: r => insK_sorted f x _ (sortK_sorted f r)
/-- one order, one list -/
theorem sorted_one (f : α → Int) : ∀ {l m : List α}, l.Perm m → l.Pairwise (fun a b => f a ≤ f b) → m.Pairwise (fun a b => f a ≤ f b) → (∀ a ∈ l, ∀ b ∈ l, f a = f b → a = b) → l = m
  | [], m, p, _, _, _ => (List.nil_perm.mp p).symm
  | x :: l, m, p, hs, ht, inj => by
    cases m with
    | nil => exact absurd p (by simp)
    | cons y m =>
      cases hs with
      | cons h1 h2 =>
        cases ht with
        | cons g1 g2 =>
          have hx : x ∈ y :: m := p.mem_iff.mp (by simp)
          have hy : y ∈ x :: l := p.mem_iff.mpr (by simp)
          have le1 : f x ≤ f y := by
            rcases List.mem_cons.mp hy with rfl | z
            · exact Int.le_refl _
            · exact h1 y z
          have le2 : f y ≤ f x := by
            rcases List.mem_cons.mp hx with rfl | z
            · exact Int.le_refl _
            · exact g1 x z
          have e : x = y := inj x (by simp) y hy (Int.le_antisymm le1 le2)
          subst e
          rw [sorted_one f (List.Perm.cons_inv p) h2 g2 fun a ha b hb => inj a (List.mem_cons_of_mem _ ha) b (List.mem_cons_of_mem _ hb)]
end
def dedK : List (List Int) → List (List Int)
  | [] => []
  | x :: r => if x ∈ r then dedK r else x :: dedK r
theorem dedK_mem : ∀ {l : List (List Int)} {x : List Int}, x ∈ dedK l ↔ x ∈ l
  | [], x => .rfl
  | y :: r, x => by
    unfold dedK
    split
    · rename_i h
      rw [dedK_mem, List.mem_cons]
      exact ⟨.inr, fun z => z.elim (fun e => e ▸ h) id⟩
    · rw [List.mem_cons, List.mem_cons, dedK_mem]
theorem dedK_nodup : ∀ (l : List (List Int)), (dedK l).Nodup
  | [] => .nil
  | y :: r => by
    unfold dedK
    split
    · exact dedK_nodup r
    · rename_i h
      exact List.nodup_cons.mpr ⟨fun z => h (dedK_mem.mp z), dedK_nodup r⟩
def uniqK (ks : List (List Int)) : List (List Int) := sortK (TS.code cB) (dedK ks)
def tupW (k : List Int) : W := .tup (k.map W.int)
theorem code_inj : ∀ {a b : List Int}, a.length = b.length → TS.Bd cB a → TS.Bd cB b → TS.code cB a = TS.code cB b → a = b
  | [], [], _, _, _, _ => rfl
  | [], _ :: _, h, _, _, _ => by simp at h
  | _ :: _, [], h, _, _, _ => by simp at h
  | x :: a, y :: b, h, ha, hb, e => by
    have hl : a.length = b.length := by simpa using h
    have c1 := fun z : x < y => TS.code_lt hl ha.tail hb.tail z
    have c2 := fun z : y < x => TS.code_lt hl.symm hb.tail ha.tail z
    have exy : x = y := by
      rcases Int.lt_trichotomy x y with z | z | z
      · have := c1 z; omega
      · exact z
      · have := c2 z; omega
    subst exy
    have e' : TS.code cB a = TS.code cB b := by
      have e2 : x * cB ^ a.length + TS.code cB a = x * cB ^ b.length + TS.code cB b := e
      rw [hl] at e2
      omega
    rw [code_inj hl ha.tail hb.tail e']
theorem okKs_of {ks : List (List Int)} (h : okKs ks = true) : ∃ d, 1 ≤ d ∧ ∀ l ∈ ks, l.length = d ∧ TS.Bd cB l := by
  unfold okKs at h
  split at h
  · cases h
  · rename_i k r
    simp only [Bool.and_eq_true, decide_eq_true_eq, List.all_eq_true] at h
    exact ⟨k.length, h.1, fun l hl => ⟨(h.2 l hl).1, fun m hm => (h.2 l hl).2 m hm⟩⟩
section
variable {S : Sta} {rho : List Addr} {H : Hp}
theorem intsW_rv : ∀ {ws : List W} {ns : List Int} {vs : List V}, intsW ws = some ns → RVs S rho H ws vs → ws = ns.map W.int ∧ vs = ns.map V.int
  | [], _, _, e, .nil => by cases e; exact ⟨rfl, rfl⟩
  | .int i :: r, ns, _, e, .cons a b => by
    simp only [intsW] at e
    cases q : intsW r with
    | none => rw [q] at e; cases e
    | some ms =>
      rw [q] at e
      cases e
      obtain ⟨e1, e2⟩ := intsW_rv q b
      cases a
      exact ⟨by rw [e1]; rfl, by rw [e2]; rfl⟩
  | .non :: r, _, _, e, _ => by cases e
  | .bl _ :: r, _, _, e, _ => by cases e
  | .str _ :: r, _, _, e, _ => by cases e
  | .tup _ :: r, _, _, e, _ => by cases e
  | .ref _ :: r, _, _, e, _ => by cases e
  | .cst _ :: r, _, _, e, _ => by cases e
  | .xcp _ _ :: r, _, _, e, _ => by cases e
theorem rv_ints : ∀ ns : List Int, RVs S rho H (ns.map W.int) (ns.map V.int)
  | [] => .nil
  | n :: r => .cons (.int n) (rv_ints r)
/-- the places of the tuples -/
theorem keysW_rv : ∀ {ws : List W} {ks : List (List Int)} {vs : List V}, keysW ws = some ks → RVs S rho H ws vs → ws = ks.map tupW ∧ ∃ L : List (Addr × List Int), vs = L.map (fun p => V.ref p.1) ∧ ks = L.map (·.2) ∧ ∀ p ∈ L, SqT S.K H p.1 (p.2.map V.int)
  | [], _, _, e, .nil => by cases e; exact ⟨rfl, [], rfl, rfl, fun _ h => nomatch h⟩
  | w :: r, ks, _, e, .cons a b => by
    simp only [keysW] at e
    cases q : tupI w with
    | none => rw [q] at e; cases e
    | some k =>
      rw [q] at e
      dsimp only at e
      cases q2 : keysW r with
      | none => rw [q2] at e; cases e
      | some ms =>
        rw [q2] at e
        cases e
        obtain ⟨e1, L, e2, e3, e4⟩ := keysW_rv q2 b
        cases w with
        | tup xs =>
          cases a with
          | @tup p _ ys hq hr =>
            obtain ⟨z1, z2⟩ := intsW_rv (show intsW xs = some k from q) hr
            refine ⟨by rw [e1, z1]; rfl, (p, k) :: L, by rw [e2]; rfl, by rw [e3]; rfl, fun x hx => ?_⟩
            rcases List.mem_cons.mp hx with rfl | hx
            · rw [← z2]; exact hq
            · exact e4 x hx
        | _ => cases q
theorem rv_keys : ∀ {L : List (Addr × List Int)}, (∀ p ∈ L, SqT S.K H p.1 (p.2.map V.int)) → RVs S rho H ((L.map (·.2)).map tupW) (L.map fun p => V.ref p.1)
  | [], _ => .nil
  | p :: r, h => .cons (.tup (h p (by simp)) (rv_ints p.2)) (rv_keys fun q hq => h q (List.mem_cons_of_mem _ hq))
end
/-- sorted(xs), xs a list of ints, or of fewer than 64 tuples of ints -/
def fSorted : List W → HA → Option (W × HA) := fun xs h => match xs with
  | [.ref a] => (match rdL h a with
    | some ws => (match intsW ws with
      | some ns => some (.ref h.length, h ++ [.lst ((sortK id ns).map W.int)])
      | none => (match keysW ws with
        | some ks => if ks.length < 64 ∧ okKs ks = true then some (.ref h.length, h ++ [.lst ((sortK (TS.code cB) ks).map tupW)]) else none
        | none => none))
    | none => none)
  | _ => none
section
variable {X : Cx} {S : Sta} {Wx : Wi} {pos p p2 pos' : Pos} {e : Expr} {m : Ex} {ms : Ax}
theorem perm_map {α β : Type} (f : α → β) : ∀ {zs ws : List β}, zs.Perm ws → ∀ L : List α, ws = L.map f → ∃ M : List α, zs = M.map f ∧ M.Perm L := by
  intro zs ws pm
  induction pm with
  | nil =>
    intro L e
    exact ⟨L, e, .refl _⟩
  | cons x _ ih =>
    intro L e
    cases L with
    | nil => cases e
    | cons y L =>
      rw [List.map_cons] at e
      injection e with e1 e2
      obtain ⟨M, h1, h2⟩ := ih L e2
      exact ⟨y :: M, by rw [h1, e1]; rfl, h2.cons y⟩
  | swap x y l =>
    intro L e
    match L, e with
    | a :: b :: L, e =>
      simp only [List.map_cons, List.cons.injEq] at e
      obtain ⟨e1, e2, e3⟩ := e
      exact ⟨b :: a :: L, by rw [e1, e2, e3]; rfl, .swap a b L⟩
  | trans _ _ ih1 ih2 =>
    intro L e
    obtain ⟨M, h1, h2⟩ := ih2 L e
    obtain ⟨M', h3, h4⟩ := ih1 M h1
    exact ⟨M', h3, h4.trans h2⟩
theorem ok_sorted (K : S.K = X.K) : CallR X (.builtin "sorted") (rAs S fSorted) := by
  intro pins s sg H xs us Q I r q
  obtain ⟨rho, h, ws, l, rvs, g⟩ := q
  unfold fSorted at g
  split at g
  · rename_i a
    split at g
    · rename_i its e
      obtain ⟨v, rfl, rv⟩ := RVs_one rvs
      obtain ⟨pp, rfl, hp⟩ := refOf rv
      obtain ⟨ys, hs, r2⟩ := rdL_of K l hp e
      split at g
      · rename_i ns e2
        obtain ⟨rfl, rfl⟩ := intsW_rv e2 r2
        refine cr_sortedI pins s sg H _ us Q I r ⟨pp, ns, rfl, hs, fun ns' q pm pw n => ?_⟩
        have en : ns' = sortK id ns := sorted_one (f := fun z : Int => z) (pm.trans (sortK_perm id ns).symm) pw (sortK_sorted id ns) fun a _ b _ z => z
        subst en
        exact GO.lstN g l (rv_ints _) n
      · split at g
        · rename_i ks e3
          split at g
          · rename_i c
            obtain ⟨rfl, L, rfl, rfl, hL⟩ := keysW_rv e3 r2
            rw [K] at hL
            obtain ⟨d, hd, hB⟩ := okKs_of c.2
            have cl : L.length < 64 := by simpa using c.1
            refine cr_sortT (d := d) (B := cB) hd pins s sg H _ us Q I r ⟨pp, _, rfl, hs, by simpa using cl, fun x hx => ?_, fun zs q pm pw n => ?_⟩
            · obtain ⟨y, hy, rfl⟩ := List.mem_map.mp hx
              exact ⟨y.2, ⟨y.1, rfl, hL y hy⟩, hB _ (List.mem_map_of_mem hy)⟩
            · -- the new order's places
              obtain ⟨M, rfl, pM⟩ := perm_map (fun p : Addr × List Int => V.ref p.1) pm L rfl
              have hM : ∀ p ∈ M, SqT X.K H p.1 (p.2.map V.int) := fun p hp => hL p (pM.mem_iff.mp hp)
              have em : M.map (·.2) = sortK (TS.code cB) (L.map (·.2)) := by
                refine sorted_one (TS.code cB) ((pM.map _).trans (sortK_perm _ _).symm) ?_ (sortK_sorted _ _) fun a ha b hb z => ?_
                · rw [List.pairwise_map]
                  rw [List.pairwise_map] at pw
                  exact pw.imp_of_mem fun {x y} hx hy z => z _ _ ⟨x.1, rfl, hM x hx⟩ ⟨y.1, rfl, hM y hy⟩
                · obtain ⟨a', ha', rfl⟩ := List.mem_map.mp ha
                  obtain ⟨b', hb', rfl⟩ := List.mem_map.mp hb
                  have h1 := hB _ (List.mem_map_of_mem (pM.mem_iff.mp ha'))
                  have h2 := hB _ (List.mem_map_of_mem (pM.mem_iff.mp hb'))
                  exact code_inj (h1.1.trans h2.1.symm) h1.2 h2.2 z
              rw [← em] at g
              exact GO.lstN g l (rv_keys (by rw [K]; exact hM)) n
          · exact g.elim
        · exact g.elim
    · exact g.elim
  · exact g.elim
theorem GO.ev {rho rho' : List Addr} {H H' : Hp} {Q : VK} {r : Option (W × HA)} (g : GO S rho H Q r) (e : Ev S rho H rho' H') : GO S rho' H' Q r := by
  cases r with
  | none => exact g
  | some q => obtain ⟨w, h'⟩ := q; exact fun rho2 H2 v ev => g rho2 H2 v (e.trans ev)
/-- sorted(set(xs)) -/
def fSortSet : List W → HA → Option (W × HA) := fun xs h => match xs with
  | [.ref a] => (match rdL h a with
    | some ws => (match keysW ws with
      | some ks => if ks.length < 64 ∧ okKs ks = true then some (.ref h.length, h ++ [O.lst ((uniqK ks).map tupW)]) else none
      | none => none)
    | none => none)
  | _ => none
def eSortSet (ms : Ax) : Ex := eFn fSortSet ms
theorem de_sortSet (K : S.K = X.K) (hc : X.calm = true) (hu : X.A.units + 64 < cLine) (hg : Gl X "sorted") (hm : X.mg "sorted" = none) (hv : bootBuiltins "sorted" = some (.builtin "sorted")) (hg2 : Gl X "set") (hm2 : X.mg "set" = none) (hv2 : bootBuiltins "set" = some (.type "set")) (ha : DA S X Wx [e] ms)
    (h1 : starEach [e] X.env = (false, eval e X.env) :: starEach [] X.env := by rfl) (hp1 : (backTo pos' (starEach [] X.env)).any (·.1) = false := by rfl)
    (h2 : starEach (.Call (.Name "set" p2) [e] [] pos' :: []) X.env = (false, eval (.Call (.Name "set" p2) [e] [] pos') X.env) :: starEach [] X.env := by rfl) (hp2 : (backTo pos (starEach [] X.env)).any (·.1) = false := by rfl) :
    DE S X Wx (.Call (.Name "sorted" p) [.Call (.Name "set" p2) [e] [] pos'] [] pos) (eSortSet ms) :=
  pe_imp (pe_callB (cr_sortedT hc) hg hm hv (pa_cons (pe_callTy (cr_setOfT hc hu) hg2 hm2 hv2 ha (by decide) (by decide) h1 hp1) pa_nil h2) (by decide) (by decide) h2 hp2) fun sg H Q q => by
    refine tE_bindA (k := fun ta xs h1 => ofO (fSortSet xs h1)) q fun rho H1 ta v1 w1 h1 l rs r g1 => ?_
    have g := GO.of g1
    unfold fSortSet at g
    split at g
    · rename_i a
      split at g
      · rename_i its e1
        obtain ⟨v, rfl, rv⟩ := RVs_one r
        obtain ⟨pp, rfl, hp⟩ := refOf rv
        obtain ⟨ys, hs, r2⟩ := rdL_of K l hp e1
        split at g
        · rename_i ks e3
          split at g
          · rename_i c
            obtain ⟨rfl, L, rfl, rfl, hL⟩ := keysW_rv e3 r2
            rw [K] at hL
            obtain ⟨d, hd, hB⟩ := okKs_of c.2
            have cl : L.length < 64 := by simpa using c.1
            refine ⟨pp, L, rfl, hs, hL, cl, fun as M na sub cov => ?_⟩
            have fresh : ∀ b u, H1 b = some u → upd H1 as (SetTO X.prog X.w as M) b = some u := fun b u e => by
              rw [upd_ne (fun z => by rw [z, na] at e; cases e)]
              exact e
            have hM : ∀ p ∈ M, SqT X.K (upd H1 as (SetTO X.prog X.w as M)) p.1 (p.2.map V.int) := fun p hp => by
              have := (Ev.lay (S := S) (rho := rho) (o := SetTO X.prog X.w as M) na).tup p.1 (p.2.map V.int) (by rw [K]; exact hL p (sub p hp))
              rw [K] at this
              exact this
            refine ⟨as, M, d, cB, rfl, upd_same, hM, hd, fun p hp => hB _ (List.mem_map_of_mem (sub p hp)), fun M' q pm nd h64 pw n => ?_⟩
            have em : M'.map (·.2) = uniqK (L.map (·.2)) := by
              refine sorted_one (TS.code cB) ?_ (by rw [List.pairwise_map]; exact pw) (sortK_sorted _ _) fun a ha b hb z => ?_
              · refine List.Perm.trans ?_ (sortK_perm _ _).symm
                refine (List.perm_ext_iff_of_nodup nd (dedK_nodup _)).mpr fun k => ?_
                rw [dedK_mem]
                constructor
                · intro hk
                  obtain ⟨p, hp, rfl⟩ := List.mem_map.mp hk
                  exact List.mem_map_of_mem (sub p (pm.mem_iff.mp hp))
                · intro hk
                  obtain ⟨p, hp, rfl⟩ := List.mem_map.mp hk
                  obtain ⟨p', hp', e'⟩ := List.mem_map.mp (cov p hp)
                  exact List.mem_map.mpr ⟨p', pm.mem_iff.mpr hp', e'⟩
              · obtain ⟨a', ha', rfl⟩ := List.mem_map.mp ha
                obtain ⟨b', hb', rfl⟩ := List.mem_map.mp hb
                have h1 := hB _ (List.mem_map_of_mem (sub _ (pm.mem_iff.mp ha')))
                have h2 := hB _ (List.mem_map_of_mem (sub _ (pm.mem_iff.mp hb')))
                exact code_inj (h1.1.trans h2.1.symm) h1.2 h2.2 z
            rw [← em] at g
            have ev : Ev S rho H1 rho (upd H1 as (SetTO X.prog X.w as M)) := Ev.lay na
            refine GO.lstN (g.ev ev) (l.lay na) (rv_keys fun p hp => ?_) n
            rw [K]
            exact hM p (pm.mem_iff.mp hp)
          · exact g.elim
        · exact g.elim
      · exact g.elim
    · exact g.elim
end
end J

/-! isinstance of a caught exception of an own class, with fields -/
namespace PySem.W
open PySem PySem.Spec PySem.Calls PyProof.Rows
section
variable {prog : Program} {w : World} {A : Around} {E : Value → Shared → Prop} {s : Shared} {K : Frag} {x D : Addr} {ox : Obj} {od : Option Obj}
theorem j_findObj {C : Addr} {name : Str} {a g : Value} (hc : (clsIn K C).isSome = true) (ha : findIn K (.ref C) name = some (some a)) (hg : specialIn K a "__get__" = some (some g)) (ht : takesIn K a = some true) : findObj K C od name = some (.bind g a) := by
  obtain ⟨cd, hc⟩ := Option.isSome_iff_exists.mp hc
  unfold findObj
  rw [hc, Option.bind_some, ha, Option.bind_some]
  simp [hg, ht]
theorem j_classE {Q : Option Value → Shared → Prop} (hga : findIn K (.ref D) "__getattribute__" = some (some (.builtin "BaseException.__getattribute__"))) (hgt : findIn K (.ref D) "__getattr__" = some none) (hsub : subIn K (.ref D) (.type "BaseException") = some true)
    (hdct : hasDictIn K D = true) (ha : findIn K (.ref D) "__class__" = some (some (.builtin "object.__class__")))
    (hn : specialIn K (.builtin "object.__class__") "__get__" = some (some (.builtin "getset_descriptor.__get__"))) (htk : takesIn K (.builtin "object.__class__") = some true) (hm : mroIn K D (.type "object") = some true)
    (X : K.In s.heap) (I : InstAt s.heap x ox D od) (h : Q (some (.ref D)) { s with toks := s.toks + 1 }) : wpAny (model prog w) A (getAttr? (.ref x) "__class__") Q E s := by
  have hf : findObj K D od "__class__" = some (.bind (.builtin "getset_descriptor.__get__") (.builtin "object.__class__")) := j_findObj (by obtain ⟨cd, hc, _⟩ := any_some hdct; rw [hc]; rfl) ha hn htk
  obtain ⟨hp, g, d, t, os⟩ := s
  have L0 := I.type (M := model prog w)
  have L1 := looks_findIn (M := model prog w) X hga
  have L2 := looks_findIn (M := model prog w) X hgt
  have L3 := looks_find (M := model prog w) X I hf
  have sub : Looks (model prog w) hp (isInstance (.ref x) (.type "BaseException")) true := L0.andThen (looks_subIn X hsub)
  have hx0 : (false && onTheHeap (Value.builtin "BaseException.__getattribute__")) = false := rfl
  have hx2 : (Value.builtin "BaseException.__getattribute__" == Value.builtin "object.__getattribute__") = false := by decide +kernel
  have hx1 : (onTheHeap (Value.ref D) && Value.builtin "BaseException.__getattribute__" == Value.builtin "object.__getattribute__") = false := by rw [hx2]; rfl
  unfold getAttr? getAttrBy? getAttrBy
  refine wpAny_bind (wpAny_mkText (wpAny_bind (wpAny_attempt (wpAny_holding (wpAny_bind (L0.at (wpAny_bind (L1.at ?_))))))))
  show wpAny _ _ (if (onTheHeap (Value.ref D) && Value.builtin "BaseException.__getattribute__" == Value.builtin "object.__getattribute__") = true then _ else _) _ _ _
  rw [hx1, if_neg Bool.false_ne_true]
  unfold getAttrByItsOwn hookBefore
  refine wpAny_bind ?_
  rw [if_pos (show onTheHeap (Value.ref D) = true from rfl)]
  refine L2.at ?_
  refine wpAny_bind (wpAny_attempt (wpAny_holding ?_))
  unfold callGetattribute
  rw [hx0, if_neg Bool.false_ne_true]
  unfold boundAndCalled
  rw [PySem.F.excAttr_ValueError.ga.bind (.ref x)]
  refine wpAny_bind (wpAny_pure ?_)
  show wpAny _ _ (call (.builtin "BaseException.__getattribute__") [.ref x, .str "__class__" t]) _ _ _
  refine wpAny_call (codeAny_call_builtin PySem.F.excAttr_ValueError.ga.plain PySem.F.entry_bexc_ga ?_)
  refine @check_slot (model prog w) _ _ ⟨hp, g, d, t + 1, os⟩ "BaseException.__getattribute__" "BaseException" "__getattribute__" (.ref x) [.str "__class__" t] [] _ (by decide +kernel) (by decide +kernel) sub (PySem.F.args_bexc_ga (.ref x) (.str "__class__" t)) ?_
  unfold Builtin.«object.__getattribute__»
  refine wpAny_bind (wpAny_of_eq (a := ((Value.ref x : Value), [Value.str "__class__" t])) (by first | rfl | (simp only [slotArgs]; rfl)) ?_)
  refine wpAny_bind (wpAny_pure (wpAny_bind (L0.at (wpAny_bind (L3.at ?_)))))
  show wpAny _ _ (holding [Value.builtin "object.__class__"] (call (.builtin "getset_descriptor.__get__") [.builtin "object.__class__", .ref x, .ref D]) >>= ret) _ _ _
  refine wpAny_bind (wpAny_holding (wpAny_call (class_get (s := ⟨hp, g, d, t + 1, os⟩) (ox := ox) (od := od) X I hm ?_)))
  refine wpAny_pure ?_
  show wpAny _ _ (handedOut (.ref D)) _ _ _
  rw [handedOut_of (v := .ref D) rfl]
  first
    | exact wpAny_pure (wpAny_pure h)
    | exact wpAny_pure h
    | exact wpAny_pure (wpAny_bind (wpAny_pure (wpAny_pure h)))
theorem j_kitx_exc (hga : findIn K (.ref D) "__getattribute__" = some (some (.builtin "BaseException.__getattribute__"))) (hgt : findIn K (.ref D) "__getattr__" = some none) (hsub : subIn K (.ref D) (.type "BaseException") = some true) (hdct : hasDictIn K D = true) (ha : findIn K (.ref D) "__class__" = some (some (.builtin "object.__class__")))
    (hn : specialIn K (.builtin "object.__class__") "__get__" = some (some (.builtin "getset_descriptor.__get__"))) (htk : takesIn K (.builtin "object.__class__") = some true) (hm : mroIn K D (.type "object") = some true) :
    KitX K (.ref x) (.ref D) (fun h => ∃ od, InstAt h x ox D od) where
  ty := fun _ _ _ I => I.elim fun _ I => I.type
  it := fun _ _ X _ => by
    obtain ⟨cdD, hcD, _⟩ := any_some hdct
    unfold clsIn at hcD
    split at hcD
    · rename_i c' d' cd' sl' ho
      intro A' Q' E' s' k q
      unfold isType loadHead
      exact wpAny_bind (wpAny_loadPart (k _ _ (X _ _ ho)) (wpAny_pure q))
    · cases hcD
  ne := fun h tp dd its n sl X htp => by
    obtain ⟨cdD, hcD, _⟩ := any_some hdct
    refine Bool.eq_false_iff.mpr fun q => ?_
    have e : D = tp := Value.ref.inj (beq_iff_eq.mp q)
    subst e
    unfold clsIn at hcD
    split at hcD
    · rename_i c' d' cd' sl' ho
      have z := (X _ _ ho).symm.trans htp
      cases z
    · cases hcD
  ca := fun X I k => I.elim fun _ I => j_classE hga hgt hsub hdct ha hn htk hm X I k
end
end PySem.W
namespace J
open PySem PySem.Spec PyProof.Rows L2
def excCB (K : PySem.W.Frag) (D : Addr) : Bool := He.eqO (PySem.W.findIn K (.ref D) "__getattribute__") (some (some (.builtin "BaseException.__getattribute__"))) && (He.eqO (PySem.W.findIn K (.ref D) "__getattr__") (some none) && (decide (PySem.W.subIn K (.ref D) (.type "BaseException") = some true) && (PySem.W.hasDictIn K D &&
  (He.eqO (PySem.W.findIn K (.ref D) "__class__") (some (some (.builtin "object.__class__"))) && (He.eqO (PySem.W.specialIn K (.builtin "object.__class__") "__get__") (some (some (.builtin "getset_descriptor.__get__"))) && (decide (PySem.W.takesIn K (.builtin "object.__class__") = some true) && decide (PySem.W.mroIn K D (.type "object") = some true)))))))
theorem excCB_ok {K : PySem.W.Frag} {D : Addr} (h : excCB K D = true) : ExcC K D := by
  simp only [excCB, Bool.and_eq_true] at h
  obtain ⟨h1, h2, h3, h4, h5, h6, h7, h8⟩ := h
  exact ⟨He.eqO_ok h1, He.eqO_ok h2, of_decide_eq_true h3, h4, He.eqO_ok h5, He.eqO_ok h6, of_decide_eq_true h7, of_decide_eq_true h8⟩
def rIsF (K : PySem.W.Frag) (D a dd : Addr) : List V → Hp → VK → Prop := fun xs H Q => ∃ (c : V) (cv : Value) (b : Bool) (gs : List (Str × V)), xs = [.ref a, c] ∧ (∀ u, RelV c u → u = cv) ∧ PySem.W.kitOne K (.ref D) cv = some b ∧ H dd = some (.xd gs) ∧ Q (.bl b) H
theorem call_isF {X : Cx} {a D dd : Addr} {oe : Obj} {pn : List (Addr × Obj)} (C : ExcC X.K D) (hz : Zc (.ref D) (some dd) oe) (hf : ∃ vs, oe.data = .fields vs) : CallR (X.suite a ((a, oe) :: pn)) (.builtin "isinstance") (rIsF X.K D a dd) := by
  intro pins s σ H xs us Q I r h
  obtain ⟨c, cv, b, gs, rfl, hcv, e, hdd, q⟩ := h
  cases r with
  | cons rx rr =>
    cases rr with
    | cons rt rr =>
      cases rr
      cases rx
      have ec := hcv _ rt
      subst ec
      obtain ⟨hget, _⟩ := I.pin (a, oe) (List.mem_append.mpr (.inl List.mem_cons_self))
      obtain ⟨vs, hv⟩ := hf
      have hx : ObjOk (X.suite a ((a, oe) :: pn)).prog (X.suite a ((a, oe) :: pn)).w H s.heap dd (.xd gs) := I.hok dd _ hdd
      obtain ⟨mA, hns, hr⟩ := hx
      obtain ⟨od, es, ep, ho, _⟩ := hns
      have J : PySem.W.InstAt s.heap a oe D (some od) := by
        obtain ⟨oc, odd, oda, osl⟩ := oe
        obtain ⟨h1, h2⟩ := hz
        dsimp only at h1 h2 hv
        subst h1 h2 hv
        exact ⟨hget, rfl, rfl, ho⟩
      exact PySem.W.kia_one (PySem.W.j_kitx_exc C.hg C.hk C.hs C.hd C.ha C.hn C.ht C.hm) I.kIn ⟨_, J⟩ e (fun z => nomatch z) fun tk => ⟨.bl b, H, I.kept (t' := tk) fun _ _ z => z, rfl, q⟩
def xisB (K : PySem.W.Frag) (S : Sta) (l : List (Nat × Bool)) (C : Addr) : Bool := l.all fun p => excCB K (S.ca p.1) && decide (PySem.W.kitOne K (.ref (S.ca p.1)) (.ref C) = some p.2)
theorem xisB_ok {K : PySem.W.Frag} {S : Sta} {l : List (Nat × Bool)} {C : Addr} (h : xisB K S l C = true) : ∀ c b, l.lookup c = some b → ExcC K (S.ca c) ∧ PySem.W.kitOne K (.ref (S.ca c)) (.ref C) = some b := fun c b e => by
  have := List.all_eq_true.mp h (c, b) (lookup_mem' e)
  simp only [Bool.and_eq_true] at this
  exact ⟨excCB_ok this.1, of_decide_eq_true this.2⟩
section
variable {X : Cx} {S : Sta} {pos : Pos}
/-- isinstance(e, C), e the caught exception -/
def eXis (i : Nat) (l : List (Nat × Bool)) : Ex := fun ta h => match ta[i]? with
  | some (some (.xcp c _)) => (match l.lookup c with
    | some b => .ok (.bl b) h
    | none => .stuck)
  | _ => .stuck
theorem de_xis {a0 : Addr} {oe : Obj} {cur : Option (Addr × Nat × Addr)} {pn : List (Addr × Obj)} {x : Str} {i : Nat} {l : List (Nat × Bool)} {np p : Pos} {cx : Expr} {cv : V} {u : Value} (cok : CurOk S a0 oe cur) (hcx : PE (X.suite a0 ((a0, oe) :: pn)) cx (tC cv)) (kc : ClsV cv u)
    (ck : ∀ c b, l.lookup c = some b → ExcC X.K (S.ca c) ∧ PySem.W.kitOne X.K (.ref (S.ca c)) u = some b) (hN : X.N[i]? = some x) (hv : Vis X.env.scope x) (hg : Gl X "isinstance") (hm : X.mg "isinstance" = none)
    (hd : (x == ("__debug__" : Str)) = false := by decide) (hcd : (x == ("__classdict__" : Str)) = false := by decide)
    (h1 : starEach (.Name x np :: [cx]) X.env = (false, eval (.Name x np) X.env) :: starEach [cx] X.env := by rfl) (h2 : starEach (cx :: []) X.env = (false, eval cx X.env) :: starEach [] X.env := by rfl) (hpl : (backTo pos (starEach [cx] X.env)).any (·.1) = false := by rfl) :
    DE S (X.suite a0 ((a0, oe) :: pn)) (Wsu cur) (.Call (.Name "isinstance" p) [.Name x np, cx] [] pos) (eXis i l) := by
  refine ⟨fun pins s sg H Q I q => ?_⟩
  obtain ⟨rho, h, ta, lr, rs, g⟩ := q
  unfold eXis at g
  split at g
  · rename_i c fs e
    split at g
    · rename_i b hb
      obtain ⟨v, e1, r1⟩ := rs.at_ i _ e
      rcases r1 with r1 | ⟨c', fs', a', dd, gs, q1, rfl, q3, q4, q5, q6⟩
      · cases r1
      · cases q1
        obtain ⟨rfl, hz⟩ := cok.2 a' c dd q3
        obtain ⟨ec, ek⟩ := ck c b hb
        refine (pe_callB (X := X.suite a' ((a', oe) :: pn)) (call_isF ec hz cok.1) hg hm PyProof.Rows.boot_isinstance (pa_cons (pe_var (X := X.suite a' ((a', oe) :: pn)) (i := i) hN hv hd hcd) (pa_cons hcx pa_nil h2) h1) (by decide) (by decide) h1 hpl).run pins s sg H Q I ?_
        exact ⟨.ref a', e1, cv, u, b, gs, rfl, fun z rz => kc.eq rz, ek, q5, g rho H _ Ev.rfl' lr (.bl _)⟩
    · exact g.elim
  · exact g.elim
end
end J
namespace J
open PySem PySem.Spec PyProof.Rows L2
/-- a def of which nothing is promised -/
theorem fnm_stuck {P : Program} {w : World} {K : PySem.W.Frag} {mg : Str → Option Value} {base : Heap} {S : Sta} {k n : Nat} {f : Addr} {fd : FuncData} {ps : List Str} (hn : ps.length = n) (hb : Binds K fd ps []) : FnM P w K mg base S k f n (fun _ _ => .stuck) [] :=
  ⟨fd, ps, [], [], hn, ⟨fun vs H Q E h => h.1.trans hn.symm, fun A outer s H args us vs Q E hr e0 hb r h => by
    obtain ⟨_, rho, h, ws, _, _, g⟩ := h
    exact g.elim⟩, hb, .nil, fun _ _ => .nil⟩
end J

/-! for x, y in zip(tuple, tuple) -/
namespace J
open PySem PySem.Spec PyProof.Rows L2
def zipW : List W → List W → List W
  | x :: xs, y :: ys => .tup [x, y] :: zipW xs ys
  | _, _ => []
theorem zipW_at : ∀ (xs ys : List W) (i : Nat) (w : W), (zipW xs ys)[i]? = some w → ∃ x y, xs[i]? = some x ∧ ys[i]? = some y ∧ w = .tup [x, y]
  | [], _, i, w, e => by simp [zipW] at e
  | _ :: _, [], i, w, e => by simp [zipW] at e
  | x :: xs, y :: ys, 0, w, e => by simp [zipW] at e; exact ⟨x, y, rfl, rfl, e.symm⟩
  | x :: xs, y :: ys, i + 1, w, e => by
    obtain ⟨a, b, h1, h2, h3⟩ := zipW_at xs ys i w (by simpa [zipW] using e)
    exact ⟨a, b, by simpa using h1, by simpa using h2, h3⟩
theorem zipW_len : ∀ (xs ys : List W), (zipW xs ys).length = min xs.length ys.length
  | [], _ => by simp [zipW]
  | _ :: _, [] => by simp [zipW]
  | x :: xs, y :: ys => by simp only [zipW, List.length_cons, zipW_len xs ys]; omega
section
variable {X : Cx} {S : Sta} {Wx : Wi} {a a2 : Expr} {bd : List Stmt} {ms : Ax} {pos pos' p : Pos}
def sForZ (ms : Ax) (g : Tgt) (b : Sx) : Sx := fun ta h => (ms ta h).to ta fun ws h1 => match ws with
  | [.tup xs, .tup ys] => forT g b (zipW xs ys) ta h1
  | _ => .stuck
theorem ds_forZ {elts : List Expr} {kk : Nat} {tpos : Pos} {g : Tgt} {b : Sx} (K : S.K = X.K) (hp : PassesOwn (model X.prog X.w) X.A X.env X.xe) (hc : X.calm = true) (hgl : Gl X "zip") (hm : X.mg "zip" = none) (ha : DA S X Wx [a, a2] ms) (hg : DG S X Wx (.Tuple elts kk tpos) g) (hb : DB S X Wx bd b)
    (h1 : starEach [a, a2] X.env = (false, eval a X.env) :: starEach [a2] X.env := by rfl) (hpl : (backTo pos' (starEach [a2] X.env)).any (·.1) = false := by rfl) (hs : ∀ x, foldedSetIterable (.Call (.Name "zip" p) [a, a2] [] pos') X.env x = pure x := by intro _; rfl) : DS S X Wx (.For (.Tuple elts kk tpos) (.Call (.Name "zip" p) [a, a2] [] pos') bd [] pos) (sForZ ms g b) := ps_imp (ps_for hp hc (RZ.pi_zipA hgl hm ha h1 hpl) hg hb hs) fun D sg H q =>
  tS_toA (k := fun ta ws h1 => match ws with
    | [.tup xs, .tup ys] => forT g b (zipW xs ys) ta h1
    | _ => .stuck) q fun rho1 H1 ta v1 w1 h1 l rs r g1 => by
    split at g1
    · rename_i xs ys
      obtain ⟨v, u, rfl, rv, ru⟩ := RVs_two r
      cases rv with
      | tup hp1 r1 =>
        cases ru with
        | tup hp2 r2 =>
          rename_i p1 ys1 p2 ys2
          refine ⟨p1, p2, ys1, ys2, rfl, .inr ⟨by rw [← K]; exact hp1, by rw [← K]; exact hp2, ?_⟩⟩
          refine loopT (S := S) (Wx := Wx) (xs := zipW xs ys) (fun rho H => (SqT S.K H p1 ys1 ∧ RVs S rho H xs ys1) ∧ SqT S.K H p2 ys2 ∧ RVs S rho H ys ys2) (fun rho H rho' H' ev f => ⟨⟨ev.tup _ _ f.1.1, f.1.2.mono ev⟩, ev.tup _ _ f.2.1, f.2.2.mono ev⟩) (fun i rho H f hi => ?_) (fun rho H f => ?_) (fun i rho h H x H' w l f hw y => ?_) l rs ⟨⟨hp1, r1⟩, hp2, r2⟩ g1
          · rw [zipW_len] at hi
            obtain ⟨v1, e1, _⟩ := f.1.2.get (List.getElem?_eq_getElem (show i < xs.length by omega))
            obtain ⟨v2, e2, _⟩ := f.2.2.get (List.getElem?_eq_getElem (show i < ys.length by omega))
            exact ⟨ys1, ys2, v1, v2, by rw [← K]; exact f.1.1, by rw [← K]; exact f.2.1, e1, e2⟩
          · refine ⟨ys1, ys2, by rw [← K]; exact f.1.1, by rw [← K]; exact f.2.1, ?_⟩
            rw [zipW_len, ← f.1.2.length, ← f.2.2.length]
            omega
          · obtain ⟨T, x0, y0, rfl, hn, rfl, z1, z2⟩ := y
            obtain ⟨x1, y1, hx1, hy1, rfl⟩ := zipW_at _ _ _ _ hw
            obtain ⟨v1, e1, rv1⟩ := f.1.2.get hx1
            obtain ⟨v2, e2, rv2⟩ := f.2.2.get hy1
            have t1 := z1 ys1 (by rw [← K]; exact f.1.1)
            have t2 := z2 ys2 (by rw [← K]; exact f.2.1)
            rw [e1] at t1
            rw [e2] at t2
            cases t1
            cases t2
            exact ⟨rho, Ev.lay hn, l.lay hn, .tup (SqT.of upd_same) (.cons (rv1.mono (Ev.lay hn)) (.cons (rv2.mono (Ev.lay hn)) .nil))⟩
    · exact g1.elim
end
end J

namespace JP
open PySem PySem.Spec PyProof.Rows L2 J
def b__law_hand : Sx := (sSeq (sSet 1 (eC (.int 0))) (sSeq (sForE (aCons (eVar 0) aNil) (gTp 2 (gsCons (gNm 2) (gsCons (gNm 3) gsNil))) (sSet 1 (eOp oMod (eFn fInt (aCons (eOp oAdd (eOp qMul (eVar 1) (eC (.int 31))) (eOp qMul (eFn fInt (aCons (eVar 3) aNil)) (eOp oAdd (eVar 2) (eC (.int 7))))) aNil)) (eC (.int 2147483629))))) (sRet (eLst (aCons (eLc (eVar 0) (gNm 3) xYes (eFn fAbs (aCons (eFn fInt (aCons (eVar 3) aNil)) aNil)) [3]) (aCons (eC (.int 0)) (aCons (eC (.int 0)) (aCons (eVar 1) aNil))))))))
def m__law_hand : Mir := runB b__law_hand 4
def b__law_mix : Sx := (sSeq (sSet 2 (eOp oMod (eFn fInt (aCons (eOp oAdd (eOp oAdd (eOp qMul (eVar 0) (eC (.int 48271))) (eOp qMul (eVar 1) (eC (.int 16807)))) (eC (.int 11))) aNil)) (eC (.int 2147483647)))) (sSeq (sSet 3 (eOp oMod (eFn fInt (aCons (eOp oAdd (eOp oAdd (eOp qMul (eVar 2) (eVar 2)) (eOp qMul (eOp oDiv (eVar 2) (eC (.int 127))) (eC (.int 40692)))) (eOp qMul (eVar 1) (eC (.int 69621)))) aNil)) (eC (.int 2147483399)))) (sRet (eOp oDiv (eOp oMod (eFn fInt (aCons (eOp oAdd (eOp oDiv (eOp qMul (eVar 3) (eVar 3)) (eC (.int 1009))) (eVar 2)) aNil)) (eC (.int 2147483563))) (eC (.int 16))))))
def m__law_mix : Mir := runB b__law_mix 4
def b__law_draw : Sx := (sSeq (sIf (xAnd (xTb (eOp qEq (eOp oIx (eVar 0) (eC (.int 2))) (eC (.int 0)))) (xTb (eOp oLt (eOp oIx (eVar 0) (eC (.int 1))) (eFn fLen (aCons (eOp oIx (eVar 0) (eC (.int 0))) aNil))))) (sSeq (sSet 2 (eOp oIx (eOp oIx (eVar 0) (eC (.int 0))) (eOp oIx (eVar 0) (eC (.int 1))))) (sSeq (sAsg (eOp oAdd (eOp oIx (eVar 0) (eC (.int 1))) (eC (.int 1))) (gSb (eVar 0) (eC (.int 1)))) (sSeq (sIf (xTb (eOp oLt (eVar 2) (eOp oPow (eC (.int 10)) (eC (.int 18))))) (sRet (eOp oMod (eFn fInt (aCons (eCall m__law_mix 2 [] (aCons (eOp oMod (eFn fInt (aCons (eVar 2) aNil)) (eC (.int 2147483647))) (aCons (eOp oIx (eVar 0) (eC (.int 1))) aNil))) aNil)) (eVar 1))) sPass) (sAsg (eVar 2) (gSb (eVar 0) (eC (.int 2))))))) sPass) (sSeq (sIf (xTb (eOp oGt (eOp oIx (eVar 0) (eC (.int 2))) (eC (.int 0)))) (sSeq (sSet 3 (eOp oIx (eVar 0) (eC (.int 2)))) (sSeq (sAsg (eOp oDiv (eVar 3) (eVar 1)) (gSb (eVar 0) (eC (.int 2)))) (sRet (eOp oMod (eFn fInt (aCons (eVar 3) aNil)) (eVar 1))))) sPass) (sSeq (sAsg (eOp oMod (eFn fInt (aCons (eOp oAdd (eOp oIx (eVar 0) (eC (.int 3))) (eC (.int 1))) aNil)) (eC (.int 2147483629))) (gSb (eVar 0) (eC (.int 3)))) (sRet (eOp oMod (eFn fInt (aCons (eCall m__law_mix 2 [] (aCons (eOp oIx (eVar 0) (eC (.int 3))) (aCons (eOp oIx (eVar 0) (eC (.int 1))) aNil))) aNil)) (eVar 1))))))
def m__law_draw : Mir := runB b__law_draw 4
end JP

namespace J
open PySem PySem.Spec PyProof.Rows L2
/-! ### plain reading: what an outcome meets -/
abbrev XP : Type := Nat → List (Nat × W) → HA → Prop
def nox : XP := fun _ _ _ => False
/-- a mark that keeps simp from the rest of a run -/
inductive Tk {α : Type} (Q : α → HA → Prop) (X : XP) : Type where
  | tk
@[irreducible] def RW {α : Type} (r : Res α) (Q : α → HA → Prop) (X : XP) (d : Tk Q X := .tk) : Prop := match r with
  | .ok a h => Q a h
  | .exc c fs h => X c fs h
  | .stuck => False
structure Pt where
  n : En → HA → Prop
  r : W → HA → Prop
  b : En → HA → Prop
  c : En → HA → Prop
  x : Nat → List (Nat × W) → En → HA → Prop
inductive Ts (p : Pt) : Type where
  | tk
@[irreducible] def SW (r : SR) (p : Pt) (d : Ts p := .tk) : Prop := match r with
  | .nx ta h => p.n ta h
  | .rt w h => p.r w h
  | .bk ta h => p.b ta h
  | .ct ta h => p.c ta h
  | .exc c fs ta h => p.x c fs ta h
  | .stuck => False
section
variable {α β : Type} {Q Q' : α → HA → Prop} {X X' : XP} {h : HA} {ta : En} {p p' : Pt} {m m1 m2 m3 : Ex} {t u : Tx} {ms : Ax} {s1 s2 : Sx}
@[simp] theorem RW_ok {a : α} : RW (.ok a h) Q X = Q a h := by unfold RW; rfl
@[simp] theorem RW_exc {c : Nat} {fs : List (Nat × W)} : RW (.exc c fs h : Res α) Q X = X c fs h := by unfold RW; rfl
@[simp] theorem RW_stuck : RW (.stuck : Res α) Q X = False := by unfold RW; rfl
@[simp] theorem RW_bind {r : Res β} {k : β → HA → Res α} : RW (r.bind k) Q X = RW r (fun a h => RW (k a h) Q X) X := by cases r <;> simp only [RW_ok, RW_exc, RW_stuck, Res.bind]
theorem RW.imp {r : Res α} (h : RW r Q X) (f : ∀ a h, Q a h → Q' a h) (g : ∀ c fs h, X c fs h → X' c fs h := by exact fun _ _ _ z => z) : RW r Q' X' := by
  unfold RW at h ⊢
  cases r with
  | ok a h' => exact f _ _ h
  | exc c fs h' => exact g _ _ _ h
  | stuck => exact h
theorem RW.get {r : Res α} (h : RW r Q nox) : ∃ a h', r = .ok a h' ∧ Q a h' := by
  unfold RW at h
  cases r with
  | ok a h' => exact ⟨a, h', rfl, h⟩
  | exc c fs h' => exact h.elim
  | stuck => exact h.elim
theorem RW.of {r : Res α} {a : α} (e : r = .ok a h) (q : Q a h) : RW r Q X := by rw [e, RW_ok]; exact q
@[simp] theorem SW_nx : SW (.nx ta h) p = p.n ta h := by unfold SW; rfl
@[simp] theorem SW_rt {w : W} : SW (.rt w h) p = p.r w h := by unfold SW; rfl
@[simp] theorem SW_bk : SW (.bk ta h) p = p.b ta h := by unfold SW; rfl
@[simp] theorem SW_ct : SW (.ct ta h) p = p.c ta h := by unfold SW; rfl
@[simp] theorem SW_exc {c : Nat} {fs : List (Nat × W)} : SW (.exc c fs ta h) p = p.x c fs ta h := by unfold SW; rfl
@[simp] theorem SW_stuck : SW .stuck p = False := by unfold SW; rfl
@[simp] theorem SW_then {r : SR} {k : Sx} : SW (r.then k) p = SW r { p with n := fun ta h => SW (k ta h) p } := by cases r <;> simp only [SW_nx, SW_rt, SW_bk, SW_ct, SW_exc, SW_stuck, SR.then]
@[simp] theorem SW_to {r : Res α} {k : α → HA → SR} : SW (r.to ta k) p = RW r (fun a h => SW (k a h) p) (fun c fs h => p.x c fs ta h) := by cases r <;> simp only [RW_ok, RW_exc, RW_stuck, Res.to, SW_exc, SW_stuck]
@[simp] theorem SW_turn {r : SR} {k : Sx} : SW (r.turn k) p = SW r { p with n := fun ta h => SW (k ta h) p, c := fun ta h => SW (k ta h) p, b := p.n } := by cases r <;> simp only [SW_nx, SW_rt, SW_bk, SW_ct, SW_exc, SW_stuck, SR.turn]
theorem SW.imp {r : SR} (h : SW r p) (n : ∀ ta h, p.n ta h → p'.n ta h) (rr : ∀ w h, p.r w h → p'.r w h) (b : ∀ ta h, p.b ta h → p'.b ta h) (c : ∀ ta h, p.c ta h → p'.c ta h) (x : ∀ c fs ta h, p.x c fs ta h → p'.x c fs ta h) : SW r p' := by
  unfold SW at h ⊢
  cases r with
  | nx ta h' => exact n _ _ h
  | rt w h' => exact rr _ _ h
  | bk ta h' => exact b _ _ h
  | ct ta h' => exact c _ _ h
  | exc c fs ta h' => exact x _ _ _ _ h
  | stuck => exact h
theorem bind_congr {r r' : Res β} {k : β → HA → Res α} (e : r = r') : r.bind k = r'.bind k := by rw [e]
theorem to_congr {r r' : Res α} {k : α → HA → SR} (e : r = r') : r.to ta k = r'.to ta k := by rw [e]
theorem then_congr {r r' : SR} {k : Sx} (e : r = r') : r.then k = r'.then k := by rw [e]
theorem turn_congr {r r' : SR} {k : Sx} (e : r = r') : r.turn k = r'.turn k := by rw [e]
/-! ### expressions -/
theorem RW_eVar {i : Nat} {Q : W → HA → Prop} : RW (eVar i ta h) Q X = ∃ w, ta[i]? = some (some w) ∧ noX w = true ∧ Q w h := by
  unfold eVar
  split
  · rename_i w e
    rw [e]
    by_cases c : noX w = true
    · simp [c]
    · simp [c]
  · rename_i q
    apply propext
    constructor
    · intro z; rw [RW_stuck] at z; exact z.elim
    · rintro ⟨w, e, _⟩; exact (q w e).elim
theorem eVar_ok {i : Nat} {w : W} (e : ta[i]? = some (some w)) (n : noX w = true) : eVar i ta h = .ok w h := by unfold eVar; rw [e]; simp [n]
def gv (o : Option (Option W)) (h : HA) : Res W := match o with
  | some (some w) => if noX w = true then .ok w h else .stuck
  | _ => .stuck
@[simp] theorem eVar_eq {i : Nat} : eVar i ta h = gv ta[i]? h := (rfl)
theorem gv_ok {w : W} (n : noX w = true) : gv (some (some w)) h = .ok w h := if_pos n
@[simp] theorem gv_non : gv (some (some .non)) h = .ok .non h := (rfl)
@[simp] theorem gv_bl {a : Bool} : gv (some (some (.bl a))) h = .ok (.bl a) h := (rfl)
@[simp] theorem gv_int {a : Int} : gv (some (some (.int a))) h = .ok (.int a) h := (rfl)
@[simp] theorem gv_str {a : Str} : gv (some (some (.str a))) h = .ok (.str a) h := (rfl)
@[simp] theorem gv_tup {a : List W} : gv (some (some (.tup a))) h = .ok (.tup a) h := (rfl)
@[simp] theorem gv_cst {a : List W} : gv (some (some (.cst a))) h = .ok (.cst a) h := (rfl)
@[simp] theorem gv_ref {a : Nat} : gv (some (some (.ref a))) h = .ok (.ref a) h := (rfl)
@[simp] theorem noX_non : noX .non = true := (rfl)
@[simp] theorem noX_bl {b : Bool} : noX (.bl b) = true := (rfl)
@[simp] theorem noX_int {b : Int} : noX (.int b) = true := (rfl)
@[simp] theorem noX_str {b : Str} : noX (.str b) = true := (rfl)
@[simp] theorem noX_tup {b : List W} : noX (.tup b) = true := (rfl)
@[simp] theorem noX_ref {b : Nat} : noX (.ref b) = true := (rfl)
@[simp] theorem noX_cst {b : List W} : noX (.cst b) = true := (rfl)
@[simp] theorem eC_eq {w : W} : eC w ta h = .ok w h := (rfl)
@[simp] theorem ofO_some {w : W} : ofO (some (w, h)) = .ok w h := (rfl)
@[simp] theorem ofO_none : ofO none = .stuck := (rfl)
@[simp] theorem bind_ok {a : β} {k : β → HA → Res α} : Res.bind (.ok a h) k = k a h := (rfl)
@[simp] theorem bind_exc {c : Nat} {fs : List (Nat × W)} {k : β → HA → Res α} : Res.bind (.exc c fs h) k = .exc c fs h := (rfl)
@[simp] theorem bind_stuck {k : β → HA → Res α} : Res.bind .stuck k = .stuck := (rfl)
@[simp] theorem to_ok {a : α} {k : α → HA → SR} : Res.to (.ok a h) ta k = k a h := (rfl)
@[simp] theorem to_exc {c : Nat} {fs : List (Nat × W)} {k : α → HA → SR} : Res.to (.exc c fs h) ta k = .exc c fs ta h := (rfl)
@[simp] theorem eOp_eq {o : W → W → HA → Option (W × HA)} : eOp o m1 m2 ta h = (m1 ta h).bind fun x h1 => (m2 ta h1).bind fun y h2 => ofO (o x y h2) := (rfl)
@[simp] theorem eUn_eq {o : W → HA → Option (W × HA)} : eUn o m ta h = (m ta h).bind fun x h1 => ofO (o x h1) := (rfl)
@[simp] theorem xTru_eq : xTru m ta h = (m ta h).bind fun x h1 => ofB (truW x h1) h1 := (rfl)
@[simp] theorem ofB_some {b : Bool} : ofB (some b) h = .ok b h := (rfl)
@[simp] theorem ofB_none : ofB none h = .stuck := (rfl)
def rTb (x : W) (h : HA) : Res Bool := match x with
  | .bl b => .ok b h
  | _ => .stuck
@[simp] theorem rTb_bl {b : Bool} : rTb (.bl b) h = .ok b h := (rfl)
@[simp] theorem xTb_eq : xTb m ta h = (m ta h).bind rTb := (rfl)
@[simp] theorem xAnd_eq : xAnd t u ta h = (t ta h).bind fun b h1 => if b = true then u ta h1 else .ok false h1 := (rfl)
@[simp] theorem xOr_eq : xOr t u ta h = (t ta h).bind fun b h1 => if b = true then .ok true h1 else u ta h1 := (rfl)
@[simp] theorem xNot_eq : xNot t ta h = (t ta h).bind fun b h1 => .ok (!b) h1 := (rfl)
def rAnd (m2 : Ex) (ta : En) (x : W) (h1 : HA) : Res W := match truW x h1 with
  | some true => m2 ta h1
  | some false => .ok x h1
  | none => .stuck
def rOr (m2 : Ex) (ta : En) (x : W) (h1 : HA) : Res W := match truW x h1 with
  | some true => .ok x h1
  | some false => m2 ta h1
  | none => .stuck
def rNot (x : W) (h1 : HA) : Res W := match truW x h1 with
  | some b => .ok (.bl (!b)) h1
  | none => .stuck
@[simp] theorem eAnd_eq : eAnd m1 m2 ta h = (m1 ta h).bind (rAnd m2 ta) := (rfl)
@[simp] theorem eOr_eq : eOr m1 m2 ta h = (m1 ta h).bind (rOr m2 ta) := (rfl)
@[simp] theorem eNot_eq : eNot m ta h = (m ta h).bind rNot := (rfl)
@[simp] theorem rAnd_bl {b : Bool} : rAnd m2 ta (.bl b) h = if b = true then m2 ta h else .ok (.bl b) h := by cases b <;> rfl
@[simp] theorem rOr_bl {b : Bool} : rOr m2 ta (.bl b) h = if b = true then .ok (.bl b) h else m2 ta h := by cases b <;> rfl
@[simp] theorem rNot_bl {b : Bool} : rNot (.bl b) h = .ok (.bl (!b)) h := (rfl)
@[simp] theorem eIf_eq : eIf t m1 m2 ta h = (t ta h).bind fun b h1 => if b = true then m1 ta h1 else m2 ta h1 := (rfl)
def rChain (o' : W → W → HA → Option (W × HA)) (m3 : Ex) (ta : En) (y : W) (r : Option (W × HA)) : Res W := match r with
  | some (.bl true, h3) => (m3 ta h3).bind fun z h4 => ofO (o' y z h4)
  | some (.bl false, h3) => .ok (.bl false) h3
  | _ => .stuck
@[simp] theorem rChain_bl {o' : W → W → HA → Option (W × HA)} {y : W} {b : Bool} : rChain o' m3 ta y (some (.bl b, h)) = if b = true then (m3 ta h).bind fun z h4 => ofO (o' y z h4) else .ok (.bl false) h := by cases b <;> rfl
@[simp] theorem eChain_eq {o o' : W → W → HA → Option (W × HA)} : eChain o o' m1 m2 m3 ta h = (m1 ta h).bind fun x h1 => (m2 ta h1).bind fun y h2 => rChain o' m3 ta y (o x y h2) := (rfl)
@[simp] theorem aNil_eq : aNil ta h = .ok [] h := (rfl)
@[simp] theorem aCons_eq : aCons m ms ta h = (m ta h).bind fun x h1 => (ms ta h1).bind fun xs h2 => .ok (x :: xs) h2 := (rfl)
theorem size_big : 10000 ≤ sizeLine := by decide
def mkTup (xs : List W) (h1 : HA) : Res W := if xs.length ≤ sizeLine then .ok (.tup xs) h1 else .stuck
def mkLst (xs : List W) (h1 : HA) : Res W := if xs.length ≤ sizeLine then .ok (.ref h1.length) (h1 ++ [.lst xs]) else .stuck
@[simp] theorem eTup_eq : eTup ms ta h = (ms ta h).bind mkTup := (rfl)
@[simp] theorem eLst_eq : eLst ms ta h = (ms ta h).bind mkLst := (rfl)
theorem mkTup_ok {xs : List W} (l : xs.length ≤ 10000) : mkTup xs h = .ok (.tup xs) h := if_pos (Nat.le_trans l size_big)
theorem mkLst_ok {xs : List W} (l : xs.length ≤ 10000) : mkLst xs h = .ok (.ref h.length) (h ++ [.lst xs]) := if_pos (Nat.le_trans l size_big)
@[simp] theorem eFn_eq {o : List W → HA → Option (W × HA)} : eFn o ms ta h = (ms ta h).bind fun xs h1 => ofO (o xs h1) := (rfl)
def rCall (g : Mir) (n : Nat) (ds : List W) (ws : List W) (h1 : HA) : Res W := if ws.length + ds.length = n then g (ws ++ ds) h1 else .stuck
@[simp] theorem eCall_eq {g : Mir} {n : Nat} {ds : List W} : eCall g n ds ms ta h = (ms ta h).bind (rCall g n ds) := (rfl)
@[simp] theorem rCall1 {g : Mir} {a : W} : rCall g 1 [] [a] h = g [a] h := (rfl)
@[simp] theorem rCall2 {g : Mir} {a b : W} : rCall g 2 [] [a, b] h = g [a, b] h := (rfl)
@[simp] theorem rCall3 {g : Mir} {a b c : W} : rCall g 3 [] [a, b, c] h = g [a, b, c] h := (rfl)
@[simp] theorem rCall4 {g : Mir} {a b c d : W} : rCall g 4 [] [a, b, c, d] h = g [a, b, c, d] h := (rfl)
@[simp] theorem rCall5 {g : Mir} {a b c d e : W} : rCall g 5 [] [a, b, c, d, e] h = g [a, b, c, d, e] h := (rfl)
@[simp] theorem rCall6 {g : Mir} {a b c d e f : W} : rCall g 6 [] [a, b, c, d, e, f] h = g [a, b, c, d, e, f] h := (rfl)
@[simp] theorem eNew_eq {c n : Nat} {g : Mir} {ds : List W} : eNew c n g ds ms ta h = (ms ta h).bind (newC c n g ds) := (rfl)
theorem RW_new {c n : Nat} {g : Mir} {ws : List W} {Q : W → HA → Prop} (e : 1 + ws.length = n) (q : RW (g (.ref h.length :: ws) (h ++ [O.ins c []])) (fun w h2 => w = .non ∧ Q (.ref h.length) h2) X) : RW (newC c n g [] ws h) Q X := by
  unfold newC
  rw [if_pos (by simp [e])]
  rw [show (W.ref h.length :: ws ++ ([] : List W)) = .ref h.length :: ws from by simp]
  cases z : g (.ref h.length :: ws) (h ++ [O.ins c []]) with
  | ok w h2 =>
    rw [z, RW_ok] at q
    obtain ⟨rfl, q⟩ := q
    rw [RW_ok]
    exact q
  | exc c fs h2 =>
    rw [z, RW_exc] at q
    rw [RW_exc]
    exact q
  | stuck =>
    rw [z, RW_stuck] at q
    exact q.elim
/-! ### operators -/
variable {i j : Int}
@[simp] theorem oAdd_int : oAdd (.int i) (.int j) h = some (.int (i + j), h) := (rfl)
@[simp] theorem oSub_int : oSub (.int i) (.int j) h = some (.int (i - j), h) := (rfl)
@[simp] theorem oNeg_int : oNeg (.int i) h = some (.int (-i), h) := (rfl)
@[simp] theorem oMul_int (l : mulOk i j = true) : oMul (.int i) (.int j) h = some (.int (i * j), h) := by
  show Option.map _ (if mulOk i j = true then some (W.int (i * j)) else none) = _
  rw [if_pos l]; rfl
@[simp] theorem qMul_int (l : mulOk i j = true) : qMul (.int i) (.int j) h = some (.int (i * j), h) := if_pos l
@[simp] theorem mulOk_r (a : -(2 ^ 64) < j) (b : j < 2 ^ 64) : mulOk i j = true := by
  unfold mulOk
  rw [Bool.or_eq_true]
  exact .inr (decide_eq_true ⟨a, b⟩)
@[simp] theorem mulOk_l (a : -(2 ^ 64) < i) (b : i < 2 ^ 64) : mulOk i j = true := by
  unfold mulOk
  rw [Bool.or_eq_true]
  exact .inl (decide_eq_true ⟨a, b⟩)
@[simp] theorem mulOk_mod {n : Int} (a : 0 < n) (b : n < 2 ^ 64) : mulOk (i % n) j = true := mulOk_l (Int.lt_of_lt_of_le (by decide) (Int.emod_nonneg _ (Int.ne_of_gt a))) (Int.lt_trans (Int.emod_lt_of_pos _ a) b)
@[simp] theorem oDiv_int (a : 0 < j) (b : j < 2 ^ 64) : oDiv (.int i) (.int j) h = some (.int (i / j), h) := by
  show Option.map _ (if 0 < j ∧ j < 2 ^ 64 then some (W.int (i / j)) else none) = _
  rw [if_pos ⟨a, b⟩]; rfl
@[simp] theorem oMod_int (a : 0 < j) : oMod (.int i) (.int j) h = some (.int (i % j), h) := by
  show Option.map _ (if 0 < j then some (W.int (i % j)) else none) = _
  rw [if_pos a]; rfl
@[simp] theorem oPow_int (a : 0 ≤ j ∧ j ≤ 1000000 ∧ i.natAbs < 2 ^ 64) : oPow (.int i) (.int j) h = some (.int (i ^ j.toNat), h) := by
  show Option.map _ (if 0 ≤ j ∧ j ≤ 1000000 ∧ i.natAbs < 2 ^ 64 then some (W.int (i ^ j.toNat)) else none) = _
  rw [if_pos a]; rfl
@[simp] theorem oLt_int : oLt (.int i) (.int j) h = some (.bl (decide (i < j)), h) := (rfl)
@[simp] theorem oLe_int : oLe (.int i) (.int j) h = some (.bl (decide (i ≤ j)), h) := (rfl)
@[simp] theorem oGt_int : oGt (.int i) (.int j) h = some (.bl (decide (j < i)), h) := (rfl)
@[simp] theorem oGe_int : oGe (.int i) (.int j) h = some (.bl (decide (j ≤ i)), h) := (rfl)
@[simp] theorem qEq_int : qEq (.int i) (.int j) h = some (.bl (decide (i = j)), h) := by
  have : (i == j) = decide (i = j) := by by_cases c : i = j <;> simp [c]
  simp [qEq, qB, eqR, sqW, scD, dicE, scE, this]
@[simp] theorem oEq_int : oEq (.int i) (.int j) h = some (.bl (decide (i = j)), h) := (rfl)
@[simp] theorem oNe_int : oNe (.int i) (.int j) h = some (.bl (!decide (i = j)), h) := (rfl)
@[simp] theorem oEq_bl {a b : Bool} : oEq (.bl a) (.bl b) h = some (.bl (decide (a = b)), h) := (rfl)
@[simp] theorem oNe_bl {a b : Bool} : oNe (.bl a) (.bl b) h = some (.bl (!decide (a = b)), h) := (rfl)
@[simp] theorem oEq_str {a b : Str} : oEq (.str a) (.str b) h = some (.bl (decide (a = b)), h) := (rfl)
@[simp] theorem oNe_str {a b : Str} : oNe (.str a) (.str b) h = some (.bl (!decide (a = b)), h) := (rfl)
@[simp] theorem oEq_nn : oEq .non .non h = some (.bl true, h) := (rfl)
@[simp] theorem oNe_nn : oNe .non .non h = some (.bl false, h) := (rfl)
@[simp] theorem oNe_ns {a : Str} : oNe .non (.str a) h = some (.bl true, h) := (rfl)
@[simp] theorem oNe_sn {a : Str} : oNe (.str a) .non h = some (.bl true, h) := (rfl)
@[simp] theorem oEq_ns {a : Str} : oEq .non (.str a) h = some (.bl false, h) := (rfl)
@[simp] theorem oEq_sn {a : Str} : oEq (.str a) .non h = some (.bl false, h) := (rfl)
@[simp] theorem oIs_non {w : W} : oIs w .non h = some (.bl (match w with | .non => true | _ => false), h) := by cases w <;> rfl
@[simp] theorem oIsN_non {w : W} : oIsN w .non h = some (.bl (match w with | .non => false | _ => true), h) := by cases w <;> rfl
@[simp] theorem oIs_bl {a b : Bool} : oIs (.bl a) (.bl b) h = some (.bl (decide (a = b)), h) := (rfl)
@[simp] theorem oIsN_bl {a b : Bool} : oIsN (.bl a) (.bl b) h = some (.bl (!decide (a = b)), h) := (rfl)
@[simp] theorem truW_bl {b : Bool} : truW (.bl b) h = some b := (rfl)
@[simp] theorem truW_int : truW (.int i) h = some (i != 0) := (rfl)
@[simp] theorem truW_non : truW .non h = some false := (rfl)
@[simp] theorem fInt_int : fInt [.int i] h = some (.int i, h) := (rfl)
@[simp] theorem fInt_bl {b : Bool} : fInt [.bl b] h = some (.int (if b then 1 else 0), h) := (rfl)
@[simp] theorem fAbs_int : fAbs [.int i] h = some (.int (if i < 0 then -i else i), h) := (rfl)
@[simp] theorem itW_tup {xs : List W} : itW h (.tup xs) = some xs := (rfl)
@[simp] theorem itW_cst {xs : List W} : itW h (.cst xs) = some xs := (rfl)
@[simp] theorem itW_ref {a : Nat} : itW h (.ref a) = rdL h a := (rfl)
theorem rdL_of_get {a : Nat} {xs : List W} (e : h[a]? = some (.lst xs)) : rdL h a = some xs := by unfold rdL; rw [e]
theorem fLen_of {w : W} {xs : List W} (e : itW h w = some xs) : fLen [w] h = some (.int xs.length, h) := by
  cases w with
  | str z => cases e
  | tup ys => cases e; rfl
  | cst ys => cases e; rfl
  | ref a =>
    show Option.map _ (itW h (.ref a)) = _
    rw [e]; rfl
  | _ => cases e
theorem fList_of {w : W} {xs : List W} (e : itW h w = some xs) : fList [w] h = some (.ref h.length, h ++ [.lst xs]) := by
  show Option.map _ (itW h w) = _
  rw [e]; rfl
theorem fTuple_of {w : W} {xs : List W} (e : itW h w = some xs) : fTuple [w] h = some (.tup xs, h) := by
  show Option.map _ (itW h w) = _
  rw [e]; rfl
theorem atI_of {α : Type} {xs : List α} {x : α} {k : Int} (k0 : 0 ≤ k) (g : xs[k.toNat]? = some x) : atI xs k = some x := by
  have hk : k.toNat < xs.length := (List.getElem?_eq_some_iff.mp g).1
  have c : k < (xs.length : Int) := by omega
  show (ixN xs.length k).bind _ = _
  rw [show ixN xs.length k = some k.toNat from by unfold ixN; rw [if_pos k0, if_pos c]]
  exact g
theorem oIx_at {w x : W} {xs : List W} {k : Int} (e : itW h w = some xs) (q : atI xs k = some x) : oIx w (.int k) h = some (x, h) := by
  cases w with
  | str z => cases e
  | tup ys =>
    cases e
    show Option.map _ (atI xs k) = _
    rw [q]; rfl
  | cst ys =>
    cases e
    show Option.map _ (atI xs k) = _
    rw [q]; rfl
  | ref a =>
    show (match itW h (.ref a) with | some xs => (atI xs k).map fun v => (v, h) | none => none) = _
    rw [e]
    show Option.map _ (atI xs k) = _
    rw [q]; rfl
  | _ => cases e
theorem oIx_of {w x : W} {xs : List W} {k : Int} (e : itW h w = some xs) (k0 : 0 ≤ k) (g : xs[k.toNat]? = some x) : oIx w (.int k) h = some (x, h) := oIx_at e (atI_of k0 g)
/-! ### statements -/
@[simp] theorem sPass_eq : sPass ta h = .nx ta h := (rfl)
@[simp] theorem sBrk_eq : sBrk ta h = .bk ta h := (rfl)
@[simp] theorem sCnt_eq : sCnt ta h = .ct ta h := (rfl)
@[simp] theorem sSeq_eq : sSeq s1 s2 ta h = (s1 ta h).then s2 := (rfl)
@[simp] theorem then_nx {k : Sx} : SR.then (.nx ta h) k = k ta h := (rfl)
@[simp] theorem then_rt {k : Sx} {w : W} : SR.then (.rt w h) k = .rt w h := (rfl)
@[simp] theorem sExp_eq : sExp m ta h = (m ta h).to ta fun _ h1 => .nx ta h1 := (rfl)
@[simp] theorem sRet_eq : sRet m ta h = (m ta h).to ta fun w h1 => .rt w h1 := (rfl)
@[simp] theorem sRetN_eq : sRetN ta h = .rt .non h := (rfl)
@[simp] theorem sIf_eq : sIf t s1 s2 ta h = (t ta h).to ta fun b h1 => if b = true then s1 ta h1 else s2 ta h1 := (rfl)
@[simp] theorem sSet_eq {i : Nat} : sSet i m ta h = (m ta h).to ta fun w h1 => .nx (ta.set i (some w)) h1 := (rfl)
def kAsg (ta : En) (g : Tgt) (w : W) (h1 : HA) : SR := match g w ta h1 with
  | some (ta1, h2) => .nx ta1 h2
  | none => .stuck
@[simp] theorem sAsg_eq {g : Tgt} : sAsg m g ta h = (m ta h).to ta (kAsg ta g) := (rfl)
theorem kAsg_ok {g : Tgt} {w : W} {ta1 : En} {h1 : HA} (e : g w ta h = some (ta1, h1)) : kAsg ta g w h = .nx ta1 h1 := by unfold kAsg; rw [e]
@[simp] theorem kAsg_nm {i : Nat} {w : W} : kAsg ta (gNm i) w h = .nx (ta.set i (some w)) h := (rfl)
@[simp] theorem gNm_eq {i : Nat} {w : W} : gNm i w ta h = some (ta.set i (some w), h) := (rfl)
@[simp] theorem gsNil_eq : gsNil [] ta h = some (ta, h) := (rfl)
@[simp] theorem gsCons_nm {i : Nat} {r : Tgs} {w : W} {ws : List W} : gsCons (gNm i) r (w :: ws) ta h = r ws (ta.set i (some w)) h := (rfl)
theorem gTp_eq {n : Nat} {r : Tgs} {xs : List W} (e : xs.length = n) : gTp n r (.tup xs) ta h = r xs ta h := if_pos e
@[simp] theorem gTp2 {r : Tgs} {a b : W} : gTp 2 r (.tup [a, b]) ta h = r [a, b] ta h := (rfl)
@[simp] theorem gTp3 {r : Tgs} {a b c : W} : gTp 3 r (.tup [a, b, c]) ta h = r [a, b, c] ta h := (rfl)
@[simp] theorem kAsg_tp2 {a b : W} {i j : Nat} : kAsg ta (gTp 2 (gsCons (gNm i) (gsCons (gNm j) gsNil))) (.tup [a, b]) h = .nx ((ta.set i (some a)).set j (some b)) h := (rfl)
def okS (r : Res W) (k : W → HA → SR) : SR := match r with
  | .ok w h => k w h
  | _ => .stuck
@[simp] theorem okS_ok {w : W} {k : W → HA → SR} : okS (.ok w h) k = k w h := (rfl)
theorem okS_congr {r r' : Res W} {k : W → HA → SR} (e : r = r') : okS r k = okS r' k := by rw [e]
@[simp] theorem SW_okS {r : Res W} {k : W → HA → SR} : SW (okS r k) p = RW r (fun w h => SW (k w h) p) nox := by cases r <;> simp only [RW_ok, RW_exc, RW_stuck, okS, nox, SW_stuck]
def kW (ta : En) (r : Option HA) : SR := match r with
  | some h => .nx ta h
  | none => .stuck
@[simp] theorem kW_some : kW ta (some h) = .nx ta h := (rfl)
@[simp] theorem kAsg_sb {w : W} : kAsg ta (gSb m1 m2) w h = okS (m1 ta h) fun o h1 => okS (m2 ta h1) fun i h2 => kW ta (setW o i w h2) := by
  unfold kAsg gSb
  cases m1 ta h with
  | ok o h1 =>
    simp only [okS_ok]
    cases m2 ta h1 with
    | ok i h2 =>
      simp only [okS_ok]
      cases setW o i w h2 <;> rfl
    | _ => rfl
  | _ => rfl
@[simp] theorem kAsg_tp3 {a b c : W} {i j k : Nat} : kAsg ta (gTp 3 (gsCons (gNm i) (gsCons (gNm j) (gsCons (gNm k) gsNil)))) (.tup [a, b, c]) h = .nx (((ta.set i (some a)).set j (some b)).set k (some c)) h := (rfl)
theorem gSb_ok {o i w : W} {h1 h2 h3 : HA} (e1 : m1 ta h = .ok o h1) (e2 : m2 ta h1 = .ok i h2) (e3 : setW o i w h2 = some h3) : gSb m1 m2 w ta h = some (ta, h3) := by
  unfold gSb
  rw [e1]
  show (match m2 ta h1 with
    | .ok i h2 => (match setW o i w h2 with
      | some h3 => some (ta, h3)
      | none => none)
    | _ => none) = _
  rw [e2]
  show (match setW o i w h2 with
      | some h3 => some (ta, h3)
      | none => none) = _
  rw [e3]
theorem setW_ok {a : Nat} {k : Int} {w : W} {xs : List W} (e : h[a]? = some (.lst xs)) (k0 : 0 ≤ k) (k1 : k < xs.length) : setW (.ref a) (.int k) w h = some (h.set a (.lst (xs.set k.toNat w))) := by
  show (match h[a]? with
    | some (.lst xs) => (match ixN xs.length k with
      | some j => some (h.set a (.lst (xs.set j w)))
      | none => none)
    | _ => none) = _
  rw [e]
  show (match ixN xs.length k with
      | some j => some (h.set a (.lst (xs.set j w)))
      | none => none) = _
  rw [show ixN xs.length k = some k.toNat from by unfold ixN; rw [if_pos k0, if_pos k1]]
@[simp] theorem sRaise_eq {c : Nat} {fids : List Nat} : sRaise c fids ms ta h = (ms ta h).to ta fun ws h1 => if ws.length = fids.length ∧ ws.length ≤ 1000 then .exc c (fids.zip ws).reverse ta h1 else .stuck := (rfl)
@[simp] theorem startA1 {a : W} : startA 1 [a] = [some a] := (rfl)
@[simp] theorem startA_nil {n : Nat} : startA n [] = List.replicate n none := (rfl)
@[simp] theorem startA_cons {n : Nat} {a : W} {ws : List W} : startA (n + 1) (a :: ws) = some a :: startA n ws := by simp [startA]
/-- a def's outcome -/
def ptM (Q : W → HA → Prop) (X : XP) : Pt := ⟨fun _ h => Q .non h, Q, fun _ _ => False, fun _ _ => False, fun c fs _ h => X c fs h⟩
theorem RW_run {b : Sx} {n : Nat} {ws : List W} {Q : W → HA → Prop} (q : SW (b (startA n ws) h) (ptM Q X)) : RW (runB b n ws h) Q X := by
  unfold runB
  cases e : b (startA n ws) h with
  | nx ta h' => rw [e, SW_nx] at q; rw [RW_ok]; exact q
  | rt w h' => rw [e, SW_rt] at q; rw [RW_ok]; exact q
  | bk ta h' => rw [e, SW_bk] at q; exact q.elim
  | ct ta h' => rw [e, SW_ct] at q; exact q.elim
  | exc c fs ta h' => rw [e, SW_exc] at q; rw [RW_exc]; exact q
  | stuck => rw [e, SW_stuck] at q; exact q.elim
@[simp] theorem ptM_n {Q : W → HA → Prop} : (ptM Q X).n = fun _ h => Q .non h := (rfl)
@[simp] theorem ptM_r {Q : W → HA → Prop} : (ptM Q X).r = Q := (rfl)
@[simp] theorem ptM_x {Q : W → HA → Prop} : (ptM Q X).x = fun c fs _ h => X c fs h := (rfl)
/-- try: the body, the suite -/
theorem SW_try {mt : Nat → Option Bool} {i : Nat} {b hd : Sx} (q : SW (b ta h) { p with x := fun c fs ta1 h1 => (mt c = some true ∧ fs ≠ [] ∧ SW ((hd (ta1.set i (some (.xcp c fs))) h1).drop i) p) ∨ (mt c = some false ∧ p.x c fs ta1 h1) }) : SW (sTry mt i b hd ta h) p := by
  unfold sTry
  cases e : b ta h with
  | exc c fs ta1 h1 =>
    rw [e, SW_exc] at q
    rcases q with ⟨a1, a2, a3⟩ | ⟨a1, a2⟩
    · simp only [a1]
      rw [if_neg (by simpa using a2)]
      exact a3
    · simp only [a1]
      rw [SW_exc]
      exact a2
  | nx ta h' => rw [e, SW_nx] at q; rw [SW_nx]; exact q
  | rt w h' => rw [e, SW_rt] at q; rw [SW_rt]; exact q
  | bk ta h' => rw [e, SW_bk] at q; rw [SW_bk]; exact q
  | ct ta h' => rw [e, SW_ct] at q; rw [SW_ct]; exact q
  | stuck => rw [e, SW_stuck] at q; exact q.elim
@[simp] theorem drop_rt {i : Nat} {w : W} : SR.drop (.rt w h) i = .rt w h := (rfl)
@[simp] theorem drop_nx {i : Nat} : SR.drop (.nx ta h) i = .nx ((clrX ta).set i none) h := (rfl)
theorem eXf_ok {i f c : Nat} {cs : List Nat} {fs : List (Nat × W)} {w : W} (e : ta[i]? = some (some (.xcp c fs))) (hc : c ∈ cs) (l : fs.lookup f = some w) : eXf i cs f ta h = .ok w h := by
  unfold eXf
  rw [e]
  simp [hc, l]
/-! ### loops -/
theorem SW_forT {g : Tgt} {b : Sx} (I : List W → En → HA → Prop) (hend : ∀ ta h, I [] ta h → p.n ta h)
    (step : ∀ w ws ta h, I (w :: ws) ta h → ∃ ta1 h1, g w ta h = some (ta1, h1) ∧ SW (b ta1 h1) { p with n := I ws, c := I ws, b := p.n }) : ∀ (ws : List W) (ta : En) (h : HA), I ws ta h → SW (forT g b ws ta h) p
  | [], ta, h, q => by
    show SW (.nx ta h) p
    rw [SW_nx]
    exact hend ta h q
  | w :: ws, ta, h, q => by
    obtain ⟨ta1, h1, e, q1⟩ := step w ws ta h q
    show SW (match g w ta h with
      | some (ta1, h1) => (b ta1 h1).turn (forT g b ws)
      | none => .stuck) p
    rw [e]
    show SW ((b ta1 h1).turn (forT g b ws)) p
    rw [SW_turn]
    exact q1.imp (fun ta h z => SW_forT I hend step ws ta h z) (fun _ _ z => z) (fun _ _ z => z) (fun ta h z => SW_forT I hend step ws ta h z) (fun _ _ _ _ z => z)
/-- .. by place -/
theorem SW_forI {g : Tgt} {b : Sx} (xs : List W) (I : Nat → En → HA → Prop) (hend : ∀ ta h, I xs.length ta h → p.n ta h)
    (step : ∀ k w ta h, xs[k]? = some w → I k ta h → ∃ ta1 h1, g w ta h = some (ta1, h1) ∧ SW (b ta1 h1) { p with n := I (k + 1), c := I (k + 1), b := p.n }) (q : I 0 ta h) : SW (forT g b xs ta h) p := by
  refine SW_forT (fun ws ta h => ∃ k, k + ws.length = xs.length ∧ xs.drop k = ws ∧ I k ta h) ?_ ?_ xs ta h ⟨0, by simp, rfl, q⟩
  · rintro ta h ⟨k, e, _, z⟩
    have : k = xs.length := by simpa using e
    subst this
    exact hend ta h z
  · rintro w ws ta h ⟨k, e, d, z⟩
    have hk : xs[k]? = some w := by
      have := congrArg (fun l => l[0]?) d
      simpa [List.getElem?_drop] using this
    have e2 : k + 1 + ws.length = xs.length := by simp at e; omega
    have hd : xs.drop (k + 1) = ws := by
      have := congrArg (List.drop 1) d
      simpa [List.drop_drop, Nat.add_comm] using this
    obtain ⟨ta1, h1, e1, q1⟩ := step k w ta h hk z
    exact ⟨ta1, h1, e1, q1.imp (fun ta h z => ⟨k + 1, e2, hd, z⟩) (fun _ _ z => z) (fun _ _ z => z) (fun ta h z => ⟨k + 1, e2, hd, z⟩) (fun _ _ _ _ z => z)⟩
theorem numW_get : ∀ {n : Nat} {lo : Int} {k : Nat} {w : W}, (numW lo n)[k]? = some w → w = .int (lo + k) ∧ k < n := fun e => numW_at _ _ _ _ e
/-- for x in range(n) -/
theorem SW_forN {g : Tgt} {b : Sx} (n : Nat) (I : Nat → En → HA → Prop) (hend : ∀ ta h, I n ta h → p.n ta h)
    (step : ∀ (k : Nat) ta h, k < n → I k ta h → ∃ ta1 h1, g (.int k) ta h = some (ta1, h1) ∧ SW (b ta1 h1) { p with n := I (k + 1), c := I (k + 1), b := p.n }) (q : I 0 ta h) : SW (forT g b (numW 0 n) ta h) p := by
  refine SW_forI (numW 0 n) I (by rw [numW_len]; exact hend) (fun k w ta h e z => ?_) q
  obtain ⟨rfl, hk⟩ := numW_get e
  simpa using step k ta h hk z
theorem SW_forR1 {g : Tgt} {b : Sx} {j : Int} {h1 : HA} (j1 : j < 2 ^ 62) (j0 : -(2 ^ 62) ≤ j) (e : ms ta h = .ok [.int j] h1) (q : SW (forT g b (numW 0 j.toNat) ta h1) p) : SW (sForR rng1 ms g b ta h) p := by
  unfold sForR
  rw [e]
  simp only [to_ok, rng1, j0, j1, and_self, if_true]
  exact q
/-- for x in a list that stays -/
theorem SW_forL {g : Tgt} {b : Sx} {i : Nat} {mk : Nat → W → W} (xs : List W) (I : Nat → En → HA → Prop) (hI : ∀ k ta h, I k ta h → rdL h i = some xs) (hend : ∀ ta h, I xs.length ta h → p.n ta h)
    (step : ∀ k w ta h, xs[k]? = some w → I k ta h → ∃ ta1 h1, g (mk k w) ta h = some (ta1, h1) ∧ SW (b ta1 h1) { p with n := I (k + 1), c := I (k + 1), b := p.n }) : ∀ (n k : Nat) (ta : En) (h : HA), k + n = xs.length → I k ta h → SW (forL i mk g b n k ta h) p
  | 0, k, ta, h, e, q => by
    show SW (match rdL h i with
      | some xs => if xs.length ≤ k then .nx ta h else .stuck
      | none => .stuck) p
    rw [hI k ta h q]
    have hk : k = xs.length := by omega
    show SW (if xs.length ≤ k then .nx ta h else .stuck) p
    rw [if_pos (by omega)]
    rw [hk] at q
    rw [SW_nx]
    exact hend ta h q
  | n + 1, k, ta, h, e, q => by
    have hk : k < xs.length := by omega
    obtain ⟨ta1, h1, e1, q1⟩ := step k xs[k] ta h (List.getElem?_eq_getElem hk) q
    show SW (match rdL h i with
      | some xs => (match xs[k]? with
        | some w => (match g (mk k w) ta h with
          | some (ta1, h1) => (b ta1 h1).turn (forL i mk g b n (k + 1))
          | none => .stuck)
        | none => .stuck)
      | none => .stuck) p
    rw [hI k ta h q]
    show SW (match xs[k]? with
        | some w => (match g (mk k w) ta h with
          | some (ta1, h1) => (b ta1 h1).turn (forL i mk g b n (k + 1))
          | none => .stuck)
        | none => .stuck) p
    rw [List.getElem?_eq_getElem hk]
    show SW (match g (mk k xs[k]) ta h with
          | some (ta1, h1) => (b ta1 h1).turn (forL i mk g b n (k + 1))
          | none => .stuck) p
    rw [e1]
    show SW ((b ta1 h1).turn (forL i mk g b n (k + 1))) p
    rw [SW_turn]
    exact q1.imp (fun ta h z => SW_forL xs I hI hend step n (k + 1) ta h (by omega) z) (fun _ _ z => z) (fun _ _ z => z) (fun ta h z => SW_forL xs I hI hend step n (k + 1) ta h (by omega) z) (fun _ _ _ _ z => z)
/-- for x in xs: any kind of list -/
theorem SW_for {g : Tgt} {b : Sx} {w0 : W} {h0 : HA} (xs : List W) (I : Nat → En → HA → Prop) (e : m ta h = .ok w0 h0) (hw : itW h0 w0 = some xs) (hI : ∀ k ta h, I k ta h → itW h w0 = some xs) (hend : ∀ ta h, I xs.length ta h → p.n ta h)
    (step : ∀ k w ta h, xs[k]? = some w → I k ta h → ∃ ta1 h1, g w ta h = some (ta1, h1) ∧ SW (b ta1 h1) { p with n := I (k + 1), c := I (k + 1), b := p.n }) (q : I 0 ta h0) : SW (sFor m g b ta h) p := by
  unfold sFor
  rw [e]
  rw [to_ok]
  cases w0 with
  | tup ys =>
    cases hw
    exact SW_forI xs I hend step q
  | cst ys =>
    cases hw
    exact SW_forI xs I hend step q
  | ref a =>
    have h1 : rdL h0 a = some xs := hw
    show SW (match rdL h0 a with
      | some xs => forL a (fun _ w => w) g b xs.length 0 ta h0
      | none => .stuck) p
    rw [h1]
    exact SW_forL xs I (fun k ta h z => hI k ta h z) hend step xs.length 0 ta h0 (by omega) q
  | _ => cases hw
/-! ### comprehensions -/
theorem lcT_ok {g : Tgt} {el : Ex} {R : List W → HA → Prop} (I : Nat → List W → HA → Prop) (xs : List W) (hl : xs.length ≤ 10000)
    (hend : ∀ acc h, I xs.length acc h → R acc h)
    (step : ∀ k w acc h, xs[k]? = some w → I k acc h → ∃ ta1 h1, g w ta h = some (ta1, h1) ∧ t ta1 h1 = .ok true h1 ∧ RW (el ta1 h1) (fun y h3 => I (k + 1) (acc ++ [y]) h3) nox) (q : I 0 [] h) :
    ∃ acc h', lcT g t el ta xs [] h = some (acc, h') ∧ R acc h' := by
  have key : ∀ (ws : List W) (k : Nat) (acc : List W) (h : HA), k + ws.length = xs.length → xs.drop k = ws → acc.length = k → I k acc h → ∃ acc' h', lcT g t el ta ws acc h = some (acc', h') ∧ R acc' h' := by
    intro ws
    induction ws with
    | nil =>
      intro k acc h e d la z
      have : k = xs.length := by simpa using e
      subst this
      exact ⟨acc, h, rfl, hend acc h z⟩
    | cons w ws ih =>
      intro k acc h e d la z
      have hk : xs[k]? = some w := by
        have := congrArg (fun l => l[0]?) d
        simpa [List.getElem?_drop] using this
      have e2 : k + 1 + ws.length = xs.length := by simp at e; omega
      have hd : xs.drop (k + 1) = ws := by
        have := congrArg (List.drop 1) d
        simpa [List.drop_drop, Nat.add_comm] using this
      obtain ⟨ta1, h1, e1, et, q1⟩ := step k w acc h hk z
      obtain ⟨y, h3, ey, z3⟩ := q1.get
      have hlt : acc.length < sizeLine := by have := size_big; omega
      obtain ⟨acc', h', e5, r5⟩ := ih (k + 1) (acc ++ [y]) h3 e2 hd (by simp [la]) z3
      refine ⟨acc', h', ?_, r5⟩
      unfold lcT
      simp only [e1, et, ey, if_pos hlt]
      exact e5
  exact key xs 0 [] h (by simp) rfl rfl q
/-- a new list of values that leave the heap as it is -/
theorem lcT_map {g : Tgt} {el : Ex} {xs : List W} (f : W → W) (hl : xs.length ≤ 10000) (step : ∀ w ∈ xs, ∃ ta1, g w ta h = some (ta1, h) ∧ t ta1 h = .ok true h ∧ el ta1 h = .ok (f w) h) :
    lcT g t el ta xs [] h = some (xs.map f, h) := by
  obtain ⟨acc, h', e, rfl, rfl⟩ := lcT_ok (t := t) (ta := ta) (g := g) (el := el) (h := h) (R := fun acc h' => acc = xs.map f ∧ h' = h) (fun k acc h' => acc = (xs.take k).map f ∧ h' = h) xs hl (fun acc h' z => by simpa using z) (fun k w acc h' hk z => by
    obtain ⟨rfl, rfl⟩ := z
    obtain ⟨ta1, e1, e2, e3⟩ := step w (List.mem_of_getElem? hk)
    refine ⟨ta1, h', e1, e2, ?_⟩
    rw [e3, RW_ok]
    refine ⟨?_, rfl⟩
    rw [List.take_add_one, hk]
    simp) ⟨by simp, rfl⟩
  exact e
@[simp] theorem lcE_some {acc : List W} : lcE (some (acc, h)) = .ok (.ref h.length) (h ++ [O.lst acc]) := (rfl)
end
end J

/-! V: values as trees, over the functions of J. A list (instance, dict) bears a kind: shared, borrowed, read for a moment, owned, lent to be changed. -/
namespace J
open PySem PySem.Spec PyProof.Rows L2
inductive Kd where
  | sh | bo | tm | ow | io
deriving DecidableEq
inductive D where
  | non | bl (b : Bool) | int (i : Int) | str (x : Str) | tup (xs : List D)
  | lst (k : Kd) (xs : List D) | ins (k : Kd) (c : Nat) (fs : List (Nat × D)) | dic (k : Kd) (kvs : List (Key × D))
  | xcp (c : Nat) (fs : List (Nat × D)) | hnd
def kd : D → Kd
  | .lst k _ => k
  | .ins k _ _ => k
  | .dic k _ => k
  | _ => .sh
def setK (k : Kd) : D → D
  | .lst _ xs => .lst k xs
  | .ins _ c fs => .ins k c fs
  | .dic _ kvs => .dic k kvs
  | d => d
abbrev VEn := List (Option D)
/-- the hand: its cells, place, rest, total -/
structure Hs where
  cells : List Int
  i : Nat
  r : Int
  t : Int
inductive VR (α : Type) where
  | ok (a : α) (s : Hs) | exc (c : Nat) (fs : List (Nat × D)) (s : Hs) | stuck
def VR.bind {α β : Type} (r : VR α) (k : α → Hs → VR β) : VR β := match r with
  | .ok a s => k a s
  | .exc c fs s => .exc c fs s
  | .stuck => .stuck
abbrev VE := VEn → Hs → VR D
abbrev VT := VEn → Hs → VR Bool
abbrev VA := VEn → Hs → VR (List D)
abbrev VM := List D → Hs → VR D

/-! ### the relation -/
mutual
/-- w, in the heap h, is the tree d; it does not lead through O -/
inductive Rep (O : Nat → Prop) (h : HA) : W → D → Prop
  | non : Rep O h .non .non
  | bl (b : Bool) : Rep O h (.bl b) (.bl b)
  | int (i : Int) : Rep O h (.int i) (.int i)
  | str (x : Str) : Rep O h (.str x) (.str x)
  | tup {xs : List W} {ds : List D} : Reps O h xs ds → Rep O h (.tup xs) (.tup ds)
  | ref {a : Nat} {d : D} : ¬ O a → At O h a .sh d → Rep O h (.ref a) d
  | xcp {c : Nat} {fs : List (Nat × W)} {gs : List (Nat × D)} : RepF O h fs gs → Rep O h (.xcp c fs) (.xcp c gs)
  | hnd : Rep O h (.ref 1) .hnd
inductive Reps (O : Nat → Prop) (h : HA) : List W → List D → Prop
  | nil : Reps O h [] []
  | cons {x : W} {xs : List W} {d : D} {ds : List D} : Rep O h x d → Reps O h xs ds → Reps O h (x :: xs) (d :: ds)
inductive RepF (O : Nat → Prop) (h : HA) : List (Nat × W) → List (Nat × D) → Prop
  | nil : RepF O h [] []
  | cons {i : Nat} {x : W} {xs : List (Nat × W)} {d : D} {ds : List (Nat × D)} : Rep O h x d → RepF O h xs ds → RepF O h ((i, x) :: xs) ((i, d) :: ds)
inductive RepD (O : Nat → Prop) (h : HA) : List (Key × W) → List (Key × D) → Prop
  | nil : RepD O h [] []
  | cons {i : Key} {x : W} {xs : List (Key × W)} {d : D} {ds : List (Key × D)} : Rep O h x d → RepD O h xs ds → RepD O h ((i, x) :: xs) ((i, d) :: ds)
/-- what stands at a; d's kind is k -/
inductive At (O : Nat → Prop) (h : HA) : Nat → Kd → D → Prop
  | lst {a : Nat} {k : Kd} {xs : List W} {ds : List D} : 2 ≤ a → h[a]? = some (.lst xs) → Reps O h xs ds → At O h a k (.lst k ds)
  | ins {a : Nat} {k : Kd} {c : Nat} {fs : List (Nat × W)} {gs : List (Nat × D)} : 2 ≤ a → h[a]? = some (.ins c fs) → RepF O h fs gs → At O h a k (.ins k c gs)
  | dic {a : Nat} {k : Kd} {fs : List (Key × W)} {gs : List (Key × D)} : 2 ≤ a → h[a]? = some (.dic fs) → RepD O h fs gs → At O h a k (.dic k gs)
end
section
variable {O O' : Nat → Prop} {h h' h2 : HA} {w : W} {d : D} {a n : Nat} {k : Kd}
/-- what is not in O stays, and is not in O' -/
def Mo (O : Nat → Prop) (h : HA) (O' : Nat → Prop) (h' : HA) : Prop := ∀ a o, 2 ≤ a → ¬ O a → h[a]? = some o → ¬ O' a ∧ h'[a]? = some o
mutual
theorem Rep.mono (m : Mo O h O' h') : ∀ {w : W} {d : D}, Rep O h w d → Rep O' h' w d
  | _, _, .non => .non
  | _, _, .bl b => .bl b
  | _, _, .int i => .int i
  | _, _, .str x => .str x
  | _, _, .tup r => .tup (Reps.mono m r)
  | _, _, .ref n (.lst l e r) => .ref (m _ _ l n e).1 (.lst l (m _ _ l n e).2 (Reps.mono m r))
  | _, _, .ref n (.ins l e r) => .ref (m _ _ l n e).1 (.ins l (m _ _ l n e).2 (RepF.mono m r))
  | _, _, .ref n (.dic l e r) => .ref (m _ _ l n e).1 (.dic l (m _ _ l n e).2 (RepD.mono m r))
  | _, _, .xcp r => .xcp (RepF.mono m r)
  | _, _, .hnd => .hnd
theorem Reps.mono (m : Mo O h O' h') : ∀ {w : List W} {d : List D}, Reps O h w d → Reps O' h' w d
  | _, _, .nil => .nil
  | _, _, .cons r t => .cons (Rep.mono m r) (Reps.mono m t)
theorem RepF.mono (m : Mo O h O' h') : ∀ {w : List (Nat × W)} {d : List (Nat × D)}, RepF O h w d → RepF O' h' w d
  | _, _, .nil => .nil
  | _, _, .cons r t => .cons (Rep.mono m r) (RepF.mono m t)
theorem RepD.mono (m : Mo O h O' h') : ∀ {w : List (Key × W)} {d : List (Key × D)}, RepD O h w d → RepD O' h' w d
  | _, _, .nil => .nil
  | _, _, .cons r t => .cons (Rep.mono m r) (RepD.mono m t)
end
theorem At.two (r : At O h a k d) : 2 ≤ a := by cases r <;> assumption
theorem At.get (r : At O h a k d) : ∃ o, h[a]? = some o := by cases r <;> exact ⟨_, ‹_›⟩
theorem At.lt (r : At O h a k d) : a < h.length := by
  obtain ⟨o, e⟩ := r.get
  exact (List.getElem?_eq_some_iff.mp e).1
theorem At.kd (r : At O h a k d) : kd d = k := by cases r <;> rfl
theorem At.setK {j : Kd} (r : At O h a k d) : At O h a j (setK j d) := by
  cases r with
  | lst l e r => exact .lst l e r
  | ins l e r => exact .ins l e r
  | dic l e r => exact .dic l e r
theorem At.mono (m : Mo O h O' h') (e : ∀ o, h[a]? = some o → h'[a]? = some o) (r : At O h a k d) : At O' h' a k d := by
  cases r with
  | lst l q r => exact .lst l (e _ q) (r.mono m)
  | ins l q r => exact .ins l (e _ q) (r.mono m)
  | dic l q r => exact .dic l (e _ q) (r.mono m)
theorem Rep.kd (r : Rep O h w d) : kd d = .sh := by
  cases r with
  | ref n r => exact r.kd
  | _ => rfl
/-- all but the hand stays -/
def Fx (h h' : HA) : Prop := h.length ≤ h'.length ∧ ∀ i o, 2 ≤ i → h[i]? = some o → h'[i]? = some o
theorem Fx.rfl' : Fx h h := ⟨Nat.le_refl _, fun _ _ _ z => z⟩
theorem Fx.trans (a : Fx h h') (b : Fx h' h2) : Fx h h2 := ⟨Nat.le_trans a.1 b.1, fun i o c z => b.2 i o c (a.2 i o c z)⟩
theorem Fx.push {l : List J.O} : Fx h (h ++ l) := ⟨by simp, fun i o _ z => by rw [List.getElem?_append_left (List.getElem?_eq_some_iff.mp z).1]; exact z⟩
theorem Mo.fx (f : Fx h h') : Mo O h O h' := fun a o l n e => ⟨n, f.2 a o l e⟩
theorem Mo.sub (s : ∀ a, a < h.length → O' a → O a) (f : Fx h h') : Mo O h O' h' := fun a o l n e => ⟨fun z => n (s a (List.getElem?_eq_some_iff.mp e).1 z), f.2 a o l e⟩
theorem Rep.fx (f : Fx h h') (r : Rep O h w d) : Rep O h' w d := r.mono (Mo.fx f)
theorem Reps.fx (f : Fx h h') {xs : List W} {ds : List D} (r : Reps O h xs ds) : Reps O h' xs ds := r.mono (Mo.fx f)
theorem RepF.fx (f : Fx h h') {xs : List (Nat × W)} {ds : List (Nat × D)} (r : RepF O h xs ds) : RepF O h' xs ds := r.mono (Mo.fx f)
theorem At.fx (f : Fx h h') (r : At O h a k d) : At O h' a k d := r.mono (Mo.fx f) fun o e => f.2 _ _ r.two e
theorem Reps.length : ∀ {ws : List W} {vs : List D}, Reps O h ws vs → ws.length = vs.length
  | _, _, .nil => rfl
  | _, _, .cons _ t => by rw [List.length_cons, List.length_cons, Reps.length t]
theorem Reps.get : ∀ {ws : List W} {vs : List D} {i : Nat} {v : D}, Reps O h ws vs → vs[i]? = some v → ∃ w, ws[i]? = some w ∧ Rep O h w v
  | _, _, _, _, .nil, e => by simp at e
  | _, _, 0, _, .cons r _, e => by simp at e; subst e; exact ⟨_, rfl, r⟩
  | _, _, i + 1, x, .cons _ t, e => by
    obtain ⟨u, h1, h2⟩ := Reps.get (i := i) (v := x) t (by simpa using e)
    exact ⟨u, by simpa using h1, h2⟩
theorem Reps.append : ∀ {ws us : List W} {vs zs : List D}, Reps O h ws vs → Reps O h us zs → Reps O h (ws ++ us) (vs ++ zs)
  | _, _, _, _, .nil, s => s
  | _, _, _, _, .cons r t, s => .cons r (Reps.append t s)
theorem Reps.set {w : W} {v : D} (r : Rep O h w v) : ∀ {ws : List W} {vs : List D} (i : Nat), Reps O h ws vs → Reps O h (ws.set i w) (vs.set i v)
  | _, _, _, .nil => .nil
  | _, _, 0, .cons _ t => .cons r t
  | _, _, i + 1, .cons q t => .cons q (Reps.set r i t)
theorem Reps.take : ∀ {ws : List W} {vs : List D} (n : Nat), Reps O h ws vs → Reps O h (ws.take n) (vs.take n)
  | _, _, 0, _ => .nil
  | _, _, _ + 1, .nil => .nil
  | _, _, n + 1, .cons r t => .cons r (Reps.take n t)
theorem Reps.drop : ∀ {ws : List W} {vs : List D} (n : Nat), Reps O h ws vs → Reps O h (ws.drop n) (vs.drop n)
  | _, _, 0, r => r
  | _, _, _ + 1, .nil => .nil
  | _, _, n + 1, .cons _ t => Reps.drop n t
theorem Reps.eraseIdx : ∀ {ws : List W} {vs : List D} (n : Nat), Reps O h ws vs → Reps O h (ws.eraseIdx n) (vs.eraseIdx n)
  | _, _, _, .nil => .nil
  | _, _, 0, .cons _ t => t
  | _, _, n + 1, .cons r t => .cons r (Reps.eraseIdx n t)
theorem Reps.dropLast : ∀ {ws : List W} {vs : List D}, Reps O h ws vs → Reps O h ws.dropLast vs.dropLast
  | _, _, .nil => .nil
  | _, _, .cons _ .nil => .nil
  | _, _, .cons r (.cons q t) => by
    rw [List.dropLast_cons_cons, List.dropLast_cons_cons]
    exact .cons r (Reps.dropLast (.cons q t))
theorem Reps.reverse : ∀ {ws : List W} {vs : List D}, Reps O h ws vs → Reps O h ws.reverse vs.reverse
  | _, _, .nil => .nil
  | _, _, .cons r t => by
    rw [List.reverse_cons, List.reverse_cons]
    exact (Reps.reverse t).append (.cons r .nil)
theorem RepF.length : ∀ {ws : List (Nat × W)} {vs : List (Nat × D)}, RepF O h ws vs → ws.length = vs.length
  | _, _, .nil => rfl
  | _, _, .cons _ t => by rw [List.length_cons, List.length_cons, RepF.length t]
theorem RepF.get {f : Nat} : ∀ {ws : List (Nat × W)} {vs : List (Nat × D)} {v : D}, RepF O h ws vs → vs.lookup f = some v → ∃ w, ws.lookup f = some w ∧ Rep O h w v
  | _, _, _, .nil, e => by cases e
  | _, _, v, .cons (i := i) r t, e => by
    rw [List.lookup_cons] at e
    rw [List.lookup_cons]
    by_cases c : (f == i) = true
    · rw [c] at e ⊢; cases e; exact ⟨_, rfl, r⟩
    · rw [Bool.not_eq_true] at c
      rw [c] at e ⊢; exact RepF.get t e
theorem RepF.put {f : Nat} {w : W} {v : D} (q : Rep O h w v) : ∀ {ws : List (Nat × W)} {vs : List (Nat × D)}, RepF O h ws vs → RepF O h (ws ++ [(f, w)]) (vs ++ [(f, v)])
  | _, _, .nil => .cons q .nil
  | _, _, .cons r t => .cons r (RepF.put q t)
theorem RepF.append : ∀ {ws us : List (Nat × W)} {vs zs : List (Nat × D)}, RepF O h ws vs → RepF O h us zs → RepF O h (ws ++ us) (vs ++ zs)
  | _, _, _, _, .nil, s => s
  | _, _, _, _, .cons r t, s => .cons r (RepF.append t s)
theorem RepF.reverse : ∀ {ws : List (Nat × W)} {vs : List (Nat × D)}, RepF O h ws vs → RepF O h ws.reverse vs.reverse
  | _, _, .nil => .nil
  | _, _, .cons r t => by
    rw [List.reverse_cons, List.reverse_cons]
    exact (RepF.reverse t).append (.cons r .nil)
theorem RepF.zip {ids : List Nat} : ∀ {ws : List W} {vs : List D}, Reps O h ws vs → RepF O h (ids.zip ws) (ids.zip vs) := by
  induction ids with
  | nil => intro ws vs r; exact .nil
  | cons i ids ih =>
    intro ws vs r
    cases r with
    | nil => exact .nil
    | cons r t => exact .cons r (ih t)

/-- the hand, as it stands -/
structure St (h : HA) (s : Hs) : Prop where
  c0 : h[0]? = some (.lst (s.cells.map W.int))
  c1 : h[1]? = some (.lst [.ref 0, .int s.i, .int s.r, .int s.t])
  pos : ∀ c ∈ s.cells, 0 ≤ c
  r0 : 0 ≤ s.r
theorem St.len {s : Hs} (q : St h s) : 2 ≤ h.length := (List.getElem?_eq_some_iff.mp q.c1).1
theorem St.push {s : Hs} {l : List J.O} (q : St h s) : St (h ++ l) s :=
  ⟨by rw [List.getElem?_append_left (by have := q.len; omega)]; exact q.c0, by rw [List.getElem?_append_left (by have := q.len; omega)]; exact q.c1, q.pos, q.r0⟩
theorem St.set {s : Hs} {i : Nat} {o : J.O} (q : St h s) (l : 2 ≤ i) : St (h.set i o) s :=
  ⟨by rw [List.getElem?_set_ne (by omega)]; exact q.c0, by rw [List.getElem?_set_ne (by omega)]; exact q.c1, q.pos, q.r0⟩

/-! ### results -/
/-- a result: shared, read for a moment, or fresh -/
def RepR (O : Nat → Prop) (n : Nat) (h : HA) (w : W) (d : D) : Prop := match kd d with
  | .sh => Rep O h w d
  | .bo => ∃ a, w = .ref a ∧ At O h a .bo d
  | .tm => ∃ a, w = .ref a ∧ At O h a .tm d
  | .ow => ∃ a, w = .ref a ∧ n ≤ a ∧ At (fun x => O x ∨ x = a) h a .ow d
  | .io => False
theorem RepR.of (r : Rep O h w d) : RepR O n h w d := by
  unfold RepR
  rw [r.kd]
  exact r
theorem RepR.fx (f : Fx h h') (r : RepR O n h w d) : RepR O n h' w d := by
  unfold RepR at r ⊢
  split at r
  · exact r.fx f
  · obtain ⟨a, e, q⟩ := r; exact ⟨a, e, q.fx f⟩
  · obtain ⟨a, e, q⟩ := r; exact ⟨a, e, q.fx f⟩
  · obtain ⟨a, e, l, q⟩ := r; exact ⟨a, e, l, q.fx f⟩
  · exact r
theorem RepR.le {m : Nat} (l : m ≤ n) (r : RepR O n h w d) : RepR O m h w d := by
  unfold RepR at r ⊢
  split at r
  · exact r
  · exact r
  · exact r
  · obtain ⟨a, e, q1, q⟩ := r; exact ⟨a, e, Nat.le_trans l q1, q⟩
  · exact r
/-- a result that may be kept -/
def stoV (d : D) : Option D := match kd d with
  | .sh => some d
  | .ow => some (setK .sh d)
  | _ => none
theorem Mo.less (s : ∀ a, O' a → O a) : Mo O h O' h := fun a o _ n e => ⟨fun z => n (s a z), e⟩
theorem RepR.sto {d' : D} (b : ∀ a, O a → a < n) (r : RepR O n h w d) (e : stoV d = some d') : Rep O h w d' := by
  unfold stoV at e
  unfold RepR at r
  split at e
  · rename_i c
    cases e
    rw [c] at r
    exact r
  · rename_i c
    cases e
    rw [c] at r
    obtain ⟨a, rfl, l, q⟩ := r
    refine .ref (fun z => ?_) ((q.mono (Mo.less fun x z => .inl z) (fun o e => e)).setK)
    have := b a z
    omega
  · cases e
/-- a result as it is read: what it holds -/
inductive RepB (O : Nat → Prop) (h : HA) : W → D → Prop
  | rep {w : W} {d : D} : Rep O h w d → RepB O h w d
  | at_ {a : Nat} {k : Kd} {d : D} : At O h a k d → RepB O h (.ref a) d
theorem RepR.b (r : RepR O n h w d) : RepB O h w d := by
  unfold RepR at r
  split at r
  · exact .rep r
  · obtain ⟨a, rfl, q⟩ := r; exact .at_ q
  · obtain ⟨a, rfl, q⟩ := r; exact .at_ q
  · obtain ⟨a, rfl, l, q⟩ := r; exact .at_ (q.mono (Mo.less fun x z => .inl z) (fun o e => e))
  · exact r.elim
/-- a list's, a tuple's items -/
def itV : D → Option (List D)
  | .tup xs => some xs
  | .lst _ xs => some xs
  | _ => none
theorem RepB.it {ds : List D} (r : RepB O h w d) (e : itV d = some ds) : ∃ xs, itW h w = some xs ∧ Reps O h xs ds := by
  cases r with
  | rep r =>
    cases r with
    | tup r => cases e; exact ⟨_, rfl, r⟩
    | ref n r =>
      cases r with
      | lst l q r => cases e; exact ⟨_, by simp [itW, rdL, q], r⟩
      | ins l q r => cases e
      | dic l q r => cases e
    | _ => cases e
  | at_ r =>
    cases r with
    | lst l q r => cases e; exact ⟨_, by simp [itW, rdL, q], r⟩
    | ins l q r => cases e
    | dic l q r => cases e
theorem RepB.fx (f : Fx h h') (r : RepB O h w d) : RepB O h' w d := by
  cases r with
  | rep r => exact .rep (r.fx f)
  | at_ r => exact .at_ (r.fx f)

/-! ### the frame -/
/-- enough for an expression: each value may be read -/
structure EnvR (O : Nat → Prop) (h : HA) (ta : En) (va : VEn) : Prop where
  len : ta.length = va.length
  bnd : ∀ a, O a → a < h.length
  val : ∀ (i : Nat) (d : D), va[i]? = some (some d) → ∃ w, ta[i]? = some (some w) ∧ (kd d = .sh → Rep O h w d) ∧ (kd d ≠ .sh → ∃ a, w = .ref a ∧ At O h a (kd d) d)
theorem EnvR.fx {ta : En} {va : VEn} (f : Fx h h') (r : EnvR O h ta va) : EnvR O h' ta va :=
  ⟨r.len, fun a z => Nat.lt_of_lt_of_le (r.bnd a z) f.1, fun i d e => by
    obtain ⟨w, e1, q1, q2⟩ := r.val i d e
    refine ⟨w, e1, fun c => (q1 c).fx f, fun c => ?_⟩
    obtain ⟨a, e2, q⟩ := q2 c
    exact ⟨a, e2, q.fx f⟩⟩
/-- what an expression ends with -/
def GVE (O : Nat → Prop) (n : Nat) (h : HA) (r : VR D) (q : Res W) : Prop := match r with
  | .ok d s => ∃ w h', q = .ok w h' ∧ Fx h h' ∧ St h' s ∧ RepR O n h' w d
  | .exc c fs s => ∃ gs h', q = .exc c gs h' ∧ Fx h h' ∧ St h' s ∧ RepF O h' gs fs
  | .stuck => True
def GVT (O : Nat → Prop) (h : HA) (r : VR Bool) (q : Res Bool) : Prop := match r with
  | .ok b s => ∃ h', q = .ok b h' ∧ Fx h h' ∧ St h' s
  | .exc c fs s => ∃ gs h', q = .exc c gs h' ∧ Fx h h' ∧ St h' s ∧ RepF O h' gs fs
  | .stuck => True
inductive RepRs (O : Nat → Prop) (n : Nat) (h : HA) : List W → List D → Prop
  | nil : RepRs O n h [] []
  | cons {x : W} {xs : List W} {d : D} {ds : List D} : RepR O n h x d → RepRs O n h xs ds → RepRs O n h (x :: xs) (d :: ds)
def GVA (O : Nat → Prop) (n : Nat) (h : HA) (r : VR (List D)) (q : Res (List W)) : Prop := match r with
  | .ok ds s => ∃ ws h', q = .ok ws h' ∧ Fx h h' ∧ St h' s ∧ RepRs O n h' ws ds
  | .exc c fs s => ∃ gs h', q = .exc c gs h' ∧ Fx h h' ∧ St h' s ∧ RepF O h' gs fs
  | .stuck => True
theorem RepRs.fx (f : Fx h h') : ∀ {ws : List W} {ds : List D}, RepRs O n h ws ds → RepRs O n h' ws ds
  | _, _, .nil => .nil
  | _, _, .cons r t => .cons (r.fx f) (RepRs.fx f t)
theorem RepRs.le {m : Nat} (l : m ≤ n) : ∀ {ws : List W} {ds : List D}, RepRs O n h ws ds → RepRs O m h ws ds
  | _, _, .nil => .nil
  | _, _, .cons r t => .cons (r.le l) (RepRs.le l t)
theorem RepRs.length : ∀ {ws : List W} {vs : List D}, RepRs O n h ws vs → ws.length = vs.length
  | _, _, .nil => rfl
  | _, _, .cons _ t => by rw [List.length_cons, List.length_cons, RepRs.length t]
theorem GVE.le {m : Nat} {r : VR D} {q : Res W} (l : m ≤ n) (g : GVE O n h r q) : GVE O m h r q := by
  cases r with
  | ok d s => obtain ⟨w, h', e, f, st, r⟩ := g; exact ⟨w, h', e, f, st, r.le l⟩
  | exc c fs s => exact g
  | stuck => trivial
theorem GVE.pre {r : VR D} {q : Res W} (f0 : Fx h h') (g : GVE O n h' r q) : GVE O n h r q := by
  cases r with
  | ok d s => obtain ⟨w, h2, e, f, st, r⟩ := g; exact ⟨w, h2, e, f0.trans f, st, r⟩
  | exc c fs s => obtain ⟨w, h2, e, f, st, r⟩ := g; exact ⟨w, h2, e, f0.trans f, st, r⟩
  | stuck => trivial
theorem GVT.pre {r : VR Bool} {q : Res Bool} (f0 : Fx h h') (g : GVT O h' r q) : GVT O h r q := by
  cases r with
  | ok d s => obtain ⟨h2, e, f, st⟩ := g; exact ⟨h2, e, f0.trans f, st⟩
  | exc c fs s => obtain ⟨w, h2, e, f, st, r⟩ := g; exact ⟨w, h2, e, f0.trans f, st, r⟩
  | stuck => trivial
theorem GVA.pre {r : VR (List D)} {q : Res (List W)} (f0 : Fx h h') (g : GVA O n h' r q) : GVA O n h r q := by
  cases r with
  | ok d s => obtain ⟨w, h2, e, f, st, r⟩ := g; exact ⟨w, h2, e, f0.trans f, st, r⟩
  | exc c fs s => obtain ⟨w, h2, e, f, st, r⟩ := g; exact ⟨w, h2, e, f0.trans f, st, r⟩
  | stuck => trivial
def DVE (v : VE) (m : Ex) : Prop := ∀ (O : Nat → Prop) (h : HA) (ta : En) (va : VEn) (s : Hs), EnvR O h ta va → St h s → GVE O h.length h (v va s) (m ta h)
def DVT (v : VT) (m : Tx) : Prop := ∀ (O : Nat → Prop) (h : HA) (ta : En) (va : VEn) (s : Hs), EnvR O h ta va → St h s → GVT O h (v va s) (m ta h)
def DVA (v : VA) (m : Ax) : Prop := ∀ (O : Nat → Prop) (h : HA) (ta : En) (va : VEn) (s : Hs), EnvR O h ta va → St h s → GVA O h.length h (v va s) (m ta h)
/-- one after another -/
theorem gve_bind {n0 : Nat} {r : VR D} {q : Res W} {k : D → Hs → VR D} {kq : W → HA → Res W} (g : GVE O n h r q)
    (f : ∀ w d h' s, Fx h h' → St h' s → RepR O n h' w d → GVE O n0 h' (k d s) (kq w h')) : GVE O n0 h (r.bind k) (q.bind kq) := by
  cases r with
  | ok d s => obtain ⟨w, h', rfl, fr, st, r⟩ := g; exact (f w d h' s fr st r).pre fr
  | exc c fs s => obtain ⟨w, h', rfl, fr, st, r⟩ := g; exact ⟨w, h', rfl, fr, st, r⟩
  | stuck => trivial
theorem gve_bindT {n0 : Nat} {r : VR Bool} {q : Res Bool} {k : Bool → Hs → VR D} {kq : Bool → HA → Res W} (g : GVT O h r q)
    (f : ∀ b h' s, Fx h h' → St h' s → GVE O n0 h' (k b s) (kq b h')) : GVE O n0 h (r.bind k) (q.bind kq) := by
  cases r with
  | ok d s => obtain ⟨h', rfl, fr, st⟩ := g; exact (f d h' s fr st).pre fr
  | exc c fs s => obtain ⟨w, h', rfl, fr, st, r⟩ := g; exact ⟨w, h', rfl, fr, st, r⟩
  | stuck => trivial
theorem gve_bindA {n0 : Nat} {r : VR (List D)} {q : Res (List W)} {k : List D → Hs → VR D} {kq : List W → HA → Res W} (g : GVA O n h r q)
    (f : ∀ w d h' s, Fx h h' → St h' s → RepRs O n h' w d → GVE O n0 h' (k d s) (kq w h')) : GVE O n0 h (r.bind k) (q.bind kq) := by
  cases r with
  | ok d s => obtain ⟨w, h', rfl, fr, st, r⟩ := g; exact (f w d h' s fr st r).pre fr
  | exc c fs s => obtain ⟨w, h', rfl, fr, st, r⟩ := g; exact ⟨w, h', rfl, fr, st, r⟩
  | stuck => trivial
theorem gvt_bind {r : VR D} {q : Res W} {k : D → Hs → VR Bool} {kq : W → HA → Res Bool} (g : GVE O n h r q)
    (f : ∀ w d h' s, Fx h h' → St h' s → RepR O n h' w d → GVT O h' (k d s) (kq w h')) : GVT O h (r.bind k) (q.bind kq) := by
  cases r with
  | ok d s => obtain ⟨w, h', rfl, fr, st, r⟩ := g; exact (f w d h' s fr st r).pre fr
  | exc c fs s => obtain ⟨w, h', rfl, fr, st, r⟩ := g; exact ⟨w, h', rfl, fr, st, r⟩
  | stuck => trivial
theorem gvt_bindT {r : VR Bool} {q : Res Bool} {k : Bool → Hs → VR Bool} {kq : Bool → HA → Res Bool} (g : GVT O h r q)
    (f : ∀ b h' s, Fx h h' → St h' s → GVT O h' (k b s) (kq b h')) : GVT O h (r.bind k) (q.bind kq) := by
  cases r with
  | ok d s => obtain ⟨h', rfl, fr, st⟩ := g; exact (f d h' s fr st).pre fr
  | exc c fs s => obtain ⟨w, h', rfl, fr, st, r⟩ := g; exact ⟨w, h', rfl, fr, st, r⟩
  | stuck => trivial
end
end J

namespace J
open PySem PySem.Spec PyProof.Rows L2
section
variable {O O' : Nat → Prop} {h h' h2 : HA} {w : W} {d : D} {a n : Nat} {k : Kd} {m m1 m2 m3 : Ex} {v v1 v2 v3 : VE} {t u : VT} {tt tu : Tx} {vs : VA} {ms : Ax} {s : Hs}
/-! ### names, constants -/
def rdV : D → D
  | .lst .ow xs => .lst .tm xs
  | .lst .io xs => .lst .tm xs
  | .ins .ow c xs => .ins .tm c xs
  | .ins .io c xs => .ins .tm c xs
  | .dic .ow xs => .dic .tm xs
  | .dic .io xs => .dic .tm xs
  | d => d
def okX : D → Bool
  | .xcp _ _ => false
  | _ => true
def gvV (o : Option (Option D)) (s : Hs) : VR D := match o with
  | some (some d) => if okX d = true then .ok (rdV d) s else .stuck
  | _ => .stuck
def vVar (i : Nat) : VE := fun va s => gvV va[i]? s
def vC (d : D) : VE := fun _ s => .ok d s
theorem rdV_kd (d : D) : kd (rdV d) = (match kd d with | .ow => .tm | .io => .tm | k => k) ∧ (kd d = .sh → rdV d = d) ∧ rdV d = setK (kd (rdV d)) d := by
  cases d with
  | lst k xs => cases k <;> refine ⟨rfl, fun z => ?_, rfl⟩ <;> first | rfl | cases z
  | ins k c xs => cases k <;> refine ⟨rfl, fun z => ?_, rfl⟩ <;> first | rfl | cases z
  | dic k xs => cases k <;> refine ⟨rfl, fun z => ?_, rfl⟩ <;> first | rfl | cases z
  | _ => exact ⟨rfl, fun _ => rfl, rfl⟩
theorem RepR.tm (r : At O h a .tm d) : RepR O n h (.ref a) d := by
  unfold RepR
  rw [r.kd]
  exact ⟨a, rfl, r⟩
theorem RepR.bo (r : At O h a .bo d) : RepR O n h (.ref a) d := by
  unfold RepR
  rw [r.kd]
  exact ⟨a, rfl, r⟩
theorem RepR.ow (l : n ≤ a) (r : At (fun x => O x ∨ x = a) h a .ow d) : RepR O n h (.ref a) d := by
  unfold RepR
  rw [r.kd]
  exact ⟨a, rfl, l, r⟩
theorem dv_var {i : Nat} : DVE (vVar i) (eVar i) := by
  intro O h ta va s E st
  unfold vVar gvV
  split
  · rename_i d e
    obtain ⟨w, e1, q1, q2⟩ := E.val i d e
    split
    · rename_i ok
      have nx : noX w = true := by
        by_cases c : kd d = .sh
        · have r := q1 c
          cases r with
          | xcp _ => cases ok
          | _ => rfl
        · obtain ⟨a, rfl, _⟩ := q2 c
          rfl
      refine ⟨w, h, ?_, Fx.rfl', st, ?_⟩
      · unfold eVar
        rw [e1]
        exact if_pos nx
      · obtain ⟨z1, z2, z3⟩ := rdV_kd d
        cases c : kd d with
        | sh => rw [z2 c]; exact .of (q1 c)
        | bo =>
          obtain ⟨a, rfl, q⟩ := q2 (by rw [c]; decide)
          rw [c] at z1 q
          rw [z1] at z3
          rw [z3]
          exact .bo q.setK
        | tm =>
          obtain ⟨a, rfl, q⟩ := q2 (by rw [c]; decide)
          rw [c] at z1 q
          rw [z1] at z3
          rw [z3]
          exact .tm q.setK
        | ow =>
          obtain ⟨a, rfl, q⟩ := q2 (by rw [c]; decide)
          rw [c] at z1 q
          rw [z1] at z3
          rw [z3]
          exact .tm q.setK
        | io =>
          obtain ⟨a, rfl, q⟩ := q2 (by rw [c]; decide)
          rw [c] at z1 q
          rw [z1] at z3
          rw [z3]
          exact .tm q.setK
    · trivial
  · trivial
theorem dv_c {w : W} {d : D} (r : ∀ O h, Rep O h w d) : DVE (vC d) (eC w) := fun O h ta va s E st => ⟨w, h, rfl, Fx.rfl', st, .of (r O h)⟩
theorem dv_int {i : Int} : DVE (vC (.int i)) (eC (.int i)) := dv_c fun _ _ => .int i
theorem dv_bl {i : Bool} : DVE (vC (.bl i)) (eC (.bl i)) := dv_c fun _ _ => .bl i
theorem dv_str {i : Str} : DVE (vC (.str i)) (eC (.str i)) := dv_c fun _ _ => .str i
theorem dv_non : DVE (vC .non) (eC .non) := dv_c fun _ _ => .non

/-! ### operators -/
def ofV (r : Option D) (s : Hs) : VR D := match r with
  | some d => .ok d s
  | none => .stuck
def vOp (o : D → D → Option D) (v1 v2 : VE) : VE := fun va s => (v1 va s).bind fun x s1 => (v2 va s1).bind fun y s2 => ofV (o x y) s2
def vUn (o : D → Option D) (v : VE) : VE := fun va s => (v va s).bind fun x s1 => ofV (o x) s1
def OkO (oV : D → D → Option D) (o : W → W → HA → Option (W × HA)) : Prop := ∀ (O : Nat → Prop) (h : HA) (x y : W) (d e r : D) (s : Hs), RepB O h x d → RepB O h y e → St h s → oV d e = some r → ∃ w h', o x y h = some (w, h') ∧ Fx h h' ∧ St h' s ∧ RepR O h.length h' w r
def OkU (oV : D → Option D) (o : W → HA → Option (W × HA)) : Prop := ∀ (O : Nat → Prop) (h : HA) (x : W) (d r : D) (s : Hs), RepB O h x d → St h s → oV d = some r → ∃ w h', o x h = some (w, h') ∧ Fx h h' ∧ St h' s ∧ RepR O h.length h' w r
theorem gve_of {r : Option D} {q : Option (W × HA)} (st : St h s) (k : ∀ d, r = some d → ∃ w h', q = some (w, h') ∧ Fx h h' ∧ St h' s ∧ RepR O n h' w d) : GVE O n h (ofV r s) (ofO q) := by
  cases r with
  | none => trivial
  | some d =>
    obtain ⟨w, h', rfl, f, st', r⟩ := k d rfl
    exact ⟨w, h', rfl, f, st', r⟩
theorem dv_op {oV : D → D → Option D} {o : W → W → HA → Option (W × HA)} (ok : OkO oV o) (p1 : DVE v1 m1) (p2 : DVE v2 m2) : DVE (vOp oV v1 v2) (eOp o m1 m2) := by
  intro O h ta va s E st
  refine gve_bind (p1 O h ta va s E st) fun x d h1 s1 f1 st1 r1 => ?_
  refine gve_bind (p2 O h1 ta va s1 (E.fx f1) st1) fun y e h2 s2 f2 st2 r2 => ?_
  refine gve_of st2 fun r er => ?_
  obtain ⟨w, h3, e3, f3, st3, q3⟩ := ok O h2 x y d e r s2 (r1.fx f2).b r2.b st2 er
  exact ⟨w, h3, e3, f3, st3, q3.le (Nat.le_trans f1.1 f2.1)⟩
theorem dv_un {oV : D → Option D} {o : W → HA → Option (W × HA)} (ok : OkU oV o) (p1 : DVE v m) : DVE (vUn oV v) (eUn o m) := by
  intro O h ta va s E st
  refine gve_bind (p1 O h ta va s E st) fun x d h1 s1 f1 st1 r1 => ?_
  refine gve_of st1 fun r er => ?_
  obtain ⟨w, h3, e3, f3, st3, q3⟩ := ok O h1 x d r s1 r1.b st1 er
  exact ⟨w, h3, e3, f3, st3, q3.le f1.1⟩
theorem RepB.int {i : Int} (r : RepB O h w (.int i)) : w = .int i := by
  cases r with
  | rep r => cases r with
    | int => rfl
    | ref n r => cases r
  | at_ r => cases r
theorem RepB.bl {i : Bool} (r : RepB O h w (.bl i)) : w = .bl i := by
  cases r with
  | rep r => cases r with
    | bl => rfl
    | ref n r => cases r
  | at_ r => cases r
theorem RepB.str {i : Str} (r : RepB O h w (.str i)) : w = .str i := by
  cases r with
  | rep r => cases r with
    | str => rfl
    | ref n r => cases r
  | at_ r => cases r
theorem RepB.non (r : RepB O h w .non) : w = .non := by
  cases r with
  | rep r => cases r with
    | non => rfl
    | ref n r => cases r
  | at_ r => cases r
theorem RepB.tup {ds : List D} (r : RepB O h w (.tup ds)) : ∃ xs, w = .tup xs ∧ Reps O h xs ds := by
  cases r with
  | rep r => cases r with
    | tup r => exact ⟨_, rfl, r⟩
    | ref n r => cases r
  | at_ r => cases r
theorem RepB.ins {c : Nat} {gs : List (Nat × D)} (r : RepB O h w (.ins k c gs)) : ∃ a fs, w = .ref a ∧ 2 ≤ a ∧ h[a]? = some (.ins c fs) ∧ RepF O h fs gs := by
  cases r with
  | rep r => cases r with
    | ref n r => cases r with | ins l e r => exact ⟨_, _, rfl, l, e, r⟩
  | at_ r => cases r with | ins l e r => exact ⟨_, _, rfl, l, e, r⟩
theorem RepB.dic {gs : List (Key × D)} (r : RepB O h w (.dic k gs)) : ∃ a fs, w = .ref a ∧ 2 ≤ a ∧ h[a]? = some (.dic fs) ∧ RepD O h fs gs := by
  cases r with
  | rep r => cases r with
    | ref n r => cases r with | dic l e r => exact ⟨_, _, rfl, l, e, r⟩
  | at_ r => cases r with | dic l e r => exact ⟨_, _, rfl, l, e, r⟩
theorem RepB.lst {ds : List D} (r : RepB O h w (.lst k ds)) : ∃ a xs, w = .ref a ∧ 2 ≤ a ∧ h[a]? = some (.lst xs) ∧ Reps O h xs ds := by
  cases r with
  | rep r => cases r with
    | ref n r => cases r with | lst l e r => exact ⟨_, _, rfl, l, e, r⟩
  | at_ r => cases r with | lst l e r => exact ⟨_, _, rfl, l, e, r⟩
def aI (g : Int → Int → Option D) : D → D → Option D := fun x y => match x, y with
  | .int i, .int j => g i j
  | _, _ => none
theorem oka_I {g : Int → Int → Option D} {gw : Int → Int → Option W} (hg : ∀ i j r, g i j = some r → ∃ w, gw i j = some w ∧ ∀ O h, Rep O h w r) : OkO (aI g) (oI gw) := by
  intro O h x y d e r s rx ry st er
  unfold aI at er
  split at er
  · rename_i i j
    obtain rfl := rx.int
    obtain rfl := ry.int
    obtain ⟨w, e1, q⟩ := hg i j r er
    refine ⟨w, h, ?_, Fx.rfl', st, .of (q O h)⟩
    show (gw i j).map _ = _
    rw [e1]
    rfl
  · cases er
def aSub := aI fun i j => some (.int (i - j))
theorem oka_sub : OkO aSub oSub := oka_I fun i j r e => by cases e; exact ⟨_, rfl, fun _ _ => .int _⟩
def aDiv := aI fun i j => if 0 < j ∧ j < 2 ^ 64 then some (.int (i / j)) else none
theorem oka_div : OkO aDiv oDiv := oka_I fun i j r e => by
  split at e
  · rename_i c; cases e; exact ⟨_, if_pos c, fun _ _ => .int _⟩
  · cases e
def aMod := aI fun i j => if 0 < j then some (.int (i % j)) else none
theorem oka_mod : OkO aMod oMod := oka_I fun i j r e => by
  split at e
  · rename_i c; cases e; exact ⟨_, if_pos c, fun _ _ => .int _⟩
  · cases e
def aPow := aI fun i j => if 0 ≤ j ∧ j ≤ 1000000 ∧ i.natAbs < 2 ^ 64 then some (.int (i ^ j.toNat)) else none
theorem oka_pow : OkO aPow oPow := oka_I fun i j r e => by
  split at e
  · rename_i c; cases e; exact ⟨_, if_pos c, fun _ _ => .int _⟩
  · cases e
def aLt := aI fun i j => some (.bl (decide (i < j)))
def aLe := aI fun i j => some (.bl (decide (i ≤ j)))
def aGt := aI fun i j => some (.bl (decide (j < i)))
def aGe := aI fun i j => some (.bl (decide (j ≤ i)))
theorem oka_lt : OkO aLt oLt := oka_I fun i j r e => by cases e; exact ⟨_, rfl, fun _ _ => .bl _⟩
theorem oka_le : OkO aLe oLe := oka_I fun i j r e => by cases e; exact ⟨_, rfl, fun _ _ => .bl _⟩
theorem oka_gt : OkO aGt oGt := oka_I fun i j r e => by cases e; exact ⟨_, rfl, fun _ _ => .bl _⟩
theorem oka_ge : OkO aGe oGe := oka_I fun i j r e => by cases e; exact ⟨_, rfl, fun _ _ => .bl _⟩
def aNeg : D → Option D
  | .int i => some (.int (-i))
  | _ => none
theorem oka_neg : OkU aNeg oNeg := by
  intro O h x d r s rx st er
  unfold aNeg at er
  split at er
  · obtain rfl := rx.int
    cases er
    exact ⟨_, h, rfl, Fx.rfl', st, .of (.int _)⟩
  · cases er
/-- a new list -/
theorem new_list {xs : List W} {ds : List D} (st : St h s) (r : Reps O h xs ds) : Fx h (h ++ [.lst xs]) ∧ St (h ++ [.lst xs]) s ∧ RepR O h.length (h ++ [.lst xs]) (.ref h.length) (.lst .ow ds) := by
  refine ⟨Fx.push, st.push, .ow (Nat.le_refl _) (.lst st.len (by simp) (r.mono (Mo.sub (fun a l z => ?_) Fx.push)))⟩
  rcases z with z | z
  · exact z
  · omega
theorem sz {n : Nat} (l : n ≤ 10000) : n ≤ sizeLine := Nat.le_trans l (by decide)
def aAdd : D → D → Option D := fun x y => match x, y with
  | .int i, .int j => some (.int (i + j))
  | .str i, .str j => if i.length + j.length ≤ 10000 then some (.str (i ++ j)) else none
  | .tup xs, .tup ys => if xs ≠ [] ∧ xs.length + ys.length ≤ 10000 then some (.tup (xs ++ ys)) else none
  | .lst _ xs, .lst _ ys => if xs.length + ys.length ≤ 10000 then some (.lst .ow (xs ++ ys)) else none
  | _, _ => none
def aMul : D → D → Option D := fun x y => match x, y with
  | .int i, .int j => if mulOk i j = true then some (.int (i * j)) else none
  | .lst _ xs, .int k => if -(2 ^ 63) ≤ k ∧ k < 2 ^ 63 ∧ xs.length * k.toNat ≤ 10000 then some (.lst .ow (List.replicate k.toNat xs).flatten) else none
  | _, _ => none
theorem Reps.rep {xs : List W} {ds : List D} (r : Reps O h xs ds) : ∀ n, Reps O h (List.replicate n xs).flatten (List.replicate n ds).flatten
  | 0 => .nil
  | n + 1 => by
    rw [List.replicate_succ, List.replicate_succ, List.flatten_cons, List.flatten_cons]
    exact r.append (Reps.rep r n)
theorem oka_mul : OkO aMul qMul := by
  intro O h x y d e r s rx ry st er
  unfold aMul at er
  split at er
  · obtain rfl := rx.int
    obtain rfl := ry.int
    split at er
    · rename_i c
      cases er
      exact ⟨_, h, if_pos c, Fx.rfl', st, .of (.int _)⟩
    · cases er
  · obtain ⟨a, xs, rfl, l1, e1, r1⟩ := rx.lst
    obtain rfl := ry.int
    split at er
    · rename_i c
      cases er
      obtain ⟨f, st', q⟩ := new_list st (r1.rep _)
      refine ⟨_, _, ?_, f, st', q⟩
      simp only [qMul, e1]
      exact if_pos ⟨c.1, c.2.1, by rw [r1.length]; exact sz c.2.2⟩
    · cases er
  · cases er
theorem oka_add : OkO aAdd oAdd := by
  intro O h x y d e r s rx ry st er
  unfold aAdd at er
  split at er
  · obtain rfl := rx.int
    obtain rfl := ry.int
    cases er
    exact ⟨_, h, rfl, Fx.rfl', st, .of (.int _)⟩
  · obtain rfl := rx.str
    obtain rfl := ry.str
    split at er
    · rename_i c
      cases er
      exact ⟨_, h, if_pos (sz c), Fx.rfl', st, .of (.str _)⟩
    · cases er
  · obtain ⟨xs, rfl, r1⟩ := rx.tup
    obtain ⟨ys, rfl, r2⟩ := ry.tup
    split at er
    · rename_i c
      cases er
      refine ⟨_, h, if_pos ⟨fun z => c.1 ?_, ?_⟩, Fx.rfl', st, .of (.tup (r1.append r2))⟩
      · subst z; cases r1; rfl
      · rw [r1.length, r2.length]; exact sz c.2
    · cases er
  · obtain ⟨a, xs, rfl, l1, e1, r1⟩ := rx.lst
    obtain ⟨b, ys, rfl, l2, e2, r2⟩ := ry.lst
    split at er
    · rename_i c
      cases er
      obtain ⟨f, st', q⟩ := new_list st (r1.append r2)
      refine ⟨_, _, ?_, f, st', q⟩
      show (match h[a]?, h[b]? with
        | some (.lst xs), some (.lst ys) => if xs.length + ys.length ≤ sizeLine then some (W.ref h.length, h ++ [J.O.lst (xs ++ ys)]) else none
        | _, _ => none) = _
      rw [e1, e2]
      exact if_pos (by rw [r1.length, r2.length]; exact sz c)
    · cases er
  · cases er
/-! is -/
def isNon : D → Bool
  | .non => true
  | _ => false
def isV : D → D → Option Bool
  | x, .non => some (isNon x)
  | .bl a, .bl b => some (decide (a = b))
  | _, _ => none
def aIs : D → D → Option D := fun x y => (isV x y).map .bl
def aIsN : D → D → Option D := fun x y => (isV x y).map fun b => .bl (!b)
theorem isV_ok {x y : W} {d e : D} {b : Bool} (rx : RepB O h x d) (ry : RepB O h y e) (z : isV d e = some b) : isW x y = some b := by
  unfold isV at z
  split at z
  · obtain rfl := ry.non
    cases z
    cases rx with
    | rep r => cases r with
      | ref n r => cases r <;> rfl
      | _ => rfl
    | at_ r => cases r <;> rfl
  · obtain rfl := rx.bl
    obtain rfl := ry.bl
    exact z
  · cases z
theorem oka_is : OkO aIs oIs := by
  intro O h x y d e r s rx ry st er
  obtain ⟨b, e1, rfl⟩ := Option.map_eq_some_iff.mp er
  exact ⟨.bl b, h, by unfold oIs; rw [isV_ok rx ry e1]; rfl, Fx.rfl', st, .of (.bl _)⟩
theorem oka_isN : OkO aIsN oIsN := by
  intro O h x y d e r s rx ry st er
  obtain ⟨b, e1, rfl⟩ := Option.map_eq_some_iff.mp er
  exact ⟨.bl (!b), h, by unfold oIsN; rw [isV_ok rx ry e1]; rfl, Fx.rfl', st, .of (.bl _)⟩
/-! equality -/
def scV : D → D → Option Bool
  | .non, .non => some true
  | .non, .bl _ => some false
  | .non, .int _ => some false
  | .non, .str _ => some false
  | .bl _, .non => some false
  | .bl a, .bl b => some (a == b)
  | .bl a, .int b => some ((if a then 1 else 0) == b)
  | .bl _, .str _ => some false
  | .int _, .non => some false
  | .int a, .bl b => some (a == (if b then 1 else 0))
  | .int a, .int b => some (a == b)
  | .int _, .str _ => some false
  | .str _, .non => some false
  | .str _, .bl _ => some false
  | .str _, .int _ => some false
  | .str a, .str b => some (a == b)
  | _, _ => none
def isScV : D → Bool
  | .non => true
  | .bl _ => true
  | .int _ => true
  | .str _ => true
  | _ => false
def sqV : D → Option (Bool × List D)
  | .tup xs => some (false, xs)
  | .lst _ xs => some (true, xs)
  | _ => none
def zipV (E : D → D → Option Bool) : List D → List D → Option (List Bool)
  | x :: xs, y :: ys => match E x y, zipV E xs ys with
    | some b, some bs => some (b :: bs)
    | _, _ => none
  | _, _ => some []
def dicV : D → D → Option Bool
  | .dic _ [], .dic _ [] => some true
  | _, _ => none
def scDV (x y : D) : Option Bool := match dicV x y with
  | some b => some b
  | none => scV x y
def eqV : Nat → D → D → Option Bool
  | 0, _, _ => none
  | n + 1, x, y => match sqV x, sqV y with
    | some (k, xs), some (j, ys) => if k = j then (if k = true ∧ xs.length ≠ ys.length then some false else (zipV (eqV n) xs ys).map fun bs => bs.all id && xs.length == ys.length) else some false
    | some _, none => if isScV y = true then some false else none
    | none, some _ => if isScV x = true then some false else none
    | none, none => scDV x y
theorem sqV_ok {x : W} {d : D} {k : Bool} {ds : List D} (r : RepB O h x d) (e : sqV d = some (k, ds)) : ∃ xs, sqW h x = some (k, xs) ∧ Reps O h xs ds := by
  cases d <;> first | (cases e; done) | skip
  · cases e
    obtain ⟨xs, rfl, q⟩ := r.tup
    exact ⟨xs, rfl, q⟩
  · cases e
    obtain ⟨a, xs, rfl, l, e, r⟩ := r.lst
    exact ⟨xs, by simp [sqW, rdL, e], r⟩
theorem scV_ok {x : W} {d : D} (r : RepB O h x d) (e : isScV d = true) : sqW h x = none ∧ isSc x = true := by
  cases d <;> first | (cases e; done) | skip
  · obtain rfl := r.non; exact ⟨rfl, rfl⟩
  · obtain rfl := r.bl; exact ⟨rfl, rfl⟩
  · obtain rfl := r.int; exact ⟨rfl, rfl⟩
  · obtain rfl := r.str; exact ⟨rfl, rfl⟩
mutual
theorem Rep.fn : ∀ {w : W} {d e : D}, Rep O h w d → Rep O' h w e → d = e
  | _, _, _, .non, .non => rfl
  | _, _, _, .bl b, .bl _ => rfl
  | _, _, _, .int b, .int _ => rfl
  | _, _, _, .str b, .str _ => rfl
  | _, _, _, .tup r, .tup q => by rw [Reps.fn r q]
  | _, _, _, .ref n (.lst l e r), .ref n' (.lst l' e' r') => by
    rw [e] at e'
    cases e'
    rw [Reps.fn r r']
  | _, _, _, .ref n (.ins l e r), .ref n' (.ins l' e' r') => by
    rw [e] at e'
    cases e'
    rw [RepF.fn r r']
  | _, _, _, .ref n (.dic l e r), .ref n' (.dic l' e' r') => by
    rw [e] at e'
    cases e'
    rw [RepD.fn r r']
  | _, _, _, .ref n (.lst l e r), .ref n' (.ins l' e' r') => by rw [e] at e'; cases e'
  | _, _, _, .ref n (.lst l e r), .ref n' (.dic l' e' r') => by rw [e] at e'; cases e'
  | _, _, _, .ref n (.ins l e r), .ref n' (.lst l' e' r') => by rw [e] at e'; cases e'
  | _, _, _, .ref n (.ins l e r), .ref n' (.dic l' e' r') => by rw [e] at e'; cases e'
  | _, _, _, .ref n (.dic l e r), .ref n' (.lst l' e' r') => by rw [e] at e'; cases e'
  | _, _, _, .ref n (.dic l e r), .ref n' (.ins l' e' r') => by rw [e] at e'; cases e'
  | _, _, _, .xcp r, .xcp q => by rw [RepF.fn r q]
  | _, _, _, .hnd, .hnd => rfl
  | _, _, _, .hnd, .ref n r => absurd r.two (by decide)
  | _, _, _, .ref n r, .hnd => absurd r.two (by decide)
theorem Reps.fn : ∀ {w : List W} {d e : List D}, Reps O h w d → Reps O' h w e → d = e
  | _, _, _, .nil, .nil => rfl
  | _, _, _, .cons r t, .cons q p => by rw [Rep.fn r q, Reps.fn t p]
theorem RepF.fn : ∀ {w : List (Nat × W)} {d e : List (Nat × D)}, RepF O h w d → RepF O' h w e → d = e
  | _, _, _, .nil, .nil => rfl
  | _, _, _, .cons r t, .cons q p => by rw [Rep.fn r q, RepF.fn t p]
theorem RepD.fn : ∀ {w : List (Key × W)} {d e : List (Key × D)}, RepD O h w d → RepD O' h w e → d = e
  | _, _, _, .nil, .nil => rfl
  | _, _, _, .cons r t, .cons q p => by rw [Rep.fn r q, RepD.fn t p]
end
theorem zipV_refl {E : D → D → Option Bool} (hE : ∀ x b, E x x = some b → b = true) : ∀ {xs : List D} {bs : List Bool}, zipV E xs xs = some bs → bs.all id = true
  | [], _, e => by cases e; rfl
  | x :: xs, bs, e => by
    unfold zipV at e
    split at e
    · rename_i b cs e1 e2
      cases e
      rw [List.all_cons, hE _ _ e1, zipV_refl hE e2]
      rfl
    · cases e
theorem scDV_cases {x y : D} {b : Bool} (e : scDV x y = some b) : b = true ∨ scV x y = some b := by
  unfold scDV at e
  split at e
  · rename_i q
    cases e
    unfold dicV at q
    split at q
    · cases q; exact .inl rfl
    · cases q
  · exact .inr e
theorem eqV_refl : ∀ (n : Nat) (x : D) (b : Bool), eqV n x x = some b → b = true
  | 0, _, _, e => by cases e
  | n + 1, x, b, e => by
    unfold eqV at e
    cases c : sqV x with
    | some kx =>
      obtain ⟨k, xs⟩ := kx
      rw [c] at e
      have e' : (if k = k then (if k = true ∧ xs.length ≠ xs.length then some false else (zipV (eqV n) xs xs).map fun bs => bs.all id && xs.length == xs.length) else some false) = some b := e
      rw [if_pos rfl, if_neg (fun z => z.2 rfl)] at e'
      obtain ⟨bs, eb, rfl⟩ := Option.map_eq_some_iff.mp e'
      rw [zipV_refl (fun x b => eqV_refl n x b) eb]
      simp
    | none =>
      rw [c] at e
      have e' : scDV x x = some b := e
      rcases scDV_cases e' with rfl | e'
      · rfl
      · cases x <;> first | (cases e'; done) | (cases e'; rfl) | (cases e'; simp)
theorem zipV_ok {E : D → D → Option Bool} {F : W → W → Option Bool} (hE : ∀ x y d e b, Rep O h x d → Rep O' h y e → E d e = some b → F x y = some b) : ∀ {xs ys : List W} {ds es : List D} {bs : List Bool}, Reps O h xs ds → Reps O' h ys es → zipV E ds es = some bs → zipE F xs ys = some bs
  | [], _, _, _, _, .nil, .nil, e => by cases e; rfl
  | [], _, _, _, _, .nil, .cons _ _, e => by cases e; rfl
  | _ :: _, _, _, _, _, .cons _ _, .nil, e => by cases e; rfl
  | x :: xs, y :: ys, _, _, bs, .cons r t, .cons q p, e => by
    unfold zipV at e
    split at e
    · rename_i b cs e1 e2
      cases e
      unfold zipE
      rw [hE _ _ _ _ _ r q e1, zipV_ok hE t p e2]
    · cases e
theorem scE_ok {x y : W} {d e : D} {b : Bool} (rx : RepB O h x d) (ry : RepB O' h y e) (z : scV d e = some b) : scE x y = some b ∧ isScV d = true ∧ isScV e = true := by
  cases d <;> first | (cases z; done) | skip
  all_goals (cases e <;> first | (cases z; done) | skip)
  all_goals (first | obtain rfl := rx.non | obtain rfl := rx.bl | obtain rfl := rx.int | obtain rfl := rx.str)
  all_goals (first | obtain rfl := ry.non | obtain rfl := ry.bl | obtain rfl := ry.int | obtain rfl := ry.str)
  all_goals exact ⟨z, rfl, rfl⟩
theorem scDV_ok {E : W → W → Option Bool} {x y : W} {d e : D} {b : Bool} (rx : RepB O h x d) (ry : RepB O' h y e) (z : scDV d e = some b) : eqR E h x y = some b := by
  unfold scDV at z
  split at z
  · rename_i b' q
    cases z
    unfold dicV at q
    split at q
    · cases q
      obtain ⟨a1, f1, rfl, l1, e1, r1⟩ := rx.dic
      obtain ⟨a2, f2, rfl, l2, e2, r2⟩ := ry.dic
      cases r1
      cases r2
      unfold eqR
      simp [sqW, rdL, e1, e2, scD, dicE, isD0]
    · cases q
  · obtain ⟨e1, c1, c2⟩ := scE_ok rx ry z
    unfold eqR
    rw [(scV_ok rx c1).1, (scV_ok ry c2).1]
    exact (scD_sc (scV_ok rx c1).2).trans e1
theorem sqV_k {k : Bool} {ds : List D} {d : D} (e : sqV d = some (k, ds)) : True := trivial
theorem eqV_ok : ∀ (n : Nat) {x y : W} {d e : D} {b : Bool}, RepB O h x d → RepB O' h y e → eqV (n + 1) d e = some b → eqR (eqG n h) h x y = some b := by
  intro n
  induction n with
  | zero =>
    intro x y d e b rx ry z
    unfold eqV at z
    unfold eqR
    split at z
    · rename_i k ds j es e1 e2
      obtain ⟨xs, q1, r1⟩ := sqV_ok rx e1
      obtain ⟨ys, q2, r2⟩ := sqV_ok ry e2
      rw [q1, q2]
      show (if k = j then (if k = true ∧ xs.length ≠ ys.length then some false else (zipE (eqG 0 h) xs ys).map fun bs => bs.all id && xs.length == ys.length) else some false) = some b
      rw [r1.length, r2.length]
      by_cases kj : k = j
      · rw [if_pos kj] at z ⊢
        by_cases c : k = true ∧ ds.length ≠ es.length
        · rw [if_pos c] at z ⊢; exact z
        · rw [if_neg c] at z ⊢
          obtain ⟨bs, eb, e3⟩ := Option.map_eq_some_iff.mp z
          rw [zipV_ok (F := eqG 0 h) (fun x y d e b _ _ z => by cases z) r1 r2 eb]
          exact congrArg some e3
      · rw [if_neg kj] at z ⊢; exact z
    · rename_i kx e1 e2
      obtain ⟨k, ds⟩ := kx
      obtain ⟨xs, q1, r1⟩ := sqV_ok rx e1
      split at z
      · rename_i c
        obtain ⟨q2, q3⟩ := scV_ok ry c
        rw [q1, q2]
        cases z
        exact if_pos q3
      · cases z
    · rename_i kx e1 e2
      obtain ⟨k, ds⟩ := kx
      obtain ⟨xs, q1, r1⟩ := sqV_ok ry e2
      split at z
      · rename_i c
        obtain ⟨q2, q3⟩ := scV_ok rx c
        rw [q1, q2]
        cases z
        exact if_pos q3
      · cases z
    · exact scDV_ok rx ry z
  | succ n ih =>
    intro x y d e b rx ry z
    unfold eqV at z
    unfold eqR
    split at z
    · rename_i k ds j es e1 e2
      obtain ⟨xs, q1, r1⟩ := sqV_ok rx e1
      obtain ⟨ys, q2, r2⟩ := sqV_ok ry e2
      rw [q1, q2]
      show (if k = j then (if k = true ∧ xs.length ≠ ys.length then some false else (zipE (eqG (n + 1) h) xs ys).map fun bs => bs.all id && xs.length == ys.length) else some false) = some b
      rw [r1.length, r2.length]
      by_cases kj : k = j
      · rw [if_pos kj] at z ⊢
        by_cases c : k = true ∧ ds.length ≠ es.length
        · rw [if_pos c] at z ⊢; exact z
        · rw [if_neg c] at z ⊢
          obtain ⟨bs, eb, e3⟩ := Option.map_eq_some_iff.mp z
          rw [zipV_ok (F := eqG (n + 1) h) (fun x y d e b r q z => ?_) r1 r2 eb]
          · exact congrArg some e3
          · unfold eqG
            split
            · rename_i sm
              obtain ⟨i, rfl, rfl⟩ := sameW_ref sm
              have := Rep.fn r q
              subst this
              rw [eqV_refl _ _ _ z]
            · exact ih (.rep r) (.rep q) z
      · rw [if_neg kj] at z ⊢; exact z
    · rename_i kx e1 e2
      obtain ⟨k, ds⟩ := kx
      obtain ⟨xs, q1, r1⟩ := sqV_ok rx e1
      split at z
      · rename_i c
        obtain ⟨q2, q3⟩ := scV_ok ry c
        rw [q1, q2]
        cases z
        exact if_pos q3
      · cases z
    · rename_i kx e1 e2
      obtain ⟨k, ds⟩ := kx
      obtain ⟨xs, q1, r1⟩ := sqV_ok ry e2
      split at z
      · rename_i c
        obtain ⟨q2, q3⟩ := scV_ok rx c
        rw [q1, q2]
        cases z
        exact if_pos q3
      · cases z
    · exact scDV_ok rx ry z
theorem eqV_item {n : Nat} {x y : W} {d e : D} {b : Bool} (r : Rep O h x d) (q : RepB O' h y e) (z : eqV (n + 1) d e = some b) (fn : ∀ i, x = .ref i → y = .ref i → d = setK .sh e) (hk : eqV (n + 1) d (setK .sh e) = eqV (n + 1) d e) : eqG (n + 1) h x y = some b := by
  unfold eqG
  split
  · rename_i sm
    obtain ⟨i, rfl, rfl⟩ := sameW_ref sm
    have := fn i rfl rfl
    rw [← hk, ← this] at z
    rw [eqV_refl _ _ _ z]
  · exact eqV_ok n (.rep r) q z
def aEq : D → D → Option D := fun x y => (eqV 10 x y).map .bl
def aNe : D → D → Option D := fun x y => (eqV 10 x y).map fun b => .bl (!b)
theorem oka_eq : OkO aEq qEq := by
  intro O h x y d e r s rx ry st er
  obtain ⟨b, e1, rfl⟩ := Option.map_eq_some_iff.mp er
  exact ⟨.bl b, h, by unfold qEq qB; rw [eqV_ok 9 rx ry e1]; rfl, Fx.rfl', st, .of (.bl _)⟩
theorem oka_ne : OkO aNe qNe := by
  intro O h x y d e r s rx ry st er
  obtain ⟨b, e1, rfl⟩ := Option.map_eq_some_iff.mp er
  exact ⟨.bl (!b), h, by unfold qNe qB; rw [eqV_ok 9 rx ry e1]; rfl, Fx.rfl', st, .of (.bl _)⟩
def anyV (E : D → D → Option Bool) (y : D) : List D → Option Bool
  | [] => some false
  | x :: xs => match E x y, anyV E y xs with
    | some b, some c => some (b || c)
    | _, _ => none
def inV (x y : D) : Option Bool := match sqV y with
  | some (_, ys) => anyV (eqV 9) x ys
  | none => none
theorem sqV_setK (d : D) : (sqV (setK k d)).map (·.2) = (sqV d).map (·.2) ∧ (sqV (setK k d)).map (·.1) = (sqV d).map (·.1) := by cases d <;> exact ⟨rfl, rfl⟩
theorem eqV_setK (n : Nat) (x y : D) : eqV n x (setK k y) = eqV n x y := by
  cases n with
  | zero => rfl
  | succ n =>
    cases x <;> cases y <;> first
      | rfl
      | (rename_i k1 l1 k2 c fs; cases l1 <;> rfl)
      | (rename_i k1 l1 k2 l2; cases l1 <;> cases l2 <;> rfl)
theorem Rep.fnB {w : W} {d e : D} (r : Rep O h w d) (q : RepB O' h w e) : d = setK .sh e := by
  cases q with
  | rep q =>
    have := Rep.fn r q
    subst this
    have c := r.kd
    cases d <;> first | rfl | (cases c; rfl)
  | at_ q => exact Rep.fn r (O' := fun _ => False) (.ref (fun z => z) ((q.mono (O' := fun _ => False) (Mo.less (fun a z => z.elim)) (fun o e => e)).setK))
theorem anyV_ok {x : W} {d : D} (r : RepB O h x d) : ∀ {ys : List W} {es : List D} {b : Bool}, Reps O' h ys es → anyV (eqV 9) d es = some b → anyE (eqG 9 h) x ys = some b
  | _, _, _, .nil, e => e
  | _, _, _, .cons q t, e => by
    unfold anyV at e
    split at e
    · rename_i b c e1 e2
      cases e
      unfold anyE
      rw [anyV_ok r t e2, eqV_item (n := 8) q r e1 (fun i a1 a2 => by subst a1; subst a2; exact Rep.fnB q r) (eqV_setK _ _ _)]
    · cases e
theorem inV_ok {x y : W} {d e : D} {b : Bool} (rx : RepB O h x d) (ry : RepB O h y e) (z : inV d e = some b) : inB x y h = some b := by
  unfold inV at z
  split at z
  · rename_i k es e1
    obtain ⟨ys, q, r⟩ := sqV_ok ry e1
    unfold inB
    rw [q]
    exact anyV_ok rx r z
  · cases z
def aIn : D → D → Option D := fun x y => (inV x y).map .bl
def aNin : D → D → Option D := fun x y => (inV x y).map fun b => .bl (!b)
theorem oka_in : OkO aIn qIn := by
  intro O h x y d e r s rx ry st er
  obtain ⟨b, e1, rfl⟩ := Option.map_eq_some_iff.mp er
  exact ⟨.bl b, h, by unfold qIn; rw [inV_ok rx ry e1]; rfl, Fx.rfl', st, .of (.bl _)⟩
theorem oka_nin : OkO aNin qNin := by
  intro O h x y d e r s rx ry st er
  obtain ⟨b, e1, rfl⟩ := Option.map_eq_some_iff.mp er
  exact ⟨.bl (!b), h, by unfold qNin; rw [inV_ok rx ry e1]; rfl, Fx.rfl', st, .of (.bl _)⟩
/-! an item -/
def aIx : D → D → Option D := fun x y => match x, y with
  | .str z, .int i => if z.length ≤ 10000 then (atI z.cps.toList i).map fun c => .str ⟨#[c]⟩ else none
  | .tup xs, .int i => atI xs i
  | .lst _ xs, .int i => atI xs i
  | _, _ => none
theorem atI_ok {xs : List W} {ds : List D} {i : Int} {d : D} (r : Reps O h xs ds) (e : atI ds i = some d) : ∃ w, atI xs i = some w ∧ Rep O h w d := by
  unfold atI at e ⊢
  rw [r.length]
  cases q : ixN ds.length i with
  | none => rw [q] at e; cases e
  | some j =>
    rw [q] at e
    exact r.get e
theorem oka_ix : OkO aIx oIx := by
  intro O h x y d e r s rx ry st er
  unfold aIx at er
  split at er
  · obtain rfl := rx.str
    obtain rfl := ry.int
    split at er
    · rename_i c
      obtain ⟨z, e1, rfl⟩ := Option.map_eq_some_iff.mp er
      refine ⟨_, h, ?_, Fx.rfl', st, .of (.str _)⟩
      unfold oIx
      dsimp only
      rw [if_pos (sz c), e1]
      rfl
    · cases er
  · obtain ⟨xs, rfl, q⟩ := rx.tup
    obtain rfl := ry.int
    obtain ⟨w, e1, q1⟩ := atI_ok q er
    refine ⟨w, h, ?_, Fx.rfl', st, .of q1⟩
    unfold oIx
    dsimp only [itW]
    rw [e1]
    rfl
  · obtain ⟨a, xs, rfl, l, e0, q⟩ := rx.lst
    obtain rfl := ry.int
    obtain ⟨w, e1, q1⟩ := atI_ok q er
    refine ⟨w, h, ?_, Fx.rfl', st, .of q1⟩
    unfold oIx
    simp only [itW, rdL, e0]
    rw [e1]
    rfl
  · cases er
end
end J

namespace J
open PySem PySem.Spec PyProof.Rows L2
section
variable {O O' : Nat → Prop} {h h' h2 : HA} {w : W} {d : D} {a n : Nat} {k : Kd} {m m1 m2 m3 : Ex} {v v1 v2 v3 : VE} {t u : VT} {tt tu : Tx} {vs : VA} {ms : Ax} {s : Hs}
/-! ### truth, and, or, not, if -/
def truV : D → Option Bool
  | .non => some false
  | .bl b => some b
  | .int i => some (i != 0)
  | .str y => if y.length ≤ 10000 then some ((y.length : Int) != 0) else none
  | .tup xs => some (!xs.isEmpty)
  | .lst _ xs => some (!xs.isEmpty)
  | .dic _ xs => some (!xs.isEmpty)
  | _ => none
theorem Reps.isEmpty {xs : List W} {ds : List D} (r : Reps O h xs ds) : xs.isEmpty = ds.isEmpty := by cases r <;> rfl
theorem RepD.isEmpty {xs : List (Key × W)} {ds : List (Key × D)} (r : RepD O h xs ds) : xs.isEmpty = ds.isEmpty := by cases r <;> rfl
theorem truV_ok {b : Bool} (r : RepB O h w d) (e : truV d = some b) : truW w h = some b := by
  cases d <;> first | (cases e; done) | skip
  · obtain rfl := r.non; exact e
  · obtain rfl := r.bl; exact e
  · obtain rfl := r.int; exact e
  · rename_i y
    obtain rfl := r.str
    have e' : (if y.length ≤ 10000 then some ((y.length : Int) != 0) else none) = some b := e
    by_cases c : y.length ≤ 10000
    · rw [if_pos c] at e'
      exact (if_pos (sz c)).trans e'
    · rw [if_neg c] at e'; cases e'
  · obtain ⟨xs, rfl, q⟩ := r.tup
    show some (!xs.isEmpty) = _
    rw [q.isEmpty]
    exact e
  · obtain ⟨a, xs, rfl, l, e0, q⟩ := r.lst
    simp only [truW, e0]
    rw [q.isEmpty]
    exact e
  · obtain ⟨a, xs, rfl, l, e0, q⟩ := r.dic
    simp only [truW, e0]
    rw [q.isEmpty]
    exact e
def ofVB (r : Option Bool) (s : Hs) : VR Bool := match r with
  | some b => .ok b s
  | none => .stuck
def uTru (v : VE) : VT := fun va s => (v va s).bind fun x s1 => ofVB (truV x) s1
def rTbV (x : D) (s : Hs) : VR Bool := match x with
  | .bl b => .ok b s
  | _ => .stuck
def uTb (v : VE) : VT := fun va s => (v va s).bind rTbV
def uAnd (t u : VT) : VT := fun va s => (t va s).bind fun b s1 => if b = true then u va s1 else .ok false s1
def uOr (t u : VT) : VT := fun va s => (t va s).bind fun b s1 => if b = true then .ok true s1 else u va s1
def uNot (t : VT) : VT := fun va s => (t va s).bind fun b s1 => .ok (!b) s1
theorem dvt_tru (p : DVE v m) : DVT (uTru v) (xTru m) := by
  intro O h ta va s E st
  refine gvt_bind (p O h ta va s E st) fun x d h1 s1 f1 st1 r1 => ?_
  unfold ofVB
  split
  · rename_i b e
    exact ⟨h1, by rw [truV_ok r1.b e]; rfl, Fx.rfl', st1⟩
  · trivial
theorem dvt_tb (p : DVE v m) : DVT (uTb v) (xTb m) := by
  intro O h ta va s E st
  refine gvt_bind (p O h ta va s E st) fun x d h1 s1 f1 st1 r1 => ?_
  unfold rTbV
  split
  · obtain rfl := r1.b.bl
    exact ⟨h1, rfl, Fx.rfl', st1⟩
  · trivial
theorem dvt_and (p : DVT t tt) (q : DVT u tu) : DVT (uAnd t u) (xAnd tt tu) := by
  intro O h ta va s E st
  refine gvt_bindT (p O h ta va s E st) fun b h1 s1 f1 st1 => ?_
  cases b with
  | true => exact q O h1 ta va s1 (E.fx f1) st1
  | false => exact ⟨h1, rfl, Fx.rfl', st1⟩
theorem dvt_or (p : DVT t tt) (q : DVT u tu) : DVT (uOr t u) (xOr tt tu) := by
  intro O h ta va s E st
  refine gvt_bindT (p O h ta va s E st) fun b h1 s1 f1 st1 => ?_
  cases b with
  | false => exact q O h1 ta va s1 (E.fx f1) st1
  | true => exact ⟨h1, rfl, Fx.rfl', st1⟩
theorem dvt_not (p : DVT t tt) : DVT (uNot t) (xNot tt) := by
  intro O h ta va s E st
  exact gvt_bindT (p O h ta va s E st) fun b h1 s1 f1 st1 => ⟨h1, rfl, Fx.rfl', st1⟩
def rAndV (v2 : VE) (va : VEn) (x : D) (s : Hs) : VR D := match truV x with
  | some true => v2 va s
  | some false => .ok x s
  | none => .stuck
def rOrV (v2 : VE) (va : VEn) (x : D) (s : Hs) : VR D := match truV x with
  | some true => .ok x s
  | some false => v2 va s
  | none => .stuck
def rNotV (x : D) (s : Hs) : VR D := match truV x with
  | some b => .ok (.bl (!b)) s
  | none => .stuck
def vAnd (v1 v2 : VE) : VE := fun va s => (v1 va s).bind (rAndV v2 va)
def vOr (v1 v2 : VE) : VE := fun va s => (v1 va s).bind (rOrV v2 va)
def vNot (v : VE) : VE := fun va s => (v va s).bind rNotV
def vIf (t : VT) (v1 v2 : VE) : VE := fun va s => (t va s).bind fun b s1 => if b = true then v1 va s1 else v2 va s1
theorem dv_and (p1 : DVE v1 m1) (p2 : DVE v2 m2) : DVE (vAnd v1 v2) (eAnd m1 m2) := by
  intro O h ta va s E st
  refine gve_bind (p1 O h ta va s E st) fun x d h1 s1 f1 st1 r1 => ?_
  unfold rAndV
  split
  · rename_i e
    rw [truV_ok r1.b e]
    exact (p2 O h1 ta va s1 (E.fx f1) st1).le f1.1
  · rename_i e
    rw [truV_ok r1.b e]
    exact ⟨x, h1, rfl, Fx.rfl', st1, r1⟩
  · trivial
theorem dv_or (p1 : DVE v1 m1) (p2 : DVE v2 m2) : DVE (vOr v1 v2) (eOr m1 m2) := by
  intro O h ta va s E st
  refine gve_bind (p1 O h ta va s E st) fun x d h1 s1 f1 st1 r1 => ?_
  unfold rOrV
  split
  · rename_i e
    rw [truV_ok r1.b e]
    exact ⟨x, h1, rfl, Fx.rfl', st1, r1⟩
  · rename_i e
    rw [truV_ok r1.b e]
    exact (p2 O h1 ta va s1 (E.fx f1) st1).le f1.1
  · trivial
theorem dv_not (p : DVE v m) : DVE (vNot v) (eNot m) := by
  intro O h ta va s E st
  refine gve_bind (p O h ta va s E st) fun x d h1 s1 f1 st1 r1 => ?_
  unfold rNotV
  split
  · rename_i b e
    rw [truV_ok r1.b e]
    exact ⟨_, h1, rfl, Fx.rfl', st1, .of (.bl _)⟩
  · trivial
theorem dv_if (p : DVT t tt) (p1 : DVE v1 m1) (p2 : DVE v2 m2) : DVE (vIf t v1 v2) (eIf tt m1 m2) := by
  intro O h ta va s E st
  refine gve_bindT (p O h ta va s E st) fun b h1 s1 f1 st1 => ?_
  cases b with
  | true => exact (p1 O h1 ta va s1 (E.fx f1) st1).le f1.1
  | false => exact (p2 O h1 ta va s1 (E.fx f1) st1).le f1.1
def rChainV (o' : D → D → Option D) (v3 : VE) (va : VEn) (y : D) (s2 : Hs) (r : Option D) : VR D := match r with
  | some (.bl true) => (v3 va s2).bind fun z s3 => ofV (o' y z) s3
  | some (.bl false) => .ok (.bl false) s2
  | _ => .stuck
def vChain (o o' : D → D → Option D) (v1 v2 v3 : VE) : VE := fun va s => (v1 va s).bind fun x s1 => (v2 va s1).bind fun y s2 => rChainV o' v3 va y s2 (o x y)
/-- an operator that leaves all as it is, where it tells yes or no -/
theorem dv_chain {oV oV' : D → D → Option D} {o o' : W → W → HA → Option (W × HA)} (ok : OkO oV o) (ok' : OkO oV' o') (p1 : DVE v1 m1) (p2 : DVE v2 m2) (p3 : DVE v3 m3) : DVE (vChain oV oV' v1 v2 v3) (eChain o o' m1 m2 m3) := by
  intro O h ta va s E st
  refine gve_bind (p1 O h ta va s E st) fun x d h1 s1 f1 st1 r1 => ?_
  refine gve_bind (p2 O h1 ta va s1 (E.fx f1) st1) fun y e h2 s2 f2 st2 r2 => ?_
  unfold rChainV
  split
  · rename_i er
    obtain ⟨w, h3, e3, f3, st3, q3⟩ := ok O h2 x y d e _ s2 (r1.fx f2).b r2.b st2 er
    obtain rfl := q3.b.bl
    rw [e3]
    refine GVE.pre f3 ?_
    refine gve_bind (p3 O h3 ta va s2 (((E.fx f1).fx f2).fx f3) st3) fun z e' h4 s4 f4 st4 r4 => ?_
    refine gve_of st4 fun r er => ?_
    obtain ⟨w, h5, e5, f5, st5, q5⟩ := ok' O h4 y z e e' r s4 ((r2.fx f3).fx f4).b r4.b st4 er
    exact ⟨w, h5, e5, f5, st5, q5.le (Nat.le_trans f1.1 (Nat.le_trans f2.1 (Nat.le_trans f3.1 f4.1)))⟩
  · rename_i er
    obtain ⟨w, h3, e3, f3, st3, q3⟩ := ok O h2 x y d e _ s2 (r1.fx f2).b r2.b st2 er
    obtain rfl := q3.b.bl
    rw [e3]
    exact ⟨_, h3, rfl, f3, st3, .of (.bl _)⟩
  · trivial

/-! ### argument lists, displays -/
def arNil : VA := fun _ s => .ok [] s
def arCons (v : VE) (r : VA) : VA := fun va s => (v va s).bind fun x s1 => (r va s1).bind fun xs s2 => .ok (x :: xs) s2
theorem dva_nil : DVA arNil aNil := fun O h ta va s E st => ⟨[], h, rfl, Fx.rfl', st, .nil⟩
theorem gva_bind {r : VR D} {q : Res W} {kk : D → Hs → VR (List D)} {kq : W → HA → Res (List W)} (g : GVE O n h r q)
    (f : ∀ w d h' s, Fx h h' → St h' s → RepR O n h' w d → GVA O n h' (kk d s) (kq w h')) : GVA O n h (r.bind kk) (q.bind kq) := by
  cases r with
  | ok d s => obtain ⟨w, h', rfl, fr, st, r⟩ := g; exact (f w d h' s fr st r).pre fr
  | exc c fs s => obtain ⟨w, h', rfl, fr, st, r⟩ := g; exact ⟨w, h', rfl, fr, st, r⟩
  | stuck => trivial
theorem gva_bindA {n1 : Nat} {r : VR (List D)} {q : Res (List W)} {kk : List D → Hs → VR (List D)} {kq : List W → HA → Res (List W)} (g : GVA O n1 h r q)
    (f : ∀ w d h' s, Fx h h' → St h' s → RepRs O n1 h' w d → GVA O n h' (kk d s) (kq w h')) : GVA O n h (r.bind kk) (q.bind kq) := by
  cases r with
  | ok d s => obtain ⟨w, h', rfl, fr, st, r⟩ := g; exact (f w d h' s fr st r).pre fr
  | exc c fs s => obtain ⟨w, h', rfl, fr, st, r⟩ := g; exact ⟨w, h', rfl, fr, st, r⟩
  | stuck => trivial
theorem dva_cons (p : DVE v m) (q : DVA vs ms) : DVA (arCons v vs) (aCons m ms) := by
  intro O h ta va s E st
  refine gva_bind (p O h ta va s E st) fun x d h1 s1 f1 st1 r1 => ?_
  refine gva_bindA (q O h1 ta va s1 (E.fx f1) st1) fun xs ds h2 s2 f2 st2 r2 => ?_
  exact ⟨_, h2, rfl, Fx.rfl', st2, .cons (r1.fx f2) (r2.le f1.1)⟩
def stoVs : List D → Option (List D)
  | [] => some []
  | d :: ds => match stoV d, stoVs ds with
    | some e, some es => some (e :: es)
    | _, _ => none
theorem RepRs.sto (b : ∀ a, O a → a < n) : ∀ {ws : List W} {ds es : List D}, RepRs O n h ws ds → stoVs ds = some es → Reps O h ws es
  | _, _, _, .nil, e => by cases e; exact .nil
  | _, _, _, .cons r t, e => by
    unfold stoVs at e
    split at e
    · rename_i e1 e2
      cases e
      exact .cons (r.sto b e1) (RepRs.sto b t e2)
    · cases e
theorem stoVs_len : ∀ {ds es : List D}, stoVs ds = some es → es.length = ds.length
  | [], _, e => by cases e; rfl
  | d :: ds, es, e => by
    unfold stoVs at e
    split at e
    · rename_i e1 e2
      cases e
      rw [List.length_cons, List.length_cons, stoVs_len e2]
    · cases e
def mkTupV (xs : List D) (s : Hs) : VR D := match stoVs xs with
  | some ys => if ys.length ≤ 10000 then .ok (.tup ys) s else .stuck
  | none => .stuck
def mkLstV (xs : List D) (s : Hs) : VR D := match stoVs xs with
  | some ys => if ys.length ≤ 10000 then .ok (.lst .ow ys) s else .stuck
  | none => .stuck
def vTup (vs : VA) : VE := fun va s => (vs va s).bind mkTupV
def vLst (vs : VA) : VE := fun va s => (vs va s).bind mkLstV
theorem dv_tup (q : DVA vs ms) : DVE (vTup vs) (eTup ms) := by
  intro O h ta va s E st
  refine gve_bindA (q O h ta va s E st) fun xs ds h1 s1 f1 st1 r1 => ?_
  unfold mkTupV
  split
  · rename_i ys e
    have z := r1.sto E.bnd e
    split
    · rename_i c
      refine ⟨_, h1, if_pos ?_, Fx.rfl', st1, .of (.tup z)⟩
      rw [z.length]; exact sz c
    · trivial
  · trivial
theorem dv_lst (q : DVA vs ms) : DVE (vLst vs) (eLst ms) := by
  intro O h ta va s E st
  refine gve_bindA (q O h ta va s E st) fun xs ds h1 s1 f1 st1 r1 => ?_
  unfold mkLstV
  split
  · rename_i ys e
    have z := r1.sto E.bnd e
    split
    · rename_i c
      obtain ⟨f, st', q⟩ := new_list st1 z
      refine ⟨_, _, if_pos ?_, f, st', q.le f1.1⟩
      rw [z.length]; exact sz c
    · trivial
  · trivial

/-! ### built-ins -/
inductive RepBs (O : Nat → Prop) (h : HA) : List W → List D → Prop
  | nil : RepBs O h [] []
  | cons {x : W} {xs : List W} {d : D} {ds : List D} : RepB O h x d → RepBs O h xs ds → RepBs O h (x :: xs) (d :: ds)
theorem RepRs.bs : ∀ {ws : List W} {ds : List D}, RepRs O n h ws ds → RepBs O h ws ds
  | _, _, .nil => .nil
  | _, _, .cons r t => .cons r.b (RepRs.bs t)
def OkF (fV : List D → Option D) (f : List W → HA → Option (W × HA)) : Prop := ∀ (O : Nat → Prop) (h : HA) (ws : List W) (ds : List D) (r : D) (s : Hs), RepBs O h ws ds → St h s → fV ds = some r → ∃ w h', f ws h = some (w, h') ∧ Fx h h' ∧ St h' s ∧ RepR O h.length h' w r
def vFn (f : List D → Option D) (vs : VA) : VE := fun va s => (vs va s).bind fun xs s1 => ofV (f xs) s1
theorem dv_fn {fV : List D → Option D} {f : List W → HA → Option (W × HA)} (ok : OkF fV f) (q : DVA vs ms) : DVE (vFn fV vs) (eFn f ms) := by
  intro O h ta va s E st
  refine gve_bindA (q O h ta va s E st) fun xs ds h1 s1 f1 st1 r1 => ?_
  refine gve_of st1 fun r er => ?_
  obtain ⟨w, h3, e3, f3, st3, q3⟩ := ok O h1 xs ds r s1 r1.bs st1 er
  exact ⟨w, h3, e3, f3, st3, q3.le f1.1⟩
theorem RepBs.one {ws : List W} (r : RepBs O h ws [d]) : ∃ w, ws = [w] ∧ RepB O h w d := by
  cases r with
  | cons r t => cases t; exact ⟨_, rfl, r⟩
theorem RepBs.two {ws : List W} {e : D} (r : RepBs O h ws [d, e]) : ∃ w u, ws = [w, u] ∧ RepB O h w d ∧ RepB O h u e := by
  cases r with
  | cons r t => cases t with | cons q t => cases t; exact ⟨_, _, rfl, r, q⟩
theorem fLen_W {xs : List W} (e : itW h w = some xs) : fLen [w] h = some (.int xs.length, h) := by
  cases w with
  | str x => cases e
  | _ => simp only [fLen, e]; rfl
def bLen : List D → Option D
  | [.str x] => if x.length ≤ 10000 then some (.int x.length) else none
  | [.tup xs] => some (.int xs.length)
  | [.lst _ xs] => some (.int xs.length)
  | _ => none
theorem okb_len : OkF bLen fLen := by
  intro O h ws ds r s rs st er
  unfold bLen at er
  split at er
  · obtain ⟨w, rfl, q⟩ := rs.one
    obtain rfl := q.str
    split at er
    · rename_i c
      cases er
      exact ⟨_, h, if_pos (sz c), Fx.rfl', st, .of (.int _)⟩
    · cases er
  · obtain ⟨w, rfl, q⟩ := rs.one
    obtain ⟨xs, e, q⟩ := q.it rfl
    cases er
    exact ⟨_, h, fLen_W e, Fx.rfl', st, by rw [q.length]; exact .of (.int _)⟩
  · obtain ⟨w, rfl, q⟩ := rs.one
    obtain ⟨xs, e, q⟩ := q.it rfl
    cases er
    exact ⟨_, h, fLen_W e, Fx.rfl', st, by rw [q.length]; exact .of (.int _)⟩
  · cases er
def bList : List D → Option D
  | [d] => (itV d).map fun ys => .lst .ow ys
  | _ => none
theorem okb_list : OkF bList fList := by
  intro O h ws ds r s rs st er
  unfold bList at er
  split at er
  · obtain ⟨w, rfl, q⟩ := rs.one
    obtain ⟨ys, e1, rfl⟩ := Option.map_eq_some_iff.mp er
    obtain ⟨xs, e, q⟩ := q.it e1
    obtain ⟨f, st', z⟩ := new_list st q
    exact ⟨_, _, by simp only [fList, e]; rfl, f, st', z⟩
  · cases er
def bTuple : List D → Option D
  | [d] => (itV d).map fun ys => .tup ys
  | _ => none
theorem okb_tuple : OkF bTuple fTuple := by
  intro O h ws ds r s rs st er
  unfold bTuple at er
  split at er
  · obtain ⟨w, rfl, q⟩ := rs.one
    obtain ⟨ys, e1, rfl⟩ := Option.map_eq_some_iff.mp er
    obtain ⟨xs, e, q⟩ := q.it e1
    exact ⟨_, _, by simp only [fTuple, e]; rfl, Fx.rfl', st, .of (.tup q)⟩
  · cases er
def bAbs : List D → Option D
  | [.int i] => some (.int (if i < 0 then -i else i))
  | _ => none
theorem okb_abs : OkF bAbs fAbs := by
  intro O h ws ds r s rs st er
  unfold bAbs at er
  split at er
  · obtain ⟨w, rfl, q⟩ := rs.one
    obtain rfl := q.int
    cases er
    exact ⟨_, h, rfl, Fx.rfl', st, .of (.int _)⟩
  · cases er
def bInt : List D → Option D
  | [.int i] => some (.int i)
  | [.bl k] => some (.int (if k then 1 else 0))
  | _ => none
theorem okb_int : OkF bInt fInt := by
  intro O h ws ds r s rs st er
  unfold bInt at er
  split at er
  · obtain ⟨w, rfl, q⟩ := rs.one
    obtain rfl := q.int
    cases er
    exact ⟨_, h, rfl, Fx.rfl', st, .of (.int _)⟩
  · obtain ⟨w, rfl, q⟩ := rs.one
    obtain rfl := q.bl
    cases er
    exact ⟨_, h, rfl, Fx.rfl', st, .of (.int _)⟩
  · cases er
def bMax2 : List D → Option D
  | [.int i, .int j] => some (.int (if j > i then j else i))
  | _ => none
theorem okb_max2 : OkF bMax2 fMax2 := by
  intro O h ws ds r s rs st er
  unfold bMax2 at er
  split at er
  · obtain ⟨w, u, rfl, q1, q2⟩ := rs.two
    obtain rfl := q1.int
    obtain rfl := q2.int
    cases er
    exact ⟨_, h, rfl, Fx.rfl', st, .of (.int _)⟩
  · cases er
def bMin2 : List D → Option D
  | [.int i, .int j] => some (.int (if j < i then j else i))
  | _ => none
theorem okb_min2 : OkF bMin2 fMin2 := by
  intro O h ws ds r s rs st er
  unfold bMin2 at er
  split at er
  · obtain ⟨w, u, rfl, q1, q2⟩ := rs.two
    obtain rfl := q1.int
    obtain rfl := q2.int
    cases er
    exact ⟨_, h, rfl, Fx.rfl', st, .of (.int _)⟩
  · cases er
/-! list(range(..)) -/
def numD (lo : Int) : Nat → List D
  | 0 => []
  | n + 1 => .int lo :: numD (lo + 1) n
theorem numD_ok : ∀ (n : Nat) (lo : Int), Reps O h (numW lo n) (numD lo n)
  | 0, _ => .nil
  | n + 1, lo => .cons (.int _) (numD_ok n (lo + 1))
theorem numD_len : ∀ (n : Nat) (lo : Int), (numD lo n).length = n
  | 0, _ => rfl
  | n + 1, lo => by unfold numD; rw [List.length_cons, numD_len n]
def rngV1 : List D → Option (List D)
  | [.int j] => if -(2 ^ 62) ≤ j ∧ j < 2 ^ 62 then some (numD 0 j.toNat) else none
  | _ => none
def rngV2 : List D → Option (List D)
  | [.int i, .int j] => if -(2 ^ 62) ≤ i ∧ i < 2 ^ 62 ∧ -(2 ^ 62) ≤ j ∧ j < 2 ^ 62 then some (numD i (j - i).toNat) else none
  | _ => none
def OkR (rV : List D → Option (List D)) (r : List W → Option (List W)) : Prop := ∀ (O : Nat → Prop) (h : HA) (ws : List W) (ds es : List D), RepBs O h ws ds → rV ds = some es → ∃ ys, r ws = some ys ∧ Reps O h ys es
theorem okr_1 : OkR rngV1 rng1 := by
  intro O h ws ds es rs er
  unfold rngV1 at er
  split at er
  · obtain ⟨w, rfl, q⟩ := rs.one
    obtain rfl := q.int
    split at er
    · rename_i c
      cases er
      exact ⟨_, if_pos c, numD_ok _ _⟩
    · cases er
  · cases er
theorem okr_2 : OkR rngV2 rng2 := by
  intro O h ws ds es rs er
  unfold rngV2 at er
  split at er
  · obtain ⟨w, u, rfl, q1, q2⟩ := rs.two
    obtain rfl := q1.int
    obtain rfl := q2.int
    split at er
    · rename_i c
      cases er
      exact ⟨_, if_pos c, numD_ok _ _⟩
    · cases er
  · cases er
def rListRV (rng : List D → Option (List D)) (xs : List D) (s : Hs) : VR D := match rng xs with
  | some ys => if ys.length ≤ 10000 then .ok (.lst .ow ys) s else .stuck
  | none => .stuck
def vListR (rng : List D → Option (List D)) (vs : VA) : VE := fun va s => (vs va s).bind (rListRV rng)
theorem dv_listR {rV : List D → Option (List D)} {r : List W → Option (List W)} (ok : OkR rV r) (q : DVA vs ms) : DVE (vListR rV vs) (eListR r ms) := by
  intro O h ta va s E st
  refine gve_bindA (q O h ta va s E st) fun xs ds h1 s1 f1 st1 r1 => ?_
  unfold rListRV
  split
  · rename_i ys e
    obtain ⟨zs, e1, q1⟩ := ok O h1 xs ds ys r1.bs e
    rw [e1]
    split
    · rename_i c
      obtain ⟨f, st', q2⟩ := new_list st1 q1
      refine ⟨_, _, ?_, f, st', q2.le f1.1⟩
      show (if zs.length ≤ sizeLine then Res.ok (W.ref h1.length) (h1 ++ [J.O.lst zs]) else .stuck) = _
      exact if_pos (by rw [q1.length]; exact sz c)
    · trivial
  · trivial
/-! ### isinstance -/
def tgV' : D → Option Tg
  | .non => some .non
  | .bl _ => some .bl
  | .int _ => some .int
  | .str _ => some .str
  | .tup _ => some .tup
  | .lst _ _ => some .lst
  | .dic _ _ => some .dic
  | .ins _ c _ => some (.ins c)
  | _ => none
theorem tgV'_ok {g : Tg} (r : RepB O h w d) (e : tgV' d = some g) : tgW w h = some g := by
  cases d <;> first | (cases e; done) | skip
  · obtain rfl := r.non; exact e
  · obtain rfl := r.bl; exact e
  · obtain rfl := r.int; exact e
  · obtain rfl := r.str; exact e
  · obtain ⟨xs, rfl, q⟩ := r.tup; exact e
  · obtain ⟨a, xs, rfl, l, e0, q⟩ := r.lst; simp only [tgW, e0]; exact e
  · obtain ⟨a, xs, rfl, l, e0, q⟩ := r.ins; simp only [tgW, e0]; exact e
  · obtain ⟨a, xs, rfl, l, e0, q⟩ := r.dic; simp only [tgW, e0]; exact e
def tgCV (cs : List Nat) (d : D) : Option Tg := match tgV' d with
  | some (.ins c) => if c ∈ cs then some (.ins c) else none
  | r => r
theorem tgCV_ok {cs : List Nat} {g : Tg} (r : RepB O h w d) (e : tgCV cs d = some g) : tgC cs w h = some g := by
  unfold tgCV at e
  unfold tgC
  cases q : tgV' d with
  | none => rw [q] at e; cases e
  | some g' =>
    rw [q] at e
    rw [tgV'_ok r q]
    exact e
def rIsiV (cs : List Nat) (f : Tg → Option Bool) (x : D) (s : Hs) : VR D := match tgCV cs x with
  | some g => (match f g with
    | some b => .ok (.bl b) s
    | none => .stuck)
  | none => .stuck
def vIsi (cs : List Nat) (f : Tg → Option Bool) (v : VE) : VE := fun va s => (v va s).bind (rIsiV cs f)
theorem dv_isi {cs : List Nat} {f : Tg → Option Bool} (p : DVE v m) : DVE (vIsi cs f v) (eIsi cs f m) := by
  intro O h ta va s E st
  refine gve_bind (p O h ta va s E st) fun x d h1 s1 f1 st1 r1 => ?_
  unfold rIsiV
  split
  · rename_i g e
    rw [tgCV_ok r1.b e]
    dsimp only
    split
    · rename_i b e2
      try rw [e2]
      exact ⟨_, h1, rfl, Fx.rfl', st1, .of (.bl _)⟩
    · trivial
  · trivial
/-! ### slices -/
def aSl (x : D) (lo hi : Option Int) : Option D := match x with
  | .str z => if z.length ≤ 10000 then some (.str (cutS z lo hi)) else none
  | .tup xs => if HT.sIx xs.length 0 lo = 0 ∧ HT.sIx xs.length xs.length hi = xs.length then none else some (.tup (cutL xs lo hi))
  | .lst _ xs => some (.lst .ow (cutL xs lo hi))
  | _ => none
theorem Reps.cut {xs : List W} {ds : List D} (r : Reps O h xs ds) (lo hi : Option Int) : Reps O h (cutL xs lo hi) (cutL ds lo hi) := by
  unfold cutL
  rw [r.length]
  exact (r.drop _).take _
theorem aSl_ok {x : W} {r : D} {lo hi : Option Int} (rx : RepB O h x d) (st : St h s) (er : aSl d lo hi = some r) : ∃ w h', oSl x lo hi h = some (w, h') ∧ Fx h h' ∧ St h' s ∧ RepR O h.length h' w r := by
  unfold aSl at er
  split at er
  · obtain rfl := rx.str
    split at er
    · rename_i c
      cases er
      exact ⟨_, h, if_pos (sz c), Fx.rfl', st, .of (.str _)⟩
    · cases er
  · obtain ⟨xs, rfl, q⟩ := rx.tup
    split at er
    · cases er
    · rename_i c
      cases er
      refine ⟨_, h, if_neg (by rw [q.length]; exact c), Fx.rfl', st, .of (.tup (q.cut lo hi))⟩
  · obtain ⟨a, xs, rfl, l, e0, q⟩ := rx.lst
    cases er
    obtain ⟨f, st', z⟩ := new_list st (q.cut lo hi)
    exact ⟨_, _, by simp only [oSl, rdL, e0], f, st', z⟩
  · cases er
def toIV (x : D) (s : Hs) : VR (Option Int) := match x with
  | .int i => .ok (some i) s
  | _ => .stuck
def partVV (lo : Option VE) : VEn → Hs → VR (Option Int) := match lo with
  | none => fun _ s => .ok none s
  | some v => fun va s => (v va s).bind toIV
def vSl (v : VE) (lo hi : Option VE) : VE := fun va s => (v va s).bind fun x s1 => (partVV lo va s1).bind fun l s2 => (partVV hi va s2).bind fun u s3 => ofV (aSl x l u) s3
def DVP (lo : Option VE) (l : Option Ex) : Prop := match lo, l with
  | none, none => True
  | some v, some m => DVE v m
  | _, _ => False
theorem dvp_none : DVP none none := trivial
theorem dvp_some (p : DVE v m) : DVP (some v) (some m) := p
theorem gve_part {lo : Option VE} {l : Option Ex} {n0 : Nat} {ta : En} {va : VEn} {kk : Option Int → Hs → VR D} {kq : Option Int → HA → Res W} (p : DVP lo l) (E : EnvR O h ta va) (st : St h s)
    (f : ∀ o h' s, Fx h h' → St h' s → GVE O n0 h' (kk o s) (kq o h')) : GVE O n0 h ((partVV lo va s).bind kk) ((partV l ta h).bind kq) := by
  cases lo with
  | none =>
    cases l with
    | none => exact f none h s Fx.rfl' st
    | some _ => exact p.elim
  | some v =>
    cases l with
    | none => exact p.elim
    | some m =>
      have p' : DVE v m := p
      have g := p' O h ta va s E st
      show GVE O n0 h (((v va s).bind toIV).bind kk) (((m ta h).bind toI).bind kq)
      cases e : v va s with
      | ok d s1 =>
        rw [e] at g
        obtain ⟨w, h', e1, f1, st1, r1⟩ := g
        rw [e1]
        cases d with
        | int i =>
          obtain rfl := r1.b.int
          exact (f _ h' s1 f1 st1).pre f1
        | _ => trivial
      | exc c fs s1 =>
        rw [e] at g
        obtain ⟨w, h', e1, f1, st1, r1⟩ := g
        rw [e1]
        exact ⟨w, h', rfl, f1, st1, r1⟩
      | stuck => trivial
theorem dv_sl {lo hi : Option VE} {l u : Option Ex} (p : DVE v m) (pl : DVP lo l) (pu : DVP hi u) : DVE (vSl v lo hi) (eSl m l u) := by
  intro O h ta va s E st
  refine gve_bind (p O h ta va s E st) fun x d h1 s1 f1 st1 r1 => ?_
  refine gve_part pl (E.fx f1) st1 fun o h2 s2 f2 st2 => ?_
  refine gve_part pu ((E.fx f1).fx f2) st2 fun o2 h3 s3 f3 st3 => ?_
  refine gve_of st3 fun r er => ?_
  obtain ⟨w, h4, e4, f4, st4, q4⟩ := aSl_ok ((r1.fx f2).fx f3).b st3 er
  exact ⟨w, h4, e4, f4, st4, q4.le (Nat.le_trans f1.1 (Nat.le_trans f2.1 f3.1))⟩
/-! ### fields -/
def aFld (cs : List Nat) (f : Nat) : D → Option D
  | .ins _ c fs => if c ∈ cs then fs.lookup f else none
  | _ => none
theorem oka_fld {cs : List Nat} {f : Nat} : OkU (aFld cs f) (oFld cs f) := by
  intro O h x d r s rx st er
  unfold aFld at er
  split at er
  · obtain ⟨a, xs, rfl, l, e0, q⟩ := rx.ins
    split at er
    · rename_i c
      obtain ⟨w, e1, q1⟩ := q.get er
      refine ⟨w, h, ?_, Fx.rfl', st, .of q1⟩
      simp only [oFld, e0, if_pos c, e1]
      rfl
    · cases er
  · cases er
/-- a caught exception's attribute -/
def vXf (i : Nat) (cs : List Nat) (f : Nat) : VE := fun va s => match va[i]? with
  | some (some (.xcp c fs)) => if c ∈ cs then ofV (fs.lookup f) s else .stuck
  | _ => .stuck
theorem RepF.get_xcp {i c : Nat} {ta : En} {va : VEn} {gs : List (Nat × D)} (E : EnvR O h ta va) (e : va[i]? = some (some (.xcp c gs))) : ∃ fs, ta[i]? = some (some (.xcp c fs)) ∧ RepF O h fs gs := by
  obtain ⟨w, e1, q1, q2⟩ := E.val i _ e
  have r := q1 rfl
  cases r with
  | xcp r => exact ⟨_, e1, r⟩
  | ref n r => cases r
theorem dv_xf {i f : Nat} {cs : List Nat} : DVE (vXf i cs f) (eXf i cs f) := by
  intro O h ta va s E st
  unfold vXf
  split
  · rename_i c gs e
    obtain ⟨fs, e1, r⟩ := RepF.get_xcp E e
    split
    · rename_i hc
      cases e2 : gs.lookup f with
      | none => trivial
      | some d =>
        obtain ⟨w, e3, q⟩ := r.get e2
        refine ⟨w, h, ?_, Fx.rfl', st, .of q⟩
        simp only [eXf, e1, if_pos hc, e3]
    · trivial
  · trivial
/-! ### comprehensions -/
abbrev VG := D → VEn → Option VEn
def gvNm (i : Nat) : VG := fun d va => some (va.set i (some d))
abbrev VGs := List D → VEn → Option VEn
def gvsNil : VGs := fun ds va => match ds with
  | [] => some va
  | _ => none
def gvsCons (g : VG) (r : VGs) : VGs := fun ds va => match ds with
  | d :: ds => (match g d va with
    | some va1 => r ds va1
    | none => none)
  | [] => none
def gvTp (n : Nat) (r : VGs) : VG := fun d va => match d with
  | .tup xs => if xs.length = n then r xs va else none
  | _ => none
/-- a target that touches the frame alone -/
def DVG (g : VG) (gj : Tgt) : Prop := ∀ (O : Nat → Prop) (h : HA) (ta : En) (va va1 : VEn) (w : W) (d : D), EnvR O h ta va → Rep O h w d → g d va = some va1 → ∃ ta1, gj w ta h = some (ta1, h) ∧ EnvR O h ta1 va1
def DVGs (g : VGs) (gj : Tgs) : Prop := ∀ (O : Nat → Prop) (h : HA) (ta : En) (va va1 : VEn) (ws : List W) (ds : List D), EnvR O h ta va → Reps O h ws ds → g ds va = some va1 → ∃ ta1, gj ws ta h = some (ta1, h) ∧ EnvR O h ta1 va1
theorem getElem?_set_some {α : Type} {l : List α} {i j : Nat} {x y : α} (e : (l.set i x)[j]? = some y) : (i = j ∧ x = y ∧ j < l.length) ∨ (i ≠ j ∧ l[j]? = some y) := by
  by_cases c : i = j
  · subst c
    by_cases hl : i < l.length
    · rw [List.getElem?_set_self hl] at e
      exact .inl ⟨rfl, Option.some.inj e, hl⟩
    · rw [List.getElem?_eq_none (by simpa using hl)] at e; cases e
  · rw [List.getElem?_set_ne c] at e
    exact .inr ⟨c, e⟩
theorem EnvR.set {i : Nat} {ta : En} {va : VEn} (E : EnvR O h ta va) (r : Rep O h w d) : EnvR O h (ta.set i (some w)) (va.set i (some d)) := by
  refine ⟨by simp [E.len], E.bnd, fun j e q => ?_⟩
  rcases getElem?_set_some q with ⟨rfl, z, l⟩ | ⟨c, q⟩
  · cases z
    exact ⟨w, List.getElem?_set_self (by rw [E.len]; exact l), fun _ => r, fun c => absurd r.kd c⟩
  · obtain ⟨w', e1, q1⟩ := E.val j e q
    exact ⟨w', by rw [List.getElem?_set_ne c]; exact e1, q1⟩
theorem EnvR.wipe1 {i : Nat} {ta : En} {va : VEn} (E : EnvR O h ta va) {z : Option W} : EnvR O h (ta.set i z) (va.set i none) := by
  refine ⟨by simp [E.len], E.bnd, fun j e q => ?_⟩
  rcases getElem?_set_some q with ⟨rfl, z, l⟩ | ⟨c, q⟩
  · cases z
  · obtain ⟨w', e1, q1⟩ := E.val j e q
    exact ⟨w', by rw [List.getElem?_set_ne c]; exact e1, q1⟩
def wipeV (va : VEn) : List Nat → VEn
  | [] => va
  | v :: vs => (wipeV va vs).set v none
theorem EnvR.wipe {ta : En} {va : VEn} (E : EnvR O h ta va) : ∀ vs : List Nat, EnvR O h (wipeA ta vs) (wipeV va vs)
  | [] => E
  | v :: vs => (EnvR.wipe E vs).wipe1
theorem dvg_nm {i : Nat} : DVG (gvNm i) (gNm i) := by
  intro O h ta va va1 w d E r e
  cases e
  exact ⟨_, rfl, E.set r⟩
theorem dvgs_nil : DVGs gvsNil gsNil := by
  intro O h ta va va1 ws ds E r e
  cases r with
  | nil => cases e; exact ⟨ta, rfl, E⟩
  | cons _ _ => cases e
theorem dvgs_cons {g : VG} {gj : Tgt} {r : VGs} {rj : Tgs} (p : DVG g gj) (q : DVGs r rj) : DVGs (gvsCons g r) (gsCons gj rj) := by
  intro O h ta va va1 ws ds E rs e
  cases rs with
  | nil => cases e
  | cons r1 r2 =>
    rename_i w ws d ds
    cases z : g d va with
    | none => simp only [gvsCons, z] at e; cases e
    | some va2 =>
      simp only [gvsCons, z] at e
      obtain ⟨ta2, e2, E2⟩ := p O h ta va va2 w d E r1 z
      obtain ⟨ta3, e3, E3⟩ := q O h ta2 va2 va1 ws ds E2 r2 e
      exact ⟨ta3, by simp only [gsCons, e2, e3], E3⟩
theorem dvg_tp {n : Nat} {r : VGs} {rj : Tgs} (q : DVGs r rj) : DVG (gvTp n r) (gTp n rj) := by
  intro O h ta va va1 w d E rr e
  unfold gvTp at e
  split at e
  · cases rr with
    | tup rs =>
      split at e
      · rename_i c
        obtain ⟨ta1, e1, E1⟩ := q O h ta va va1 _ _ E rs e
        exact ⟨ta1, (if_pos (by rw [rs.length]; exact c)).trans e1, E1⟩
      · cases e
    | ref n q => cases q
  · cases e
/-- the items, one by one -/
def lcV (g : VG) (t : VT) (el : VE) (va : VEn) : List D → List D → Hs → VR (List D)
  | [], acc, s => .ok acc s
  | d :: ds, acc, s => match g d va with
    | some va1 => (match t va1 s with
      | .ok true s2 => (match el va1 s2 with
        | .ok y s3 => (match stoV y with
          | some y' => if acc.length < 10000 then lcV g t el va ds (acc ++ [y']) s3 else .stuck
          | none => .stuck)
        | _ => .stuck)
      | .ok false s2 => lcV g t el va ds acc s2
      | _ => .stuck)
    | none => .stuck
def rLcV (r : VR (List D)) : VR D := match r with
  | .ok acc s => .ok (.lst .ow acc) s
  | _ => .stuck
/-- one item -/
theorem lc_one {g : VG} {gj : Tgt} {el : VE} {elj : Ex} {ta : En} {va va1 : VEn} (pg : DVG g gj) (pt : DVT t tt) (pe : DVE el elj) (E : EnvR O h ta va) (st : St h s) (r : Rep O h w d) (e : g d va = some va1) :
    ∃ ta1, gj w ta h = some (ta1, h) ∧ (∀ b s2, t va1 s = .ok b s2 → ∃ h2, tt ta1 h = .ok b h2 ∧ Fx h h2 ∧ St h2 s2 ∧ (∀ y s3 y', el va1 s2 = .ok y s3 → stoV y = some y' → ∃ w3 h3, elj ta1 h2 = .ok w3 h3 ∧ Fx h2 h3 ∧ St h3 s3 ∧ Rep O h3 w3 y')) := by
  obtain ⟨ta1, e1, E1⟩ := pg O h ta va va1 w d E r e
  refine ⟨ta1, e1, fun b s2 eb => ?_⟩
  have z := pt O h ta1 va1 s E1 st
  rw [eb] at z
  obtain ⟨h2, e2, f2, st2⟩ := z
  refine ⟨h2, e2, f2, st2, fun y s3 y' ey es => ?_⟩
  have z := pe O h2 ta1 va1 s2 (E1.fx f2) st2
  rw [ey] at z
  obtain ⟨w3, h3, e3, f3, st3, r3⟩ := z
  exact ⟨w3, h3, e3, f3, st3, r3.sto (E1.fx f2).bnd es⟩
theorem lcT_V {g : VG} {gj : Tgt} {el : VE} {elj : Ex} {ta : En} {va : VEn} (pg : DVG g gj) (pt : DVT t tt) (pe : DVE el elj) : ∀ {xs : List W} {ds : List D} {acc : List W} {accV : List D} {h : HA} {s : Hs} {res : List D} {s' : Hs}, EnvR O h ta va → St h s → Reps O h xs ds → Reps O h acc accV → lcV g t el va ds accV s = .ok res s' →
    ∃ out h', lcT gj tt elj ta xs acc h = some (out, h') ∧ Fx h h' ∧ St h' s' ∧ Reps O h' out res
  | [], _, acc, accV, h, s, res, s', E, st, .nil, ra, e => by
    cases e
    exact ⟨acc, h, rfl, Fx.rfl', st, ra⟩
  | x :: xs, _, acc, accV, h, s, res, s', E, st, .cons (d := d) (ds := ds) r rs, ra, e => by
    unfold lcV at e
    cases e1 : g d va with
    | none => rw [e1] at e; cases e
    | some va1 =>
      rw [e1] at e
      obtain ⟨ta1, q1, k⟩ := lc_one pg pt pe E st r e1
      dsimp only at e
      cases e2 : t va1 s with
      | exc c fs s2 => rw [e2] at e; cases e
      | stuck => rw [e2] at e; cases e
      | ok b s2 =>
        rw [e2] at e
        obtain ⟨h2, q2, f2, st2, k2⟩ := k b s2 e2
        cases b with
        | false =>
          dsimp only at e
          obtain ⟨out, h', z1, z2, z3, z4⟩ := lcT_V pg pt pe (E.fx f2) st2 (rs.fx f2) (ra.fx f2) e
          exact ⟨out, h', by unfold lcT; simp only [q1, q2]; exact z1, f2.trans z2, z3, z4⟩
        | true =>
          dsimp only at e
          cases e3 : el va1 s2 with
          | exc c fs s3 => rw [e3] at e; cases e
          | stuck => rw [e3] at e; cases e
          | ok y s3 =>
            rw [e3] at e
            dsimp only at e
            cases e4 : stoV y with
            | none => rw [e4] at e; cases e
            | some y' =>
              rw [e4] at e
              dsimp only at e
              split at e
              · rename_i cl
                obtain ⟨w3, h3, q3, f3, st3, r3⟩ := k2 y s3 y' e3 e4
                have f := f2.trans f3
                obtain ⟨out, h', z1, z2, z3, z4⟩ := lcT_V pg pt pe (E.fx f) st3 (rs.fx f) ((ra.fx f).append (.cons r3 .nil)) e
                refine ⟨out, h', ?_, f.trans z2, z3, z4⟩
                unfold lcT
                simp only [q1, q2, q3]
                rw [if_pos (Nat.lt_of_lt_of_le (by rw [ra.length]; exact cl) (by decide : 10000 ≤ sizeLine))]
                exact z1
              · cases e
/-- .. over a list that stands at a -/
theorem lcL_V {g : VG} {gj : Tgt} {el : VE} {elj : Ex} {ta : En} {va : VEn} {mk : Nat → W → W} {mkV : Nat → D → D} {a0 : Nat} {ws : List W} (hmk : ∀ h k w d, Rep O h w d → Rep O h (mk k w) (mkV k d)) (l2 : 2 ≤ a0) (pg : DVG g gj) (pt : DVT t tt) (pe : DVE el elj) : ∀ {n k : Nat} {ds : List D} {acc : List W} {accV : List D} {h : HA} {s : Hs} {res : List D} {s' : Hs}, EnvR O h ta va → St h s → h[a0]? = some (.lst ws) → Reps O h (ws.drop k) ds → k + n = ws.length → Reps O h acc accV → lcV g t el va (ds.mapIdx fun j d => mkV (k + j) d) accV s = .ok res s' →
    ∃ out h', lcL a0 mk gj tt elj ta n k acc h = some (out, h') ∧ Fx h h' ∧ St h' s' ∧ Reps O h' out res
  | 0, k, ds, acc, accV, h, s, res, s', E, st, ha, rs, hn, ra, e => by
    have : ws.drop k = [] := List.drop_eq_nil_of_le (by omega)
    rw [this] at rs
    cases rs
    cases e
    refine ⟨acc, h, ?_, Fx.rfl', st, ra⟩
    unfold lcL
    simp only [rdL, ha]
    rw [if_pos (by omega)]
  | n + 1, k, ds, acc, accV, h, s, res, s', E, st, ha, rs, hn, ra, e => by
    have hk : k < ws.length := by omega
    have hd : ws.drop k = ws[k] :: ws.drop (k + 1) := List.drop_eq_getElem_cons hk
    rw [hd] at rs
    cases rs with
    | cons r rs =>
    rename_i d ds
    rw [List.mapIdx_cons] at e
    have e0 : (ds.mapIdx fun j d => mkV (k + (j + 1)) d) = ds.mapIdx fun j d => mkV (k + 1 + j) d := by
      congr 1
      funext j d
      rw [show k + (j + 1) = k + 1 + j by omega]
    have hk2 : ws[k]? = some ws[k] := List.getElem?_eq_getElem hk
    have r' := hmk h k _ _ r
    unfold lcV at e
    rw [Nat.add_zero] at e
    cases e1 : g (mkV k d) va with
    | none => rw [e1] at e; cases e
    | some va1 =>
      rw [e1] at e
      obtain ⟨ta1, q1, k'⟩ := lc_one pg pt pe E st r' e1
      dsimp only at e
      cases e2 : t va1 s with
      | exc c fs s2 => rw [e2] at e; cases e
      | stuck => rw [e2] at e; cases e
      | ok b s2 =>
        rw [e2] at e
        obtain ⟨h2, q2, f2, st2, k2⟩ := k' b s2 e2
        cases b with
        | false =>
          dsimp only at e
          rw [e0] at e
          obtain ⟨out, h', z1, z2, z3, z4⟩ := lcL_V (n := n) hmk l2 pg pt pe (E.fx f2) st2 (f2.2 _ _ l2 ha) (rs.fx f2) (by omega) (ra.fx f2) e
          refine ⟨out, h', ?_, f2.trans z2, z3, z4⟩
          unfold lcL
          simp only [rdL, ha, hk2, q1, q2]
          exact z1
        | true =>
          dsimp only at e
          cases e3 : el va1 s2 with
          | exc c fs s3 => rw [e3] at e; cases e
          | stuck => rw [e3] at e; cases e
          | ok y s3 =>
            rw [e3] at e
            dsimp only at e
            cases e4 : stoV y with
            | none => rw [e4] at e; cases e
            | some y' =>
              rw [e4] at e
              dsimp only at e
              split at e
              · rename_i cl
                obtain ⟨w3, h3, q3, f3, st3, r3⟩ := k2 y s3 y' e3 e4
                have f := f2.trans f3
                rw [e0] at e
                obtain ⟨out, h', z1, z2, z3, z4⟩ := lcL_V (n := n) hmk l2 pg pt pe (E.fx f) st3 (f.2 _ _ l2 ha) (rs.fx f) (by omega) ((ra.fx f).append (.cons r3 .nil)) e
                refine ⟨out, h', ?_, f.trans z2, z3, z4⟩
                unfold lcL
                simp only [rdL, ha, hk2, q1, q2, q3]
                rw [if_pos (Nat.lt_of_lt_of_le (by rw [ra.length]; exact cl) (by decide : 10000 ≤ sizeLine))]
                exact z1
              · cases e
theorem mapIdx_id : ∀ xs : List D, xs.mapIdx (fun _ d => d) = xs := by
  intro xs
  apply List.ext_getElem <;> simp
theorem lc_endV {n0 : Nat} {out : List W} {res : List D} (l : n0 ≤ h.length) (st : St h s) (r : Reps O h out res) (e : h2 = h ++ [.lst out]) : Fx h h2 ∧ St h2 s ∧ RepR O n0 h2 (.ref h.length) (.lst .ow res) := by
  subst e
  obtain ⟨f, st', q⟩ := new_list st r
  exact ⟨f, st', q.le l⟩
def vLc (v : VE) (g : VG) (t : VT) (el : VE) (vs : List Nat) : VE := fun va s => (v va s).bind fun d s1 => match itV d with
  | some xs => rLcV (lcV g t el (wipeV va vs) xs [] s1)
  | none => .stuck
def vLcR (rng : List D → Option (List D)) (ar : VA) (g : VG) (t : VT) (el : VE) (vs : List Nat) : VE := fun va s => (ar va s).bind fun ds s1 => match rng ds with
  | some xs => rLcV (lcV g t el (wipeV va vs) xs [] s1)
  | none => .stuck
def enumV (xs : List D) : List D := xs.mapIdx fun k d => .tup [.int (k : Nat), d]
def vLcE (ar : VA) (g : VG) (t : VT) (el : VE) (vs : List Nat) : VE := fun va s => (ar va s).bind fun ds s1 => match ds with
  | [.lst _ xs] => rLcV (lcV g t el (wipeV va vs) (enumV xs) [] s1)
  | _ => .stuck
theorem rLcV_ok {r : VR (List D)} {n0 : Nat} {q : Res W} (f : ∀ res s', r = .ok res s' → ∃ w h', q = .ok w h' ∧ Fx h h' ∧ St h' s' ∧ RepR O n0 h' w (.lst .ow res)) : GVE O n0 h (rLcV r) q := by
  cases r with
  | ok res s' => exact f res s' rfl
  | exc c fs s => trivial
  | stuck => trivial
theorem dv_lc {g : VG} {gj : Tgt} {el : VE} {elj : Ex} {vl : List Nat} (p : DVE v m) (pg : DVG g gj) (pt : DVT t tt) (pe : DVE el elj) : DVE (vLc v g t el vl) (eLc m gj tt elj vl) := by
  intro O h ta va s E st
  refine gve_bind (p O h ta va s E st) fun x d h1 s1 f1 st1 r1 => ?_
  have E1 := (E.fx f1).wipe vl
  cases d with
  | tup xs =>
    obtain ⟨ws, rfl, q⟩ := r1.b.tup
    refine rLcV_ok fun res s' e => ?_
    obtain ⟨out, h', z1, z2, z3, z4⟩ := lcT_V pg pt pe E1 st1 q .nil e
    obtain ⟨f, st', rr⟩ := lc_endV (Nat.le_trans f1.1 z2.1) z3 z4 rfl
    exact ⟨_, _, by dsimp only; rw [z1]; rfl, z2.trans f, st', rr⟩
  | lst k xs =>
    obtain ⟨a, ws, rfl, l, e0, q⟩ := r1.b.lst
    refine rLcV_ok fun res s' e => ?_
    obtain ⟨out, h', z1, z2, z3, z4⟩ := lcL_V (mk := fun _ w => w) (mkV := fun _ d => d) (n := ws.length) (k := 0) (acc := []) (fun h k w d r => r) l pg pt pe E1 st1 e0 (by simpa using q) (by omega) .nil (by rw [mapIdx_id]; exact e)
    obtain ⟨f, st', rr⟩ := lc_endV (Nat.le_trans f1.1 z2.1) z3 z4 rfl
    refine ⟨_, _, ?_, z2.trans f, st', rr⟩
    simp only [rdL, e0]
    rw [z1]
    rfl
  | _ => trivial
theorem dv_lcR {rV : List D → Option (List D)} {rj : List W → Option (List W)} {g : VG} {gj : Tgt} {el : VE} {elj : Ex} {vl : List Nat} (ok : OkR rV rj) (p : DVA vs ms) (pg : DVG g gj) (pt : DVT t tt) (pe : DVE el elj) : DVE (vLcR rV vs g t el vl) (eLcR rj ms gj tt elj vl) := by
  intro O h ta va s E st
  refine gve_bindA (p O h ta va s E st) fun x d h1 s1 f1 st1 r1 => ?_
  have E1 := (E.fx f1).wipe vl
  split
  · rename_i xs ex
    obtain ⟨ys, ey, q⟩ := ok O h1 _ _ _ r1.bs ex
    rw [ey]
    refine rLcV_ok fun res s' e => ?_
    obtain ⟨out, h', z1, z2, z3, z4⟩ := lcT_V pg pt pe E1 st1 q .nil e
    obtain ⟨f, st', rr⟩ := lc_endV (Nat.le_trans f1.1 z2.1) z3 z4 rfl
    exact ⟨_, _, by dsimp only; rw [z1]; rfl, z2.trans f, st', rr⟩
  · trivial
theorem dv_lcE {g : VG} {gj : Tgt} {el : VE} {elj : Ex} {vl : List Nat} (p : DVA vs ms) (pg : DVG g gj) (pt : DVT t tt) (pe : DVE el elj) : DVE (vLcE vs g t el vl) (eLcE ms gj tt elj vl) := by
  intro O h ta va s E st
  refine gve_bindA (p O h ta va s E st) fun x d h1 s1 f1 st1 r1 => ?_
  have E1 := (E.fx f1).wipe vl
  split
  · rename_i k xs
    obtain ⟨w, rfl, q⟩ := r1.bs.one
    obtain ⟨a, ws, rfl, l, e0, q⟩ := q.lst
    refine rLcV_ok fun res s' e => ?_
    obtain ⟨out, h', z1, z2, z3, z4⟩ := lcL_V (mk := fun k w => .tup [.int (k : Nat), w]) (mkV := fun k d => .tup [.int (k : Nat), d]) (n := ws.length) (k := 0) (acc := []) (fun h k w d r => .tup (.cons (.int _) (.cons r .nil))) l pg pt pe E1 st1 e0 (by simpa using q) (by omega) .nil (by simpa [enumV] using e)
    obtain ⟨f, st', rr⟩ := lc_endV (Nat.le_trans f1.1 z2.1) z3 z4 rfl
    refine ⟨_, _, ?_, z2.trans f, st', rr⟩
    simp only [rdL, e0]
    rw [z1]
    rfl
  · trivial
def uYes : VT := fun _ s => .ok true s
theorem dvt_yes : DVT uYes xYes := fun O h ta va s E st => ⟨h, rfl, Fx.rfl', st⟩
/-! ### calls -/
/-- an argument: shared, or lent to be read -/
def argV (d : D) : Option D := match kd d with
  | .sh => some d
  | .ow => some (setK .sh d)
  | .bo => some d
  | .tm => some (setK .bo d)
  | .io => none
def ArgR (O : Nat → Prop) (h : HA) (w : W) (d : D) : Prop := (kd d = .sh → Rep O h w d) ∧ (kd d ≠ .sh → ∃ a, w = .ref a ∧ At O h a .bo d)
inductive ArgRs (O : Nat → Prop) (h : HA) : List W → List D → Prop
  | nil : ArgRs O h [] []
  | cons {x : W} {xs : List W} {d : D} {ds : List D} : ArgR O h x d → ArgRs O h xs ds → ArgRs O h (x :: xs) (d :: ds)
def argVs : List D → Option (List D)
  | [] => some []
  | d :: ds => match argV d, argVs ds with
    | some e, some es => some (e :: es)
    | _, _ => none
theorem RepR.arg {e : D} (b : ∀ a, O a → a < n) (r : RepR O n h w d) (z : argV d = some e) : ArgR O h w e := by
  unfold argV at z
  split at z
  · rename_i c
    have := r.sto b (d' := d) (by unfold stoV; rw [c])
    cases z
    exact ⟨fun _ => this, fun q => absurd c q⟩
  · rename_i c
    have := r.sto b (d' := setK .sh d) (by unfold stoV; rw [c])
    cases z
    exact ⟨fun _ => this, fun q => absurd this.kd q⟩
  · rename_i c
    unfold RepR at r
    rw [c] at r
    obtain ⟨a, rfl, q⟩ := r
    cases z
    exact ⟨fun q => (by rw [c] at q; cases q), fun _ => ⟨a, rfl, q⟩⟩
  · rename_i c
    unfold RepR at r
    rw [c] at r
    obtain ⟨a, rfl, q⟩ := r
    cases z
    have q' : At O h a .bo (setK .bo d) := q.setK
    exact ⟨fun z => (by rw [q'.kd] at z; cases z), fun _ => ⟨a, rfl, q'⟩⟩
  · cases z
theorem RepRs.arg (b : ∀ a, O a → a < n) : ∀ {ws : List W} {ds es : List D}, RepRs O n h ws ds → argVs ds = some es → ArgRs O h ws es
  | _, _, _, .nil, e => by cases e; exact .nil
  | _, _, _, .cons r t, e => by
    unfold argVs at e
    split at e
    · rename_i e1 e2
      cases e
      exact .cons (r.arg b e1) (RepRs.arg b t e2)
    · cases e
theorem ArgRs.length : ∀ {ws : List W} {vs : List D}, ArgRs O h ws vs → ws.length = vs.length
  | _, _, .nil => rfl
  | _, _, .cons _ t => by rw [List.length_cons, List.length_cons, ArgRs.length t]
theorem ArgRs.append : ∀ {ws us : List W} {vs zs : List D}, ArgRs O h ws vs → ArgRs O h us zs → ArgRs O h (ws ++ us) (vs ++ zs)
  | _, _, _, _, .nil, s => s
  | _, _, _, _, .cons r t, s => .cons r (ArgRs.append t s)
theorem Reps.arg : ∀ {ws : List W} {vs : List D}, Reps O h ws vs → ArgRs O h ws vs
  | _, _, .nil => .nil
  | _, _, .cons r t => .cons ⟨fun _ => r, fun z => absurd r.kd z⟩ (Reps.arg t)
/-- a def runs as v tells -/
def DVF (v : VM) (f : Mir) : Prop := ∀ (O : Nat → Prop) (h : HA) (ws : List W) (ds : List D) (s : Hs), (∀ a, O a → a < h.length) → ArgRs O h ws ds → St h s → GVE O h.length h (v ds s) (f ws h)
def rCallV (f : VM) (n : Nat) (dd : List D) (xs : List D) (s : Hs) : VR D := match argVs xs with
  | some ys => if ys.length + dd.length = n then f (ys ++ dd) s else .stuck
  | none => .stuck
def vCall (f : VM) (n : Nat) (dd : List D) (ar : VA) : VE := fun va s => (ar va s).bind (rCallV f n dd)
theorem dv_call {f : VM} {g : Mir} {n : Nat} {dd : List D} {dw : List W} (F : DVF f g) (hd : ∀ O h, Reps O h dw dd) (p : DVA vs ms) : DVE (vCall f n dd vs) (eCall g n dw ms) := by
  intro O h ta va s E st
  refine gve_bindA (p O h ta va s E st) fun x d h1 s1 f1 st1 r1 => ?_
  unfold rCallV
  split
  · rename_i ys e
    have ra := r1.arg E.bnd e
    split
    · rename_i c
      rw [if_pos (by rw [ra.length, (hd O h1).length]; exact c)]
      exact (F O h1 _ _ s1 (E.fx f1).bnd (ra.append (hd O h1).arg) st1).le f1.1
    · trivial
  · trivial
/-- a method, by the class -/
structure VAlt where
  c : Nat
  n : Nat
  f : VM
  dd : List D
def altV (c : Nat) : List VAlt → Option VAlt
  | [] => none
  | a :: r => if a.c = c then some a else altV c r
inductive AltR : List VAlt → List Alt → Prop
  | nil : AltR [] []
  | cons {c n : Nat} {f : VM} {g : Mir} {dd : List D} {dw : List W} {l : List VAlt} {l' : List Alt} : DVF f g → (∀ O h, Reps O h dw dd) → AltR l l' → AltR (⟨c, n, f, dd⟩ :: l) (⟨c, n, g, dw⟩ :: l')
theorem AltR.at_ {c : Nat} {x : VAlt} : ∀ {l : List VAlt} {l' : List Alt}, AltR l l' → altV c l = some x → ∃ y, altAt c l' = some y ∧ y.n = x.n ∧ DVF x.f y.g ∧ ∀ O h, Reps O h y.ds x.dd
  | _, _, .nil, e => by cases e
  | _, _, .cons (c := c1) F hd t, e => by
    unfold altV at e
    unfold altAt
    by_cases q : c1 = c
    · rw [if_pos q] at e ⊢
      cases e
      exact ⟨_, rfl, rfl, F, hd⟩
    · rw [if_neg q] at e ⊢
      exact AltR.at_ t e
def clsV : D → Option Nat
  | .ins _ c _ => some c
  | _ => none
theorem clsV_ok {c : Nat} (r : RepB O h w d) (e : clsV d = some c) : clsOf h w = some c := by
  cases d <;> first | (cases e; done) | skip
  obtain ⟨a, xs, rfl, l, e0, q⟩ := r.ins
  simp only [clsOf, e0]
  exact e
def rMethV (al : List VAlt) (ar : VA) (va : VEn) (x : D) (s : Hs) : VR D := match clsV x with
  | some c => (match altV c al with
    | some a => (ar va s).bind fun xs s2 => rCallV a.f a.n a.dd (x :: xs) s2
    | none => .stuck)
  | none => .stuck
def vMeth (al : List VAlt) (v : VE) (ar : VA) : VE := fun va s => (v va s).bind (rMethV al ar va)
theorem dv_meth {al : List VAlt} {al' : List Alt} (A : AltR al al') (p : DVE v m) (q : DVA vs ms) : DVE (vMeth al v vs) (eMeth al' m ms) := by
  intro O h ta va s E st
  refine gve_bind (p O h ta va s E st) fun x d h1 s1 f1 st1 r1 => ?_
  unfold rMethV
  split
  · rename_i c hc
    rw [clsV_ok r1.b hc]
    dsimp only
    split
    · rename_i al1 ha
      obtain ⟨y, e1, e2, F, hd⟩ := A.at_ ha
      rw [e1]
      dsimp only
      refine gve_bindA (q O h1 ta va s1 (E.fx f1) st1) fun xs ds h2 s2 f2 st2 r2 => ?_
      unfold rCallV
      split
      · rename_i ys e
        have rr : RepRs O h.length h2 (x :: xs) (d :: ds) := .cons (r1.fx f2) (r2.le f1.1)
        have ra := rr.arg E.bnd e
        split
        · rename_i c
          rw [e2, if_pos (by rw [ra.length, (hd O h1).length]; exact c)]
          exact (F O h2 _ _ s2 ((E.fx f1).fx f2).bnd (ra.append (hd O h2).arg) st2).le (Nat.le_trans f1.1 f2.1)
        · trivial
      · trivial
    · trivial
  · trivial
def rMeth0V (al : List VAlt) (x : D) (s : Hs) : VR D := match clsV x with
  | some c => (match altV c al with
    | some a => rCallV a.f a.n a.dd [x] s
    | none => .stuck)
  | none => .stuck
def vMeth0 (al : List VAlt) (v : VE) : VE := fun va s => (v va s).bind (rMeth0V al)
theorem dv_meth0 {al : List VAlt} {al' : List Alt} (A : AltR al al') (p : DVE v m) : DVE (vMeth0 al v) (eMeth0 al' m) := by
  intro O h ta va s E st
  refine gve_bind (p O h ta va s E st) fun x d h1 s1 f1 st1 r1 => ?_
  unfold rMeth0V
  split
  · rename_i c hc
    rw [clsV_ok r1.b hc]
    dsimp only
    split
    · rename_i al1 ha
      obtain ⟨y, e1, e2, F, hd⟩ := A.at_ ha
      rw [e1]
      dsimp only
      unfold rCallV
      split
      · rename_i ys e
        have rr : RepRs O h.length h1 [x] [d] := .cons r1 .nil
        have ra := rr.arg E.bnd e
        split
        · rename_i c
          have hl := ra.length
          rw [e2, if_pos (by rw [(hd O h1).length]; simp at hl; omega)]
          exact (F O h1 _ _ s1 (E.fx f1).bnd (ra.append (hd O h1).arg) st1).le f1.1
        · trivial
      · trivial
    · trivial
  · trivial
/-- an __init__: the thing as it is in the end -/
def DVI (v : VM) (f : Mir) : Prop := ∀ (O : Nat → Prop) (h : HA) (c : Nat) (ws : List W) (ds : List D) (s : Hs), (∀ a, O a → a < h.length) → ArgRs O h ws ds → St h s →
  match v (.ins .io c [] :: ds) s with
  | .ok d s' => ∃ h', f (.ref h.length :: ws) (h ++ [.ins c []]) = .ok .non h' ∧ Fx h h' ∧ St h' s' ∧ At (fun x => O x ∨ x = h.length) h' h.length .ow d
  | .exc e fs s' => ∃ gs h', f (.ref h.length :: ws) (h ++ [.ins c []]) = .exc e gs h' ∧ Fx h h' ∧ St h' s' ∧ RepF O h' gs fs
  | .stuck => True
end
end J

namespace J
open PySem PySem.Spec PyProof.Rows L2
inductive VSR where
  | nx (va : VEn) (s : Hs) | rt (d : D) (va : VEn) (s : Hs) | bk (va : VEn) (s : Hs) | ct (va : VEn) (s : Hs)
  | exc (c : Nat) (fs : List (Nat × D)) (va : VEn) (s : Hs) | stuck
abbrev VSx := VEn → Hs → VSR
def VSR.then (r : VSR) (k : VSx) : VSR := match r with
  | .nx va s => k va s
  | r => r
def VR.to {α : Type} (r : VR α) (va : VEn) (k : α → Hs → VSR) : VSR := match r with
  | .ok a s => k a s
  | .exc c fs s => .exc c fs va s
  | .stuck => .stuck
def owned (d : D) : Prop := kd d = .ow ∨ kd d = .io
/-- the owned places -/
def Own (ta : En) (va : VEn) (a : Nat) : Prop := ∃ (i : Nat) (d : D), va[i]? = some (some d) ∧ owned d ∧ ta[i]? = some (some (.ref a))
abbrev OB (B : Nat → Prop) (ta : En) (va : VEn) : Nat → Prop := fun x => B x ∨ Own ta va x
/-- a def's frame: B what belongs to others, n0 where the heap ended when the def began, L the lent slots and their places -/
structure RE (B : Nat → Prop) (n0 : Nat) (L : List (Nat × Nat)) (h : HA) (ta : En) (va : VEn) : Prop where
  env : EnvR (OB B ta va) h ta va
  inj : ∀ (i j a : Nat) (d e : D), va[i]? = some (some d) → owned d → va[j]? = some (some e) → owned e → ta[i]? = some (some (.ref a)) → ta[j]? = some (some (.ref a)) → i = j
  fresh : ∀ (i a : Nat) (d : D), va[i]? = some (some d) → kd d = .ow → ta[i]? = some (some (.ref a)) → n0 ≤ a
  bo : ∀ (i a : Nat) (d : D), va[i]? = some (some d) → kd d = .bo → ta[i]? = some (some (.ref a)) → a < n0 ∧ ∀ p ∈ L, p.2 ≠ a
  ntm : ∀ (i : Nat) (d : D), va[i]? = some (some d) → kd d ≠ .tm
  io : ∀ p ∈ L, ta[p.1]? = some (some (.ref p.2)) ∧ ∃ d, va[p.1]? = some (some d) ∧ kd d = .io
  ioc : ∀ (i : Nat) (d : D), va[i]? = some (some d) → kd d = .io → ∃ p ∈ L, p.1 = i
  bB : ∀ a, B a → a < n0
  nh : n0 ≤ h.length
/-- one step: what is not owned stays; what is owned behind it was so, or is new -/
structure Sp (ta : En) (va : VEn) (h : HA) (ta' : En) (va' : VEn) (h' : HA) : Prop where
  le : h.length ≤ h'.length
  st : ∀ i o, 2 ≤ i → ¬ Own ta va i → h[i]? = some o → h'[i]? = some o
  ow : ∀ a, Own ta' va' a → Own ta va a ∨ h.length ≤ a
section
variable {B O : Nat → Prop} {n0 : Nat} {L : List (Nat × Nat)} {h h' h2 : HA} {ta ta' ta2 : En} {va va' va2 : VEn} {w : W} {d : D} {s s' : Hs}
theorem Sp.rfl' : Sp ta va h ta va h := ⟨Nat.le_refl _, fun _ _ _ _ e => e, fun _ z => .inl z⟩
theorem Sp.fx (f : Fx h h') : Sp ta va h ta va h' := ⟨f.1, fun i o l _ e => f.2 i o l e, fun _ z => .inl z⟩
theorem Sp.trans (a : Sp ta va h ta' va' h') (b : Sp ta' va' h' ta2 va2 h2) : Sp ta va h ta2 va2 h2 :=
  ⟨Nat.le_trans a.le b.le, fun i o l n e => b.st i o l (fun z => by
    rcases a.ow i z with z | z
    · exact n z
    · have := (List.getElem?_eq_some_iff.mp e).1; omega) (a.st i o l n e), fun x z => by
    rcases b.ow x z with z | z
    · exact a.ow x z
    · exact .inr (Nat.le_trans a.le z)⟩
theorem Sp.mo (a : Sp ta va h ta' va' h') : Mo (OB B ta va) h (OB B ta' va') h' := fun x o l n e => ⟨fun z => by
  rcases z with z | z
  · exact n (.inl z)
  · rcases a.ow x z with z | z
    · exact n (.inr z)
    · have := (List.getElem?_eq_some_iff.mp e).1; omega, a.st x o l (fun z => n (.inr z)) e⟩
theorem RE.fx (r : RE B n0 L h ta va) (f : Fx h h') : RE B n0 L h' ta va := ⟨r.env.fx f, r.inj, r.fresh, r.bo, r.ntm, r.io, r.ioc, r.bB, Nat.le_trans r.nh f.1⟩
theorem owned_kd (o : owned d) : kd d ≠ .sh ∧ kd d ≠ .bo ∧ kd d ≠ .tm := by rcases o with o | o <;> rw [o] <;> decide
theorem sh_not (e : kd d = .sh) : ¬ owned d := fun o => (owned_kd o).1 e
/-- a shared value is kept in a slot -/
theorem RE.setSh {i : Nat} (r : RE B n0 L h ta va) (hi : i ∉ L.map (·.1)) (q : Rep (OB B ta va) h w d) : RE B n0 L h (ta.set i (some w)) (va.set i (some d)) ∧ ∀ a, Own (ta.set i (some w)) (va.set i (some d)) a → Own ta va a := by
  have old : ∀ j e, (va.set i (some d))[j]? = some (some e) → kd e ≠ .sh → i ≠ j ∧ va[j]? = some (some e) := fun j e z c => by
    rcases getElem?_set_some z with ⟨rfl, z, _⟩ | z
    · cases z; exact absurd q.kd c
    · exact z
  have oldt : ∀ {j : Nat}, i ≠ j → (ta.set i (some w))[j]? = ta[j]? := fun c => List.getElem?_set_ne c
  have ow : ∀ a, Own (ta.set i (some w)) (va.set i (some d)) a → Own ta va a := by
    rintro a ⟨j, e, e1, e2, e3⟩
    obtain ⟨c, e1⟩ := old j e e1 (owned_kd e2).1
    rw [oldt c] at e3
    exact ⟨j, e, e1, e2, e3⟩
  have less : ∀ a, OB B (ta.set i (some w)) (va.set i (some d)) a → OB B ta va a := fun a z => z.elim .inl fun z => .inr (ow a z)
  refine ⟨⟨⟨by simp [r.env.len], fun a z => r.env.bnd a (less a z), fun j e z => ?_⟩, ?_, ?_, ?_, ?_, ?_, ?_, r.bB, r.nh⟩, ow⟩
  · rcases getElem?_set_some z with ⟨rfl, z, l⟩ | ⟨c, z⟩
    · cases z
      exact ⟨w, List.getElem?_set_self (by rw [r.env.len]; exact l), fun _ => q.mono (Mo.less less), fun c => absurd q.kd c⟩
    · obtain ⟨w', e1, q1, q2⟩ := r.env.val j e z
      refine ⟨w', by rw [oldt c]; exact e1, fun c => (q1 c).mono (Mo.less less), fun c => ?_⟩
      obtain ⟨a, e2, q3⟩ := q2 c
      exact ⟨a, e2, q3.mono (Mo.less less) fun _ z => z⟩
  · intro j k a e f z1 o1 z2 o2 t1 t2
    obtain ⟨c1, z1⟩ := old j e z1 (owned_kd o1).1
    obtain ⟨c2, z2⟩ := old k f z2 (owned_kd o2).1
    rw [oldt c1] at t1
    rw [oldt c2] at t2
    exact r.inj j k a e f z1 o1 z2 o2 t1 t2
  · intro j a e z c t
    obtain ⟨c1, z1⟩ := old j e z (by rw [c]; decide)
    rw [oldt c1] at t
    exact r.fresh j a e z1 c t
  · intro j a e z c t
    obtain ⟨c1, z1⟩ := old j e z (by rw [c]; decide)
    rw [oldt c1] at t
    exact r.bo j a e z1 c t
  · intro j e z c
    obtain ⟨c1, z1⟩ := old j e z (by rw [c]; decide)
    exact r.ntm j e z1 c
  · intro p hp
    have c : i ≠ p.1 := fun z => hi (by rw [z]; exact List.mem_map_of_mem hp)
    obtain ⟨e1, e, e2, e3⟩ := r.io p hp
    exact ⟨by rw [oldt c]; exact e1, e, by rw [List.getElem?_set_ne c]; exact e2, e3⟩
  · intro j e z c
    obtain ⟨c1, z1⟩ := old j e z (by rw [c]; decide)
    exact r.ioc j e z1 c
/-- a slot is emptied -/
theorem RE.setN {i : Nat} {z0 : Option W} (r : RE B n0 L h ta va) (hi : i ∉ L.map (·.1)) : RE B n0 L h (ta.set i z0) (va.set i none) ∧ ∀ a, Own (ta.set i z0) (va.set i none) a → Own ta va a := by
  have old : ∀ j e, (va.set i none)[j]? = some (some e) → i ≠ j ∧ va[j]? = some (some e) := fun j e z => by
    rcases getElem?_set_some z with ⟨rfl, z, _⟩ | z
    · cases z
    · exact z
  have oldt : ∀ {j : Nat}, i ≠ j → (ta.set i z0)[j]? = ta[j]? := fun c => List.getElem?_set_ne c
  have ow : ∀ a, Own (ta.set i z0) (va.set i none) a → Own ta va a := by
    rintro a ⟨j, e, e1, e2, e3⟩
    obtain ⟨c, e1⟩ := old j e e1
    rw [oldt c] at e3
    exact ⟨j, e, e1, e2, e3⟩
  have less : ∀ a, OB B (ta.set i z0) (va.set i none) a → OB B ta va a := fun a z => z.elim .inl fun z => .inr (ow a z)
  refine ⟨⟨⟨by simp [r.env.len], fun a z => r.env.bnd a (less a z), fun j e z => ?_⟩, ?_, ?_, ?_, ?_, ?_, ?_, r.bB, r.nh⟩, ow⟩
  · obtain ⟨c, z⟩ := old j e z
    obtain ⟨w', e1, q1, q2⟩ := r.env.val j e z
    refine ⟨w', by rw [oldt c]; exact e1, fun c => (q1 c).mono (Mo.less less), fun c => ?_⟩
    obtain ⟨a, e2, q3⟩ := q2 c
    exact ⟨a, e2, q3.mono (Mo.less less) fun _ z => z⟩
  · intro j k a e f z1 o1 z2 o2 t1 t2
    obtain ⟨c1, z1⟩ := old j e z1
    obtain ⟨c2, z2⟩ := old k f z2
    rw [oldt c1] at t1
    rw [oldt c2] at t2
    exact r.inj j k a e f z1 o1 z2 o2 t1 t2
  · intro j a e z c t
    obtain ⟨c1, z1⟩ := old j e z
    rw [oldt c1] at t
    exact r.fresh j a e z1 c t
  · intro j a e z c t
    obtain ⟨c1, z1⟩ := old j e z
    rw [oldt c1] at t
    exact r.bo j a e z1 c t
  · intro j e z c
    obtain ⟨c1, z1⟩ := old j e z
    exact r.ntm j e z1 c
  · intro p hp
    have c : i ≠ p.1 := fun z => hi (by rw [z]; exact List.mem_map_of_mem hp)
    obtain ⟨e1, e, e2, e3⟩ := r.io p hp
    exact ⟨by rw [oldt c]; exact e1, e, by rw [List.getElem?_set_ne c]; exact e2, e3⟩
  · intro j e z c
    obtain ⟨c1, z1⟩ := old j e z
    exact r.ioc j e z1 c
/-- a fresh thing is owned by a slot; f: since h0 -/
theorem RE.setOw {i a : Nat} {h0 : HA} (r0 : RE B n0 L h0 ta va) (f : Fx h0 h) (hi : i ∉ L.map (·.1)) (hil : i < ta.length) (la : h0.length ≤ a) (q : At (fun x => OB B ta va x ∨ x = a) h a .ow d) : RE B n0 L h (ta.set i (some (.ref a))) (va.set i (some d)) ∧ ∀ x, Own (ta.set i (some (.ref a))) (va.set i (some d)) x → Own ta va x ∨ x = a := by
  have kq : kd d = .ow := q.kd
  have old : ∀ j e, (va.set i (some d))[j]? = some (some e) → (i = j ∧ e = d) ∨ (i ≠ j ∧ va[j]? = some (some e)) := fun j e z => by
    rcases getElem?_set_some z with ⟨rfl, z, _⟩ | z
    · cases z; exact .inl ⟨rfl, rfl⟩
    · exact .inr z
  have oldt : ∀ {j : Nat}, i ≠ j → (ta.set i (some (W.ref a)))[j]? = ta[j]? := fun c => List.getElem?_set_ne c
  have newt : (ta.set i (some (W.ref a)))[i]? = some (some (W.ref a)) := List.getElem?_set_self hil
  have ow : ∀ x, Own (ta.set i (some (.ref a))) (va.set i (some d)) x → Own ta va x ∨ x = a := by
    rintro x ⟨j, e, e1, e2, e3⟩
    rcases old j e e1 with ⟨rfl, rfl⟩ | ⟨c, e1⟩
    · rw [newt] at e3; cases e3; exact .inr rfl
    · rw [oldt c] at e3
      exact .inl ⟨j, e, e1, e2, e3⟩
  have lt0 : ∀ (j x : Nat) (e : D), va[j]? = some (some e) → kd e ≠ .sh → ta[j]? = some (some (.ref x)) → x < h0.length := fun j x e z c t => by
    obtain ⟨w', e1, _, q2⟩ := r0.env.val j e z
    obtain ⟨b, e2, q3⟩ := q2 c
    rw [t] at e1
    cases e1
    cases e2
    exact q3.lt
  have less : ∀ x, OB B (ta.set i (some (.ref a))) (va.set i (some d)) x → OB B ta va x ∨ x = a := fun x z => z.elim (fun z => .inl (.inl z)) fun z => (ow x z).elim (fun z => .inl (.inr z)) .inr
  have m : Mo (OB B ta va) h0 (OB B (ta.set i (some (.ref a))) (va.set i (some d))) h := Mo.sub (fun x l z => (less x z).elim id fun z => by omega) f
  refine ⟨⟨⟨by simp [r0.env.len], fun x z => ?_, fun j e z => ?_⟩, ?_, ?_, ?_, ?_, ?_, ?_, r0.bB, Nat.le_trans r0.nh f.1⟩, ow⟩
  · rcases less x z with z | rfl
    · exact Nat.lt_of_lt_of_le (r0.env.bnd x z) f.1
    · exact q.lt
  · rcases old j e z with ⟨rfl, rfl⟩ | ⟨c, z⟩
    · exact ⟨.ref a, newt, fun c => (by rw [kq] at c; cases c), fun _ => ⟨a, rfl, by rw [kq]; exact q.mono (Mo.less less) fun _ z => z⟩⟩
    · obtain ⟨w', e1, q1, q2⟩ := r0.env.val j e z
      refine ⟨w', by rw [oldt c]; exact e1, fun c => (q1 c).mono m, fun c => ?_⟩
      obtain ⟨b, e2, q3⟩ := q2 c
      exact ⟨b, e2, q3.mono m fun o z => f.2 _ _ q3.two z⟩
  · intro j k x e g z1 o1 z2 o2 t1 t2
    rcases old j e z1 with ⟨rfl, rfl⟩ | ⟨c1, y1⟩
    · rcases old k g z2 with ⟨rfl, rfl⟩ | ⟨c2, y2⟩
      · rfl
      · rw [newt] at t1
        cases t1
        rw [oldt c2] at t2
        have := lt0 k _ g y2 (owned_kd o2).1 t2
        omega
    · rcases old k g z2 with ⟨rfl, rfl⟩ | ⟨c2, y2⟩
      · rw [newt] at t2
        cases t2
        rw [oldt c1] at t1
        have := lt0 j _ e y1 (owned_kd o1).1 t1
        omega
      · rw [oldt c1] at t1
        rw [oldt c2] at t2
        exact r0.inj j k x e g y1 o1 y2 o2 t1 t2
  · intro j x e z c t
    rcases old j e z with ⟨rfl, rfl⟩ | ⟨c1, z1⟩
    · rw [newt] at t; cases t; exact Nat.le_trans r0.nh la
    · rw [oldt c1] at t
      exact r0.fresh j x e z1 c t
  · intro j x e z c t
    rcases old j e z with ⟨rfl, rfl⟩ | ⟨c1, z1⟩
    · rw [kq] at c; cases c
    · rw [oldt c1] at t
      exact r0.bo j x e z1 c t
  · intro j e z c
    rcases old j e z with ⟨rfl, rfl⟩ | ⟨c1, z1⟩
    · rw [kq] at c; cases c
    · exact r0.ntm j e z1 c
  · intro p hp
    have c : i ≠ p.1 := fun z => hi (by rw [z]; exact List.mem_map_of_mem hp)
    obtain ⟨e1, e, e2, e3⟩ := r0.io p hp
    exact ⟨by rw [oldt c]; exact e1, e, by rw [List.getElem?_set_ne c]; exact e2, e3⟩
  · intro j e z c
    rcases old j e z with ⟨rfl, rfl⟩ | ⟨c1, z1⟩
    · rw [kq] at c; cases c
    · exact r0.ioc j e z1 c
/-- what an owned slot holds is changed -/
theorem RE.mutH {j a : Nat} {e d' : D} (r : RE B n0 L h ta va) (hle : h.length ≤ h'.length) (hh : ∀ x o, 2 ≤ x → x ≠ a → h[x]? = some o → h'[x]? = some o) (ej : va[j]? = some (some e)) (oe : owned e) (ta_j : ta[j]? = some (some (.ref a))) (l2 : 2 ≤ a) (kk : kd d' = kd e)
    (q : At (OB B ta va) h' a (kd e) d') : RE B n0 L h' ta (va.set j (some d')) ∧ ∀ x, Own ta (va.set j (some d')) x ↔ Own ta va x := by
  have hj : j < va.length := (List.getElem?_eq_some_iff.mp ej).1
  have od : owned d' := by unfold owned; rw [kk]; exact oe
  have nw : (va.set j (some d'))[j]? = some (some d') := List.getElem?_set_self hj
  have old : ∀ i g, (va.set j (some d'))[i]? = some (some g) → (j = i ∧ g = d') ∨ (j ≠ i ∧ va[i]? = some (some g)) := fun i g z => by
    rcases getElem?_set_some z with ⟨rfl, z, _⟩ | z
    · cases z; exact .inl ⟨rfl, rfl⟩
    · exact .inr z
  have ow : ∀ x, Own ta (va.set j (some d')) x ↔ Own ta va x := fun x => by
    constructor
    · rintro ⟨i, g, g1, g2, g3⟩
      rcases old i g g1 with ⟨rfl, rfl⟩ | ⟨c, g1⟩
      · exact ⟨j, e, ej, oe, g3⟩
      · exact ⟨i, g, g1, g2, g3⟩
    · rintro ⟨i, g, g1, g2, g3⟩
      by_cases c : j = i
      · subst c
        exact ⟨j, d', nw, od, g3⟩
      · exact ⟨i, g, by rw [List.getElem?_set_ne c]; exact g1, g2, g3⟩
  have own : Own ta va a := ⟨j, e, ej, oe, ta_j⟩
  have obe : ∀ x, OB B ta (va.set j (some d')) x ↔ OB B ta va x := fun x => or_congr Iff.rfl (ow x)
  have m : Mo (OB B ta va) h (OB B ta (va.set j (some d'))) h' := fun x o l n ex => ⟨fun z => n ((obe x).mp z), hh x o l (fun z : x = a => n (.inr (by rw [z]; exact own))) ex⟩
  have m2 : Mo (OB B ta va) h' (OB B ta (va.set j (some d'))) h' := Mo.less fun x z => (obe x).mp z
  refine ⟨⟨⟨by simp [r.env.len], fun x z => Nat.lt_of_lt_of_le (r.env.bnd x ((obe x).mp z)) hle, fun i g z => ?_⟩, ?_, ?_, ?_, ?_, ?_, ?_, r.bB, Nat.le_trans r.nh hle⟩, ow⟩
  · rcases old i g z with ⟨rfl, rfl⟩ | ⟨c, z⟩
    · exact ⟨.ref a, ta_j, fun c => absurd c (by rw [kk]; exact (owned_kd oe).1), fun _ => ⟨a, rfl, by rw [kk]; exact q.mono m2 fun _ z => z⟩⟩
    · obtain ⟨w', e1, q1, q2⟩ := r.env.val i g z
      refine ⟨w', e1, fun c => (q1 c).mono m, fun c2 => ?_⟩
      obtain ⟨b, e2, q3⟩ := q2 c2
      refine ⟨b, e2, q3.mono m fun o z0 => ?_⟩
      have hb : a ≠ b := fun zz => by
        subst zz
        subst e2
        by_cases og : owned g
        · exact c (r.inj j i a e g ej oe z og ta_j e1)
        · have kb : kd g = .bo := by
            cases kg : kd g with
            | sh => exact absurd kg c2
            | bo => rfl
            | tm => exact absurd kg (r.ntm i g z)
            | ow => exact absurd (.inl kg) og
            | io => exact absurd (.inr kg) og
          obtain ⟨b1, b2⟩ := r.bo i a g z kb e1
          rcases oe with oe | oe
          · have := r.fresh j a e ej oe ta_j; omega
          · obtain ⟨p, hp, hpi⟩ := r.ioc j e ej oe
            have := (r.io p hp).1
            rw [hpi, ta_j] at this
            cases this
            exact b2 p hp rfl
      exact hh b o q3.two (Ne.symm hb) z0
  · intro i k x f g z1 o1 z2 o2 t1 t2
    rcases old i f z1 with ⟨rfl, rfl⟩ | ⟨c1, y1⟩
    · rcases old k g z2 with ⟨rfl, rfl⟩ | ⟨c2, y2⟩
      · rfl
      · exact r.inj _ _ x e g ej oe y2 o2 t1 t2
    · rcases old k g z2 with ⟨rfl, rfl⟩ | ⟨c2, y2⟩
      · exact r.inj _ _ x f e y1 o1 ej oe t1 t2
      · exact r.inj _ _ x f g y1 o1 y2 o2 t1 t2
  · intro i x g z c t
    rcases old i g z with ⟨rfl, rfl⟩ | ⟨c1, z1⟩
    · rw [kk] at c; exact r.fresh _ _ e ej c t
    · exact r.fresh i x g z1 c t
  · intro i x g z c t
    rcases old i g z with ⟨rfl, rfl⟩ | ⟨c1, z1⟩
    · rw [kk] at c; exact absurd c (owned_kd oe).2.1
    · exact r.bo i x g z1 c t
  · intro i g z c
    rcases old i g z with ⟨rfl, rfl⟩ | ⟨c1, z1⟩
    · rw [kk] at c; exact absurd c (owned_kd oe).2.2
    · exact r.ntm i g z1 c
  · intro p hp
    obtain ⟨e1, g, e2, e3⟩ := r.io p hp
    refine ⟨e1, ?_⟩
    by_cases c : j = p.1
    · refine ⟨d', by rw [← c]; exact nw, ?_⟩
      rw [← c, ej] at e2
      cases e2
      rw [kk]; exact e3
    · exact ⟨g, by rw [List.getElem?_set_ne c]; exact e2, e3⟩
  · intro i g z c
    rcases old i g z with ⟨rfl, rfl⟩ | ⟨c1, z1⟩
    · rw [kk] at c; exact r.ioc _ e ej c
    · exact r.ioc i g z1 c
theorem RE.mut {j a : Nat} {e d' : D} {o' : J.O} (r : RE B n0 L h ta va) (ej : va[j]? = some (some e)) (oe : owned e) (ta_j : ta[j]? = some (some (.ref a))) (l2 : 2 ≤ a) (kk : kd d' = kd e)
    (q : At (OB B ta va) (h.set a o') a (kd e) d') : RE B n0 L (h.set a o') ta (va.set j (some d')) ∧ ∀ x, Own ta (va.set j (some d')) x ↔ Own ta va x :=
  r.mutH (by simp) (fun x o _ n e => by rw [List.getElem?_set_ne (Ne.symm n)]; exact e) ej oe ta_j l2 kk q
end
end J

namespace J
open PySem PySem.Spec PyProof.Rows L2
section
variable {B O : Nat → Prop} {n0 : Nat} {L : List (Nat × Nat)} {h h' h2 : HA} {ta ta' ta2 : En} {va va' va2 : VEn} {w : W} {d : D} {s s' : Hs} {jl : List Nat}
variable {m m1 m2 m3 : Ex} {v v1 v2 v3 : VE} {t u : VT} {tt tu : Tx} {vs : VA} {ms : Ax}
/-- what a statement ends with -/
def GVS (B : Nat → Prop) (n0 : Nat) (L : List (Nat × Nat)) (h : HA) (ta : En) (va : VEn) (r : VSR) (q : SR) : Prop := match r with
  | .nx va' s' => ∃ ta' h', q = .nx ta' h' ∧ Sp ta va h ta' va' h' ∧ St h' s' ∧ RE B n0 L h' ta' va'
  | .bk va' s' => ∃ ta' h', q = .bk ta' h' ∧ Sp ta va h ta' va' h' ∧ St h' s' ∧ RE B n0 L h' ta' va'
  | .ct va' s' => ∃ ta' h', q = .ct ta' h' ∧ Sp ta va h ta' va' h' ∧ St h' s' ∧ RE B n0 L h' ta' va'
  | .rt d va' s' => ∃ w ta' h', q = .rt w h' ∧ Sp ta va h ta' va' h' ∧ St h' s' ∧ RE B n0 L h' ta' va' ∧ RepR B n0 h' w d
  | .exc c fs va' s' => ∃ gs ta' h', q = .exc c gs ta' h' ∧ Sp ta va h ta' va' h' ∧ St h' s' ∧ RE B n0 L h' ta' va' ∧ RepF (OB B ta' va') h' gs fs
  | .stuck => True
theorem GVS.pre {r : VSR} {q : SR} (p : Sp ta va h ta' va' h') (g : GVS B n0 L h' ta' va' r q) : GVS B n0 L h ta va r q := by
  cases r with
  | nx va2 s2 => obtain ⟨ta2, h2, e, p2, x⟩ := g; exact ⟨ta2, h2, e, p.trans p2, x⟩
  | bk va2 s2 => obtain ⟨ta2, h2, e, p2, x⟩ := g; exact ⟨ta2, h2, e, p.trans p2, x⟩
  | ct va2 s2 => obtain ⟨ta2, h2, e, p2, x⟩ := g; exact ⟨ta2, h2, e, p.trans p2, x⟩
  | rt d va2 s2 => obtain ⟨w, ta2, h2, e, p2, x⟩ := g; exact ⟨w, ta2, h2, e, p.trans p2, x⟩
  | exc c fs va2 s2 => obtain ⟨w, ta2, h2, e, p2, x⟩ := g; exact ⟨w, ta2, h2, e, p.trans p2, x⟩
  | stuck => trivial
/-- a statement runs as v tells; jl: the lent slots -/
def DVS (jl : List Nat) (v : VSx) (m : Sx) : Prop := ∀ (B : Nat → Prop) (n0 : Nat) (L : List (Nat × Nat)) (h : HA) (ta : En) (va : VEn) (s : Hs), L.map (·.1) = jl → RE B n0 L h ta va → St h s → GVS B n0 L h ta va (v va s) (m ta h)
theorem gvs_then {r : VSR} {q : SR} {k : VSx} {kq : Sx} (g : GVS B n0 L h ta va r q) (f : ∀ ta' va' h' s', Sp ta va h ta' va' h' → St h' s' → RE B n0 L h' ta' va' → GVS B n0 L h' ta' va' (k va' s') (kq ta' h')) : GVS B n0 L h ta va (r.then k) (q.then kq) := by
  cases r with
  | nx va2 s2 => obtain ⟨ta2, h2, rfl, p2, st, x⟩ := g; exact (f ta2 va2 h2 s2 p2 st x).pre p2
  | bk va2 s2 => obtain ⟨ta2, h2, rfl, x⟩ := g; exact ⟨ta2, h2, rfl, x⟩
  | ct va2 s2 => obtain ⟨ta2, h2, rfl, x⟩ := g; exact ⟨ta2, h2, rfl, x⟩
  | rt d va2 s2 => obtain ⟨w, ta2, h2, rfl, x⟩ := g; exact ⟨w, ta2, h2, rfl, x⟩
  | exc c fs va2 s2 => obtain ⟨w, ta2, h2, rfl, x⟩ := g; exact ⟨w, ta2, h2, rfl, x⟩
  | stuck => trivial
/-- an expression within a statement -/
theorem gvs_to {r : VR D} {q : Res W} {k : D → Hs → VSR} {kq : W → HA → SR} (R : RE B n0 L h ta va) (g : GVE (OB B ta va) h.length h r q)
    (f : ∀ w d h' s', Fx h h' → St h' s' → RE B n0 L h' ta va → RepR (OB B ta va) h.length h' w d → GVS B n0 L h' ta va (k d s') (kq w h')) : GVS B n0 L h ta va (r.to va k) (q.to ta kq) := by
  cases r with
  | ok d s => obtain ⟨w, h', rfl, fr, st, r⟩ := g; exact (f w d h' s fr st (R.fx fr) r).pre (Sp.fx fr)
  | exc c fs s => obtain ⟨w, h', rfl, fr, st, r⟩ := g; exact ⟨w, ta, h', rfl, Sp.fx fr, st, R.fx fr, r⟩
  | stuck => trivial
theorem gvs_toT {r : VR Bool} {q : Res Bool} {k : Bool → Hs → VSR} {kq : Bool → HA → SR} (R : RE B n0 L h ta va) (g : GVT (OB B ta va) h r q)
    (f : ∀ b h' s', Fx h h' → St h' s' → RE B n0 L h' ta va → GVS B n0 L h' ta va (k b s') (kq b h')) : GVS B n0 L h ta va (r.to va k) (q.to ta kq) := by
  cases r with
  | ok d s => obtain ⟨h', rfl, fr, st⟩ := g; exact (f d h' s fr st (R.fx fr)).pre (Sp.fx fr)
  | exc c fs s => obtain ⟨w, h', rfl, fr, st, r⟩ := g; exact ⟨w, ta, h', rfl, Sp.fx fr, st, R.fx fr, r⟩
  | stuck => trivial
theorem gvs_toA {r : VR (List D)} {q : Res (List W)} {k : List D → Hs → VSR} {kq : List W → HA → SR} (R : RE B n0 L h ta va) (g : GVA (OB B ta va) h.length h r q)
    (f : ∀ w d h' s', Fx h h' → St h' s' → RE B n0 L h' ta va → RepRs (OB B ta va) h.length h' w d → GVS B n0 L h' ta va (k d s') (kq w h')) : GVS B n0 L h ta va (r.to va k) (q.to ta kq) := by
  cases r with
  | ok d s => obtain ⟨w, h', rfl, fr, st, r⟩ := g; exact (f w d h' s fr st (R.fx fr) r).pre (Sp.fx fr)
  | exc c fs s => obtain ⟨w, h', rfl, fr, st, r⟩ := g; exact ⟨w, ta, h', rfl, Sp.fx fr, st, R.fx fr, r⟩
  | stuck => trivial
/-! ### plain statements -/
def zPass : VSx := fun va s => .nx va s
def zBrk : VSx := fun va s => .bk va s
def zCnt : VSx := fun va s => .ct va s
def zSeq (a b : VSx) : VSx := fun va s => (a va s).then b
def zExp (v : VE) : VSx := fun va s => (v va s).to va fun _ s1 => .nx va s1
def zIf (t : VT) (a b : VSx) : VSx := fun va s => (t va s).to va fun c s1 => if c = true then a va s1 else b va s1
def zRetN : VSx := fun va s => .rt .non va s
/-- what leaves a def -/
def retV : D → D
  | .lst .bo xs => .lst .tm xs
  | .ins .bo c xs => .ins .tm c xs
  | .dic .bo xs => .dic .tm xs
  | d => d
def zRet (v : VE) : VSx := fun va s => (v va s).to va fun d s1 => .rt (retV d) va s1
theorem dvs_pass : DVS jl zPass sPass := fun B n0 L h ta va s hj R st => ⟨ta, h, rfl, Sp.rfl', st, R⟩
theorem dvs_brk : DVS jl zBrk sBrk := fun B n0 L h ta va s hj R st => ⟨ta, h, rfl, Sp.rfl', st, R⟩
theorem dvs_cnt : DVS jl zCnt sCnt := fun B n0 L h ta va s hj R st => ⟨ta, h, rfl, Sp.rfl', st, R⟩
theorem dvs_seq {a b : VSx} {aj bj : Sx} (p : DVS jl a aj) (q : DVS jl b bj) : DVS jl (zSeq a b) (sSeq aj bj) := fun B n0 L h ta va s hj R st =>
  gvs_then (p B n0 L h ta va s hj R st) fun ta' va' h' s' _ st' R' => q B n0 L h' ta' va' s' hj R' st'
theorem dvs_exp (p : DVE v m) : DVS jl (zExp v) (sExp m) := fun B n0 L h ta va s hj R st =>
  gvs_to R (p _ h ta va s R.env st) fun w d h' s' f st' R' r => ⟨ta, h', rfl, Sp.rfl', st', R'⟩
theorem dvs_if {a b : VSx} {aj bj : Sx} (pt : DVT t tt) (p : DVS jl a aj) (q : DVS jl b bj) : DVS jl (zIf t a b) (sIf tt aj bj) := fun B n0 L h ta va s hj R st =>
  gvs_toT R (pt _ h ta va s R.env st) fun c h' s' f st' R' => by
    cases c with
    | true => exact p B n0 L h' ta va s' hj R' st'
    | false => exact q B n0 L h' ta va s' hj R' st'
theorem dvs_retN : DVS jl zRetN sRetN := fun B n0 L h ta va s hj R st => ⟨.non, ta, h, rfl, Sp.rfl', st, R, .of .non⟩
theorem RepR.ret {n : Nat} (s : ∀ a, B a → O a) (l : n0 ≤ n) (r : RepR O n h w d) : RepR B n0 h w (retV d) := by
  unfold RepR at r
  split at r
  · rename_i c
    have : retV d = d := by
      cases d with
      | lst k xs => cases k <;> first | rfl | cases c
      | ins k _ xs => cases k <;> first | rfl | cases c
      | dic k xs => cases k <;> first | rfl | cases c
      | _ => rfl
    rw [this]
    exact .of (r.mono (Mo.less s))
  · rename_i c
    obtain ⟨a, rfl, q⟩ := r
    have : retV d = setK .tm d := by
      cases d with
      | lst k xs => cases k <;> first | rfl | cases c
      | ins k _ xs => cases k <;> first | rfl | cases c
      | dic k xs => cases k <;> first | rfl | cases c
      | _ => cases c
    rw [this]
    exact .tm ((q.mono (Mo.less s) fun _ z => z).setK)
  · rename_i c
    obtain ⟨a, rfl, q⟩ := r
    have : retV d = d := by
      cases d with
      | lst k xs => cases k <;> first | rfl | cases c
      | ins k _ xs => cases k <;> first | rfl | cases c
      | dic k xs => cases k <;> first | rfl | cases c
      | _ => rfl
    rw [this]
    exact .tm (q.mono (Mo.less s) fun _ z => z)
  · rename_i c
    obtain ⟨a, rfl, la, q⟩ := r
    have : retV d = d := by
      cases d with
      | lst k xs => cases k <;> first | rfl | cases c
      | ins k _ xs => cases k <;> first | rfl | cases c
      | dic k xs => cases k <;> first | rfl | cases c
      | _ => rfl
    rw [this]
    exact .ow (Nat.le_trans l la) (q.mono (Mo.less fun x z => z.elim (fun z => .inl (s x z)) .inr) fun _ z => z)
  · exact r.elim
theorem dvs_ret (p : DVE v m) : DVS jl (zRet v) (sRet m) := fun B n0 L h ta va s hj R st =>
  gvs_to R (p _ h ta va s R.env st) fun w d h' s' f st' R' r => ⟨w, ta, h', rfl, Sp.rfl', st', R', r.ret (fun a z => .inl z) R.nh⟩
/-- return of a slot's own value: an owned list leaves as a fresh one -/
def zRetI (i : Nat) : VSx := fun va s => match va[i]? with
  | some (some d) => if okX d = true then (match kd d with
    | .sh => .rt d va s
    | .ow => .rt d va s
    | .bo => .rt (setK .tm d) va s
    | _ => .stuck) else .stuck
  | _ => .stuck
theorem dvs_retI {i : Nat} : DVS jl (zRetI i) (sRet (eVar i)) := by
  intro B n0 L h ta va s hj R st
  unfold zRetI
  split
  · rename_i d e
    split
    · rename_i ok
      obtain ⟨w, e1, q1, q2⟩ := R.env.val i d e
      have ev : noX w = true → sRet (eVar i) ta h = .rt w h := fun nx => by
        unfold sRet eVar
        rw [e1]
        simp only [nx, if_true, Res.to]
      split
      · rename_i c
        have r := q1 c
        have nx : noX w = true := by
          cases r with
          | xcp _ => cases ok
          | _ => rfl
        exact ⟨w, ta, h, ev nx, Sp.rfl', st, R, .of (r.mono (Mo.less fun a z => .inl z))⟩
      · rename_i c
        obtain ⟨a, rfl, q⟩ := q2 (by rw [c]; decide)
        rw [c] at q
        refine ⟨.ref a, ta, h, ev rfl, Sp.rfl', st, R, .ow (R.fresh i a d e c e1) (q.mono (Mo.less fun x z => z.elim .inl fun z => .inr ?_) fun _ z => z)⟩
        subst z
        exact ⟨i, d, e, .inl c, e1⟩
      · rename_i c
        obtain ⟨a, rfl, q⟩ := q2 (by rw [c]; decide)
        rw [c] at q
        exact ⟨.ref a, ta, h, ev rfl, Sp.rfl', st, R, .tm ((q.mono (Mo.less fun x z => .inl z) fun _ z => z).setK)⟩
      · trivial
    · trivial
  · trivial
/-- x = e -/
def kSet (i : Nat) (va : VEn) (d : D) (s : Hs) : VSR := match kd d with
  | .sh => .nx (va.set i (some d)) s
  | .ow => if i < va.length then .nx (va.set i (some d)) s else .stuck
  | _ => .stuck
def zSet (i : Nat) (v : VE) : VSx := fun va s => (v va s).to va (kSet i va)
theorem gvs_to0 {r : VR D} {q : Res W} {k : D → Hs → VSR} {kq : W → HA → SR} (R : RE B n0 L h ta va) (g : GVE (OB B ta va) h.length h r q)
    (f : ∀ w d h' s', Fx h h' → St h' s' → RepR (OB B ta va) h.length h' w d → GVS B n0 L h ta va (k d s') (kq w h')) : GVS B n0 L h ta va (r.to va k) (q.to ta kq) := by
  cases r with
  | ok d s => obtain ⟨w, h', rfl, fr, st, r⟩ := g; exact f w d h' s fr st r
  | exc c fs s => obtain ⟨w, h', rfl, fr, st, r⟩ := g; exact ⟨w, ta, h', rfl, Sp.fx fr, st, R.fx fr, r⟩
  | stuck => trivial
theorem kSet_ok {i : Nat} (hi : i ∉ L.map (·.1)) (R0 : RE B n0 L h ta va) (f : Fx h h') (st : St h' s) (r : RepR (OB B ta va) h.length h' w d) : GVS B n0 L h ta va (kSet i va d s) (.nx (ta.set i (some w)) h') := by
  unfold kSet
  unfold RepR at r
  split
  · rename_i c
    rw [c] at r
    obtain ⟨R1, o1⟩ := (R0.fx f).setSh hi r
    exact ⟨_, h', rfl, ⟨f.1, fun i o l _ e => f.2 i o l e, fun a z => .inl (o1 a z)⟩, st, R1⟩
  · rename_i c
    rw [c] at r
    split
    · rename_i hl
      obtain ⟨a, rfl, la, q⟩ := r
      obtain ⟨R1, o1⟩ := R0.setOw f hi (by rw [R0.env.len]; exact hl) la q
      refine ⟨_, h', rfl, ⟨f.1, fun i o l _ e => f.2 i o l e, fun x z => ?_⟩, st, R1⟩
      rcases o1 x z with z | rfl
      · exact .inl z
      · exact .inr la
    · trivial
  · trivial
theorem dvs_set {i : Nat} (hi : i ∉ jl) (p : DVE v m) : DVS jl (zSet i v) (sSet i m) := fun B n0 L h ta va s hj R st =>
  gvs_to0 R (p _ h ta va s R.env st) fun w d h' s' f st' r => kSet_ok (by rw [hj]; exact hi) R f st' r
/-! ### targets -/
abbrev VTg := D → VEn → Hs → Option (VEn × Hs)
abbrev VTgs := List D → VEn → Hs → Option (VEn × Hs)
def DVTg (jl : List Nat) (g : VTg) (gj : Tgt) : Prop := ∀ (B : Nat → Prop) (n0 : Nat) (L : List (Nat × Nat)) (h : HA) (ta : En) (va : VEn) (s : Hs) (w : W) (d : D) (va1 : VEn) (s1 : Hs), L.map (·.1) = jl → RE B n0 L h ta va → St h s → Rep (OB B ta va) h w d → g d va s = some (va1, s1) →
  ∃ ta1 h1, gj w ta h = some (ta1, h1) ∧ Sp ta va h ta1 va1 h1 ∧ St h1 s1 ∧ RE B n0 L h1 ta1 va1
def DVTgs (jl : List Nat) (g : VTgs) (gj : Tgs) : Prop := ∀ (B : Nat → Prop) (n0 : Nat) (L : List (Nat × Nat)) (h : HA) (ta : En) (va : VEn) (s : Hs) (w : List W) (d : List D) (va1 : VEn) (s1 : Hs), L.map (·.1) = jl → RE B n0 L h ta va → St h s → Reps (OB B ta va) h w d → g d va s = some (va1, s1) →
  ∃ ta1 h1, gj w ta h = some (ta1, h1) ∧ Sp ta va h ta1 va1 h1 ∧ St h1 s1 ∧ RE B n0 L h1 ta1 va1
def gzNm (i : Nat) : VTg := fun d va s => some (va.set i (some d), s)
def gzNil : VTgs := fun ds va s => match ds with
  | [] => some (va, s)
  | _ => none
def gzCons (g : VTg) (r : VTgs) : VTgs := fun ds va s => match ds with
  | d :: ds => (match g d va s with
    | some (va1, s1) => r ds va1 s1
    | none => none)
  | [] => none
def gzTp (n : Nat) (r : VTgs) : VTg := fun d va s => match d with
  | .tup xs => if xs.length = n then r xs va s else none
  | _ => none
theorem dvtg_nm {i : Nat} (hi : i ∉ jl) : DVTg jl (gzNm i) (gNm i) := by
  intro B n0 L h ta va s w d va1 s1 hj R st r e
  cases e
  obtain ⟨R1, o1⟩ := R.setSh (by rw [hj]; exact hi) r
  exact ⟨_, h, rfl, ⟨Nat.le_refl _, fun _ _ _ _ e => e, fun a z => .inl (o1 a z)⟩, st, R1⟩
theorem dvtgs_nil : DVTgs jl gzNil gsNil := by
  intro B n0 L h ta va s w d va1 s1 hj R st r e
  cases r with
  | nil => cases e; exact ⟨ta, h, rfl, Sp.rfl', st, R⟩
  | cons _ _ => cases e
theorem dvtgs_cons {g : VTg} {gj : Tgt} {r : VTgs} {rj : Tgs} (p : DVTg jl g gj) (q : DVTgs jl r rj) : DVTgs jl (gzCons g r) (gsCons gj rj) := by
  intro B n0 L h ta va s ws ds va1 s1 hj R st rr e
  cases rr with
  | nil => cases e
  | cons r1 r2 =>
    rename_i w ws d ds
    cases z : g d va s with
    | none => simp only [gzCons, z] at e; cases e
    | some p0 =>
      obtain ⟨va2, s2⟩ := p0
      simp only [gzCons, z] at e
      obtain ⟨ta2, h2, e2, p2, st2, R2⟩ := p B n0 L h ta va s w d va2 s2 hj R st r1 z
      obtain ⟨ta3, h3, e3, p3, st3, R3⟩ := q B n0 L h2 ta2 va2 s2 ws ds va1 s1 hj R2 st2 (r2.mono p2.mo) e
      exact ⟨ta3, h3, by simp only [gsCons, e2, e3], p2.trans p3, st3, R3⟩
theorem dvtg_tp {n : Nat} {r : VTgs} {rj : Tgs} (q : DVTgs jl r rj) : DVTg jl (gzTp n r) (gTp n rj) := by
  intro B n0 L h ta va s w d va1 s1 hj R st rr e
  unfold gzTp at e
  split at e
  · cases rr with
    | tup rs =>
      split at e
      · rename_i c
        obtain ⟨ta1, h1, e1, x⟩ := q B n0 L h ta va s _ _ va1 s1 hj R st rs e
        exact ⟨ta1, h1, (if_pos (by rw [rs.length]; exact c)).trans e1, x⟩
      · cases e
    | ref n q => cases q
  · cases e
/-- x[i] = .., x an owned list -/
def putI (va : VEn) (j : Nat) (d i : D) : Option VEn := match va[j]?, i with
  | some (some (.lst .ow xs)), .int k => (ixN xs.length k).map fun n => va.set j (some (.lst .ow (xs.set n d)))
  | some (some (.lst .io xs)), .int k => (ixN xs.length k).map fun n => va.set j (some (.lst .io (xs.set n d)))
  | _, _ => none
def gzSb (j : Nat) (v : VE) : VTg := fun d va s => match v va s with
  | .ok i s1 => (putI va j d i).map fun va1 => (va1, s1)
  | _ => none
theorem putI_some {j : Nat} {i : D} {va1 : VEn} (e : putI va j d i = some va1) : ∃ k xs z n, va[j]? = some (some (.lst k xs)) ∧ (k = .ow ∨ k = .io) ∧ i = .int z ∧ ixN xs.length z = some n ∧ va1 = va.set j (some (.lst k (xs.set n d))) := by
  unfold putI at e
  split at e
  · rename_i xs k e1
    obtain ⟨n, e2, rfl⟩ := Option.map_eq_some_iff.mp e
    exact ⟨_, xs, k, n, e1, .inl rfl, rfl, e2, rfl⟩
  · rename_i xs k e1
    obtain ⟨n, e2, rfl⟩ := Option.map_eq_some_iff.mp e
    exact ⟨_, xs, k, n, e1, .inr rfl, rfl, e2, rfl⟩
  · cases e
theorem RE.lst {j : Nat} {k : Kd} {xs : List D} (R : RE B n0 L h ta va) (e : va[j]? = some (some (.lst k xs))) (o : k = .ow ∨ k = .io) : ∃ a ws, ta[j]? = some (some (.ref a)) ∧ 2 ≤ a ∧ h[a]? = some (.lst ws) ∧ Reps (OB B ta va) h ws xs ∧ Own ta va a := by
  obtain ⟨w, e1, q1, q2⟩ := R.env.val j _ e
  have nk : kd (.lst k xs) ≠ .sh := by rcases o with rfl | rfl <;> (show _ ≠ _; intro z; cases z)
  obtain ⟨a, rfl, q⟩ := q2 nk
  cases q with
  | lst l e2 r => exact ⟨a, _, e1, l, e2, r, j, _, e, o, e1⟩
/-- an owned list gets other items -/
theorem RE.putL {j a : Nat} {k : Kd} {xs ys : List D} {ws zs : List W} (R : RE B n0 L h ta va) (st : St h s) (e : va[j]? = some (some (.lst k xs))) (o : k = .ow ∨ k = .io) (et : ta[j]? = some (some (.ref a))) (l : 2 ≤ a) (eh : h[a]? = some (.lst ws)) (r : Reps (OB B ta va) h zs ys) :
    Sp ta va h ta (va.set j (some (.lst k ys))) (h.set a (.lst zs)) ∧ St (h.set a (.lst zs)) s ∧ RE B n0 L (h.set a (.lst zs)) ta (va.set j (some (.lst k ys))) := by
  have own : Own ta va a := ⟨j, _, e, o, et⟩
  have mo : Mo (OB B ta va) h (OB B ta va) (h.set a (.lst zs)) := fun x o l n ex => ⟨n, by rw [List.getElem?_set_ne (fun z : a = x => n (.inr (by rw [← z]; exact own)))]; exact ex⟩
  have la : a < h.length := (List.getElem?_eq_some_iff.mp eh).1
  obtain ⟨R1, o1⟩ := R.mut (e := .lst k xs) (d' := .lst k ys) (o' := .lst zs) e o et l rfl (.lst l (List.getElem?_set_self la) (r.mono mo))
  exact ⟨⟨by simp, fun i o l2 n e => by rw [List.getElem?_set_ne (fun z : a = i => n (by rw [← z]; exact own))]; exact e, fun x z => .inl ((o1 x).mp z)⟩, st.set l, R1⟩
theorem dvtg_sb {j : Nat} (p : DVE v m) : DVTg jl (gzSb j v) (gSb (eVar j) m) := by
  intro B n0 L h ta va s w d va1 s1 hj R st r e
  unfold gzSb at e
  have g := p _ h ta va s R.env st
  cases z : v va s with
  | exc c fs s2 => rw [z] at e; cases e
  | stuck => rw [z] at e; cases e
  | ok i s2 =>
    rw [z] at e g
    obtain ⟨wi, h1, e1, f1, st1, r1⟩ := g
    obtain ⟨va2, e2, e3⟩ := Option.map_eq_some_iff.mp e
    cases e3
    obtain ⟨k, xs, x, n, q1, q2, rfl, q3, rfl⟩ := putI_some e2
    obtain rfl := r1.b.int
    obtain ⟨a, ws, t1, l, t2, t3, own⟩ := (R.fx f1).lst q1 q2
    have rr := t3.set (r.fx f1) n
    obtain ⟨sp, st2, R2⟩ := (R.fx f1).putL st1 q1 q2 t1 l t2 rr
    refine ⟨ta, _, ?_, (Sp.fx f1).trans sp, st2, R2⟩
    unfold gSb
    have ev : eVar j ta h = .ok (.ref a) h := by simp only [eVar, t1, noX, if_true]
    rw [ev]
    dsimp only
    rw [e1]
    dsimp only
    have : setW (.ref a) (.int x) w h1 = some (h1.set a (.lst (ws.set n w))) := by
      simp only [setW, t2]
      rw [t3.length, q3]
    rw [this]
/-- targets = e -/
def kAsgV (va : VEn) (g : VTg) (d : D) (s : Hs) : VSR := match stoV d with
  | some d' => (match g d' va s with
    | some (va1, s1) => .nx va1 s1
    | none => .stuck)
  | none => .stuck
def zAsg (v : VE) (g : VTg) : VSx := fun va s => (v va s).to va (kAsgV va g)
theorem dvs_asg {g : VTg} {gj : Tgt} (p : DVE v m) (q : DVTg jl g gj) : DVS jl (zAsg v g) (sAsg m gj) := fun B n0 L h ta va s hj R st =>
  gvs_to R (p _ h ta va s R.env st) fun w d h' s' f st' R' r => by
    unfold kAsgV
    split
    · rename_i d' e
      split
      · rename_i va1 s1 e1
        obtain ⟨ta1, h1, e2, x⟩ := q B n0 L h' ta va s' w d' va1 s1 hj R' st' (r.sto R.env.bnd e) e1
        exact ⟨ta1, h1, by rw [e2], x⟩
      · trivial
    · trivial
/-! ### what changes a list -/
def OkM (mV : List D → List D → Option (D × List D)) (f : W → List W → HA → Option (W × HA)) : Prop := ∀ (O : Nat → Prop) (n : Nat) (h : HA) (a : Nat) (ws us : List W) (xs ds ys : List D) (r : D), (∀ x, O x → x < n) → h[a]? = some (.lst ws) → Reps O h ws xs → RepRs O n h us ds → mV xs ds = some (r, ys) →
  ∃ w zs, f (.ref a) us h = some (w, h.set a (.lst zs)) ∧ Rep O h w r ∧ Reps O h zs ys
def mAppendV : List D → List D → Option (D × List D) := fun xs ds => match ds with
  | [d] => if xs.length < 10000 then (stoV d).map fun e => (.non, xs ++ [e]) else none
  | _ => none
theorem okm_append : OkM mAppendV mAppend := by
  intro O n h a ws us xs ds ys r b ea rx rs e
  unfold mAppendV at e
  split at e
  · split at e
    · rename_i c
      obtain ⟨d', e1, e2⟩ := Option.map_eq_some_iff.mp e
      cases e2
      cases rs with
      | cons r1 t =>
        cases t
        refine ⟨.non, _, ?_, .non, rx.append (.cons (r1.sto b e1) .nil)⟩
        simp only [mAppend, wrL, ea]
        exact if_pos (by rw [rx.length]; exact Nat.lt_of_lt_of_le c (by decide))
    · cases e
  · cases e
def mExtendV : List D → List D → Option (D × List D) := fun xs ds => match ds with
  | [.lst _ ys] => if xs.length + ys.length ≤ 10000 then some (.non, xs ++ ys) else none
  | _ => none
theorem okm_extend : OkM mExtendV mExtend := by
  intro O n h a ws us xs ds ys r b ea rx rs e
  unfold mExtendV at e
  split at e
  · split at e
    · rename_i c
      cases e
      cases rs with
      | cons r1 t =>
        cases t
        obtain ⟨a', vs, rfl, l, e0, q⟩ := r1.b.lst
        refine ⟨.non, _, ?_, .non, rx.append q⟩
        simp only [mExtend, wrL, ea, e0]
        exact if_pos (by rw [rx.length, q.length]; exact sz c)
    · cases e
  · cases e
def mPopV : List D → List D → Option (D × List D) := fun xs ds => match ds with
  | [] => (xs[xs.length - 1]?).map fun d => (d, xs.dropLast)
  | _ => none
theorem okm_pop : OkM mPopV mPop := by
  intro O n h a ws us xs ds ys r b ea rx rs e
  unfold mPopV at e
  split at e
  · obtain ⟨d', e1, e2⟩ := Option.map_eq_some_iff.mp e
    cases e2
    cases rs
    obtain ⟨w, e3, q⟩ := rx.get e1
    refine ⟨w, _, ?_, q, rx.dropLast⟩
    simp only [mPop, wrL, ea]
    rw [rx.length, e3]
  · cases e
def mPopAtV : List D → List D → Option (D × List D) := fun xs ds => match ds with
  | [.int k] => if 0 ≤ k ∧ k < 2 ^ 63 then (xs[k.toNat]?).map fun d => (d, xs.eraseIdx k.toNat) else none
  | _ => none
theorem okm_popAt : OkM mPopAtV mPopAt := by
  intro O n h a ws us xs ds ys r b ea rx rs e
  unfold mPopAtV at e
  split at e
  · split at e
    · rename_i c
      obtain ⟨d', e1, e2⟩ := Option.map_eq_some_iff.mp e
      cases e2
      cases rs with
      | cons r1 t =>
        cases t
        obtain rfl := r1.b.int
        obtain ⟨w, e3, q⟩ := rx.get e1
        refine ⟨w, _, ?_, q, rx.eraseIdx _⟩
        simp only [mPopAt, wrL, ea]
        rw [if_pos c, e3]
    · cases e
  · cases e
def mInsertV : List D → List D → Option (D × List D) := fun xs ds => match ds with
  | [.int k, d] => if xs.length < 10000 ∧ 0 ≤ k ∧ k < 2 ^ 63 then (stoV d).map fun e => (.non, xs.take k.toNat ++ [e] ++ xs.drop k.toNat) else none
  | _ => none
theorem okm_insert : OkM mInsertV mInsert := by
  intro O n h a ws us xs ds ys r b ea rx rs e
  unfold mInsertV at e
  split at e
  · split at e
    · rename_i c
      obtain ⟨d', e1, e2⟩ := Option.map_eq_some_iff.mp e
      cases e2
      cases rs with
      | cons r1 t =>
        cases t with
        | cons r2 t =>
          cases t
          obtain rfl := r1.b.int
          refine ⟨.non, _, ?_, .non, ((rx.take _).append (.cons (r2.sto b e1) .nil)).append (rx.drop _)⟩
          simp only [mInsert, wrL, ea]
          exact if_pos ⟨by rw [rx.length]; exact Nat.lt_of_lt_of_le c.1 (by decide), c.2⟩
    · cases e
  · cases e
/-- x.m(..): the slot j's list is changed; what is told goes to slot i -/
def kMut (j : Nat) (mV : List D → List D → Option (D × List D)) (va : VEn) (k : D → VEn → Hs → VSR) (ds : List D) (s : Hs) : VSR := match va[j]? with
  | some (some (.lst .ow xs)) => (match mV xs ds with
    | some (r, ys) => k r (va.set j (some (.lst .ow ys))) s
    | none => .stuck)
  | some (some (.lst .io xs)) => (match mV xs ds with
    | some (r, ys) => k r (va.set j (some (.lst .io ys))) s
    | none => .stuck)
  | _ => .stuck
def isOwL (o : Option (Option D)) : Bool := match o with
  | some (some (.lst .ow _)) => true
  | some (some (.lst .io _)) => true
  | _ => false
def zMutG (j : Nat) (mV : List D → List D → Option (D × List D)) (ar : VA) (k : D → VEn → Hs → VSR) : VSx := fun va s => if isOwL va[j]? = true then (ar va s).to va (kMut j mV va k) else .stuck
def zMut (j : Nat) (mV : List D → List D → Option (D × List D)) (ar : VA) : VSx := zMutG j mV ar fun _ va s => .nx va s
def zMutS (i j : Nat) (mV : List D → List D → Option (D × List D)) (ar : VA) : VSx := zMutG j mV ar fun d va s => .nx (va.set i (some d)) s
theorem kMut_ok {j : Nat} {mV : List D → List D → Option (D × List D)} {f : W → List W → HA → Option (W × HA)} (ok : OkM mV f) {k : D → VEn → Hs → VSR} {ds : List D} {us : List W} {kq : W → HA → SR} {n : Nat} (R : RE B n0 L h ta va) (bn : ∀ x, OB B ta va x → x < n) (st : St h s) (rs : RepRs (OB B ta va) n h us ds)
    (hk : ∀ (a : Nat) (ws : List W), ta[j]? = some (some (.ref a)) → h[a]? = some (.lst ws) → ∀ w zs r va', f (.ref a) us h = some (w, h.set a (.lst zs)) → Sp ta va h ta va' (h.set a (.lst zs)) → St (h.set a (.lst zs)) s → RE B n0 L (h.set a (.lst zs)) ta va' → Rep (OB B ta va') (h.set a (.lst zs)) w r → GVS B n0 L (h.set a (.lst zs)) ta va' (k r va' s) (kq w (h.set a (.lst zs)))) {q : SR} (hq : ∀ a ws w h', ta[j]? = some (some (.ref a)) → h[a]? = some (.lst ws) → f (.ref a) us h = some (w, h') → q = kq w h') : GVS B n0 L h ta va (kMut j mV va k ds s) q := by
  have main : ∀ kk xs r ys, (kk = .ow ∨ kk = .io) → va[j]? = some (some (.lst kk xs)) → mV xs ds = some (r, ys) → GVS B n0 L h ta va (k r (va.set j (some (.lst kk ys))) s) q := by
    intro kk xs r ys o e em
    obtain ⟨a, ws, t1, l, t2, t3, own⟩ := R.lst e o
    obtain ⟨w, zs, e1, q1, q2⟩ := ok _ n h a ws us xs ds ys r bn t2 t3 rs em
    obtain ⟨sp, st2, R2⟩ := R.putL st e o t1 l t2 q2
    rw [hq a ws w _ t1 t2 e1]
    exact (hk a ws t1 t2 w zs r _ e1 sp st2 R2 (q1.mono sp.mo)).pre sp
  unfold kMut
  split
  · rename_i xs e
    split
    · rename_i r ys em
      exact main .ow xs r ys (.inl rfl) e em
    · trivial
  · rename_i xs e
    split
    · rename_i r ys em
      exact main .io xs r ys (.inr rfl) e em
    · trivial
  · trivial
theorem eLm_own {j : Nat} {f : W → List W → HA → Option (W × HA)} (R : RE B n0 L h ta va) {a : Nat} {ws : List W} (t : ta[j]? = some (some (.ref a))) (e : h[a]? = some (.lst ws)) : eLm f (eVar j) ms ta h = (ms ta h).bind fun us h2 => ofO (f (.ref a) us h2) := by
  unfold eLm
  have ev : eVar j ta h = .ok (.ref a) h := by simp only [eVar, t, noX, if_true]
  rw [ev]
  show (if isL h (.ref a) = true then (ms ta h).bind fun us h2 => ofO (f (.ref a) us h2) else .stuck) = _
  rw [if_pos (by simp [isL, rdL, e])]
theorem isOwL_ok {o : Option (Option D)} (c : isOwL o = true) : ∃ kk xs, o = some (some (.lst kk xs)) ∧ (kk = .ow ∨ kk = .io) := by
  unfold isOwL at c
  split at c
  · exact ⟨_, _, rfl, .inl rfl⟩
  · exact ⟨_, _, rfl, .inr rfl⟩
  · cases c
theorem dvs_mut0 {j : Nat} {mV : List D → List D → Option (D × List D)} {f : W → List W → HA → Option (W × HA)} (ok : OkM mV f) (p : DVA vs ms) {k : D → VEn → Hs → VSR} {kj : En → W → HA → SR}
    (hk : ∀ (B : Nat → Prop) (n0 : Nat) (L : List (Nat × Nat)) (h : HA) (ta : En) (va : VEn) (s : Hs) (w : W) (r : D), L.map (·.1) = jl → RE B n0 L h ta va → St h s → Rep (OB B ta va) h w r → GVS B n0 L h ta va (k r va s) (kj ta w h)) :
    DVS jl (zMutG j mV vs k) (fun ta h => (eLm f (eVar j) ms ta h).to ta (kj ta)) := by
  intro B n0 L h ta va s hj R st
  unfold zMutG
  split
  · rename_i c
    obtain ⟨kk, xs, e, o⟩ := isOwL_ok c
    obtain ⟨a, ws, t1, l, t2, t3, own⟩ := R.lst e o
    have g := p _ h ta va s R.env st
    show GVS B n0 L h ta va ((vs va s).to va (kMut j mV va k)) ((eLm f (eVar j) ms ta h).to ta (kj ta))
    rw [eLm_own R t1 t2]
    cases z : vs va s with
    | stuck => trivial
    | exc c fs s2 =>
      rw [z] at g
      obtain ⟨w, h', e1, fr, st', r⟩ := g
      rw [e1]
      exact ⟨w, ta, h', rfl, Sp.fx fr, st', R.fx fr, r⟩
    | ok ds s2 =>
      rw [z] at g
      obtain ⟨us, h', e1, fr, st', r⟩ := g
      rw [e1]
      refine GVS.pre (Sp.fx fr) ?_
      show GVS B n0 L h' ta va (kMut j mV va k ds s2) ((Res.bind (.ok us h') fun us h2 => ofO (f (.ref a) us h2)).to ta (kj ta))
      refine kMut_ok (kq := kj ta) ok (R.fx fr) R.env.bnd st' r (fun a ws _ _ w zs r' va' _ sp st3 R3 q => hk B n0 L _ ta va' s2 w r' hj R3 st3 q) fun a' ws' w h3 t1' t2' ef => ?_
      rw [t1] at t1'
      cases t1'
      simp only [Res.bind, ef, ofO, Res.to]
  · trivial
theorem dvs_mut {j : Nat} {mV : List D → List D → Option (D × List D)} {f : W → List W → HA → Option (W × HA)} (ok : OkM mV f) (p : DVA vs ms) : DVS jl (zMut j mV vs) (sExp (eLm f (eVar j) ms)) :=
  dvs_mut0 (kj := fun ta _ h => .nx ta h) ok p fun B n0 L h ta va s w r hj R st q => ⟨ta, h, rfl, Sp.rfl', st, R⟩
theorem dvs_mutS {i j : Nat} (hi : i ∉ jl) {mV : List D → List D → Option (D × List D)} {f : W → List W → HA → Option (W × HA)} (ok : OkM mV f) (p : DVA vs ms) : DVS jl (zMutS i j mV vs) (sSet i (eLm f (eVar j) ms)) :=
  dvs_mut0 (kj := fun ta w h => .nx (ta.set i (some w)) h) ok p fun B n0 L h ta va s w r hj R st q => by
    obtain ⟨R1, o1⟩ := R.setSh (by rw [hj]; exact hi) q
    exact ⟨_, h, rfl, ⟨Nat.le_refl _, fun _ _ _ _ e => e, fun a z => .inl (o1 a z)⟩, st, R1⟩
/-- an owned slot is shared from here on -/
def zRel (i : Nat) (b : VSx) : VSx := fun va s => match va[i]? with
  | some (some d) => if kd d = .io then .stuck else b (if kd d = .ow then va.set i (some (setK .sh d)) else va) s
  | _ => b va s
theorem RE.rel {i : Nat} (R : RE B n0 L h ta va) (e : va[i]? = some (some d)) (c : kd d = .ow) : Sp ta va h ta (va.set i (some (setK .sh d))) h ∧ RE B n0 L h ta (va.set i (some (setK .sh d))) := by
  obtain ⟨w, e1, q1, q2⟩ := R.env.val i d e
  obtain ⟨a, rfl, q⟩ := q2 (by rw [c]; decide)
  rw [c] at q
  have ks : kd (setK .sh d) = .sh := (q.setK (j := .sh)).kd
  have hi : i ∉ L.map (·.1) := fun z => by
    obtain ⟨p, hp, rfl⟩ := List.mem_map.mp z
    obtain ⟨_, d', e2, c2⟩ := R.io p hp
    rw [e] at e2
    cases e2
    rw [c] at c2
    cases c2
  -- the slot is emptied first, then filled with the shared thing
  obtain ⟨R1, o1⟩ := R.setN (z0 := some (.ref a)) hi
  have te : ta.set i (some (.ref a)) = ta := by
    apply List.ext_getElem?
    intro j
    by_cases z : i = j
    · subst z; rw [List.getElem?_set_self (List.getElem?_eq_some_iff.mp e1).1]; exact e1.symm
    · rw [List.getElem?_set_ne z]
  rw [te] at R1 o1
  have na : ¬ OB B ta (va.set i none) a := fun z => by
    rcases z with z | z
    · have := R.bB a z
      have := R.fresh i a d e c e1
      omega
    · obtain ⟨j, g, g1, g2, g3⟩ := z
      rcases getElem?_set_some g1 with ⟨rfl, z, _⟩ | ⟨hj, g1⟩
      · cases z
      · exact hj (R.inj i j a d g e (.inl c) g1 g2 e1 g3)
  have less : ∀ x, OB B ta (va.set i none) x → OB B ta va x := fun x z => z.elim .inl fun z => .inr (o1 x z)
  have r : Rep (OB B ta (va.set i none)) h (.ref a) (setK .sh d) := .ref na ((q.mono (Mo.less less) fun _ z => z).setK)
  obtain ⟨R2, o2⟩ := R1.setSh hi r
  rw [te] at R2 o2
  rw [List.set_set] at R2 o2
  exact ⟨⟨Nat.le_refl _, fun _ _ _ _ e => e, fun a z => .inl (o1 a (o2 a z))⟩, R2⟩
theorem dvs_rel {i : Nat} {b : VSx} {bj : Sx} (p : DVS jl b bj) : DVS jl (zRel i b) bj := by
  intro B n0 L h ta va s hj R st
  unfold zRel
  split
  · rename_i d e
    split
    · trivial
    · split
      · rename_i c
        obtain ⟨sp, R1⟩ := R.rel e c
        exact (p B n0 L h ta _ s hj R1 st).pre sp
      · exact p B n0 L h ta va s hj R st
  · exact p B n0 L h ta va s hj R st
/-! ### an own thing's attribute is set -/
def kFd (cs : List Nat) (f j : Nat) (va : VEn) (d : D) (s : Hs) : VSR := match stoV d with
  | some d' => (match va[j]? with
    | some (some (.ins .io c fs)) => if c ∈ cs ∧ fs.length < 1000 then .nx (va.set j (some (.ins .io c (putV f d' fs)))) s else .stuck
    | some (some (.ins .ow c fs)) => if c ∈ cs ∧ fs.length < 1000 then .nx (va.set j (some (.ins .ow c (putV f d' fs)))) s else .stuck
    | _ => .stuck)
  | none => .stuck
where putV (f : Nat) (w : D) : List (Nat × D) → List (Nat × D)
  | [] => [(f, w)]
  | (g, x) :: r => if g = f then (g, w) :: r else (g, x) :: putV f w r
theorem RepF.putA {f : Nat} (q : Rep O h w d) : ∀ {fs : List (Nat × W)} {gs : List (Nat × D)}, RepF O h fs gs → RepF O h (J.putA f w fs) (kFd.putV f d gs)
  | _, _, .nil => .cons q .nil
  | _, _, .cons (i := i) r t => by
    unfold J.putA kFd.putV
    by_cases c : i = f
    · rw [if_pos c, if_pos c]; exact .cons q t
    · rw [if_neg c, if_neg c]; exact .cons r (RepF.putA q t)
def zFd (cs : List Nat) (f j : Nat) (v : VE) : VSx := fun va s => (v va s).to va (kFd cs f j va)
theorem dvs_fd {cs : List Nat} {f j : Nat} (p : DVE v m) : DVS jl (zFd cs f j v) (sFd cs f (eVar j) m) := by
  intro B n0 L h ta va s hj R st
  refine gvs_to R (p _ h ta va s R.env st) fun w d h' s' fr st' R' r => ?_
  have main : ∀ kk c fs d', (kk = .ow ∨ kk = .io) → va[j]? = some (some (.ins kk c fs)) → stoV d = some d' → c ∈ cs ∧ fs.length < 1000 → GVS B n0 L h' ta va (.nx (va.set j (some (.ins kk c (kFd.putV f d' fs)))) s')
      ((eVar j ta h').to ta fun o h2 => match clsOf h2 o with
        | some c => if c ∈ cs then (match setF f o w h2 with
          | some h3 => .nx ta h3
          | none => .stuck) else .stuck
        | none => .stuck) := by
    intro kk c fs d' o e es cc
    have rd := r.sto R.env.bnd es
    obtain ⟨w', e1, q1, q2⟩ := R'.env.val j _ e
    have nk : kd (.ins kk c fs) ≠ .sh := by rcases o with rfl | rfl <;> (show _ ≠ _; intro z; cases z)
    obtain ⟨a, rfl, q⟩ := q2 nk
    cases q with
    | ins l e2 rf =>
      rename_i gs
      have own : Own ta va a := ⟨j, _, e, o, e1⟩
      have la : a < h'.length := (List.getElem?_eq_some_iff.mp e2).1
      have mo : Mo (OB B ta va) h' (OB B ta va) (h'.set a (.ins c (J.putA f w gs))) := fun x o l n ex => ⟨n, by rw [List.getElem?_set_ne (fun z : a = x => n (.inr (by rw [← z]; exact own)))]; exact ex⟩
      obtain ⟨R1, o1⟩ := R'.mut (e := .ins kk c fs) (d' := .ins kk c (kFd.putV f d' fs)) (o' := .ins c (J.putA f w gs)) e o e1 l rfl (.ins l (List.getElem?_set_self la) ((RepF.putA rd rf).mono mo))
      refine ⟨ta, _, ?_, ⟨by simp, fun i o l2 n e => by rw [List.getElem?_set_ne (fun z : a = i => n (by rw [← z]; exact own))]; exact e, fun x z => .inl ((o1 x).mp z)⟩, st'.set l, R1⟩
      have ev : eVar j ta h' = .ok (.ref a) h' := by simp only [eVar, e1, noX, if_true]
      rw [ev]
      simp only [Res.to, clsOf, e2, if_pos cc.1, setF]
      rw [if_pos (by rw [rf.length]; exact cc.2)]
  unfold kFd
  split
  · rename_i d' es
    split
    · rename_i c fs e
      split
      · rename_i cc
        exact main .io c fs d' (.inr rfl) e es cc
      · trivial
    · rename_i c fs e
      split
      · rename_i cc
        exact main .ow c fs d' (.inl rfl) e es cc
      · trivial
    · trivial
  · trivial
/-! ### raise -/
def kRaise (c : Nat) (fids : List Nat) (va : VEn) (ds : List D) (s : Hs) : VSR := match stoVs ds with
  | some es => if es.length = fids.length ∧ es.length ≤ 1000 then .exc c (fids.zip es).reverse va s else .stuck
  | none => .stuck
def zRaise (c : Nat) (fids : List Nat) (ar : VA) : VSx := fun va s => (ar va s).to va (kRaise c fids va)
theorem dvs_raise {c : Nat} {fids : List Nat} (p : DVA vs ms) : DVS jl (zRaise c fids vs) (sRaise c fids ms) := fun B n0 L h ta va s hj R st =>
  gvs_toA R (p _ h ta va s R.env st) fun ws ds h' s' fr st' R' r => by
    unfold kRaise
    split
    · rename_i es e
      have z := r.sto R.env.bnd e
      split
      · rename_i cc
        exact ⟨_, ta, h', if_pos (by rw [z.length]; exact cc), Sp.rfl', st', R', (RepF.zip z).reverse⟩
      · trivial
    · trivial
end
end J

namespace J
open PySem PySem.Spec PyProof.Rows L2
section
variable {B O : Nat → Prop} {n0 : Nat} {L : List (Nat × Nat)} {h h' h2 : HA} {ta ta' ta2 : En} {va va' va2 : VEn} {w : W} {d : D} {s s' : Hs} {jl : List Nat}
variable {m m1 m2 m3 : Ex} {v v1 v2 v3 : VE} {t u : VT} {tt tu : Tx} {vs : VA} {ms : Ax}
/-! ### loops -/
def VSR.turn (r : VSR) (k : VSx) : VSR := match r with
  | .nx va s => k va s
  | .ct va s => k va s
  | .bk va s => .nx va s
  | r => r
theorem gvs_turn {r : VSR} {q : SR} {k : VSx} {kq : Sx} (g : GVS B n0 L h ta va r q) (f : ∀ ta' va' h' s', Sp ta va h ta' va' h' → St h' s' → RE B n0 L h' ta' va' → GVS B n0 L h' ta' va' (k va' s') (kq ta' h')) : GVS B n0 L h ta va (r.turn k) (q.turn kq) := by
  cases r with
  | nx va2 s2 => obtain ⟨ta2, h2, rfl, p2, st, x⟩ := g; exact (f ta2 va2 h2 s2 p2 st x).pre p2
  | ct va2 s2 => obtain ⟨ta2, h2, rfl, p2, st, x⟩ := g; exact (f ta2 va2 h2 s2 p2 st x).pre p2
  | bk va2 s2 => obtain ⟨ta2, h2, rfl, x⟩ := g; exact ⟨ta2, h2, rfl, x⟩
  | rt d va2 s2 => obtain ⟨w, ta2, h2, rfl, x⟩ := g; exact ⟨w, ta2, h2, rfl, x⟩
  | exc c fs va2 s2 => obtain ⟨w, ta2, h2, rfl, x⟩ := g; exact ⟨w, ta2, h2, rfl, x⟩
  | stuck => trivial
def forV (g : VTg) (b : VSx) : List D → VSx
  | [], va, s => .nx va s
  | d :: ds, va, s => match g d va s with
    | some (va1, s1) => (b va1 s1).turn (forV g b ds)
    | none => .stuck
theorem forT_V {g : VTg} {gj : Tgt} {b : VSx} {bj : Sx} (pg : DVTg jl g gj) (pb : DVS jl b bj) (hj : L.map (·.1) = jl) : ∀ {ds : List D} {xs : List W} {h : HA} {ta : En} {va : VEn} {s : Hs}, RE B n0 L h ta va → St h s → Reps (OB B ta va) h xs ds → GVS B n0 L h ta va (forV g b ds va s) (forT gj bj xs ta h)
  | [], _, h, ta, va, s, R, st, .nil => ⟨ta, h, rfl, Sp.rfl', st, R⟩
  | d :: ds, _, h, ta, va, s, R, st, .cons r rs => by
    rename_i x xs
    unfold forV
    split
    · rename_i va1 s1 e
      obtain ⟨ta1, h1, e1, sp, st1, R1⟩ := pg B n0 L h ta va s x d va1 s1 hj R st r e
      refine GVS.pre sp ?_
      unfold forT
      rw [e1]
      dsimp only
      refine gvs_turn (pb B n0 L h1 ta1 va1 s1 hj R1 st1) fun ta2 va2 h2 s2 sp2 st2 R2 => ?_
      exact forT_V pg pb hj R2 st2 (rs.mono (sp.trans sp2).mo)
    · trivial
/-- over a list at a0 that is not owned -/
theorem forL_V {g : VTg} {gj : Tgt} {b : VSx} {bj : Sx} {mk : Nat → W → W} {mkV : Nat → D → D} {a0 : Nat} {ws : List W} (hmk : ∀ O h k w d, Rep O h w d → Rep O h (mk k w) (mkV k d)) (l2 : 2 ≤ a0) (pg : DVTg jl g gj) (pb : DVS jl b bj) (hj : L.map (·.1) = jl) : ∀ {n k : Nat} {ds : List D} {h : HA} {ta : En} {va : VEn} {s : Hs}, RE B n0 L h ta va → St h s → ¬ Own ta va a0 → h[a0]? = some (.lst ws) → Reps (OB B ta va) h (ws.drop k) ds → k + n = ws.length →
    GVS B n0 L h ta va (forV g b (ds.mapIdx fun j d => mkV (k + j) d) va s) (forL a0 mk gj bj n k ta h)
  | 0, k, ds, h, ta, va, s, R, st, no, ha, rs, hn => by
    have : ws.drop k = [] := List.drop_eq_nil_of_le (by omega)
    rw [this] at rs
    cases rs
    refine ⟨ta, h, ?_, Sp.rfl', st, R⟩
    unfold forL
    simp only [rdL, ha]
    rw [if_pos (by omega)]
  | n + 1, k, ds, h, ta, va, s, R, st, no, ha, rs, hn => by
    have hk : k < ws.length := by omega
    have hd : ws.drop k = ws[k] :: ws.drop (k + 1) := List.drop_eq_getElem_cons hk
    rw [hd] at rs
    cases rs with
    | cons r rs =>
    rename_i d ds
    rw [List.mapIdx_cons]
    have e0 : (ds.mapIdx fun j d => mkV (k + (j + 1)) d) = ds.mapIdx fun j d => mkV (k + 1 + j) d := by
      congr 1
      funext j d
      rw [show k + (j + 1) = k + 1 + j by omega]
    rw [e0, Nat.add_zero]
    have hk2 : ws[k]? = some ws[k] := List.getElem?_eq_getElem hk
    have r' := hmk _ h k _ _ r
    unfold forV
    split
    · rename_i va1 s1 e
      obtain ⟨ta1, h1, e1, sp, st1, R1⟩ := pg B n0 L h ta va s _ _ va1 s1 hj R st r' e
      refine GVS.pre sp ?_
      unfold forL
      simp only [rdL, ha, hk2, e1]
      refine gvs_turn (pb B n0 L h1 ta1 va1 s1 hj R1 st1) fun ta2 va2 h2 s2 sp2 st2 R2 => ?_
      have sp3 := sp.trans sp2
      refine forL_V (n := n) hmk l2 pg pb hj R2 st2 (fun z => ?_) (sp3.st _ _ l2 no ha) (rs.mono sp3.mo) (by omega)
      rcases sp3.ow _ z with z | z
      · exact no z
      · have := (List.getElem?_eq_some_iff.mp ha).1; omega
    · trivial
def forD (g : VTg) (b : VSx) (va : VEn) (d : D) (s : Hs) : VSR := match d with
  | .tup xs => forV g b xs va s
  | .lst .sh xs => forV g b xs va s
  | .lst .ow xs => forV g b xs va s
  | _ => .stuck
def zFor (v : VE) (g : VTg) (b : VSx) : VSx := fun va s => (v va s).to va (forD g b va)
theorem Own.lt (R : RE B n0 L h ta va) {a : Nat} (o : Own ta va a) : a < h.length := R.env.bnd a (.inr o)
theorem dvs_for {g : VTg} {gj : Tgt} {b : VSx} {bj : Sx} (p : DVE v m) (pg : DVTg jl g gj) (pb : DVS jl b bj) : DVS jl (zFor v g b) (sFor m gj bj) := fun B n0 L h ta va s hj R st =>
  gvs_to R (p _ h ta va s R.env st) fun w d h' s' fr st' R' r => by
    unfold forD
    split
    · obtain ⟨ws, rfl, q⟩ := r.b.tup
      exact forT_V pg pb hj R' st' q
    · rename_i xs
      have r' : Rep (OB B ta va) h' w (.lst .sh xs) := r
      cases r' with
      | ref na q =>
        cases q with
        | lst l e q =>
          dsimp only
          simp only [rdL, e]
          have := forL_V (mk := fun _ w => w) (mkV := fun _ d => d) (n := _) (k := 0) (fun O h k w d r => r) l pg pb hj R' st' (fun z => na (.inr z)) e (by simpa using q) (Nat.zero_add _)
          rw [mapIdx_id] at this
          exact this
    · rename_i xs
      obtain ⟨a, rfl, la, q⟩ := (show ∃ a, w = .ref a ∧ h.length ≤ a ∧ At (fun x => OB B ta va x ∨ x = a) h' a .ow (.lst .ow xs) from r)
      cases q with
      | lst l e q =>
        dsimp only
        simp only [rdL, e]
        have := forL_V (mk := fun _ w => w) (mkV := fun _ d => d) (n := _) (k := 0) (fun O h k w d r => r) l pg pb hj R' st' (fun z => (by have := R.env.bnd a (.inr z); omega)) e (by simpa using q.mono (Mo.less fun x z => .inl z)) (Nat.zero_add _)
        rw [mapIdx_id] at this
        exact this
    · trivial
/-- a slot's own list, tuple -/
def forI (g : VTg) (b : VSx) (va : VEn) (d : D) (s : Hs) : VSR := match d with
  | .tup xs => forV g b xs va s
  | .lst .sh xs => forV g b xs va s
  | .lst .bo xs => forV g b xs va s
  | _ => .stuck
def zForI (i : Nat) (g : VTg) (b : VSx) : VSx := fun va s => match va[i]? with
  | some (some d) => forI g b va d s
  | _ => .stuck
theorem RE.readL {i : Nat} {k : Kd} {xs : List D} (R : RE B n0 L h ta va) (e : va[i]? = some (some (.lst k xs))) (c : k = .sh ∨ k = .bo) : ∃ a ws, ta[i]? = some (some (.ref a)) ∧ 2 ≤ a ∧ h[a]? = some (.lst ws) ∧ Reps (OB B ta va) h ws xs ∧ ¬ Own ta va a := by
  obtain ⟨w, e1, q1, q2⟩ := R.env.val i _ e
  rcases c with rfl | rfl
  · have r := q1 rfl
    cases r with
    | ref na q => cases q with | lst l e q => exact ⟨_, _, e1, l, e, q, fun z => na (.inr z)⟩
  · obtain ⟨a, rfl, q⟩ := q2 (by intro z; cases z)
    obtain ⟨b1, b2⟩ := R.bo i a _ e rfl e1
    cases q with
    | lst l e2 q =>
      refine ⟨a, _, e1, l, e2, q, fun ⟨j, g, g1, g2, g3⟩ => ?_⟩
      rcases g2 with g2 | g2
      · have := R.fresh j a g g1 g2 g3; omega
      · obtain ⟨p, hp, hpi⟩ := R.ioc j g g1 g2
        have := (R.io p hp).1
        rw [hpi, g3] at this
        cases this
        exact b2 p hp rfl
theorem dvs_forI {i : Nat} {g : VTg} {gj : Tgt} {b : VSx} {bj : Sx} (pg : DVTg jl g gj) (pb : DVS jl b bj) : DVS jl (zForI i g b) (sFor (eVar i) gj bj) := by
  intro B n0 L h ta va s hj R st
  unfold zForI
  split
  · rename_i d e
    have main : ∀ k xs, (k = .sh ∨ k = .bo) → va[i]? = some (some (.lst k xs)) → GVS B n0 L h ta va (forV g b xs va s) (sFor (eVar i) gj bj ta h) := fun k xs c e => by
      obtain ⟨a, ws, t1, l, t2, t3, no⟩ := R.readL e c
      unfold sFor
      have ev : eVar i ta h = .ok (.ref a) h := by simp only [eVar, t1, noX, if_true]
      rw [ev]
      simp only [Res.to, rdL, t2]
      have := forL_V (mk := fun _ w => w) (mkV := fun _ d => d) (n := _) (k := 0) (fun O h k w d r => r) l pg pb hj R st no t2 (by simpa using t3) (Nat.zero_add _)
      rw [mapIdx_id] at this
      exact this
    unfold forI
    split
    · obtain ⟨w, e1, q1, q2⟩ := R.env.val i _ e
      have r := q1 rfl
      cases r with
      | tup q =>
        unfold sFor
        rename_i ws
        have ev : eVar i ta h = .ok (.tup ws) h := by simp only [eVar, e1, noX, if_true]
        rw [ev]
        exact forT_V pg pb hj R st q
      | ref n q => cases q
    · exact main .sh _ (.inl rfl) e
    · exact main .bo _ (.inr rfl) e
    · trivial
  · trivial
def zForR (rng : List D → Option (List D)) (ar : VA) (g : VTg) (b : VSx) : VSx := fun va s => (ar va s).to va fun ds s1 => match rng ds with
  | some xs => forV g b xs va s1
  | none => .stuck
theorem dvs_forR {rV : List D → Option (List D)} {rj : List W → Option (List W)} {g : VTg} {gj : Tgt} {b : VSx} {bj : Sx} (ok : OkR rV rj) (p : DVA vs ms) (pg : DVTg jl g gj) (pb : DVS jl b bj) : DVS jl (zForR rV vs g b) (sForR rj ms gj bj) := fun B n0 L h ta va s hj R st =>
  gvs_toA R (p _ h ta va s R.env st) fun ws ds h' s' fr st' R' r => by
    split
    · rename_i xs e
      obtain ⟨ys, e1, q⟩ := ok _ h' ws ds xs r.bs e
      rw [e1]
      exact forT_V pg pb hj R' st' q
    · trivial
def enD (g : VTg) (b : VSx) (va : VEn) (d : D) (s : Hs) : VSR := match d with
  | .lst .sh xs => forV g b (enumV xs) va s
  | .lst .ow xs => forV g b (enumV xs) va s
  | _ => .stuck
def zForE (v : VE) (g : VTg) (b : VSx) : VSx := fun va s => (v va s).to va (enD g b va)
theorem mk_en : ∀ (O : Nat → Prop) (h : HA) (k : Nat) (w : W) (d : D), Rep O h w d → Rep O h ((fun k w => W.tup [.int (k : Nat), w]) k w) ((fun k d => D.tup [.int (k : Nat), d]) k d) := fun O h k w d r => .tup (.cons (.int _) (.cons r .nil))
theorem enumV_eq (xs : List D) : enumV xs = xs.mapIdx fun j d => (fun k d => D.tup [.int ((k : Nat) : Int), d]) (0 + j) d := by
  unfold enumV
  congr 1
  funext j d
  rw [Nat.zero_add]
theorem sForE_one {gj : Tgt} {bj : Sx} : sForE (aCons m aNil) gj bj ta h = (m ta h).to ta fun w h1 => match w with
    | .ref i => (match rdL h1 i with
      | some xs => forL i (fun k w => .tup [.int (k : Nat), w]) gj bj xs.length 0 ta h1
      | none => .stuck)
    | .cst xs => forT gj bj (enumW 0 xs) ta h1
    | _ => .stuck := by
  unfold sForE aCons aNil
  cases m ta h with
  | ok w h1 => simp only [Res.bind, Res.to]; cases w <;> rfl
  | _ => rfl
theorem dvs_forE {g : VTg} {gj : Tgt} {b : VSx} {bj : Sx} (p : DVE v m) (pg : DVTg jl g gj) (pb : DVS jl b bj) : DVS jl (zForE v g b) (sForE (aCons m aNil) gj bj) := fun B n0 L h ta va s hj R st => by
  rw [sForE_one]
  refine gvs_to R (p _ h ta va s R.env st) fun w d h' s' fr st' R' r => ?_
  unfold enD
  split
  · rename_i xs
    have r' : Rep (OB B ta va) h' w (.lst .sh xs) := r
    cases r' with
    | ref na q =>
      cases q with
      | lst l e q =>
        dsimp only
        simp only [rdL, e]
        rw [enumV_eq]
        exact forL_V (n := _) (k := 0) mk_en l pg pb hj R' st' (fun z => na (.inr z)) e (by simpa using q) (Nat.zero_add _)
  · rename_i xs
    obtain ⟨a, rfl, la, q⟩ := (show ∃ a, w = .ref a ∧ h.length ≤ a ∧ At (fun x => OB B ta va x ∨ x = a) h' a .ow (.lst .ow xs) from r)
    cases q with
    | lst l e q =>
      dsimp only
      simp only [rdL, e]
      rw [enumV_eq]
      exact forL_V (n := _) (k := 0) mk_en l pg pb hj R' st' (fun z => (by have := R.env.bnd a (.inr z); omega)) e (by simpa using q.mono (Mo.less fun x z => .inl z)) (Nat.zero_add _)
  · trivial
def enI (g : VTg) (b : VSx) (va : VEn) (d : D) (s : Hs) : VSR := match d with
  | .lst .sh xs => forV g b (enumV xs) va s
  | .lst .bo xs => forV g b (enumV xs) va s
  | _ => .stuck
def zForEI (i : Nat) (g : VTg) (b : VSx) : VSx := fun va s => match va[i]? with
  | some (some d) => enI g b va d s
  | _ => .stuck
theorem dvs_forEI {i : Nat} {g : VTg} {gj : Tgt} {b : VSx} {bj : Sx} (pg : DVTg jl g gj) (pb : DVS jl b bj) : DVS jl (zForEI i g b) (sForE (aCons (eVar i) aNil) gj bj) := by
  intro B n0 L h ta va s hj R st
  rw [sForE_one]
  unfold zForEI
  split
  · rename_i d e
    have main : ∀ k xs, (k = .sh ∨ k = .bo) → va[i]? = some (some (.lst k xs)) → GVS B n0 L h ta va (forV g b (enumV xs) va s) ((eVar i ta h).to ta fun w h1 => match w with
    | .ref i => (match rdL h1 i with
      | some xs => forL i (fun k w => .tup [.int (k : Nat), w]) gj bj xs.length 0 ta h1
      | none => .stuck)
    | .cst xs => forT gj bj (enumW 0 xs) ta h1
    | _ => .stuck) := fun k xs c e => by
      obtain ⟨a, ws, t1, l, t2, t3, no⟩ := R.readL e c
      have ev : eVar i ta h = .ok (.ref a) h := by simp only [eVar, t1, noX, if_true]
      rw [ev]
      simp only [Res.to, rdL, t2]
      rw [enumV_eq]
      exact forL_V (n := _) (k := 0) mk_en l pg pb hj R st no t2 (by simpa using t3) (Nat.zero_add _)
    unfold enI
    split
    · exact main .sh _ (.inl rfl) e
    · exact main .bo _ (.inr rfl) e
    · trivial
  · trivial
/-! ### try -/
def clrV (va : VEn) : VEn := va.map fun o => match o with
  | some d => if okX d = true then some d else none
  | none => none
theorem okX_rep {O : Nat → Prop} (r : Rep O h w d) : okX d = noX w := by
  cases r with
  | ref n q => cases q <;> rfl
  | _ => rfl
theorem RE.clr (R : RE B n0 L h ta va) : RE B n0 L h (clrX ta) (clrV va) ∧ ∀ a, Own (clrX ta) (clrV va) a → Own ta va a := by
  have vget : ∀ i d, (clrV va)[i]? = some (some d) → va[i]? = some (some d) ∧ okX d = true := fun i d e => by
    rw [clrV, List.getElem?_map] at e
    obtain ⟨o, e1, e2⟩ := Option.map_eq_some_iff.mp e
    cases o with
    | none => cases e2
    | some d' =>
      by_cases c : okX d' = true
      · have e3 : (if okX d' = true then some d' else none) = some d := e2
        rw [if_pos c] at e3; cases e3; exact ⟨e1, c⟩
      · have e3 : (if okX d' = true then some d' else none) = some d := e2
        rw [if_neg c] at e3; cases e3
  have tget : ∀ i w, ta[i]? = some (some w) → noX w = true → (clrX ta)[i]? = some (some w) := fun i w e c => by
    rw [clrX, List.getElem?_map, e, Option.map_some]
    exact congrArg some (if_pos c)
  have tback : ∀ i w, (clrX ta)[i]? = some (some w) → ta[i]? = some (some w) := fun i w e => by
    rw [clrX, List.getElem?_map] at e
    obtain ⟨o, e1, e2⟩ := Option.map_eq_some_iff.mp e
    cases o with
    | none => cases e2
    | some w' =>
      have e3 : (if noX w' = true then some w' else none) = some w := e2
      by_cases c : noX w' = true
      · rw [if_pos c] at e3; cases e3; exact e1
      · rw [if_neg c] at e3; cases e3
  have ow : ∀ a, Own (clrX ta) (clrV va) a → Own ta va a := by
    rintro a ⟨i, d, e1, e2, e3⟩
    exact ⟨i, d, (vget i d e1).1, e2, tback _ _ e3⟩
  have less : ∀ a, OB B (clrX ta) (clrV va) a → OB B ta va a := fun a z => z.elim .inl fun z => .inr (ow a z)
  refine ⟨⟨⟨by simp [clrX, clrV, R.env.len], fun a z => R.env.bnd a (less a z), fun i d e => ?_⟩, ?_, ?_, ?_, ?_, ?_, ?_, R.bB, R.nh⟩, ow⟩
  · obtain ⟨e1, c⟩ := vget i d e
    obtain ⟨w, e2, q1, q2⟩ := R.env.val i d e1
    have nx : noX w = true := by
      by_cases k : kd d = .sh
      · rw [← okX_rep (q1 k)]; exact c
      · obtain ⟨a, rfl, _⟩ := q2 k; rfl
    refine ⟨w, tget i w e2 nx, fun k => (q1 k).mono (Mo.less less), fun k => ?_⟩
    obtain ⟨a, e3, q⟩ := q2 k
    exact ⟨a, e3, q.mono (Mo.less less) fun _ z => z⟩
  · intro i j a d e e1 o1 e2 o2 t1 t2
    exact R.inj i j a d e (vget _ _ e1).1 o1 (vget _ _ e2).1 o2 (tback _ _ t1) (tback _ _ t2)
  · intro i a d e k t
    exact R.fresh i a d (vget _ _ e).1 k (tback _ _ t)
  · intro i a d e k t
    exact R.bo i a d (vget _ _ e).1 k (tback _ _ t)
  · intro i d e
    exact R.ntm i d (vget _ _ e).1
  · intro p hp
    obtain ⟨e1, d, e2, k⟩ := R.io p hp
    refine ⟨tget _ _ e1 rfl, d, ?_, k⟩
    have c : okX d = true := by cases d <;> first | rfl | cases k
    rw [clrV, List.getElem?_map, e2, Option.map_some]
    exact congrArg some (if_pos c)
  · intro i d e k
    exact R.ioc i d (vget _ _ e).1 k
def VSR.drop (r : VSR) (i : Nat) : VSR := match r with
  | .nx va s => .nx ((clrV va).set i none) s
  | .rt d va s => .rt d va s
  | .bk va s => .bk ((clrV va).set i none) s
  | .ct va s => .ct ((clrV va).set i none) s
  | _ => .stuck
def zTry (mt : Nat → Option Bool) (i : Nat) (b hd : VSx) : VSx := fun va s => match b va s with
  | .exc c fs va1 s1 => (match mt c with
    | some true => if fs.isEmpty = true then (hd (va1.set i none) s1).drop i else (hd (va1.set i (some (.xcp c fs))) s1).drop i
    | some false => .exc c fs va1 s1
    | none => .stuck)
  | r => r
theorem gvs_drop {i : Nat} {r : VSR} {q : SR} (hi : i ∉ L.map (·.1)) (g : GVS B n0 L h ta va r q) : GVS B n0 L h ta va (r.drop i) (q.drop i) := by
  have key : ∀ {ta' : En} {va' : VEn} {h' : HA}, Sp ta va h ta' va' h' → RE B n0 L h' ta' va' → Sp ta va h ((clrX ta').set i none) ((clrV va').set i none) h' ∧ RE B n0 L h' ((clrX ta').set i none) ((clrV va').set i none) := fun sp R => by
    obtain ⟨R1, o1⟩ := R.clr
    obtain ⟨R2, o2⟩ := R1.setN (z0 := none) hi
    exact ⟨⟨sp.le, sp.st, fun a z => sp.ow a (o1 a (o2 a z))⟩, R2⟩
  cases r with
  | nx va2 s2 =>
    obtain ⟨ta2, h2, rfl, sp, st, R⟩ := g
    obtain ⟨a1, a2⟩ := key sp R
    exact ⟨_, h2, rfl, a1, st, a2⟩
  | bk va2 s2 =>
    obtain ⟨ta2, h2, rfl, sp, st, R⟩ := g
    obtain ⟨a1, a2⟩ := key sp R
    exact ⟨_, h2, rfl, a1, st, a2⟩
  | ct va2 s2 =>
    obtain ⟨ta2, h2, rfl, sp, st, R⟩ := g
    obtain ⟨a1, a2⟩ := key sp R
    exact ⟨_, h2, rfl, a1, st, a2⟩
  | rt d va2 s2 => obtain ⟨w, ta2, h2, rfl, x⟩ := g; exact ⟨w, ta2, h2, rfl, x⟩
  | exc c fs va2 s2 => trivial
  | stuck => trivial
theorem dvs_try {mt : Nat → Option Bool} {i : Nat} {b hd : VSx} {bj hj' : Sx} (hi : i ∉ jl) (pb : DVS jl b bj) (ph : DVS jl hd hj') : DVS jl (zTry mt i b hd) (sTry mt i bj hj') := by
  intro B n0 L h ta va s hj R st
  have hi' : i ∉ L.map (·.1) := by rw [hj]; exact hi
  have g := pb B n0 L h ta va s hj R st
  unfold zTry
  cases e : b va s with
  | exc c fs va1 s1 =>
    rw [e] at g
    obtain ⟨gs, ta1, h1, e1, sp, st1, R1, rf⟩ := g
    unfold sTry
    rw [e1]
    dsimp only
    split
    · rename_i em
      try rw [em]
      try dsimp only
      have hem : gs.isEmpty = fs.isEmpty := by cases rf <;> rfl
      rw [hem]
      split
      · obtain ⟨R2, o2⟩ := R1.setN (z0 := none) hi'
        exact GVS.pre ⟨sp.le, sp.st, fun a z => sp.ow a (o2 a z)⟩ (gvs_drop hi' (ph B n0 L h1 _ _ s1 hj R2 st1))
      · obtain ⟨R2, o2⟩ := R1.setSh (w := .xcp c gs) (d := .xcp c fs) hi' (.xcp rf)
        exact GVS.pre ⟨sp.le, sp.st, fun a z => sp.ow a (o2 a z)⟩ (gvs_drop hi' (ph B n0 L h1 _ _ s1 hj R2 st1))
    · rename_i em
      try rw [em]
      exact ⟨gs, ta1, h1, rfl, sp, st1, R1, rf⟩
    · trivial
  | nx va1 s1 => rw [e] at g; obtain ⟨ta1, h1, e1, x⟩ := g; unfold sTry; rw [e1]; exact ⟨ta1, h1, rfl, x⟩
  | bk va1 s1 => rw [e] at g; obtain ⟨ta1, h1, e1, x⟩ := g; unfold sTry; rw [e1]; exact ⟨ta1, h1, rfl, x⟩
  | ct va1 s1 => rw [e] at g; obtain ⟨ta1, h1, e1, x⟩ := g; unfold sTry; rw [e1]; exact ⟨ta1, h1, rfl, x⟩
  | rt d va1 s1 => rw [e] at g; obtain ⟨w, ta1, h1, e1, x⟩ := g; unfold sTry; rw [e1]; exact ⟨w, ta1, h1, rfl, x⟩
  | stuck => trivial
/-! ### defs -/
def startV (n : Nat) (ds : List D) : VEn := ds.map some ++ List.replicate (n - ds.length) none
def vRun (b : VSx) (n : Nat) : VM := fun ds s => match b (startV n ds) s with
  | .nx _ s => .ok .non s
  | .rt d _ s => .ok d s
  | .exc c fs _ s => .exc c fs s
  | _ => .stuck
theorem ArgRs.get {ws : List W} {ds : List D} (r : ArgRs O h ws ds) : ∀ {i : Nat} {d : D}, ds[i]? = some d → ∃ w, ws[i]? = some w ∧ ArgR O h w d := by
  induction r with
  | nil => intro i d e; simp at e
  | cons r t ih =>
    intro i d e
    cases i with
    | zero => simp at e; subst e; exact ⟨_, rfl, r⟩
    | succ i =>
      obtain ⟨w, a, b⟩ := ih (i := i) (d := d) (by simpa using e)
      exact ⟨w, by simpa using a, b⟩
theorem start_get {n i : Nat} {ds : List D} {d : D} (e : (startV n ds)[i]? = some (some d)) : ds[i]? = some d := by
  unfold startV at e
  by_cases c : i < ds.length
  · rw [List.getElem?_append_left (by simpa using c)] at e
    rw [List.getElem?_map] at e
    obtain ⟨x, e1, e2⟩ := Option.map_eq_some_iff.mp e
    cases e2
    exact e1
  · rw [List.getElem?_append_right (by simpa using c)] at e
    rw [List.getElem?_replicate] at e
    split at e <;> cases e
theorem startA_get {n i : Nat} {ws : List W} {w : W} (e : ws[i]? = some w) : (startA n ws)[i]? = some (some w) := by
  unfold startA
  rw [List.getElem?_append_left (by simpa using (List.getElem?_eq_some_iff.mp e).1), List.getElem?_map, e]
  rfl
theorem ArgR.kd (r : ArgR O h w d) : kd d = .sh ∨ kd d = .bo := by
  by_cases c : J.kd d = .sh
  · exact .inl c
  · obtain ⟨a, _, q⟩ := r.2 c
    exact .inr q.kd
theorem RE.start {n : Nat} {ws : List W} {ds : List D} (b : ∀ a, B a → a < h.length) (r : ArgRs B h ws ds) : RE B h.length [] h (startA n ws) (startV n ds) := by
  have kds : ∀ i d, (startV n ds)[i]? = some (some d) → J.kd d = .sh ∨ J.kd d = .bo := fun i d e => by
    obtain ⟨w, _, q⟩ := r.get (start_get e)
    exact q.kd
  have no : ∀ a, ¬ Own (startA n ws) (startV n ds) a := by
    rintro a ⟨i, d, e1, e2, _⟩
    have := kds i d e1
    rcases e2 with e2 | e2 <;> rw [e2] at this <;> rcases this with z | z <;> cases z
  have less : ∀ a, OB B (startA n ws) (startV n ds) a → B a := fun a z => z.elim id fun z => absurd z (no a)
  refine ⟨⟨by simp [startA, startV, r.length], fun a z => b a (less a z), fun i d e => ?_⟩, ?_, ?_, ?_, ?_, fun p hp => absurd hp (by simp), ?_, b, Nat.le_refl _⟩
  · obtain ⟨w, e1, q⟩ := r.get (start_get e)
    refine ⟨w, startA_get e1, fun c => (q.1 c).mono (Mo.less less), fun c => ?_⟩
    obtain ⟨a, e2, q2⟩ := q.2 c
    refine ⟨a, e2, ?_⟩
    have := q2.kd
    rw [this]
    exact q2.mono (Mo.less less) fun _ z => z
  · intro i j a d e e1 o1 _ _ t1 _
    exact absurd ⟨i, d, e1, o1, t1⟩ (no a)
  · intro i a d e1 c t
    exact absurd ⟨i, d, e1, .inl c, t⟩ (no a)
  · intro i a d e c t
    refine ⟨?_, fun p hp => absurd hp (by simp)⟩
    obtain ⟨w, e1, q⟩ := r.get (start_get e)
    obtain ⟨a', e2, q2⟩ := q.2 (by rw [c]; decide)
    rw [startA_get e1] at t
    cases t
    cases e2
    exact q2.lt
  · intro i d e c
    rcases kds i d e with z | z <;> rw [c] at z <;> cases z
  · intro i d e c
    rcases kds i d e with z | z <;> rw [c] at z <;> cases z
theorem no_own {n : Nat} {ws : List W} {ds : List D} (r : ArgRs B h ws ds) (a : Nat) : ¬ Own (startA n ws) (startV n ds) a := by
  rintro ⟨i, d, e1, e2, _⟩
  obtain ⟨w, _, q⟩ := r.get (start_get e1)
  rcases q.kd with z | z <;> rcases e2 with e2 | e2 <;> rw [e2] at z <;> cases z
theorem dvf_run {b : VSx} {bj : Sx} {n : Nat} (p : DVS [] b bj) : DVF (vRun b n) (runB bj n) := by
  intro O h ws ds s bnd r st
  have g := p O h.length [] h (startA n ws) (startV n ds) s rfl (RE.start bnd r) st
  have fx : ∀ {ta' : En} {va' : VEn} {h' : HA}, Sp (startA n ws) (startV n ds) h ta' va' h' → Fx h h' := fun sp => ⟨sp.le, fun i o l e => sp.st i o l (no_own r i) e⟩
  unfold vRun runB
  cases e : b (startV n ds) s with
  | nx va1 s1 => rw [e] at g; obtain ⟨ta1, h1, e1, sp, st1, R1⟩ := g; rw [e1]; exact ⟨.non, h1, rfl, fx sp, st1, .of .non⟩
  | rt d va1 s1 => rw [e] at g; obtain ⟨w, ta1, h1, e1, sp, st1, R1, q⟩ := g; rw [e1]; exact ⟨w, h1, rfl, fx sp, st1, q⟩
  | exc c fs va1 s1 => rw [e] at g; obtain ⟨gs, ta1, h1, e1, sp, st1, R1, q⟩ := g; rw [e1]; exact ⟨gs, h1, rfl, fx sp, st1, q.mono (Mo.less fun a z => .inl z)⟩
  | bk va1 s1 => trivial
  | ct va1 s1 => trivial
  | stuck => trivial
/-- an __init__ -/
def endI (va : VEn) (s : Hs) : VR D := match va[0]? with
  | some (some d) => .ok (setK .ow d) s
  | _ => .stuck
def vRunI (b : VSx) (n : Nat) : VM := fun ds s => match b (startV n ds) s with
  | .nx va s => endI va s
  | .rt .non va s => endI va s
  | .exc c fs _ s => .exc c fs s
  | _ => .stuck
theorem dvi_run {b : VSx} {bj : Sx} {n : Nat} (p : DVS [0] b bj) : DVI (vRunI b n) (runB bj n) := by
  intro O h c ws ds s bnd r st
  have f0 : Fx h (h ++ [.ins c []]) := Fx.push
  have st0 : St (h ++ [.ins c []]) s := st.push
  have hn : (h ++ [J.O.ins c []])[h.length]? = some (.ins c []) := by simp
  have R : RE O (h.length + 1) [(0, h.length)] (h ++ [.ins c []]) (startA n (.ref h.length :: ws)) (startV n (.ins .io c [] :: ds)) ∧ ∀ a, Own (startA n (.ref h.length :: ws)) (startV n (.ins .io c [] :: ds)) a → a = h.length := by
    have kds : ∀ i d, (startV n (.ins .io c [] :: ds))[i]? = some (some d) → (i = 0 ∧ d = .ins .io c []) ∨ ∃ j w, i = j + 1 ∧ ws[j]? = some w ∧ (startA n (.ref h.length :: ws))[i]? = some (some w) ∧ ArgR O h w d := fun i d e => by
      have e' := start_get e
      cases i with
      | zero => simp at e'; exact .inl ⟨rfl, e'.symm⟩
      | succ j =>
        obtain ⟨w, e1, q⟩ := r.get (i := j) (d := d) (by simpa using e')
        exact .inr ⟨j, w, rfl, e1, startA_get (by simpa using e1), q⟩
    have t0 : (startA n (.ref h.length :: ws))[0]? = some (some (.ref h.length)) := startA_get rfl
    have ow : ∀ a, Own (startA n (.ref h.length :: ws)) (startV n (.ins .io c [] :: ds)) a → a = h.length := by
      rintro a ⟨i, d, e1, e2, e3⟩
      rcases kds i d e1 with ⟨rfl, rfl⟩ | ⟨j, w, rfl, e4, e5, q⟩
      · rw [t0] at e3; cases e3; rfl
      · rcases q.kd with z | z <;> rcases e2 with e2 | e2 <;> rw [e2] at z <;> cases z
    have mo : Mo O h (OB O (startA n (.ref h.length :: ws)) (startV n (.ins .io c [] :: ds))) (h ++ [.ins c []]) := Mo.sub (fun a l z => z.elim id fun z => by have := ow a z; omega) f0
    refine ⟨⟨⟨by simp [startA, startV, r.length], fun a z => ?_, fun i d e => ?_⟩, ?_, ?_, ?_, ?_, ?_, ?_, fun a z => Nat.lt_succ_of_lt (bnd a z), by simp⟩, ow⟩
    · rcases z with z | z
      · have := bnd a z; simp; omega
      · have := ow a z; simp; omega
    · rcases kds i d e with ⟨rfl, rfl⟩ | ⟨j, w, rfl, e4, e5, q⟩
      · exact ⟨_, t0, fun z => (by cases z), fun _ => ⟨h.length, rfl, .ins st.len hn .nil⟩⟩
      · refine ⟨w, e5, fun c => (q.1 c).mono mo, fun c => ?_⟩
        obtain ⟨a, e2, q2⟩ := q.2 c
        refine ⟨a, e2, ?_⟩
        rw [q2.kd]
        exact q2.mono mo fun o z => f0.2 _ _ q2.two z
    · intro i j a d e e1 o1 e2 o2 _ _
      rcases kds i d e1 with ⟨rfl, rfl⟩ | ⟨j1, w, rfl, e4, e5, q⟩
      · rcases kds j e e2 with ⟨rfl, rfl⟩ | ⟨j2, w, rfl, e4, e5, q⟩
        · rfl
        · rcases q.kd with z | z <;> rcases o2 with o2 | o2 <;> rw [o2] at z <;> cases z
      · rcases q.kd with z | z <;> rcases o1 with o1 | o1 <;> rw [o1] at z <;> cases z
    · intro i a d e k t
      rcases kds i d e with ⟨rfl, rfl⟩ | ⟨j1, w, rfl, e4, e5, q⟩
      · cases k
      · rcases q.kd with z | z <;> rw [k] at z <;> cases z
    · intro i a d e k t
      rcases kds i d e with ⟨rfl, rfl⟩ | ⟨j1, w, rfl, e4, e5, q⟩
      · cases k
      · obtain ⟨a', e2, q2⟩ := q.2 (by rw [k]; decide)
        rw [e5] at t
        cases t
        cases e2
        have := q2.lt
        refine ⟨Nat.lt_succ_of_lt this, fun p hp => ?_⟩
        simp at hp
        subst hp
        exact Nat.ne_of_gt this
    · intro i d e k
      rcases kds i d e with ⟨rfl, rfl⟩ | ⟨j1, w, rfl, e4, e5, q⟩
      · cases k
      · rcases q.kd with z | z <;> rw [k] at z <;> cases z
    · intro p hp
      simp at hp
      subst hp
      refine ⟨t0, .ins .io c [], ?_, rfl⟩
      simp [startV]
    · intro i d e k
      rcases kds i d e with ⟨rfl, rfl⟩ | ⟨j1, w, rfl, e4, e5, q⟩
      · exact ⟨(0, h.length), by simp, rfl⟩
      · rcases q.kd with z | z <;> rw [k] at z <;> cases z
  obtain ⟨R, ow⟩ := R
  have g := p O (h.length + 1) [(0, h.length)] _ _ _ s rfl R st0
  have fx : ∀ {ta' : En} {va' : VEn} {h' : HA}, Sp (startA n (.ref h.length :: ws)) (startV n (.ins .io c [] :: ds)) (h ++ [.ins c []]) ta' va' h' → Fx h h' := fun sp => ⟨Nat.le_trans f0.1 sp.le, fun i o l e => sp.st i o l (fun z => by have := ow i z; have := (List.getElem?_eq_some_iff.mp e).1; omega) (f0.2 i o l e)⟩
  have fin : ∀ {ta' : En} {va' : VEn} {h' : HA} {s1 : Hs}, RE O (h.length + 1) [(0, h.length)] h' ta' va' → St h' s1 → Fx h h' → runB bj n (.ref h.length :: ws) (h ++ [.ins c []]) = .ok .non h' → match endI va' s1 with
      | .ok d s' => ∃ h', runB bj n (.ref h.length :: ws) (h ++ [.ins c []]) = .ok .non h' ∧ Fx h h' ∧ St h' s' ∧ At (fun x => O x ∨ x = h.length) h' h.length .ow d
      | .exc c' fs s' => ∃ gs h', runB bj n (.ref h.length :: ws) (h ++ [.ins c []]) = .exc c' gs h' ∧ Fx h h' ∧ St h' s' ∧ RepF O h' gs fs
      | .stuck => True := fun R1 st1 f1 e => by
    obtain ⟨e1, d, e2, k⟩ := R1.io (0, h.length) (by simp)
    unfold endI
    rw [e2]
    obtain ⟨w, e3, q1, q2⟩ := R1.env.val 0 d e2
    obtain ⟨a, rfl, q⟩ := q2 (by rw [k]; decide)
    rw [e1] at e3
    cases e3
    exact ⟨_, e, f1, st1, (q.mono (Mo.less fun x z => z.elim .inl fun z => .inr ⟨0, d, e2, .inr k, z ▸ e1⟩) fun _ z => z).setK⟩
  unfold vRunI
  cases e : b (startV n (.ins .io c [] :: ds)) s with
  | nx va1 s1 =>
    rw [e] at g
    obtain ⟨ta1, h1, e1, sp, st1, R1⟩ := g
    exact fin R1 st1 (fx sp) (by unfold runB; rw [e1])
  | rt d va1 s1 =>
    rw [e] at g
    obtain ⟨w, ta1, h1, e1, sp, st1, R1, q⟩ := g
    cases d with
    | non =>
      obtain rfl := q.b.non
      exact fin R1 st1 (fx sp) (by unfold runB; rw [e1])
    | _ => trivial
  | exc c' fs va1 s1 =>
    rw [e] at g
    obtain ⟨gs, ta1, h1, e1, sp, st1, R1, q⟩ := g
    exact ⟨gs, h1, by unfold runB; rw [e1], fx sp, st1, q.mono (Mo.less fun a z => .inl z)⟩
  | bk va1 s1 => trivial
  | ct va1 s1 => trivial
  | stuck => trivial
/-- a new thing -/
def rNewV (c n : Nat) (f : VM) (dd : List D) (xs : List D) (s : Hs) : VR D := match argVs xs with
  | some ys => if (1 + ys.length) + dd.length = n then f (.ins .io c [] :: (ys ++ dd)) s else .stuck
  | none => .stuck
def vNew (c n : Nat) (f : VM) (dd : List D) (ar : VA) : VE := fun va s => (ar va s).bind (rNewV c n f dd)
theorem dv_new {c n : Nat} {f : VM} {g : Mir} {dd : List D} {dw : List W} (F : DVI f g) (hd : ∀ O h, Reps O h dw dd) (p : DVA vs ms) : DVE (vNew c n f dd vs) (eNew c n g dw ms) := by
  intro O h ta va s E st
  refine gve_bindA (p O h ta va s E st) fun x d h1 s1 f1 st1 r1 => ?_
  unfold rNewV
  split
  · rename_i ys e
    have ra := r1.arg E.bnd e
    split
    · rename_i cc
      have g0 := F O h1 c _ _ s1 (E.fx f1).bnd (ra.append (hd O h1).arg) st1
      unfold newC
      rw [if_pos (by rw [ra.length, (hd O h1).length]; exact cc)]
      have la : W.ref h1.length :: x ++ dw = .ref h1.length :: (x ++ dw) := rfl
      rw [la]
      cases z : f (.ins .io c [] :: (ys ++ dd)) s1 with
      | ok d s2 =>
        rw [z] at g0
        obtain ⟨h2, e2, f2, st2, q⟩ := g0
        rw [e2]
        exact ⟨_, h2, rfl, f2, st2, .ow f1.1 q⟩
      | exc c' fs s2 =>
        rw [z] at g0
        obtain ⟨gs, h2, e2, f2, st2, q⟩ := g0
        rw [e2]
        exact ⟨gs, h2, rfl, f2, st2, q⟩
      | stuck => trivial
    · trivial
  · trivial
/-- == of an own class -/
def eqCV (cs : List Nat) (c0 : Nat) (f : VM) (x y : D) (s : Hs) : VR D := match clsV x with
  | some c => if c = c0 then (match tgCV cs y with
    | some _ => rCallV f 2 [] [x, y] s
    | none => .stuck) else .stuck
  | none => match x with
    | .hnd => .stuck
    | .xcp _ _ => .stuck
    | _ => ofV (aEq x y) s
def vEqC (cs : List Nat) (c0 : Nat) (f : VM) (v1 v2 : VE) : VE := fun va s => (v1 va s).bind fun x s1 => (v2 va s1).bind fun y s2 => eqCV cs c0 f x y s2
theorem clsV_none (r : RepB O h w d) (e : clsV d = none) (n1 : d ≠ .hnd) (n2 : ∀ c fs, d ≠ .xcp c fs) : clsOf h w = none := by
  cases d <;> first | (cases e; done) | skip
  · obtain rfl := r.non; rfl
  · obtain rfl := r.bl; rfl
  · obtain rfl := r.int; rfl
  · obtain rfl := r.str; rfl
  · obtain ⟨xs, rfl, q⟩ := r.tup; rfl
  · obtain ⟨a, xs, rfl, l, e0, q⟩ := r.lst; simp only [clsOf, e0]
  · obtain ⟨a, xs, rfl, l, e0, q⟩ := r.dic; simp only [clsOf, e0]
  · exact absurd rfl (n2 _ _)
  · exact absurd rfl n1
theorem dv_eqC {cs : List Nat} {c0 : Nat} {f : VM} {g : Mir} (F : DVF f g) (p1 : DVE v1 m1) (p2 : DVE v2 m2) : DVE (vEqC cs c0 f v1 v2) (eEqC cs c0 g m1 m2) := by
  intro O h ta va s E st
  refine gve_bind (p1 O h ta va s E st) fun x d h1 s1 f1 st1 r1 => ?_
  refine gve_bind (p2 O h1 ta va s1 (E.fx f1) st1) fun y e h2 s2 f2 st2 r2 => ?_
  have E2 := (E.fx f1).fx f2
  unfold eqCV
  split
  · rename_i c hc
    unfold eqC
    rw [clsV_ok (r1.fx f2).b hc]
    dsimp only
    split
    · rename_i hcc
      rw [if_pos ⟨hcc, rfl⟩]
      split
      · rename_i tg ht
        rw [tgCV_ok r2.b ht]
        dsimp only
        unfold rCallV
        split
        · rename_i ys ey
          have rr : RepRs O h.length h2 [x, y] [d, e] := .cons (r1.fx f2) (.cons (r2.le f1.1) .nil)
          have ra := rr.arg E.bnd ey
          split
          · have z := (F O h2 _ _ s2 E2.bnd (ra.append .nil) st2).le (Nat.le_trans f1.1 f2.1)
            simpa using z
          · trivial
        · trivial
      · trivial
    · trivial
  · rename_i hc
    split
    · trivial
    · trivial
    · rename_i n1 n2
      unfold eqC
      rw [clsV_none (r1.fx f2).b hc (fun z => n1 z) (fun c fs z => n2 c fs z)]
      show GVE O h.length h2 (ofV (aEq d e) s2) (ofO (qEq x y h2))
      refine gve_of st2 fun r er => ?_
      obtain ⟨w, h3, e3, f3, st3, q3⟩ := oka_eq O h2 x y d e r s2 (r1.fx f2).b r2.b st2 er
      exact ⟨w, h3, e3, f3, st3, q3.le (Nat.le_trans f1.1 f2.1)⟩
/-- x = e; what is new is shared at once -/
def kSetH (i : Nat) (va : VEn) (d : D) (s : Hs) : VSR := match stoV d with
  | some d' => .nx (va.set i (some d')) s
  | none => .stuck
def zSetH (i : Nat) (v : VE) : VSx := fun va s => (v va s).to va (kSetH i va)
theorem dvs_setH {i : Nat} (hi : i ∉ jl) (p : DVE v m) : DVS jl (zSetH i v) (sSet i m) := fun B n0 L h ta va s hj R st =>
  gvs_to R (p _ h ta va s R.env st) fun w d h' s' f st' R' r => by
    unfold kSetH
    split
    · rename_i d' e
      obtain ⟨R1, o1⟩ := R'.setSh (by rw [hj]; exact hi) (r.sto R.env.bnd e)
      exact ⟨_, h', rfl, ⟨Nat.le_refl _, fun _ _ _ _ e => e, fun a z => .inl (o1 a z)⟩, st', R1⟩
    · trivial
/-- {} -/
def vDic0 : VE := fun _ s => .ok (.dic .ow []) s
theorem dv_dic0 : DVE vDic0 eDic0 := fun O h ta va s E st =>
  ⟨_, _, rfl, Fx.push, st.push, .ow (Nat.le_refl _) (.dic st.len (by simp) .nil)⟩
end
end J

namespace J
open PySem PySem.Spec PyProof.Rows L2
section
variable {B O : Nat → Prop} {n0 : Nat} {L : List (Nat × Nat)} {h h' h2 : HA} {ta ta' ta2 : En} {va va' va2 : VEn} {w : W} {d : D} {s s' : Hs} {jl : List Nat}
variable {m m1 m2 m3 : Ex} {v v1 v2 v3 : VE} {t u : VT} {tt tu : Tx} {vs : VA} {ms : Ax}
/-! ### a def that changes one of its arguments -/
abbrev VIO := List D → Hs → VR (D × D)
def endIO (jp : Nat) (d : D) (va : VEn) (s : Hs) : VR (D × D) := match va[jp]? with
  | some (some e) => .ok (d, e) s
  | _ => .stuck
def vRunIO (b : VSx) (n jp : Nat) : VIO := fun ds s => match b (startV n ds) s with
  | .nx va s => endIO jp .non va s
  | .rt d va s => endIO jp d va s
  | _ => .stuck
def DVIO (jp : Nat) (v : VIO) (f : Mir) : Prop := ∀ (O : Nat → Prop) (h : HA) (ws : List W) (ds : List D) (s : Hs) (a : Nat) (d0 : D), (∀ x, O x → x < h.length) → ws.length = ds.length → ds[jp]? = some d0 → kd d0 = .io → ws[jp]? = some (.ref a) → O a → At O h a .io d0 →
  (∀ i d, i ≠ jp → ds[i]? = some d → ∃ w, ws[i]? = some w ∧ Rep O h w d) → St h s →
  match v ds s with
  | .ok (d, e) s' => ∃ w h', f ws h = .ok w h' ∧ h.length ≤ h'.length ∧ (∀ x o, 2 ≤ x → x ≠ a → h[x]? = some o → h'[x]? = some o) ∧ St h' s' ∧ At O h' a .io e ∧ RepR O h.length h' w d
  | _ => True
theorem dvio_run {b : VSx} {bj : Sx} {n jp : Nat} (p : DVS [jp] b bj) : DVIO jp (vRunIO b n jp) (runB bj n) := by
  intro O h ws ds s a d0 bnd hl e0 k0 w0 oa q0 oth st
  have kds : ∀ i d, (startV n ds)[i]? = some (some d) → (i = jp ∧ d = d0) ∨ (i ≠ jp ∧ ∃ w, (startA n ws)[i]? = some (some w) ∧ Rep O h w d) := fun i d e => by
    have e' := start_get e
    by_cases c : i = jp
    · subst c
      rw [e0] at e'
      cases e'
      exact .inl ⟨rfl, rfl⟩
    · obtain ⟨w, e1, q⟩ := oth i d c e'
      exact .inr ⟨c, w, startA_get e1, q⟩
  have t0 : (startA n ws)[jp]? = some (some (.ref a)) := startA_get w0
  have v0 : (startV n ds)[jp]? = some (some d0) := by
    unfold startV
    rw [List.getElem?_append_left (by simpa using (List.getElem?_eq_some_iff.mp e0).1), List.getElem?_map, e0]
    rfl
  have ow : ∀ x, Own (startA n ws) (startV n ds) x → x = a := by
    rintro x ⟨i, d, e1, e2, e3⟩
    rcases kds i d e1 with ⟨rfl, rfl⟩ | ⟨c, w, e4, q⟩
    · rw [t0] at e3; cases e3; rfl
    · exact absurd e2 (sh_not q.kd)
  have less : ∀ x, OB O (startA n ws) (startV n ds) x → O x := fun x z => z.elim id fun z => by rw [ow x z]; exact oa
  have R : RE O h.length [(jp, a)] h (startA n ws) (startV n ds) := by
    refine ⟨⟨by simp [startA, startV, hl], fun x z => bnd x (less x z), fun i d e => ?_⟩, ?_, ?_, ?_, ?_, ?_, ?_, bnd, Nat.le_refl _⟩
    · rcases kds i d e with ⟨rfl, rfl⟩ | ⟨c, w, e4, q⟩
      · exact ⟨_, t0, fun z => (by rw [k0] at z; cases z), fun _ => ⟨a, rfl, by rw [k0]; exact q0.mono (Mo.less less) fun _ z => z⟩⟩
      · exact ⟨w, e4, fun _ => q.mono (Mo.less less), fun z => absurd q.kd z⟩
    · intro i j x d e e1 o1 e2 o2 _ _
      rcases kds i d e1 with ⟨rfl, rfl⟩ | ⟨c, w, e4, q⟩
      · rcases kds j e e2 with ⟨rfl, rfl⟩ | ⟨c, w, e4, q⟩
        · rfl
        · exact absurd o2 (sh_not q.kd)
      · exact absurd o1 (sh_not q.kd)
    · intro i x d e k t
      rcases kds i d e with ⟨rfl, rfl⟩ | ⟨c, w, e4, q⟩
      · rw [k0] at k; cases k
      · rw [q.kd] at k; cases k
    · intro i x d e k t
      rcases kds i d e with ⟨rfl, rfl⟩ | ⟨c, w, e4, q⟩
      · rw [k0] at k; cases k
      · rw [q.kd] at k; cases k
    · intro i d e k
      rcases kds i d e with ⟨rfl, rfl⟩ | ⟨c, w, e4, q⟩
      · rw [k0] at k; cases k
      · rw [q.kd] at k; cases k
    · intro p hp
      simp at hp
      subst hp
      exact ⟨t0, d0, v0, k0⟩
    · intro i d e k
      rcases kds i d e with ⟨rfl, rfl⟩ | ⟨c, w, e4, q⟩
      · exact ⟨_, List.mem_cons_self, rfl⟩
      · rw [q.kd] at k; cases k
  have g := p O h.length [(jp, a)] h (startA n ws) (startV n ds) s rfl R st
  have fin : ∀ {d : D} {w : W} {ta' : En} {va' : VEn} {h' : HA} {s1 : Hs}, Sp (startA n ws) (startV n ds) h ta' va' h' → RE O h.length [(jp, a)] h' ta' va' → St h' s1 → RepR O h.length h' w d → runB bj n ws h = .ok w h' → match endIO jp d va' s1 with
      | .ok (d, e) s' => ∃ w h', runB bj n ws h = .ok w h' ∧ h.length ≤ h'.length ∧ (∀ x o, 2 ≤ x → x ≠ a → h[x]? = some o → h'[x]? = some o) ∧ St h' s' ∧ At O h' a .io e ∧ RepR O h.length h' w d
      | _ => True := fun sp R1 st1 r e => by
    obtain ⟨e1, d', e2, k⟩ := R1.io (jp, a) List.mem_cons_self
    unfold endIO
    rw [e2]
    obtain ⟨w', e3, q1, q2⟩ := R1.env.val jp d' e2
    obtain ⟨a', rfl, q⟩ := q2 (by rw [k]; decide)
    have e1 : _ = some (some (W.ref a)) := e1
    rw [e3] at e1
    cases e1
    rw [k] at q
    exact ⟨_, _, e, sp.le, fun x o l nx ex => sp.st x o l (fun z => nx (ow x z)) ex, st1, q.mono (Mo.less fun x z => .inl z) fun _ z => z, r⟩
  unfold vRunIO
  cases e : b (startV n ds) s with
  | nx va1 s1 =>
    rw [e] at g
    obtain ⟨ta1, h1, e1, sp, st1, R1⟩ := g
    exact fin sp R1 st1 (.of .non) (by unfold runB; rw [e1])
  | rt d va1 s1 =>
    rw [e] at g
    obtain ⟨w, ta1, h1, e1, sp, st1, R1, q⟩ := g
    exact fin sp R1 st1 q (by unfold runB; rw [e1])
  | exc c fs va1 s1 => trivial
  | bk va1 s1 => trivial
  | ct va1 s1 => trivial
  | stuck => trivial
def snocA (ms : Ax) (m : Ex) : Ax := fun ta h => (ms ta h).bind fun xs h1 => (m ta h1).bind fun x h2 => .ok (xs ++ [x]) h2
theorem snoc0 : snocA aNil m = aCons m aNil := by
  funext ta h
  unfold snocA aNil aCons
  simp only [Res.bind]
  cases m ta h <;> rfl
theorem snocS : snocA (aCons m1 ms) m = aCons m1 (snocA ms m) := by
  funext ta h
  unfold snocA aCons
  cases m1 ta h with
  | ok x h1 =>
    simp only [Res.bind]
    cases ms ta h1 with
    | ok xs h2 =>
      simp only [Res.bind]
      cases m ta h2 <;> rfl
    | _ => rfl
  | _ => rfl
/-- f(.., x): x, the slot i's own list, is changed -/
def putIO (i : Nat) (va : VEn) (k : Kd) (r : VR (D × D)) : VSR := match r with
  | .ok (_, .lst .io ys) s' => .nx (va.set i (some (.lst k ys))) s'
  | _ => .stuck
def callIO (i : Nat) (f : VIO) (n : Nat) (va : VEn) (es : List D) (s : Hs) (o : Option (Option D)) : VSR := match o with
  | some (some (.lst .ow xs)) => if es.length + 1 = n then putIO i va .ow (f (es ++ [.lst .io xs]) s) else .stuck
  | some (some (.lst .io xs)) => if es.length + 1 = n then putIO i va .io (f (es ++ [.lst .io xs]) s) else .stuck
  | _ => .stuck
def kIO (i : Nat) (f : VIO) (n : Nat) (va : VEn) (ds : List D) (s : Hs) : VSR := match stoVs ds with
  | some es => callIO i f n va es s va[i]?
  | none => .stuck
def zIO (i : Nat) (f : VIO) (n : Nat) (ar : VA) : VSx := fun va s => (ar va s).to va (kIO i f n va)
theorem dvs_io {i n jp : Nat} {f : VIO} {g : Mir} (F : DVIO jp f g) (hn : n = jp + 1) (p : DVA vs ms) : DVS jl (zIO i f n vs) (sExp (eCall g n [] (snocA ms (eVar i)))) := by
  intro B n0 L h ta va s hj R st
  have gg := p _ h ta va s R.env st
  unfold zIO
  show GVS B n0 L h ta va ((vs va s).to va (kIO i f n va)) ((((snocA ms (eVar i)) ta h).bind fun ws h1 => if ws.length + ([] : List W).length = n then g (ws ++ []) h1 else .stuck).to ta fun _ h1 => .nx ta h1)
  cases z : vs va s with
  | stuck => trivial
  | exc c fs s1 =>
    rw [z] at gg
    obtain ⟨gs, h1, e1, f1, st1, r1⟩ := gg
    unfold snocA
    rw [e1]
    exact ⟨gs, ta, h1, rfl, Sp.fx f1, st1, R.fx f1, r1⟩
  | ok ds s1 =>
    rw [z] at gg
    obtain ⟨ws, h1, e1, f1, st1, r1⟩ := gg
    refine GVS.pre (Sp.fx f1) ?_
    show GVS B n0 L h1 ta va (kIO i f n va ds s1) _
    unfold kIO
    split
    · rename_i es e2
      have R1 := R.fx f1
      have re := r1.sto R.env.bnd e2
      have main : ∀ k xs, (k = .ow ∨ k = .io) → va[i]? = some (some (.lst k xs)) → es.length + 1 = n → GVS B n0 L h1 ta va (putIO i va k (f (es ++ [.lst .io xs]) s1)) ((((snocA ms (eVar i)) ta h).bind fun ws h1 => if ws.length + ([] : List W).length = n then g (ws ++ []) h1 else .stuck).to ta fun _ h1 => .nx ta h1) := by
        intro k xs o ev hl
        obtain ⟨a, us, t1, l2, t2, t3, own⟩ := R1.lst ev o
        have hw : ws.length = es.length := re.length
        have ej : es.length = jp := by omega
        have z2 := F (OB B ta va) h1 (ws ++ [.ref a]) (es ++ [.lst .io xs]) s1 a (.lst .io xs) R1.env.bnd (by simp [hw]) (by rw [← ej]; simp) rfl (by rw [← ej, ← hw]; simp) (.inr own) (.lst l2 t2 t3) (fun x d nx ex => by
          have hx : x < es.length := by
            have := (List.getElem?_eq_some_iff.mp ex).1
            simp at this
            omega
          rw [List.getElem?_append_left hx] at ex
          obtain ⟨w, e3, q⟩ := re.get ex
          exact ⟨w, by rw [List.getElem?_append_left (by omega)]; exact e3, q⟩) st1
        cases y : f (es ++ [.lst .io xs]) s1 with
        | stuck => trivial
        | exc c fs s2 => trivial
        | ok de s2 =>
          obtain ⟨d, e⟩ := de
          rw [y] at z2
          obtain ⟨w, h2, e4, hle, keep, st2, qa, qr⟩ := z2
          unfold putIO
          split
          · rename_i d' ys s3 he
            cases he
            have nk : kd (.lst k ys) = kd (.lst k xs) := rfl
            obtain ⟨R2, o2⟩ := R1.mutH (h' := h2) (d' := .lst k ys) hle (fun x o l nx ex => keep x o l nx ex) ev o t1 l2 nk (by
              cases qa with
              | lst l e q => exact .lst l e q)
            refine ⟨ta, h2, ?_, ⟨hle, fun x o l nx ex => keep x o l (fun z => nx (z ▸ own)) ex, fun x q => .inl ((o2 x).mp q)⟩, st2, R2⟩
            have evr : eVar i ta h1 = .ok (.ref a) h1 := by simp only [eVar, t1, noX, if_true]
            have e5 : snocA ms (eVar i) ta h = .ok (ws ++ [.ref a]) h1 := by
              unfold snocA
              rw [e1]
              simp only [Res.bind, evr]
            rw [e5]
            simp only [Res.bind]
            rw [if_pos (by simp [hw]; omega), List.append_nil, e4]
            rfl
          · trivial
      unfold callIO
      split
      · rename_i xs ev
        split
        · rename_i hl; exact main .ow xs (.inl rfl) ev hl
        · trivial
      · rename_i xs ev
        split
        · rename_i hl; exact main .io xs (.inr rfl) ev hl
        · trivial
      · trivial
    · trivial
theorem dvs_io1 {i : Nat} {f : VIO} {g : Mir} (F : DVIO 1 f g) (p1 : DVE v1 m1) : DVS jl (zIO i f 2 (arCons v1 arNil)) (sExp (eCall g 2 [] (aCons m1 (aCons (eVar i) aNil)))) := by
  have := dvs_io (jl := jl) (i := i) F rfl (dva_cons p1 dva_nil)
  rw [snocS, snoc0] at this
  exact this
theorem dvs_io2 {i : Nat} {f : VIO} {g : Mir} (F : DVIO 2 f g) (p1 : DVE v1 m1) (p2 : DVE v2 m2) : DVS jl (zIO i f 3 (arCons v1 (arCons v2 arNil))) (sExp (eCall g 3 [] (aCons m1 (aCons m2 (aCons (eVar i) aNil))))) := by
  have := dvs_io (jl := jl) (i := i) F rfl (dva_cons p1 (dva_cons p2 dva_nil))
  rw [snocS, snocS, snoc0] at this
  exact this
end
end J

/-! V: temporaries handed over, sorted, zip, isinstance of a caught exception, unpacking of lists -/
namespace J
open PySem PySem.Spec PyProof.Rows L2
section
variable {B O : Nat → Prop} {n0 : Nat} {L : List (Nat × Nat)} {h h' h2 : HA} {ta ta' ta2 : En} {va va' va2 : VEn} {w : W} {d : D} {s s' : Hs} {jl : List Nat}
variable {m m1 m2 m3 : Ex} {v v1 v2 v3 : VE} {t u : VT} {tt tu : Tx} {vs : VA} {ms : Ax}
/-- a temporary that is handed over: it is shared from now on -/
def shO (d : D) : D := (stoV d).getD d
def vSh (v : VE) : VE := fun va s => (v va s).bind fun d s1 => .ok (shO d) s1
theorem dv_sh (p : DVE v m) : DVE (vSh v) m := by
  intro O h ta va s E st
  have g := p O h ta va s E st
  unfold vSh
  cases e : v va s with
  | ok d s1 =>
    rw [e] at g
    obtain ⟨w, h', e1, f, st1, r⟩ := g
    refine ⟨w, h', e1, f, st1, ?_⟩
    unfold shO
    cases e2 : stoV d with
    | none => exact r
    | some d' => exact .of (r.sto E.bnd e2)
  | exc c fs s1 => rw [e] at g; exact g
  | stuck => trivial
/-! ### sorted -/
def intsD : List D → Option (List Int)
  | [] => some []
  | .int i :: r => (intsD r).map (i :: ·)
  | _ => none
def tupDI : D → Option (List Int)
  | .tup xs => intsD xs
  | _ => none
def keysD : List D → Option (List (List Int))
  | [] => some []
  | x :: r => match tupDI x with
    | some k => (keysD r).map (k :: ·)
    | none => none
def tupD (k : List Int) : D := .tup (k.map D.int)
theorem intsD_W : ∀ {ws : List W} {ds : List D} {ns : List Int}, Reps O h ws ds → intsD ds = some ns → intsW ws = some ns
  | [], [], _, _, e => e
  | w :: ws, .int i :: ds, ns, .cons r t, e => by
    simp only [intsD] at e
    cases q : intsD ds with
    | none => rw [q] at e; cases e
    | some ms =>
      rw [q] at e
      cases e
      cases r with
      | int => simp only [intsW, intsD_W t q]; rfl
      | ref n r => cases r
  | _, .non :: _, _, _, e => by cases e
  | _, .bl _ :: _, _, _, e => by cases e
  | _, .str _ :: _, _, _, e => by cases e
  | _, .tup _ :: _, _, _, e => by cases e
  | _, .lst _ _ :: _, _, _, e => by cases e
  | _, .ins _ _ _ :: _, _, _, e => by cases e
  | _, .dic _ _ :: _, _, _, e => by cases e
  | _, .xcp _ _ :: _, _, _, e => by cases e
  | _, .hnd :: _, _, _, e => by cases e
theorem keysD_W : ∀ {ws : List W} {ds : List D} {ks : List (List Int)}, Reps O h ws ds → keysD ds = some ks → keysW ws = some ks
  | _, _, _, .nil, e => e
  | _, _, ks, .cons (x := w) (xs := ws) (d := d) (ds := ds) r t, e => by
    simp only [keysD] at e
    cases q : tupDI d with
    | none => rw [q] at e; cases e
    | some k =>
      rw [q] at e
      dsimp only at e
      cases q2 : keysD ds with
      | none => rw [q2] at e; cases e
      | some ms =>
        rw [q2] at e
        cases e
        cases d with
        | tup xs =>
          cases r with
          | tup r =>
            have z : tupI (.tup _) = some k := intsD_W r (show intsD xs = some k from q)
            simp only [keysW, z, keysD_W t q2]
            rfl
          | ref n r => cases r
        | _ => cases q
theorem rep_ints : ∀ ns : List Int, Reps O h (ns.map W.int) (ns.map D.int)
  | [] => .nil
  | n :: r => .cons (.int n) (rep_ints r)
theorem rep_keys : ∀ ks : List (List Int), Reps O h (ks.map tupW) (ks.map tupD)
  | [] => .nil
  | k :: r => .cons (.tup (rep_ints k)) (rep_keys r)
def bSorted : List D → Option D
  | [.lst _ xs] => (match intsD xs with
    | some ns => some (.lst .ow ((sortK id ns).map D.int))
    | none => (match keysD xs with
      | some ks => if ks.length < 64 ∧ okKs ks = true then some (.lst .ow ((sortK (TS.code cB) ks).map tupD)) else none
      | none => none))
  | _ => none
theorem keysW_notI {ws : List W} {ks : List (List Int)} (e : keysW ws = some ks) (ok : okKs ks = true) : intsW ws = none := by
  cases ws with
  | nil => cases e; cases ok
  | cons x r =>
    cases x with
    | tup xs => rfl
    | _ => cases e
theorem okb_sorted : OkF bSorted fSorted := by
  intro O h ws ds r s rs st er
  unfold bSorted at er
  split at er
  · rename_i kk xs
    obtain ⟨w, rfl, q⟩ := rs.one
    obtain ⟨a, ys, rfl, l, e0, q⟩ := q.lst
    have e1 : rdL h a = some ys := by simp only [rdL, e0]
    split at er
    · rename_i ns e2
      cases er
      obtain ⟨f, st', z⟩ := new_list st (rep_ints (O := O) (h := h) (sortK id ns))
      exact ⟨_, _, by (simp only [fSorted, e1, intsD_W q e2]; try rfl), f, st', z⟩
    · split at er
      · rename_i ks e3
        split at er
        · rename_i c
          cases er
          obtain ⟨f, st', z⟩ := new_list st (rep_keys (O := O) (h := h) (sortK (TS.code cB) ks))
          have e4 := keysD_W q e3
          exact ⟨_, _, by simp only [fSorted, e1, e4, keysW_notI e4 c.2]; rw [if_pos c], f, st', z⟩
        · cases er
      · cases er
  · cases er
def bSortSet : List D → Option D
  | [.lst _ xs] => (match keysD xs with
    | some ks => if ks.length < 64 ∧ okKs ks = true then some (.lst .ow ((uniqK ks).map tupD)) else none
    | none => none)
  | _ => none
theorem okb_sortSet : OkF bSortSet fSortSet := by
  intro O h ws ds r s rs st er
  unfold bSortSet at er
  split at er
  · rename_i kk xs
    obtain ⟨w, rfl, q⟩ := rs.one
    obtain ⟨a, ys, rfl, l, e0, q⟩ := q.lst
    have e1 : rdL h a = some ys := by simp only [rdL, e0]
    split at er
    · rename_i ks e3
      split at er
      · rename_i c
        cases er
        obtain ⟨f, st', z⟩ := new_list st (rep_keys (O := O) (h := h) (uniqK ks))
        exact ⟨_, _, by simp only [fSortSet, e1, keysD_W q e3]; rw [if_pos c], f, st', z⟩
      · cases er
    · cases er
  · cases er
theorem dv_sortSet (q : DVA vs ms) : DVE (vFn bSortSet vs) (eSortSet ms) := dv_fn okb_sortSet q
/-! ### zip -/
def zipV2 : List D → List D → List D
  | x :: xs, y :: ys => .tup [x, y] :: zipV2 xs ys
  | _, _ => []
theorem rep_zip : ∀ {xs ys : List W} {ds es : List D}, Reps O h xs ds → Reps O h ys es → Reps O h (zipW xs ys) (zipV2 ds es)
  | _, _, _, _, .nil, _ => by unfold zipW zipV2; exact .nil
  | _, _, _, _, .cons _ _, .nil => by unfold zipW zipV2; exact .nil
  | _, _, _, _, .cons a b, .cons c d => .cons (.tup (.cons a (.cons c .nil))) (rep_zip b d)
def zzD (g : VTg) (b : VSx) (va : VEn) (ds : List D) (s : Hs) : VSR := match ds with
  | [.tup xs, .tup ys] => forV g b (zipV2 xs ys) va s
  | _ => .stuck
def zForZ (vs : VA) (g : VTg) (b : VSx) : VSx := fun va s => (vs va s).to va (zzD g b va)
theorem dvs_forZ {g : VTg} {gj : Tgt} {b : VSx} {bj : Sx} (p : DVA vs ms) (pg : DVTg jl g gj) (pb : DVS jl b bj) : DVS jl (zForZ vs g b) (sForZ ms gj bj) := fun B n0 L h ta va s hj R st =>
  gvs_toA R (p _ h ta va s R.env st) fun ws ds h' s' fr st' R' r => by
    unfold zzD
    split
    · obtain ⟨w1, w2, rfl, q1, q2⟩ := r.bs.two
      obtain ⟨xs, rfl, r1⟩ := q1.tup
      obtain ⟨ys, rfl, r2⟩ := q2.tup
      exact forT_V pg pb hj R' st' (rep_zip r1 r2)
    · trivial
/-! ### isinstance of a caught exception -/
def vXis (i : Nat) (l : List (Nat × Bool)) : VE := fun va s => match va[i]? with
  | some (some (.xcp c _)) => (match l.lookup c with
    | some b => .ok (.bl b) s
    | none => .stuck)
  | _ => .stuck
theorem dv_xis {i : Nat} {l : List (Nat × Bool)} : DVE (vXis i l) (eXis i l) := by
  intro O h ta va s E st
  unfold vXis
  split
  · rename_i c gs e
    obtain ⟨fs, e1, r⟩ := RepF.get_xcp E e
    split
    · rename_i b hb
      refine ⟨.bl b, h, ?_, Fx.rfl', st, .of (.bl _)⟩
      simp only [eXis, e1, hb]
    · trivial
  · trivial
/-! ### a, b, .. = a list or a tuple -/
def kAsgLT (va : VEn) (n : Nat) (r : VTgs) (d : D) (s : Hs) : VSR := match itV d with
  | some xs => if xs.length = n then (match r xs va s with
    | some (va1, s1) => .nx va1 s1
    | none => .stuck) else .stuck
  | none => .stuck
def zAsgLT (v : VE) (n : Nat) (r : VTgs) : VSx := fun va s => (v va s).to va (kAsgLT va n r)
theorem dvs_asgLT {n : Nat} {r : VTgs} {rj : Tgs} (p : DVE v m) (q : DVTgs jl r rj) : DVS jl (zAsgLT v n r) (sAsg m (gLT n rj)) := fun B n0 L h ta va s hj R st =>
  gvs_to R (p _ h ta va s R.env st) fun w d h' s' f st' R' rr => by
    unfold kAsgLT
    split
    · rename_i ys e
      obtain ⟨xs, e1, q1⟩ := rr.b.it e
      split
      · rename_i c
        split
        · rename_i va1 s1 e2
          obtain ⟨ta1, h1, e3, x⟩ := q B n0 L h' ta va s' xs ys va1 s1 hj R' st' q1 e2
          refine ⟨ta1, h1, ?_, x⟩
          simp only [gLT, e1]
          rw [if_pos (by rw [q1.length]; exact c), e3]
        · trivial
      · trivial
    · trivial
end
end J

namespace JP
open PySem PySem.Spec PyProof.Rows L2 J
section
variable {h : HA} {X : XP} {Q : W → HA → Prop}
def mixV (a b : Int) : Int := (((a * 48271 + b * 16807 + 11) % 2147483647 * ((a * 48271 + b * 16807 + 11) % 2147483647) + (a * 48271 + b * 16807 + 11) % 2147483647 / 127 * 40692 + b * 69621) % 2147483399 *
          (((a * 48271 + b * 16807 + 11) % 2147483647 * ((a * 48271 + b * 16807 + 11) % 2147483647) + (a * 48271 + b * 16807 + 11) % 2147483647 / 127 * 40692 + b * 69621) % 2147483399) / 1009 + (a * 48271 + b * 16807 + 11) % 2147483647) % 2147483563 / 16
theorem mix_ok (a b : Int) (k : Q (.int (mixV a b)) h) : RW (m__law_mix [.int a, .int b] h) Q X := by
  refine RW_run ?_
  simp [b__law_mix]
  exact k
def drawn (s : Hs) (n : Int) : Int × Hs :=
  if s.r = 0 ∧ s.i < s.cells.length then
    (if s.cells.getD s.i 0 < 1000000000000000000 then (mixV (s.cells.getD s.i 0 % 2147483647) (s.i + 1 : Nat) % n, ⟨s.cells, s.i + 1, s.r, s.t⟩)
    else (s.cells.getD s.i 0 % n, ⟨s.cells, s.i + 1, s.cells.getD s.i 0 / n, s.t⟩))
  else if 0 < s.r then (s.r % n, ⟨s.cells, s.i, s.r / n, s.t⟩)
  else (mixV ((s.t + 1) % 2147483629) (s.i : Nat) % n, ⟨s.cells, s.i, s.r, (s.t + 1) % 2147483629⟩)
theorem hand_get {h : HA} {xs : List W} {o : Nat} (e : h[o]? = some (.lst xs)) {k : Int} {w : W} (g : atI xs k = some w) : oIx (.ref o) (.int k) h = some (w, h) := oIx_at (rdL_of_get e) g
/-- the hand's four places -/
theorem hand_ix {h : HA} {a b c d : W} (e : h[1]? = some (.lst [a, b, c, d])) : oIx (.ref 1) (.int 0) h = some (a, h) ∧ oIx (.ref 1) (.int 1) h = some (b, h) ∧ oIx (.ref 1) (.int 2) h = some (c, h) ∧ oIx (.ref 1) (.int 3) h = some (d, h) :=
  ⟨hand_get e rfl, hand_get e rfl, hand_get e rfl, hand_get e rfl⟩
theorem hand_set {h : HA} {a b c d : W} (e : h[1]? = some (.lst [a, b, c, d])) : (∀ w, setW (.ref 1) (.int 1) w h = some (h.set 1 (.lst [a, w, c, d]))) ∧ (∀ w, setW (.ref 1) (.int 2) w h = some (h.set 1 (.lst [a, b, w, d]))) ∧ (∀ w, setW (.ref 1) (.int 3) w h = some (h.set 1 (.lst [a, b, c, w]))) :=
  ⟨fun w => setW_ok e (by decide) (by simp), fun w => setW_ok e (by decide) (by simp), fun w => setW_ok e (by decide) (by simp)⟩
theorem set1_get {h : HA} (l : 2 ≤ h.length) {o : O} : (h.set 1 o)[1]? = some o := by rw [List.getElem?_set_self (by omega)]
theorem draw_ok {s : Hs} (st : St h s) {n : Int} (n0 : 0 < n) (n1 : n < 2 ^ 64) (k : ∀ (h' : HA), Fx h h' → St h' (drawn s n).2 → Q (.int (drawn s n).1) h') : RW (m__law_draw [.ref 1, .int n] h) Q X := by
  obtain ⟨hc, hh, hp, hr⟩ := st
  have h2 : 2 ≤ h.length := (List.getElem?_eq_some_iff.mp hh).1
  refine RW_run ?_
  obtain ⟨g0, g1, g2, g3⟩ := hand_ix hh
  obtain ⟨s1, s2, s3⟩ := hand_set hh
  obtain ⟨cells, i, r, t⟩ := s
  dsimp only at hc hh hp hr g0 g1 g2 g3 s1 s2 s3
  have l0 : fLen [.ref 0] h = some (.int cells.length, h) := by
    have := fLen_of (h := h) (w := .ref 0) (rdL_of_get hc)
    simpa using this
  have fin : ∀ (v : Int) (s' : Hs), s'.cells = cells → 0 ≤ s'.r → (drawn ⟨cells, i, r, t⟩ n) = (v, s') → Q (.int v) (h.set 1 (.lst [.ref 0, .int s'.i, .int s'.r, .int s'.t])) := fun v s' e1 e2 e3 => by
    have := k (h.set 1 (.lst [.ref 0, .int s'.i, .int s'.r, .int s'.t])) ⟨by simp, fun i o hi z => by rw [List.getElem?_set_ne (by omega)]; exact z⟩ (by
      rw [e3]
      exact ⟨by rw [List.getElem?_set_ne (by decide), e1]; exact hc, set1_get h2, by rw [e1]; exact hp, e2⟩)
    rw [e3] at this
    exact this
  have n2 : n < 18446744073709551616 := n1
  have nn : n ≠ 0 := by omega
  by_cases cr : r = 0
  · subst cr
    by_cases ci : i < cells.length
    · have hcell : oIx (.ref 0) (.int i) h = some (.int cells[i], h) := hand_get hc (atI_of (by omega) (by simp [ci]))
      have hx : 0 ≤ cells[i] := hp _ (List.getElem_mem ci)
      have hd : cells.getD i 0 = cells[i] := by simp [List.getD_eq_getElem?_getD, ci]
      have hh1 : (h.set 1 (.lst [.ref 0, .int (i + 1), .int 0, .int t]))[1]? = some (.lst [.ref 0, .int (i + 1), .int 0, .int t]) := set1_get h2
      obtain ⟨a0, a1, a2, a3⟩ := hand_ix hh1
      obtain ⟨b1, b2, b3⟩ := hand_set hh1
      by_cases cx : cells[i] < 10 ^ 18
      · have cx' : cells[i] < 1000000000000000000 := cx
        simp [b__law_draw, g0, g1, g2, g3, l0, ci, hcell, s1, cx', a1]
        refine mix_ok _ _ ?_
        simp [n0]
        have := fin _ ⟨cells, i + 1, 0, t⟩ rfl (Int.le_refl 0) (by unfold drawn; rw [if_pos ⟨rfl, ci⟩, if_pos (by rw [hd]; exact cx')])
        rw [hd] at this
        exact this
      · have cx' : ¬ cells[i] < 1000000000000000000 := cx
        have hh2 : (h.set 1 (.lst [.ref 0, .int (i + 1), .int cells[i], .int t]))[1]? = some (.lst [.ref 0, .int (i + 1), .int cells[i], .int t]) := set1_get h2
        obtain ⟨c0, c1, c2, c3⟩ := hand_ix hh2
        obtain ⟨d1, d2, d3⟩ := hand_set hh2
        have cp : 0 < cells[i] := by omega
        simp [b__law_draw, g0, g1, g2, g3, l0, ci, hcell, s1, cx', a1, b2, c2, cp, n0, n2, d2]
        have := fin _ ⟨cells, i + 1, cells[i] / n, t⟩ rfl (Int.ediv_nonneg hx (by omega)) (by unfold drawn; rw [if_pos ⟨rfl, ci⟩, if_neg (by rw [hd]; exact cx'), hd])
        exact this
    · have hh2 : ∀ t', (h.set 1 (.lst [.ref 0, .int i, .int 0, .int t']))[1]? = some (.lst [.ref 0, .int i, .int 0, .int t']) := fun t' => set1_get h2
      have c1 := fun t' => (hand_ix (hh2 t')).2.1
      have c3 := fun t' => (hand_ix (hh2 t')).2.2.2
      simp [b__law_draw, g0, g1, g2, g3, l0, ci, s3, c1, c3]
      refine mix_ok _ _ ?_
      simp [n0]
      exact fin _ ⟨cells, i, 0, _⟩ rfl (Int.le_refl 0) (by unfold drawn; rw [if_neg (fun z => ci z.2), if_neg (Int.lt_irrefl 0)])
  · have cp : 0 < r := by omega
    simp [b__law_draw, g0, g1, g2, g3, l0, cr, s2, cp, n0, n2]
    exact fin _ ⟨cells, i, r / n, t⟩ rfl (Int.ediv_nonneg hr (by omega)) (by unfold drawn; rw [if_neg (fun z => cr z.1), if_pos cp])
theorem hand_ok {ns : List Int} (hl : ns.length ≤ 63) (k : ∀ (h' : HA) (s : Hs), St h' s → h'.length = 2 → Q (.ref 1) h') : RW (m__law_hand [.cst (ns.map W.int)] []) Q X := by
  refine RW_run ?_
  unfold b__law_hand
  simp only [sSeq_eq, SW_then]
  simp [sForE]
  refine SW_forI (enumW 0 (ns.map W.int)) (fun _ ta h => ∃ (t : Int) (x y : Option W), ta = [some (.cst (ns.map W.int)), some (.int t), x, y] ∧ h = []) ?_ ?_ ⟨0, none, none, rfl, rfl⟩
  · rintro ta h ⟨t, x, y, rfl, rfl⟩
    have e : lcT (gNm 3) xYes (eFn fAbs (aCons (eFn fInt (aCons (eVar 3) aNil)) aNil)) [some (.cst (ns.map W.int)), some (.int t), x, none] (ns.map W.int) [] [] = some ((ns.map W.int).map (fun w => match w with | .int i => .int (if i < 0 then -i else i) | w => w), []) := by
      refine lcT_map _ (by simp; omega) fun w hw => ?_
      obtain ⟨i, _, rfl⟩ := List.mem_map.mp hw
      exact ⟨[some (.cst (ns.map W.int)), some (.int t), x, some (.int i)], rfl, rfl, rfl⟩
    simp [eLc, wipeA, e, mkLst_ok]
    refine k _ ⟨ns.map (fun i => if i < 0 then -i else i), 0, 0, t⟩ ⟨?_, rfl, ?_, Int.le_refl 0⟩ rfl
    · simp
    · intro c hc
      obtain ⟨i, _, rfl⟩ := List.mem_map.mp hc
      by_cases q : i < 0
      · rw [if_pos q]; omega
      · rw [if_neg q]; omega
  · rintro kk w ta h hk ⟨t, x, y, rfl, rfl⟩
    obtain ⟨z, hz, rfl⟩ := enumW_at _ _ _ _ hk
    have hkl : kk < 63 := by have := (List.getElem?_eq_some_iff.mp hz).1; simp at this; omega
    rw [List.getElem?_map] at hz
    obtain ⟨i, hi, rfl⟩ := Option.map_eq_some_iff.mp hz
    refine ⟨[some (.cst (ns.map W.int)), some (.int t), some (.int (0 + kk : Nat)), some (.int i)], [], rfl, ?_⟩
    have m : mulOk i ((kk : Int) + 7) = true := mulOk_r (by omega) (by omega)
    simp [m]
end
/-! the same, as values -/
def v__law_draw : VM := fun ds s => match ds with
  | [.hnd, .int n] => if 0 < n ∧ n < 2 ^ 64 then .ok (.int (drawn s n).1) (drawn s n).2 else .stuck
  | _ => .stuck
theorem Rep_hnd {O : Nat → Prop} {h : HA} {w : W} (r : Rep O h w .hnd) : w = .ref 1 := by
  cases r with
  | ref n q => cases q
  | hnd => rfl
theorem dvf__law_draw : DVF v__law_draw m__law_draw := by
  intro O h ws ds s bnd r st
  unfold v__law_draw
  split
  · rename_i n
    cases r with
    | cons r1 r =>
      cases r with
      | cons r2 r =>
        cases r
        obtain rfl := Rep_hnd (r1.1 rfl)
        obtain rfl := (RepB.rep (r2.1 rfl)).int
        split
        · rename_i c
          have key : RW (m__law_draw [.ref 1, .int n] h) (fun w h' => w = .int (drawn s n).1 ∧ Fx h h' ∧ St h' (drawn s n).2) nox := draw_ok st c.1 c.2 fun h' f st' => ⟨rfl, f, st'⟩
          obtain ⟨w, h', e, rfl, f, st'⟩ := key.get
          exact ⟨_, h', e, f, st', .of (.int _)⟩
        · trivial
  · trivial
theorem drawn_lt {s : Hs} {n : Int} (n0 : 0 < n) : 0 ≤ (drawn s n).1 ∧ (drawn s n).1 < n := by
  unfold drawn
  split
  · split
    · exact ⟨Int.emod_nonneg _ (by omega), Int.emod_lt_of_pos _ n0⟩
    · exact ⟨Int.emod_nonneg _ (by omega), Int.emod_lt_of_pos _ n0⟩
  · split
    · exact ⟨Int.emod_nonneg _ (by omega), Int.emod_lt_of_pos _ n0⟩
    · exact ⟨Int.emod_nonneg _ (by omega), Int.emod_lt_of_pos _ n0⟩
/-- the law: its hand, then the rest -/
theorem law_V {v : VSx} {b : Sx} {n : Nat} (p : DVS [] v b) (hn : 2 ≤ n) (k : ∀ s : Hs, ∃ va s', v (none :: some .hnd :: List.replicate (n - 2) none) s = .rt (.bl true) va s') (ns : List Int) (hl : ns.length ≤ 63) :
    ∃ h', runB (sSeq (sSet 1 (eCall m__law_hand 1 [] (aCons (eVar 0) aNil))) b) n [.cst (ns.map W.int)] [] = .ok (.bl true) h' := by
  have key : RW (m__law_hand [.cst (ns.map W.int)] []) (fun w h => w = .ref 1 ∧ (∃ s, St h s) ∧ h.length = 2) nox := hand_ok hl fun h' s st l => ⟨rfl, ⟨s, st⟩, l⟩
  obtain ⟨w, h, e, rfl, ⟨s, st⟩, l⟩ := key.get
  obtain ⟨m, rfl⟩ : ∃ m, n = m + 2 := ⟨n - 2, by omega⟩
  have ta : startA (m + 2) [.cst (ns.map W.int)] = some (.cst (ns.map W.int)) :: none :: List.replicate m none := by
    simp [startA, List.replicate_succ]
  obtain ⟨va1, s1, ev⟩ := k s
  rw [Nat.add_sub_cancel] at ev
  have kv : ∀ (i : Nat) (d : D), ((none :: some .hnd :: List.replicate m none : VEn))[i]? = some (some d) → i = 1 ∧ d = .hnd := fun i d e => by
    cases i with
    | zero => simp at e
    | succ i =>
      cases i with
      | zero => simp at e; exact ⟨rfl, e.symm⟩
      | succ i => simp [List.getElem?_replicate] at e
  have no : ∀ a, ¬ Own (some (.cst (ns.map W.int)) :: some (.ref 1) :: List.replicate m none) (none :: some .hnd :: List.replicate m none : VEn) a := by
    rintro a ⟨i, d, e1, e2, _⟩
    obtain ⟨_, rfl⟩ := kv i d e1
    rcases e2 with z | z <;> cases z
  have R : RE (fun _ => False) 2 [] h (some (.cst (ns.map W.int)) :: some (.ref 1) :: List.replicate m none) (none :: some .hnd :: List.replicate m none) := by
    refine ⟨⟨by simp, fun a z => z.elim False.elim fun z => absurd z (no a), fun i d e => ?_⟩, fun i j a d e e1 o1 => ?_, fun i a d e c => ?_, fun i a d e c => ?_, fun i d e c => ?_, fun p hp => absurd hp (by simp), fun i d e c => ?_, fun a z => z.elim, by omega⟩
    · obtain ⟨rfl, rfl⟩ := kv i d e
      exact ⟨.ref 1, rfl, fun _ => .hnd, fun c => absurd rfl c⟩
    · obtain ⟨_, rfl⟩ := kv i d e1
      rcases o1 with z | z <;> cases z
    · obtain ⟨_, rfl⟩ := kv i d e; cases c
    · obtain ⟨_, rfl⟩ := kv i d e; cases c
    · obtain ⟨_, rfl⟩ := kv i d e; cases c
    · obtain ⟨_, rfl⟩ := kv i d e; cases c
  have g := p (fun _ => False) 2 [] h _ _ s rfl R st
  rw [ev] at g
  obtain ⟨w, ta', h', e2, _, _, _, q⟩ := g
  obtain rfl := q.b.bl
  refine ⟨h', ?_⟩
  unfold runB
  rw [ta]
  have e3 : sSet 1 (eCall m__law_hand 1 [] (aCons (eVar 0) aNil)) (some (.cst (ns.map W.int)) :: none :: List.replicate m none) [] = .nx (some (.cst (ns.map W.int)) :: some (.ref 1) :: List.replicate m none) h := by
    simp [e]
  simp only [sSeq, e3, SR.then, e2]
end JP

namespace J
open PySem PySem.Spec PyProof.Rows L2
/-! ### reading of V -/
abbrev VXP : Type := Nat → List (Nat × D) → Hs → Prop
def noxV : VXP := fun _ _ _ => False
inductive Tkv {α : Type} (Q : α → Hs → Prop) (X : VXP) : Type where
  | tk
@[irreducible] def PR {α : Type} (r : VR α) (Q : α → Hs → Prop) (X : VXP) (d : Tkv Q X := .tk) : Prop := match r with
  | .ok a s => Q a s
  | .exc c fs s => X c fs s
  | .stuck => False
structure Pz where
  n : VEn → Hs → Prop
  r : D → VEn → Hs → Prop
  b : VEn → Hs → Prop
  c : VEn → Hs → Prop
  x : Nat → List (Nat × D) → VEn → Hs → Prop
inductive Tsv (p : Pz) : Type where
  | tk
@[irreducible] def PS (r : VSR) (p : Pz) (d : Tsv p := .tk) : Prop := match r with
  | .nx va s => p.n va s
  | .rt d va s => p.r d va s
  | .bk va s => p.b va s
  | .ct va s => p.c va s
  | .exc c fs va s => p.x c fs va s
  | .stuck => False
section
variable {α β : Type} {Q Q' : α → Hs → Prop} {X X' : VXP} {s : Hs} {va : VEn} {p p' : Pz} {v v1 v2 v3 : VE} {t u : VT} {ar : VA} {z1 z2 : VSx} {d : D} {i j : Int} {k : Kd} {xs ys : List D}
@[simp] theorem PR_ok {a : α} : PR (.ok a s) Q X = Q a s := by unfold PR; rfl
@[simp] theorem PR_exc {c : Nat} {fs : List (Nat × D)} : PR (.exc c fs s : VR α) Q X = X c fs s := by unfold PR; rfl
@[simp] theorem PR_stuck : PR (.stuck : VR α) Q X = False := by unfold PR; rfl
@[simp] theorem PR_bind {r : VR β} {k : β → Hs → VR α} : PR (r.bind k) Q X = PR r (fun a s => PR (k a s) Q X) X := by cases r <;> simp only [PR_ok, PR_exc, PR_stuck, VR.bind]
theorem PR.imp {r : VR α} (h : PR r Q X) (f : ∀ a s, Q a s → Q' a s) (g : ∀ c fs s, X c fs s → X' c fs s := by exact fun _ _ _ z => z) : PR r Q' X' := by
  unfold PR at h ⊢
  cases r with
  | ok a h' => exact f _ _ h
  | exc c fs h' => exact g _ _ _ h
  | stuck => exact h
theorem PR.get {r : VR α} (h : PR r Q noxV) : ∃ a s', r = .ok a s' ∧ Q a s' := by
  unfold PR at h
  cases r with
  | ok a h' => exact ⟨a, h', rfl, h⟩
  | exc c fs h' => exact h.elim
  | stuck => exact h.elim
theorem PR.of {r : VR α} {a : α} (e : r = .ok a s) (q : Q a s) : PR r Q X := by rw [e, PR_ok]; exact q
@[simp] theorem PS_nx : PS (.nx va s) p = p.n va s := by unfold PS; rfl
@[simp] theorem PS_rt : PS (.rt d va s) p = p.r d va s := by unfold PS; rfl
@[simp] theorem PS_bk : PS (.bk va s) p = p.b va s := by unfold PS; rfl
@[simp] theorem PS_ct : PS (.ct va s) p = p.c va s := by unfold PS; rfl
@[simp] theorem PS_exc {c : Nat} {fs : List (Nat × D)} : PS (.exc c fs va s) p = p.x c fs va s := by unfold PS; rfl
@[simp] theorem PS_stuck : PS .stuck p = False := by unfold PS; rfl
@[simp] theorem PS_then {r : VSR} {k : VSx} : PS (r.then k) p = PS r { p with n := fun va s => PS (k va s) p } := by cases r <;> simp only [PS_nx, PS_rt, PS_bk, PS_ct, PS_exc, PS_stuck, VSR.then]
@[simp] theorem PS_to {r : VR α} {k : α → Hs → VSR} : PS (r.to va k) p = PR r (fun a s => PS (k a s) p) (fun c fs s => p.x c fs va s) := by cases r <;> simp only [PR_ok, PR_exc, PR_stuck, VR.to, PS_exc, PS_stuck]
@[simp] theorem PS_turn {r : VSR} {k : VSx} : PS (r.turn k) p = PS r { p with n := fun va s => PS (k va s) p, c := fun va s => PS (k va s) p, b := p.n } := by cases r <;> simp only [PS_nx, PS_rt, PS_bk, PS_ct, PS_exc, PS_stuck, VSR.turn]
theorem PS.imp {r : VSR} (h : PS r p) (n : ∀ va s, p.n va s → p'.n va s) (rr : ∀ w va s, p.r w va s → p'.r w va s) (b : ∀ va s, p.b va s → p'.b va s) (c : ∀ va s, p.c va s → p'.c va s) (x : ∀ c fs va s, p.x c fs va s → p'.x c fs va s) : PS r p' := by
  unfold PS at h ⊢
  cases r with
  | nx ta h' => exact n _ _ h
  | rt w ta h' => exact rr _ _ _ h
  | bk ta h' => exact b _ _ h
  | ct ta h' => exact c _ _ h
  | exc c fs ta h' => exact x _ _ _ _ h
  | stuck => exact h
@[simp] theorem vbind_ok {a : β} {k : β → Hs → VR α} : VR.bind (.ok a s) k = k a s := (rfl)
@[simp] theorem vbind_exc {c : Nat} {fs : List (Nat × D)} {k : β → Hs → VR α} : VR.bind (.exc c fs s) k = .exc c fs s := (rfl)
@[simp] theorem vbind_stuck {k : β → Hs → VR α} : VR.bind .stuck k = .stuck := (rfl)
@[simp] theorem vto_ok {a : α} {k : α → Hs → VSR} : VR.to (.ok a s) va k = k a s := (rfl)
@[simp] theorem vto_exc {c : Nat} {fs : List (Nat × D)} {k : α → Hs → VSR} : VR.to (.exc c fs s) va k = .exc c fs va s := (rfl)
@[simp] theorem vto_stuck {k : α → Hs → VSR} : VR.to .stuck va k = .stuck := (rfl)
@[simp] theorem vthen_nx {k : VSx} : VSR.then (.nx va s) k = k va s := (rfl)
@[simp] theorem vthen_rt {k : VSx} : VSR.then (.rt d va s) k = .rt d va s := (rfl)
@[simp] theorem vthen_exc {c : Nat} {fs : List (Nat × D)} {k : VSx} : VSR.then (.exc c fs va s) k = .exc c fs va s := (rfl)
@[simp] theorem vthen_ct {k : VSx} : VSR.then (.ct va s) k = .ct va s := (rfl)
@[simp] theorem vthen_bk {k : VSx} : VSR.then (.bk va s) k = .bk va s := (rfl)
@[simp] theorem vthen_stuck {k : VSx} : VSR.then .stuck k = .stuck := (rfl)
/-! names -/
def rdK : Kd → Kd
  | .ow => .tm
  | .io => .tm
  | k => k
@[simp] theorem rdK_sh : rdK .sh = .sh := (rfl)
@[simp] theorem rdK_bo : rdK .bo = .bo := (rfl)
@[simp] theorem rdK_tm : rdK .tm = .tm := (rfl)
@[simp] theorem rdK_ow : rdK .ow = .tm := (rfl)
@[simp] theorem rdK_io : rdK .io = .tm := (rfl)
@[simp] theorem vVar_eq {i : Nat} : vVar i va s = gvV va[i]? s := (rfl)
@[simp] theorem gvV_non : gvV (some (some .non)) s = .ok .non s := (rfl)
@[simp] theorem gvV_bl {a : Bool} : gvV (some (some (.bl a))) s = .ok (.bl a) s := (rfl)
@[simp] theorem gvV_int {a : Int} : gvV (some (some (.int a))) s = .ok (.int a) s := (rfl)
@[simp] theorem gvV_str {a : Str} : gvV (some (some (.str a))) s = .ok (.str a) s := (rfl)
@[simp] theorem gvV_tup {a : List D} : gvV (some (some (.tup a))) s = .ok (.tup a) s := (rfl)
@[simp] theorem gvV_hnd : gvV (some (some .hnd)) s = .ok .hnd s := (rfl)
@[simp] theorem gvV_lst {a : List D} : gvV (some (some (.lst k a))) s = .ok (.lst (rdK k) a) s := by cases k <;> rfl
@[simp] theorem gvV_ins {c : Nat} {a : List (Nat × D)} : gvV (some (some (.ins k c a))) s = .ok (.ins (rdK k) c a) s := by cases k <;> rfl
@[simp] theorem gvV_dic {a : List (Key × D)} : gvV (some (some (.dic k a))) s = .ok (.dic (rdK k) a) s := by cases k <;> rfl
theorem gvV_sh (o : okX d = true) (c : kd d = .sh) : gvV (some (some d)) s = .ok d s := by
  show (if okX d = true then VR.ok (rdV d) s else .stuck) = _
  rw [if_pos o, (rdV_kd d).2.1 c]
@[simp] theorem vC_eq : vC d va s = .ok d s := (rfl)
@[simp] theorem ofV_some : ofV (some d) s = .ok d s := (rfl)
@[simp] theorem ofV_none : ofV none s = .stuck := (rfl)
@[simp] theorem vOp_eq {o : D → D → Option D} : vOp o v1 v2 va s = (v1 va s).bind fun x s1 => (v2 va s1).bind fun y s2 => ofV (o x y) s2 := (rfl)
@[simp] theorem vUn_eq {o : D → Option D} : vUn o v va s = (v va s).bind fun x s1 => ofV (o x) s1 := (rfl)
/-! operators -/
@[simp] theorem aAdd_int : aAdd (.int i) (.int j) = some (.int (i + j)) := (rfl)
@[simp] theorem aSub_int : aSub (.int i) (.int j) = some (.int (i - j)) := (rfl)
@[simp] theorem aNeg_int : aNeg (.int i) = some (.int (-i)) := (rfl)
@[simp] theorem aMul_int (l : mulOk i j = true) : aMul (.int i) (.int j) = some (.int (i * j)) := if_pos l
@[simp] theorem aMul_lst : aMul (.lst k xs) (.int i) = if -(2 ^ 63) ≤ i ∧ i < 2 ^ 63 ∧ xs.length * i.toNat ≤ 10000 then some (.lst .ow (List.replicate i.toNat xs).flatten) else none := (rfl)
@[simp] theorem aDiv_int (a : 0 < j) (b : j < 2 ^ 64) : aDiv (.int i) (.int j) = some (.int (i / j)) := if_pos ⟨a, b⟩
@[simp] theorem aMod_int (a : 0 < j) : aMod (.int i) (.int j) = some (.int (i % j)) := if_pos a
@[simp] theorem aPow_int (a : 0 ≤ j ∧ j ≤ 1000000 ∧ i.natAbs < 2 ^ 64) : aPow (.int i) (.int j) = some (.int (i ^ j.toNat)) := if_pos a
@[simp] theorem aLt_int : aLt (.int i) (.int j) = some (.bl (decide (i < j))) := (rfl)
@[simp] theorem aLe_int : aLe (.int i) (.int j) = some (.bl (decide (i ≤ j))) := (rfl)
@[simp] theorem aGt_int : aGt (.int i) (.int j) = some (.bl (decide (j < i))) := (rfl)
@[simp] theorem aGe_int : aGe (.int i) (.int j) = some (.bl (decide (j ≤ i))) := (rfl)
@[simp] theorem aAdd_lst {k k' : Kd} : aAdd (.lst k xs) (.lst k' ys) = if xs.length + ys.length ≤ 10000 then some (.lst .ow (xs ++ ys)) else none := (rfl)
@[simp] theorem aAdd_str {a b : Str} : aAdd (.str a) (.str b) = if a.length + b.length ≤ 10000 then some (.str (a ++ b)) else none := (rfl)
@[simp] theorem aAdd_tup : aAdd (.tup xs) (.tup ys) = if xs ≠ [] ∧ xs.length + ys.length ≤ 10000 then some (.tup (xs ++ ys)) else none := (rfl)
@[simp] theorem aIs_nn : aIs .non .non = some (.bl true) := (rfl)
@[simp] theorem aIsN_nn : aIsN .non .non = some (.bl false) := (rfl)
theorem aIs_n (c : isNon d = false) : aIs d .non = some (.bl false) := by show (isV d .non).map D.bl = _; rw [show isV d .non = some (isNon d) from by cases d <;> rfl, c]; rfl
theorem aIsN_n (c : isNon d = false) : aIsN d .non = some (.bl true) := by show (isV d .non).map (fun b => D.bl (!b)) = _; rw [show isV d .non = some (isNon d) from by cases d <;> rfl, c]; rfl
@[simp] theorem aIs_tup : aIs (.tup xs) .non = some (.bl false) := (rfl)
@[simp] theorem aIs_str {a : Str} : aIs (.str a) .non = some (.bl false) := (rfl)
@[simp] theorem aIs_int : aIs (.int i) .non = some (.bl false) := (rfl)
@[simp] theorem aIs_lst : aIs (.lst k xs) .non = some (.bl false) := (rfl)
@[simp] theorem aIs_ins {c : Nat} {fs : List (Nat × D)} : aIs (.ins k c fs) .non = some (.bl false) := (rfl)
@[simp] theorem aIsN_tup : aIsN (.tup xs) .non = some (.bl true) := (rfl)
@[simp] theorem aIsN_str {a : Str} : aIsN (.str a) .non = some (.bl true) := (rfl)
@[simp] theorem aIsN_int : aIsN (.int i) .non = some (.bl true) := (rfl)
@[simp] theorem aIsN_lst : aIsN (.lst k xs) .non = some (.bl true) := (rfl)
@[simp] theorem aIsN_ins {c : Nat} {fs : List (Nat × D)} : aIsN (.ins k c fs) .non = some (.bl true) := (rfl)
/-! equality -/
theorem beq_dec {α : Type} [DecidableEq α] (a b : α) : (a == b) = decide (a = b) := by by_cases c : a = b <;> simp [c]
@[simp] theorem aEq_int : aEq (.int i) (.int j) = some (.bl (decide (i = j))) := by rw [← beq_dec]; rfl
@[simp] theorem aNe_int : aNe (.int i) (.int j) = some (.bl (!decide (i = j))) := by rw [← beq_dec]; rfl
@[simp] theorem aEq_str {a b : Str} : aEq (.str a) (.str b) = some (.bl (decide (a = b))) := by rw [← beq_dec]; rfl
@[simp] theorem aNe_str {a b : Str} : aNe (.str a) (.str b) = some (.bl (!decide (a = b))) := by rw [← beq_dec]; rfl
@[simp] theorem aEq_bl {a b : Bool} : aEq (.bl a) (.bl b) = some (.bl (decide (a = b))) := by rw [← beq_dec]; rfl
@[simp] theorem aNe_bl {a b : Bool} : aNe (.bl a) (.bl b) = some (.bl (!decide (a = b))) := by rw [← beq_dec]; rfl
@[simp] theorem aEq_nn : aEq .non .non = some (.bl true) := (rfl)
@[simp] theorem aNe_nn : aNe .non .non = some (.bl false) := (rfl)
@[simp] theorem aEq_tn : aEq (.tup xs) .non = some (.bl false) := (rfl)
@[simp] theorem aNe_tn : aNe (.tup xs) .non = some (.bl true) := (rfl)
@[simp] theorem aEq_nt : aEq .non (.tup xs) = some (.bl false) := (rfl)
@[simp] theorem aNe_nt : aNe .non (.tup xs) = some (.bl true) := (rfl)
theorem eqV_tt {n : Nat} : eqV (n + 1) (.tup xs) (.tup ys) = (zipV (eqV n) xs ys).map fun bs => bs.all id && xs.length == ys.length := (rfl)
theorem eqV_ll {n : Nat} {k k' : Kd} : eqV (n + 1) (.lst k xs) (.lst k' ys) = if xs.length ≠ ys.length then some false else (zipV (eqV n) xs ys).map fun bs => bs.all id && xs.length == ys.length := by
  show (if true = true then (if true = true ∧ xs.length ≠ ys.length then some false else (zipV (eqV n) xs ys).map fun bs => bs.all id && xs.length == ys.length) else some false) = _
  simp
theorem zipV_cons {E : D → D → Option Bool} {d e : D} : zipV E (d :: xs) (e :: ys) = (E d e).bind fun b => (zipV E xs ys).map fun bs => b :: bs := by
  show (match E d e, zipV E xs ys with
    | some b, some bs => some (b :: bs)
    | _, _ => none) = _
  cases E d e <;> cases zipV E xs ys <;> rfl
theorem zipV_self {E : D → D → Option Bool} (hE : ∀ d ∈ xs, E d d = some true) : zipV E xs xs = some (List.replicate xs.length true) := by
  induction xs with
  | nil => rfl
  | cons d xs ih =>
    rw [zipV_cons, hE d List.mem_cons_self, ih fun e he => hE e (List.mem_cons_of_mem _ he)]
    rfl
/-- as it is -/
theorem eqV_ls {n : Nat} {k k' : Kd} (h : ∀ d ∈ xs, eqV n d d = some true) : eqV (n + 1) (.lst k xs) (.lst k' xs) = some true := by
  rw [eqV_ll, if_neg (by simp), zipV_self h]
  simp
theorem eqV_ts {n : Nat} (h : ∀ d ∈ xs, eqV n d d = some true) : eqV (n + 1) (.tup xs) (.tup xs) = some true := by
  rw [eqV_tt, zipV_self h]
  simp
/-! items -/
@[simp] theorem atI_natE {α : Type} {xs : List α} {n : Nat} : atI xs (n : Int) = xs[n]? := by
  unfold atI ixN
  rw [if_pos (by omega)]
  by_cases c : n < xs.length
  · rw [if_pos (by omega)]; simp
  · rw [if_neg (by omega)]; simp; omega
@[simp] theorem atI_0 {α : Type} {xs : List α} : atI xs 0 = xs[0]? := atI_natE (n := 0)
@[simp] theorem atI_1 {α : Type} {xs : List α} : atI xs 1 = xs[1]? := atI_natE (n := 1)
@[simp] theorem atI_2 {α : Type} {xs : List α} : atI xs 2 = xs[2]? := atI_natE (n := 2)
@[simp] theorem atI_3 {α : Type} {xs : List α} : atI xs 3 = xs[3]? := atI_natE (n := 3)
theorem atI_ge {α : Type} {xs : List α} {i : Int} (h : 0 ≤ i) : atI xs i = xs[i.toNat]? := by
  obtain ⟨n, rfl⟩ : ∃ n : Nat, i = n := ⟨i.toNat, by omega⟩
  rw [atI_natE]; rfl
@[simp] theorem aIx_lst : aIx (.lst k xs) (.int i) = atI xs i := (rfl)
@[simp] theorem aIx_tup : aIx (.tup xs) (.int i) = atI xs i := (rfl)
@[simp] theorem lookup_nat {n m : Nat} {r : List (Nat × D)} : List.lookup n ((m, d) :: r) = if n = m then some d else List.lookup n r := by
  rw [List.lookup_cons]
  by_cases c : n = m
  · simp [c]
  · rw [if_neg c, show (n == m) = false from by simpa using c]
@[simp] theorem lookup_nil' {n : Nat} : List.lookup n ([] : List (Nat × D)) = none := (rfl)
@[simp] theorem aFld_ins {cs : List Nat} {f c : Nat} {fs : List (Nat × D)} : aFld cs f (.ins k c fs) = if c ∈ cs then fs.lookup f else none := (rfl)
/-! tests -/
@[simp] theorem truV_non : truV .non = some false := (rfl)
@[simp] theorem truV_bl {b : Bool} : truV (.bl b) = some b := (rfl)
@[simp] theorem truV_int : truV (.int i) = some (i != 0) := (rfl)
@[simp] theorem truV_tup : truV (.tup xs) = some (!xs.isEmpty) := (rfl)
@[simp] theorem truV_lst : truV (.lst k xs) = some (!xs.isEmpty) := (rfl)
@[simp] theorem ofVB_some {b : Bool} : ofVB (some b) s = .ok b s := (rfl)
@[simp] theorem uTru_eq : uTru v va s = (v va s).bind fun x s1 => ofVB (truV x) s1 := (rfl)
@[simp] theorem rTbV_bl {b : Bool} : rTbV (.bl b) s = .ok b s := (rfl)
@[simp] theorem uTb_eq : uTb v va s = (v va s).bind rTbV := (rfl)
@[simp] theorem uAnd_eq : uAnd t u va s = (t va s).bind fun b s1 => if b = true then u va s1 else .ok false s1 := (rfl)
@[simp] theorem uOr_eq : uOr t u va s = (t va s).bind fun b s1 => if b = true then .ok true s1 else u va s1 := (rfl)
@[simp] theorem uNot_eq : uNot t va s = (t va s).bind fun b s1 => .ok (!b) s1 := (rfl)
@[simp] theorem uYes_eq : uYes va s = .ok true s := (rfl)
@[simp] theorem vAnd_eq : vAnd v1 v2 va s = (v1 va s).bind (rAndV v2 va) := (rfl)
@[simp] theorem vOr_eq : vOr v1 v2 va s = (v1 va s).bind (rOrV v2 va) := (rfl)
@[simp] theorem vNot_eq : vNot v va s = (v va s).bind rNotV := (rfl)
@[simp] theorem rAndV_bl {b : Bool} : rAndV v2 va (.bl b) s = if b = true then v2 va s else .ok (.bl b) s := by cases b <;> rfl
@[simp] theorem rOrV_bl {b : Bool} : rOrV v2 va (.bl b) s = if b = true then .ok (.bl b) s else v2 va s := by cases b <;> rfl
@[simp] theorem rNotV_bl {b : Bool} : rNotV (.bl b) s = .ok (.bl (!b)) s := (rfl)
@[simp] theorem vIf_eq : vIf t v1 v2 va s = (t va s).bind fun b s1 => if b = true then v1 va s1 else v2 va s1 := (rfl)
@[simp] theorem vChain_eq {o o' : D → D → Option D} : vChain o o' v1 v2 v3 va s = (v1 va s).bind fun x s1 => (v2 va s1).bind fun y s2 => rChainV o' v3 va y s2 (o x y) := (rfl)
@[simp] theorem rChainV_bl {o' : D → D → Option D} {b : Bool} : rChainV o' v3 va d s (some (.bl b)) = if b = true then (v3 va s).bind fun z s3 => ofV (o' d z) s3 else .ok (.bl false) s := by cases b <;> rfl
/-! displays -/
@[simp] theorem arNil_eq : arNil va s = .ok [] s := (rfl)
@[simp] theorem arCons_eq : arCons v ar va s = (v va s).bind fun x s1 => (ar va s1).bind fun xs s2 => .ok (x :: xs) s2 := (rfl)
@[simp] theorem stoV_non : stoV .non = some .non := (rfl)
@[simp] theorem stoV_bl {b : Bool} : stoV (.bl b) = some (.bl b) := (rfl)
@[simp] theorem stoV_int : stoV (.int i) = some (.int i) := (rfl)
@[simp] theorem stoV_str {a : Str} : stoV (.str a) = some (.str a) := (rfl)
@[simp] theorem stoV_tup : stoV (.tup xs) = some (.tup xs) := (rfl)
@[simp] theorem stoV_sh : stoV (.lst .sh xs) = some (.lst .sh xs) := (rfl)
@[simp] theorem stoV_ow : stoV (.lst .ow xs) = some (.lst .sh xs) := (rfl)
@[simp] theorem stoV_ish {c : Nat} {fs : List (Nat × D)} : stoV (.ins .sh c fs) = some (.ins .sh c fs) := (rfl)
@[simp] theorem stoV_iow {c : Nat} {fs : List (Nat × D)} : stoV (.ins .ow c fs) = some (.ins .sh c fs) := (rfl)
@[simp] theorem stoV_dsh {fs : List (Key × D)} : stoV (.dic .sh fs) = some (.dic .sh fs) := (rfl)
@[simp] theorem stoV_dow {fs : List (Key × D)} : stoV (.dic .ow fs) = some (.dic .sh fs) := (rfl)
@[simp] theorem stoV_hnd : stoV .hnd = some .hnd := (rfl)
theorem stoV_of (c : kd d = .sh) : stoV d = some d := by unfold stoV; rw [c]
@[simp] theorem stoVs_nil : stoVs [] = some [] := (rfl)
@[simp] theorem stoVs_cons : stoVs (d :: xs) = (stoV d).bind fun e => (stoVs xs).map fun es => e :: es := by
  show (match stoV d, stoVs xs with
    | some e, some es => some (e :: es)
    | _, _ => none) = _
  cases stoV d <;> cases stoVs xs <;> rfl
@[simp] theorem vTup_eq : vTup ar va s = (ar va s).bind mkTupV := (rfl)
@[simp] theorem vLst_eq : vLst ar va s = (ar va s).bind mkLstV := (rfl)
theorem mkTupV_of (e : stoVs xs = some ys) (l : ys.length ≤ 10000) : mkTupV xs s = .ok (.tup ys) s := by unfold mkTupV; rw [e]; exact if_pos l
theorem mkLstV_of (e : stoVs xs = some ys) (l : ys.length ≤ 10000) : mkLstV xs s = .ok (.lst .ow ys) s := by unfold mkLstV; rw [e]; exact if_pos l
def mkTupO (o : Option (List D)) (s : Hs) : VR D := match o with
  | some ys => if ys.length ≤ 10000 then .ok (.tup ys) s else .stuck
  | none => .stuck
def mkLstO (o : Option (List D)) (s : Hs) : VR D := match o with
  | some ys => if ys.length ≤ 10000 then .ok (.lst .ow ys) s else .stuck
  | none => .stuck
@[simp] theorem mkTupV_eq : mkTupV xs s = mkTupO (stoVs xs) s := (rfl)
@[simp] theorem mkLstV_eq : mkLstV xs s = mkLstO (stoVs xs) s := (rfl)
@[simp] theorem mkTupO_some : mkTupO (some ys) s = if ys.length ≤ 10000 then .ok (.tup ys) s else .stuck := (rfl)
@[simp] theorem mkLstO_some : mkLstO (some ys) s = if ys.length ≤ 10000 then .ok (.lst .ow ys) s else .stuck := (rfl)
/-! built-ins -/
@[simp] theorem vFn_eq {f : List D → Option D} : vFn f ar va s = (ar va s).bind fun xs s1 => ofV (f xs) s1 := (rfl)
@[simp] theorem bLen_lst : bLen [.lst k xs] = some (.int xs.length) := (rfl)
@[simp] theorem bLen_tup : bLen [.tup xs] = some (.int xs.length) := (rfl)
@[simp] theorem bLen_str {a : Str} : bLen [.str a] = if a.length ≤ 10000 then some (.int a.length) else none := (rfl)
@[simp] theorem bList_eq : bList [d] = (itV d).map fun ys => .lst .ow ys := (rfl)
@[simp] theorem bTuple_eq : bTuple [d] = (itV d).map fun ys => .tup ys := (rfl)
@[simp] theorem itV_lst : itV (.lst k xs) = some xs := (rfl)
@[simp] theorem itV_tup : itV (.tup xs) = some xs := (rfl)
@[simp] theorem bAbs_int : bAbs [.int i] = some (.int (if i < 0 then -i else i)) := (rfl)
@[simp] theorem bInt_int : bInt [.int i] = some (.int i) := (rfl)
@[simp] theorem bMax2_int : bMax2 [.int i, .int j] = some (.int (if j > i then j else i)) := (rfl)
@[simp] theorem bMin2_int : bMin2 [.int i, .int j] = some (.int (if j < i then j else i)) := (rfl)
@[simp] theorem rngV1_int (a : -(2 ^ 62) ≤ j) (b : j < 2 ^ 62) : rngV1 [.int j] = some (numD 0 j.toNat) := if_pos ⟨a, b⟩
@[simp] theorem rngV2_int (a : -(2 ^ 62) ≤ i ∧ i < 2 ^ 62 ∧ -(2 ^ 62) ≤ j ∧ j < 2 ^ 62) : rngV2 [.int i, .int j] = some (numD i (j - i).toNat) := if_pos a
@[simp] theorem vListR_eq {rng : List D → Option (List D)} : vListR rng ar va s = (ar va s).bind (rListRV rng) := (rfl)
def lisO (o : Option (List D)) (s : Hs) : VR D := match o with
  | some ys => if ys.length ≤ 10000 then .ok (.lst .ow ys) s else .stuck
  | none => .stuck
@[simp] theorem rListRV_eq {rng : List D → Option (List D)} : rListRV rng xs s = lisO (rng xs) s := (rfl)
@[simp] theorem lisO_some : lisO (some ys) s = if ys.length ≤ 10000 then .ok (.lst .ow ys) s else .stuck := (rfl)
@[simp] theorem numD_length {n : Nat} {lo : Int} : (numD lo n).length = n := numD_len n lo
theorem numD_map : ∀ (n : Nat) (lo : Int), numD lo n = (List.range n).map fun k => D.int (lo + (k : Nat))
  | 0, lo => rfl
  | n + 1, lo => by
    unfold numD
    rw [numD_map n (lo + 1), List.range_succ_eq_map, List.map_cons, List.map_map]
    simp only [Int.natCast_zero, Int.add_zero]
    congr 1
    apply List.map_congr_left
    intro k _
    simp only [Function.comp]
    congr 1
    omega
theorem numD_0 (n : Nat) : numD 0 n = (List.range n).map fun k => D.int (k : Nat) := by
  rw [numD_map]
  apply List.map_congr_left
  intro k _
  simp
/-! isinstance -/
@[simp] theorem vIsi_eq {cs : List Nat} {f : Tg → Option Bool} : vIsi cs f v va s = (v va s).bind (rIsiV cs f) := (rfl)
def isiO (o : Option Bool) (s : Hs) : VR D := match o with
  | some b => .ok (.bl b) s
  | none => .stuck
@[simp] theorem isiO_some {b : Bool} : isiO (some b) s = .ok (.bl b) s := (rfl)
variable {cs : List Nat} {f : Tg → Option Bool}
@[simp] theorem rIsiV_non : rIsiV cs f .non s = isiO (f .non) s := (rfl)
@[simp] theorem rIsiV_bl {b : Bool} : rIsiV cs f (.bl b) s = isiO (f .bl) s := (rfl)
@[simp] theorem rIsiV_int : rIsiV cs f (.int i) s = isiO (f .int) s := (rfl)
@[simp] theorem rIsiV_str {a : Str} : rIsiV cs f (.str a) s = isiO (f .str) s := (rfl)
@[simp] theorem rIsiV_tup : rIsiV cs f (.tup xs) s = isiO (f .tup) s := (rfl)
@[simp] theorem rIsiV_lst : rIsiV cs f (.lst k xs) s = isiO (f .lst) s := (rfl)
@[simp] theorem rIsiV_dic {fs : List (Key × D)} : rIsiV cs f (.dic k fs) s = isiO (f .dic) s := (rfl)
@[simp] theorem rIsiV_ins {c : Nat} {fs : List (Nat × D)} : rIsiV cs f (.ins k c fs) s = if c ∈ cs then isiO (f (.ins c)) s else .stuck := by
  unfold rIsiV tgCV
  by_cases h : c ∈ cs
  · simp [tgV', h]
    rfl
  · simp [tgV', h]
@[simp] theorem isOwn_ins {su : List Nat} {c : Nat} : isOwn cs su (.ins c) = if c ∈ cs then some (decide (c ∈ su)) else none := (rfl)
@[simp] theorem isInt_1 : isInt .int = some true := (rfl)
@[simp] theorem isInt_2 : isInt .bl = some true := (rfl)
@[simp] theorem isInt_3 : isInt .non = some false := (rfl)
@[simp] theorem isInt_4 : isInt .str = some false := (rfl)
@[simp] theorem isInt_5 : isInt .tup = some false := (rfl)
@[simp] theorem isInt_6 : isInt .lst = some false := (rfl)
@[simp] theorem isInt_7 : isInt .dic = some false := (rfl)
@[simp] theorem isBool_1 : isBool .int = some false := (rfl)
@[simp] theorem isBool_2 : isBool .bl = some true := (rfl)
@[simp] theorem isBool_3 : isBool .non = some false := (rfl)
@[simp] theorem isBool_4 : isBool .str = some false := (rfl)
@[simp] theorem isBool_5 : isBool .tup = some false := (rfl)
@[simp] theorem isBool_6 : isBool .lst = some false := (rfl)
@[simp] theorem isBool_7 : isBool .dic = some false := (rfl)
@[simp] theorem isStr_1 : isStr .int = some false := (rfl)
@[simp] theorem isStr_2 : isStr .bl = some false := (rfl)
@[simp] theorem isStr_3 : isStr .non = some false := (rfl)
@[simp] theorem isStr_4 : isStr .str = some true := (rfl)
@[simp] theorem isStr_5 : isStr .tup = some false := (rfl)
@[simp] theorem isStr_6 : isStr .lst = some false := (rfl)
@[simp] theorem isStr_7 : isStr .dic = some false := (rfl)
@[simp] theorem isTup_1 : isTup .int = some false := (rfl)
@[simp] theorem isTup_2 : isTup .bl = some false := (rfl)
@[simp] theorem isTup_3 : isTup .non = some false := (rfl)
@[simp] theorem isTup_4 : isTup .str = some false := (rfl)
@[simp] theorem isTup_5 : isTup .tup = some true := (rfl)
@[simp] theorem isTup_6 : isTup .lst = some false := (rfl)
@[simp] theorem isTup_7 : isTup .dic = some false := (rfl)
@[simp] theorem isLst_1 : isLst .int = some false := (rfl)
@[simp] theorem isLst_2 : isLst .bl = some false := (rfl)
@[simp] theorem isLst_3 : isLst .non = some false := (rfl)
@[simp] theorem isLst_4 : isLst .str = some false := (rfl)
@[simp] theorem isLst_5 : isLst .tup = some false := (rfl)
@[simp] theorem isLst_6 : isLst .lst = some true := (rfl)
@[simp] theorem isLst_7 : isLst .dic = some false := (rfl)
@[simp] theorem isLT_1 : isLT .int = some false := (rfl)
@[simp] theorem isLT_2 : isLT .bl = some false := (rfl)
@[simp] theorem isLT_3 : isLT .non = some false := (rfl)
@[simp] theorem isLT_4 : isLT .str = some false := (rfl)
@[simp] theorem isLT_5 : isLT .tup = some true := (rfl)
@[simp] theorem isLT_6 : isLT .lst = some true := (rfl)
@[simp] theorem isLT_7 : isLT .dic = some false := (rfl)
/-! calls -/
@[simp] theorem vCall_eq {f : VM} {n : Nat} {dd : List D} : vCall f n dd ar va s = (ar va s).bind (rCallV f n dd) := (rfl)
@[simp] theorem vNew_eq {c n : Nat} {f : VM} {dd : List D} : vNew c n f dd ar va s = (ar va s).bind (rNewV c n f dd) := (rfl)
@[simp] theorem argV_non : argV .non = some .non := (rfl)
@[simp] theorem argV_bl {b : Bool} : argV (.bl b) = some (.bl b) := (rfl)
@[simp] theorem argV_int : argV (.int i) = some (.int i) := (rfl)
@[simp] theorem argV_str {a : Str} : argV (.str a) = some (.str a) := (rfl)
@[simp] theorem argV_tup : argV (.tup xs) = some (.tup xs) := (rfl)
@[simp] theorem argV_hnd : argV .hnd = some .hnd := (rfl)
def argK : Kd → Kd
  | .sh => .sh
  | .ow => .sh
  | _ => .bo
@[simp] theorem argK_sh : argK .sh = .sh := (rfl)
@[simp] theorem argK_ow : argK .ow = .sh := (rfl)
@[simp] theorem argK_bo : argK .bo = .bo := (rfl)
@[simp] theorem argK_tm : argK .tm = .bo := (rfl)
@[simp] theorem argV_lst (c : k ≠ .io) : argV (.lst k xs) = some (.lst (argK k) xs) := by cases k <;> first | rfl | exact absurd rfl c
@[simp] theorem argV_ins {c : Nat} {fs : List (Nat × D)} (e : k ≠ .io) : argV (.ins k c fs) = some (.ins (argK k) c fs) := by cases k <;> first | rfl | exact absurd rfl e
@[simp] theorem argV_dic {fs : List (Key × D)} (e : k ≠ .io) : argV (.dic k fs) = some (.dic (argK k) fs) := by cases k <;> first | rfl | exact absurd rfl e
theorem argV_of (c : kd d = .sh ∨ kd d = .bo) : argV d = some d := by rcases c with c | c <;> (unfold argV; rw [c])
@[simp] theorem argVs_nil : argVs [] = some [] := (rfl)
@[simp] theorem argVs_cons : argVs (d :: xs) = (argV d).bind fun e => (argVs xs).map fun es => e :: es := by
  show (match argV d, argVs xs with
    | some e, some es => some (e :: es)
    | _, _ => none) = _
  cases argV d <;> cases argVs xs <;> rfl
def callO (f : VM) (n : Nat) (dd : List D) (o : Option (List D)) (s : Hs) : VR D := match o with
  | some ys => if ys.length + dd.length = n then f (ys ++ dd) s else .stuck
  | none => .stuck
@[simp] theorem rCallV_eq {f : VM} {n : Nat} {dd : List D} : rCallV f n dd xs s = callO f n dd (argVs xs) s := (rfl)
@[simp] theorem callO_some {f : VM} {n : Nat} {dd : List D} : callO f n dd (some ys) s = if ys.length + dd.length = n then f (ys ++ dd) s else .stuck := (rfl)
def newO (c n : Nat) (f : VM) (dd : List D) (o : Option (List D)) (s : Hs) : VR D := match o with
  | some ys => if (1 + ys.length) + dd.length = n then f (.ins .io c [] :: (ys ++ dd)) s else .stuck
  | none => .stuck
@[simp] theorem rNewV_eq {c n : Nat} {f : VM} {dd : List D} : rNewV c n f dd xs s = newO c n f dd (argVs xs) s := (rfl)
@[simp] theorem newO_some {c n : Nat} {f : VM} {dd : List D} : newO c n f dd (some ys) s = if (1 + ys.length) + dd.length = n then f (.ins .io c [] :: (ys ++ dd)) s else .stuck := (rfl)
@[simp] theorem vMeth_eq {al : List VAlt} : vMeth al v ar va s = (v va s).bind (rMethV al ar va) := (rfl)
@[simp] theorem vMeth0_eq {al : List VAlt} : vMeth0 al v va s = (v va s).bind (rMeth0V al) := (rfl)
def methO (o : Option VAlt) (ar : VA) (va : VEn) (x : D) (s : Hs) : VR D := match o with
  | some a => (ar va s).bind fun xs s2 => rCallV a.f a.n a.dd (x :: xs) s2
  | none => .stuck
def methO0 (o : Option VAlt) (x : D) (s : Hs) : VR D := match o with
  | some a => rCallV a.f a.n a.dd [x] s
  | none => .stuck
@[simp] theorem rMethV_ins {al : List VAlt} {c : Nat} {fs : List (Nat × D)} : rMethV al ar va (.ins k c fs) s = methO (altV c al) ar va (.ins k c fs) s := (rfl)
@[simp] theorem rMeth0V_ins {al : List VAlt} {c : Nat} {fs : List (Nat × D)} : rMeth0V al (.ins k c fs) s = methO0 (altV c al) (.ins k c fs) s := (rfl)
@[simp] theorem altV_cons {c : Nat} {a : VAlt} {l : List VAlt} : altV c (a :: l) = if a.c = c then some a else altV c l := (rfl)
@[simp] theorem methO_some {a : VAlt} : methO (some a) ar va d s = (ar va s).bind fun xs s2 => rCallV a.f a.n a.dd (d :: xs) s2 := (rfl)
@[simp] theorem methO0_some {a : VAlt} : methO0 (some a) d s = rCallV a.f a.n a.dd [d] s := (rfl)
@[simp] theorem vEqC_eq {cs : List Nat} {c0 : Nat} {f : VM} : vEqC cs c0 f v1 v2 va s = (v1 va s).bind fun x s1 => (v2 va s1).bind fun y s2 => eqCV cs c0 f x y s2 := (rfl)
/-! slices -/
@[simp] theorem vSl_eq {lo hi : Option VE} : vSl v lo hi va s = (v va s).bind fun x s1 => (partVV lo va s1).bind fun l s2 => (partVV hi va s2).bind fun u s3 => ofV (aSl x l u) s3 := (rfl)
@[simp] theorem partVV_none : partVV none va s = .ok none s := (rfl)
@[simp] theorem partVV_some : partVV (some v) va s = (v va s).bind toIV := (rfl)
@[simp] theorem toIV_int : toIV (.int i) s = .ok (some i) s := (rfl)
@[simp] theorem aSl_lst {lo hi : Option Int} : aSl (.lst k xs) lo hi = some (.lst .ow (cutL xs lo hi)) := (rfl)
theorem aSl_tup {lo hi : Option Int} : aSl (.tup xs) lo hi = if HT.sIx xs.length 0 lo = 0 ∧ HT.sIx xs.length xs.length hi = xs.length then none else some (.tup (cutL xs lo hi)) := (rfl)
/-! statements -/
@[simp] theorem zPass_eq : zPass va s = .nx va s := (rfl)
@[simp] theorem zBrk_eq : zBrk va s = .bk va s := (rfl)
@[simp] theorem zCnt_eq : zCnt va s = .ct va s := (rfl)
@[simp] theorem zSeq_eq : zSeq z1 z2 va s = (z1 va s).then z2 := (rfl)
@[simp] theorem zExp_eq : zExp v va s = (v va s).to va fun _ s1 => .nx va s1 := (rfl)
@[simp] theorem zIf_eq : zIf t z1 z2 va s = (t va s).to va fun c s1 => if c = true then z1 va s1 else z2 va s1 := (rfl)
@[simp] theorem zRetN_eq : zRetN va s = .rt .non va s := (rfl)
@[simp] theorem zRet_eq : zRet v va s = (v va s).to va fun d s1 => .rt (retV d) va s1 := (rfl)
@[simp] theorem retV_non : retV .non = .non := (rfl)
@[simp] theorem retV_bl {b : Bool} : retV (.bl b) = .bl b := (rfl)
@[simp] theorem retV_int : retV (.int i) = .int i := (rfl)
@[simp] theorem retV_str {a : Str} : retV (.str a) = .str a := (rfl)
@[simp] theorem retV_tup : retV (.tup xs) = .tup xs := (rfl)
@[simp] theorem retV_lsh : retV (.lst .sh xs) = .lst .sh xs := (rfl)
@[simp] theorem retV_low : retV (.lst .ow xs) = .lst .ow xs := (rfl)
@[simp] theorem retV_lbo : retV (.lst .bo xs) = .lst .tm xs := (rfl)
@[simp] theorem retV_ltm : retV (.lst .tm xs) = .lst .tm xs := (rfl)
@[simp] theorem retV_ish {c : Nat} {fs : List (Nat × D)} : retV (.ins .sh c fs) = .ins .sh c fs := (rfl)
@[simp] theorem retV_iow {c : Nat} {fs : List (Nat × D)} : retV (.ins .ow c fs) = .ins .ow c fs := (rfl)
theorem retV_of (c : kd d = .sh) : retV d = d := by
  cases d with
  | lst k xs => cases k <;> first | rfl | cases c
  | ins k _ xs => cases k <;> first | rfl | cases c
  | dic k xs => cases k <;> first | rfl | cases c
  | _ => rfl
def retIO (o : Option (Option D)) (va : VEn) (s : Hs) : VSR := match o with
  | some (some d) => if okX d = true then (match kd d with
    | .sh => .rt d va s
    | .ow => .rt d va s
    | .bo => .rt (setK .tm d) va s
    | _ => .stuck) else .stuck
  | _ => .stuck
@[simp] theorem zRetI_eq {i : Nat} : zRetI i va s = retIO va[i]? va s := (rfl)
@[simp] theorem retIO_non : retIO (some (some .non)) va s = .rt .non va s := (rfl)
@[simp] theorem retIO_bl {b : Bool} : retIO (some (some (.bl b))) va s = .rt (.bl b) va s := (rfl)
@[simp] theorem retIO_int : retIO (some (some (.int i))) va s = .rt (.int i) va s := (rfl)
@[simp] theorem retIO_str {a : Str} : retIO (some (some (.str a))) va s = .rt (.str a) va s := (rfl)
@[simp] theorem retIO_tup : retIO (some (some (.tup xs))) va s = .rt (.tup xs) va s := (rfl)
@[simp] theorem retIO_sh : retIO (some (some (.lst .sh xs))) va s = .rt (.lst .sh xs) va s := (rfl)
@[simp] theorem retIO_ow : retIO (some (some (.lst .ow xs))) va s = .rt (.lst .ow xs) va s := (rfl)
@[simp] theorem retIO_bo : retIO (some (some (.lst .bo xs))) va s = .rt (.lst .tm xs) va s := (rfl)
@[simp] theorem retIO_ish {c : Nat} {fs : List (Nat × D)} : retIO (some (some (.ins .sh c fs))) va s = .rt (.ins .sh c fs) va s := (rfl)
@[simp] theorem retIO_iow {c : Nat} {fs : List (Nat × D)} : retIO (some (some (.ins .ow c fs))) va s = .rt (.ins .ow c fs) va s := (rfl)
theorem retIO_of (o : okX d = true) (c : kd d = .sh) : retIO (some (some d)) va s = .rt d va s := by
  show (if okX d = true then (match kd d with
    | .sh => VSR.rt d va s
    | .ow => .rt d va s
    | .bo => .rt (setK .tm d) va s
    | _ => .stuck) else .stuck) = _
  rw [if_pos o, c]
@[simp] theorem zSet_eq {i : Nat} : zSet i v va s = (v va s).to va (kSet i va) := (rfl)
variable {n : Nat}
@[simp] theorem kSet_non : kSet n va .non s = .nx (va.set n (some .non)) s := (rfl)
@[simp] theorem kSet_bl {b : Bool} : kSet n va (.bl b) s = .nx (va.set n (some (.bl b))) s := (rfl)
@[simp] theorem kSet_int : kSet n va (.int i) s = .nx (va.set n (some (.int i))) s := (rfl)
@[simp] theorem kSet_str {a : Str} : kSet n va (.str a) s = .nx (va.set n (some (.str a))) s := (rfl)
@[simp] theorem kSet_tup : kSet n va (.tup xs) s = .nx (va.set n (some (.tup xs))) s := (rfl)
@[simp] theorem kSet_hnd : kSet n va .hnd s = .nx (va.set n (some .hnd)) s := (rfl)
@[simp] theorem kSet_sh : kSet n va (.lst .sh xs) s = .nx (va.set n (some (.lst .sh xs))) s := (rfl)
@[simp] theorem kSet_ow : kSet n va (.lst .ow xs) s = if n < va.length then .nx (va.set n (some (.lst .ow xs))) s else .stuck := (rfl)
@[simp] theorem kSet_ish {c : Nat} {fs : List (Nat × D)} : kSet n va (.ins .sh c fs) s = .nx (va.set n (some (.ins .sh c fs))) s := (rfl)
@[simp] theorem kSet_iow {c : Nat} {fs : List (Nat × D)} : kSet n va (.ins .ow c fs) s = if n < va.length then .nx (va.set n (some (.ins .ow c fs))) s else .stuck := (rfl)
@[simp] theorem kSet_dow {fs : List (Key × D)} : kSet n va (.dic .ow fs) s = if n < va.length then .nx (va.set n (some (.dic .ow fs))) s else .stuck := (rfl)
@[simp] theorem kSet_dsh {fs : List (Key × D)} : kSet n va (.dic .sh fs) s = .nx (va.set n (some (.dic .sh fs))) s := (rfl)
theorem kSet_of (c : kd d = .sh) : kSet n va d s = .nx (va.set n (some d)) s := by unfold kSet; rw [c]
@[simp] theorem zSetH_eq {i : Nat} : zSetH i v va s = (v va s).to va (kSetH i va) := (rfl)
def setHO (i : Nat) (va : VEn) (o : Option D) (s : Hs) : VSR := match o with
  | some d => .nx (va.set i (some d)) s
  | none => .stuck
@[simp] theorem kSetH_eq {i : Nat} : kSetH i va d s = setHO i va (stoV d) s := (rfl)
@[simp] theorem setHO_some {i : Nat} : setHO i va (some d) s = .nx (va.set i (some d)) s := (rfl)
@[simp] theorem vDic0_eq : vDic0 va s = .ok (.dic .ow []) s := (rfl)
@[simp] theorem zAsg_eq {g : VTg} : zAsg v g va s = (v va s).to va (kAsgV va g) := (rfl)
def asgO (o : Option (VEn × Hs)) : VSR := match o with
  | some (va, s) => .nx va s
  | none => .stuck
@[simp] theorem asgO_some : asgO (some (va, s)) = .nx va s := (rfl)
def asgS (va : VEn) (g : VTg) (o : Option D) (s : Hs) : VSR := match o with
  | some d => asgO (g d va s)
  | none => .stuck
@[simp] theorem asgS_some {g : VTg} : asgS va g (some d) s = asgO (g d va s) := (rfl)
@[simp] theorem kAsgV_eq {g : VTg} : kAsgV va g d s = asgS va g (stoV d) s := by
  unfold kAsgV asgS asgO
  cases stoV d with
  | none => rfl
  | some d => dsimp only; try (cases g d va s <;> rfl)
@[simp] theorem gzNm_eq {i : Nat} : gzNm i d va s = some (va.set i (some d), s) := (rfl)
@[simp] theorem gzNil_eq : gzNil [] va s = some (va, s) := (rfl)
@[simp] theorem gzCons_eq {g : VTg} {r : VTgs} : gzCons g r (d :: xs) va s = (g d va s).bind fun q => r xs q.1 q.2 := by
  show (match g d va s with
    | some (va1, s1) => r xs va1 s1
    | none => none) = _
  cases g d va s with
  | none => rfl
  | some q => rfl
@[simp] theorem gzTp_eq {n : Nat} {r : VTgs} : gzTp n r (.tup xs) va s = if xs.length = n then r xs va s else none := (rfl)
@[simp] theorem gvNm_eq {i : Nat} : gvNm i d va = some (va.set i (some d)) := (rfl)
@[simp] theorem gvsNil_eq : gvsNil [] va = some va := (rfl)
@[simp] theorem gvsCons_eq {g : VG} {r : VGs} : gvsCons g r (d :: xs) va = (g d va).bind fun q => r xs q := by
  show (match g d va with
    | some va1 => r xs va1
    | none => none) = _
  cases g d va with
  | none => rfl
  | some q => rfl
@[simp] theorem gvTp_eq {n : Nat} {r : VGs} : gvTp n r (.tup xs) va = if xs.length = n then r xs va else none := (rfl)
def sbO (va : VEn) (j : Nat) (d : D) (r : VR D) : Option (VEn × Hs) := match r with
  | .ok i s1 => (putI va j d i).map fun va1 => (va1, s1)
  | _ => none
@[simp] theorem gzSb_eq {j : Nat} : gzSb j v d va s = sbO va j d (v va s) := (rfl)
@[simp] theorem sbO_ok {j : Nat} {e : D} : sbO va j d (.ok e s) = (putI va j d e).map fun va1 => (va1, s) := (rfl)
theorem putI_ow {j : Nat} {i : Int} (e : va[j]? = some (some (.lst .ow xs))) (i0 : 0 ≤ i) (i1 : i < xs.length) : putI va j d (.int i) = some (va.set j (some (.lst .ow (xs.set i.toNat d)))) := by
  unfold putI
  rw [e]
  dsimp only
  rw [show ixN xs.length i = some i.toNat from by unfold ixN; rw [if_pos i0, if_pos i1]]
  rfl
theorem putI_io {j : Nat} {i : Int} (e : va[j]? = some (some (.lst .io xs))) (i0 : 0 ≤ i) (i1 : i < xs.length) : putI va j d (.int i) = some (va.set j (some (.lst .io (xs.set i.toNat d)))) := by
  unfold putI
  rw [e]
  dsimp only
  rw [show ixN xs.length i = some i.toNat from by unfold ixN; rw [if_pos i0, if_pos i1]]
  rfl
/-! changes of lists -/
def mutO (o : Option (Option D)) (j : Nat) (mV : List D → List D → Option (D × List D)) (va : VEn) (k : D → VEn → Hs → VSR) (ds : List D) (s : Hs) : VSR := match o with
  | some (some (.lst .ow xs)) => (match mV xs ds with
    | some (r, ys) => k r (va.set j (some (.lst .ow ys))) s
    | none => .stuck)
  | some (some (.lst .io xs)) => (match mV xs ds with
    | some (r, ys) => k r (va.set j (some (.lst .io ys))) s
    | none => .stuck)
  | _ => .stuck
def mutR (kk : Kd) (j : Nat) (va : VEn) (k : D → VEn → Hs → VSR) (s : Hs) (o : Option (D × List D)) : VSR := match o with
  | some (r, ys) => k r (va.set j (some (.lst kk ys))) s
  | none => .stuck
variable {mV : List D → List D → Option (D × List D)} {kk : D → VEn → Hs → VSR}
@[simp] theorem zMut_eq {j : Nat} : zMut j mV ar va s = if isOwL va[j]? = true then (ar va s).to va (kMut j mV va fun _ va s => .nx va s) else .stuck := (rfl)
@[simp] theorem zMutS_eq {i j : Nat} : zMutS i j mV ar va s = if isOwL va[j]? = true then (ar va s).to va (kMut j mV va fun d va s => .nx (va.set i (some d)) s) else .stuck := (rfl)
@[simp] theorem isOwL_ow : isOwL (some (some (.lst .ow xs))) = true := (rfl)
@[simp] theorem isOwL_io : isOwL (some (some (.lst .io xs))) = true := (rfl)
@[simp] theorem kMut_eq {j : Nat} : kMut j mV va kk ys s = mutO va[j]? j mV va kk ys s := (rfl)
@[simp] theorem mutO_ow {j : Nat} : mutO (some (some (.lst .ow xs))) j mV va kk ys s = mutR .ow j va kk s (mV xs ys) := (rfl)
@[simp] theorem mutO_io {j : Nat} : mutO (some (some (.lst .io xs))) j mV va kk ys s = mutR .io j va kk s (mV xs ys) := (rfl)
@[simp] theorem mutR_some {j : Nat} {kd0 : Kd} : mutR kd0 j va kk s (some (d, ys)) = kk d (va.set j (some (.lst kd0 ys))) s := (rfl)
@[simp] theorem mAppendV_eq : mAppendV xs [d] = if xs.length < 10000 then (stoV d).map fun e => (.non, xs ++ [e]) else none := (rfl)
@[simp] theorem mExtendV_eq : mExtendV xs [.lst k ys] = if xs.length + ys.length ≤ 10000 then some (.non, xs ++ ys) else none := (rfl)
@[simp] theorem mPopV_eq : mPopV xs [] = (xs[xs.length - 1]?).map fun d => (d, xs.dropLast) := (rfl)
@[simp] theorem mPopAtV_eq : mPopAtV xs [.int i] = if 0 ≤ i ∧ i < 2 ^ 63 then (xs[i.toNat]?).map fun d => (d, xs.eraseIdx i.toNat) else none := (rfl)
@[simp] theorem mInsertV_eq : mInsertV xs [.int i, d] = if xs.length < 10000 ∧ 0 ≤ i ∧ i < 2 ^ 63 then (stoV d).map fun e => (.non, xs.take i.toNat ++ [e] ++ xs.drop i.toNat) else none := (rfl)
def relO (o : Option (Option D)) (i : Nat) (b : VSx) (va : VEn) (s : Hs) : VSR := match o with
  | some (some d) => if kd d = .io then .stuck else b (if kd d = .ow then va.set i (some (setK .sh d)) else va) s
  | _ => b va s
@[simp] theorem zRel_eq {i : Nat} {b : VSx} : zRel i b va s = relO va[i]? i b va s := (rfl)
@[simp] theorem relO_ow {i : Nat} {b : VSx} : relO (some (some (.lst .ow xs))) i b va s = b (va.set i (some (.lst .sh xs))) s := (rfl)
@[simp] theorem relO_iow {i : Nat} {b : VSx} {c : Nat} {fs : List (Nat × D)} : relO (some (some (.ins .ow c fs))) i b va s = b (va.set i (some (.ins .sh c fs))) s := (rfl)
@[simp] theorem relO_dow {i : Nat} {b : VSx} {fs : List (Key × D)} : relO (some (some (.dic .ow fs))) i b va s = b (va.set i (some (.dic .sh fs))) s := (rfl)
@[simp] theorem relO_none {i : Nat} {b : VSx} : relO (some none) i b va s = b va s := (rfl)
theorem relO_sh {i : Nat} {b : VSx} (c : kd d = .sh) : relO (some (some d)) i b va s = b va s := by
  show (if kd d = .io then VSR.stuck else b (if kd d = .ow then va.set i (some (setK .sh d)) else va) s) = _
  rw [c, if_neg (by decide), if_neg (by decide)]
theorem relO_bo {i : Nat} {b : VSx} (c : kd d = .bo) : relO (some (some d)) i b va s = b va s := by
  show (if kd d = .io then VSR.stuck else b (if kd d = .ow then va.set i (some (setK .sh d)) else va) s) = _
  rw [c, if_neg (by decide), if_neg (by decide)]
@[simp] theorem zFd_eq {cs : List Nat} {f j : Nat} : zFd cs f j v va s = (v va s).to va (kFd cs f j va) := (rfl)
def fdO (cs : List Nat) (f j : Nat) (va : VEn) (o : Option D) (s : Hs) (x : Option (Option D)) : VSR := match o with
  | some d' => (match x with
    | some (some (.ins .io c fs)) => if c ∈ cs ∧ fs.length < 1000 then .nx (va.set j (some (.ins .io c (kFd.putV f d' fs)))) s else .stuck
    | some (some (.ins .ow c fs)) => if c ∈ cs ∧ fs.length < 1000 then .nx (va.set j (some (.ins .ow c (kFd.putV f d' fs)))) s else .stuck
    | _ => .stuck)
  | none => .stuck
@[simp] theorem kFd_eq {cs : List Nat} {f j : Nat} : kFd cs f j va d s = fdO cs f j va (stoV d) s va[j]? := (rfl)
@[simp] theorem fdO_io {cs : List Nat} {f j c : Nat} {fs : List (Nat × D)} : fdO cs f j va (some d) s (some (some (.ins .io c fs))) = if c ∈ cs ∧ fs.length < 1000 then .nx (va.set j (some (.ins .io c (kFd.putV f d fs)))) s else .stuck := (rfl)
@[simp] theorem putV_nil {f : Nat} : kFd.putV f d [] = [(f, d)] := (rfl)
@[simp] theorem putV_cons {f g : Nat} {e : D} {r : List (Nat × D)} : kFd.putV f d ((g, e) :: r) = if g = f then (g, d) :: r else (g, e) :: kFd.putV f d r := (rfl)
@[simp] theorem zRaise_eq {c : Nat} {fids : List Nat} : zRaise c fids ar va s = (ar va s).to va (kRaise c fids va) := (rfl)
def raiO (c : Nat) (fids : List Nat) (va : VEn) (o : Option (List D)) (s : Hs) : VSR := match o with
  | some es => if es.length = fids.length ∧ es.length ≤ 1000 then .exc c (fids.zip es).reverse va s else .stuck
  | none => .stuck
@[simp] theorem kRaise_eq {c : Nat} {fids : List Nat} : kRaise c fids va xs s = raiO c fids va (stoVs xs) s := (rfl)
@[simp] theorem raiO_some {c : Nat} {fids : List Nat} : raiO c fids va (some xs) s = if xs.length = fids.length ∧ xs.length ≤ 1000 then .exc c (fids.zip xs).reverse va s else .stuck := (rfl)
/-! defs -/
@[simp] theorem startV_nil {n : Nat} : startV n [] = List.replicate n none := (rfl)
@[simp] theorem startV_cons {n : Nat} : startV (n + 1) (d :: xs) = some d :: startV n xs := by simp [startV]
def ptV (Q : D → Hs → Prop) (X : VXP) : Pz := ⟨fun _ s => Q .non s, fun d _ s => Q d s, fun _ _ => False, fun _ _ => False, fun c fs _ s => X c fs s⟩
theorem PR_run {b : VSx} {n : Nat} {ds : List D} {Q : D → Hs → Prop} (q : PS (b (startV n ds) s) (ptV Q X)) : PR (vRun b n ds s) Q X := by
  unfold vRun
  cases e : b (startV n ds) s with
  | nx ta h' => rw [e, PS_nx] at q; rw [PR_ok]; exact q
  | rt w ta h' => rw [e, PS_rt] at q; rw [PR_ok]; exact q
  | bk ta h' => rw [e, PS_bk] at q; exact q.elim
  | ct ta h' => rw [e, PS_ct] at q; exact q.elim
  | exc c fs ta h' => rw [e, PS_exc] at q; rw [PR_exc]; exact q
  | stuck => rw [e, PS_stuck] at q; exact q.elim
@[simp] theorem ptV_n {Q : D → Hs → Prop} : (ptV Q X).n = fun _ s => Q .non s := (rfl)
@[simp] theorem ptV_r {Q : D → Hs → Prop} : (ptV Q X).r = fun d _ s => Q d s := (rfl)
@[simp] theorem ptV_x {Q : D → Hs → Prop} : (ptV Q X).x = fun c fs _ s => X c fs s := (rfl)
/-- a run's end, as a value -/
def runR (r : VSR) : VR D := match r with
  | .nx _ s => .ok .non s
  | .rt d _ s => .ok d s
  | .exc c fs _ s => .exc c fs s
  | _ => .stuck
theorem vRun_eq {b : VSx} {n : Nat} {ds : List D} : vRun b n ds s = runR (b (startV n ds) s) := (rfl)
@[simp] theorem runR_nx : runR (.nx va s) = .ok .non s := (rfl)
@[simp] theorem runR_rt : runR (.rt d va s) = .ok d s := (rfl)
@[simp] theorem runR_exc {c : Nat} {fs : List (Nat × D)} : runR (.exc c fs va s) = .exc c fs s := (rfl)
def runI (r : VSR) : VR D := match r with
  | .nx va s => endI va s
  | .rt .non va s => endI va s
  | .exc c fs _ s => .exc c fs s
  | _ => .stuck
theorem vRunI_eq {b : VSx} {n : Nat} {ds : List D} : vRunI b n ds s = runI (b (startV n ds) s) := (rfl)
@[simp] theorem runI_nx : runI (.nx va s) = endI va s := (rfl)
@[simp] theorem runI_exc {c : Nat} {fs : List (Nat × D)} : runI (.exc c fs va s) = .exc c fs s := (rfl)
def endO (o : Option (Option D)) (s : Hs) : VR D := match o with
  | some (some d) => .ok (setK .ow d) s
  | _ => .stuck
@[simp] theorem endI_eq : endI va s = endO va[0]? s := (rfl)
@[simp] theorem endO_ins {c : Nat} {fs : List (Nat × D)} : endO (some (some (.ins k c fs))) s = .ok (.ins .ow c fs) s := (rfl)
def ptI (Q : D → Hs → Prop) (X : VXP) : Pz := ⟨fun va s => PR (endI va s) Q X, fun d va s => d = .non ∧ PR (endI va s) Q X, fun _ _ => False, fun _ _ => False, fun c fs _ s => X c fs s⟩
theorem PR_runI {b : VSx} {n : Nat} {ds : List D} {Q : D → Hs → Prop} (q : PS (b (startV n ds) s) (ptI Q X)) : PR (vRunI b n ds s) Q X := by
  unfold vRunI
  cases e : b (startV n ds) s with
  | nx ta h' => rw [e, PS_nx] at q; exact q
  | rt w ta h' => rw [e, PS_rt] at q; obtain ⟨rfl, q⟩ := q; exact q
  | bk ta h' => rw [e, PS_bk] at q; exact q.elim
  | ct ta h' => rw [e, PS_ct] at q; exact q.elim
  | exc c fs ta h' => rw [e, PS_exc] at q; rw [PR_exc]; exact q
  | stuck => rw [e, PS_stuck] at q; exact q.elim
@[simp] theorem ptI_n {Q : D → Hs → Prop} : (ptI Q X).n = fun va s => PR (endI va s) Q X := (rfl)
@[simp] theorem ptI_r {Q : D → Hs → Prop} : (ptI Q X).r = fun d va s => d = .non ∧ PR (endI va s) Q X := (rfl)
@[simp] theorem ptI_x {Q : D → Hs → Prop} : (ptI Q X).x = fun c fs _ s => X c fs s := (rfl)
theorem PS_try {mt : Nat → Option Bool} {i : Nat} {b hd : VSx} (q : PS (b va s) { p with x := fun c fs va1 s1 => (mt c = some true ∧ fs ≠ [] ∧ PS ((hd (va1.set i (some (.xcp c fs))) s1).drop i) p) ∨ (mt c = some false ∧ p.x c fs va1 s1) }) : PS (zTry mt i b hd va s) p := by
  unfold zTry
  cases e : b va s with
  | exc c fs ta1 h1 =>
    rw [e, PS_exc] at q
    rcases q with ⟨a1, a2, a3⟩ | ⟨a1, a2⟩
    · simp only [a1]
      rw [if_neg (by simpa using a2)]
      exact a3
    · simp only [a1]
      rw [PS_exc]
      exact a2
  | nx ta h' => rw [e, PS_nx] at q; rw [PS_nx]; exact q
  | rt w ta h' => rw [e, PS_rt] at q; rw [PS_rt]; exact q
  | bk ta h' => rw [e, PS_bk] at q; rw [PS_bk]; exact q
  | ct ta h' => rw [e, PS_ct] at q; rw [PS_ct]; exact q
  | stuck => rw [e, PS_stuck] at q; exact q.elim
def tryR (mt : Nat → Option Bool) (i : Nat) (hd : VSx) (r : VSR) : VSR := match r with
  | .exc c fs va1 s1 => (match mt c with
    | some true => if fs.isEmpty = true then (hd (va1.set i none) s1).drop i else (hd (va1.set i (some (.xcp c fs))) s1).drop i
    | some false => .exc c fs va1 s1
    | none => .stuck)
  | r => r
theorem zTry_eq {mt : Nat → Option Bool} {i : Nat} {b hd : VSx} : zTry mt i b hd va s = tryR mt i hd (b va s) := (rfl)
@[simp] theorem tryR_nx {mt : Nat → Option Bool} {i : Nat} {hd : VSx} : tryR mt i hd (.nx va s) = .nx va s := (rfl)
@[simp] theorem tryR_rt {mt : Nat → Option Bool} {i : Nat} {hd : VSx} : tryR mt i hd (.rt d va s) = .rt d va s := (rfl)
theorem tryR_exc {mt : Nat → Option Bool} {i c : Nat} {hd : VSx} {fs : List (Nat × D)} (e : mt c = some true) (n : fs ≠ []) : tryR mt i hd (.exc c fs va s) = (hd (va.set i (some (.xcp c fs))) s).drop i := by
  show (match mt c with
    | some true => if fs.isEmpty = true then (hd (va.set i none) s).drop i else (hd (va.set i (some (.xcp c fs))) s).drop i
    | some false => .exc c fs va s
    | none => .stuck) = _
  rw [e]
  cases fs with
  | nil => exact absurd rfl n
  | cons x l => rfl
@[simp] theorem vdrop_rt {i : Nat} : VSR.drop (.rt d va s) i = .rt d va s := (rfl)
@[simp] theorem vdrop_nx {i : Nat} : VSR.drop (.nx va s) i = .nx ((clrV va).set i none) s := (rfl)
def xfO (o : Option (Option D)) (cs : List Nat) (f : Nat) (s : Hs) : VR D := match o with
  | some (some (.xcp c fs)) => if c ∈ cs then ofV (fs.lookup f) s else .stuck
  | _ => .stuck
@[simp] theorem vXf_eq {i f : Nat} {cs : List Nat} : vXf i cs f va s = xfO va[i]? cs f s := (rfl)
@[simp] theorem xfO_x {f c : Nat} {cs : List Nat} {fs : List (Nat × D)} : xfO (some (some (.xcp c fs))) cs f s = if c ∈ cs then ofV (fs.lookup f) s else .stuck := (rfl)
/-! lent lists -/
@[simp] theorem zIO_eq {i n : Nat} {f : VIO} : zIO i f n ar va s = (ar va s).to va (kIO i f n va) := (rfl)
def ioO (i : Nat) (f : VIO) (n : Nat) (va : VEn) (o : Option (List D)) (s : Hs) : VSR := match o with
  | some es => callIO i f n va es s va[i]?
  | none => .stuck
@[simp] theorem kIO_eq {i n : Nat} {f : VIO} : kIO i f n va xs s = ioO i f n va (stoVs xs) s := (rfl)
@[simp] theorem ioO_some {i n : Nat} {f : VIO} : ioO i f n va (some xs) s = callIO i f n va xs s va[i]? := (rfl)
@[simp] theorem callIO_ow {i n : Nat} {f : VIO} : callIO i f n va ys s (some (some (.lst .ow xs))) = if ys.length + 1 = n then putIO i va .ow (f (ys ++ [.lst .io xs]) s) else .stuck := (rfl)
@[simp] theorem callIO_io {i n : Nat} {f : VIO} : callIO i f n va ys s (some (some (.lst .io xs))) = if ys.length + 1 = n then putIO i va .io (f (ys ++ [.lst .io xs]) s) else .stuck := (rfl)
theorem PS_putIO {i : Nat} {r : VR (D × D)} (q : PR r (fun de s' => ∃ ys, de.2 = .lst .io ys ∧ p.n (va.set i (some (.lst k ys))) s') noxV) : PS (putIO i va k r) p := by
  obtain ⟨⟨d, e'⟩, s', e0, ys, e, q2⟩ := q.get
  dsimp only at e
  subst e
  rw [e0]
  show PS (.nx _ _) p
  rw [PS_nx]
  exact q2
def ptIO (jp : Nat) (Q : D × D → Hs → Prop) : Pz := ⟨fun va s => ∃ e, va[jp]? = some (some e) ∧ Q (.non, e) s, fun d va s => ∃ e, va[jp]? = some (some e) ∧ Q (d, e) s, fun _ _ => False, fun _ _ => False, fun _ _ _ _ => False⟩
theorem PR_runIO {b : VSx} {n jp : Nat} {ds : List D} {Q : D × D → Hs → Prop} (q : PS (b (startV n ds) s) (ptIO jp Q)) : PR (vRunIO b n jp ds s) Q X := by
  unfold vRunIO
  cases e : b (startV n ds) s with
  | nx ta h' => rw [e, PS_nx] at q; obtain ⟨x, e1, q⟩ := q; simp only [endIO, e1, PR_ok]; exact q
  | rt w ta h' => rw [e, PS_rt] at q; obtain ⟨x, e1, q⟩ := q; simp only [endIO, e1, PR_ok]; exact q
  | bk ta h' => rw [e, PS_bk] at q; exact q.elim
  | ct ta h' => rw [e, PS_ct] at q; exact q.elim
  | exc c fs ta h' => rw [e, PS_exc] at q; exact q.elim
  | stuck => rw [e, PS_stuck] at q; exact q.elim
@[simp] theorem ptIO_n {jp : Nat} {Q : D × D → Hs → Prop} : (ptIO jp Q).n = fun va s => ∃ e, va[jp]? = some (some e) ∧ Q (.non, e) s := (rfl)
@[simp] theorem ptIO_r {jp : Nat} {Q : D × D → Hs → Prop} : (ptIO jp Q).r = fun d va s => ∃ e, va[jp]? = some (some e) ∧ Q (d, e) s := (rfl)
/-! loops -/
theorem PS_forV {g : VTg} {b : VSx} (xs : List D) (I : Nat → VEn → Hs → Prop) (hend : ∀ va s, I xs.length va s → p.n va s)
    (step : ∀ k d va s, xs[k]? = some d → I k va s → ∃ va1 s1, g d va s = some (va1, s1) ∧ PS (b va1 s1) { p with n := I (k + 1), c := I (k + 1), b := p.n }) (q : I 0 va s) : PS (forV g b xs va s) p := by
  have key : ∀ (ds : List D) (k : Nat) (va : VEn) (s : Hs), k + ds.length = xs.length → xs.drop k = ds → I k va s → PS (forV g b ds va s) p := by
    intro ds
    induction ds with
    | nil =>
      intro k va s e _ z
      have : k = xs.length := by simpa using e
      subst this
      show PS (.nx va s) p
      rw [PS_nx]
      exact hend va s z
    | cons d ds ih =>
      intro k va s e dd z
      have hk : xs[k]? = some d := by
        have := congrArg (fun l => l[0]?) dd
        simpa [List.getElem?_drop] using this
      have e2 : k + 1 + ds.length = xs.length := by simp at e; omega
      have hd : xs.drop (k + 1) = ds := by
        have := congrArg (List.drop 1) dd
        simpa [List.drop_drop, Nat.add_comm] using this
      obtain ⟨va1, s1, e1, q1⟩ := step k d va s hk z
      show PS (match g d va s with
        | some (va1, s1) => (b va1 s1).turn (forV g b ds)
        | none => .stuck) p
      rw [e1]
      show PS ((b va1 s1).turn (forV g b ds)) p
      rw [PS_turn]
      exact q1.imp (fun va s z => ih (k + 1) va s e2 hd z) (fun _ _ _ z => z) (fun _ _ z => z) (fun va s z => ih (k + 1) va s e2 hd z) (fun _ _ _ _ z => z)
  exact key xs 0 va s (by simp) rfl q
/-- for x in range(n) -/
theorem PS_forN {g : VTg} {b : VSx} (n : Nat) (I : Nat → VEn → Hs → Prop) (hend : ∀ va s, I n va s → p.n va s)
    (step : ∀ (k : Nat) va s, k < n → I k va s → ∃ va1 s1, g (.int k) va s = some (va1, s1) ∧ PS (b va1 s1) { p with n := I (k + 1), c := I (k + 1), b := p.n }) (q : I 0 va s) : PS (forV g b (numD 0 n) va s) p := by
  refine PS_forV (numD 0 n) I (by rw [numD_len]; exact hend) (fun k d va s e z => ?_) q
  rw [numD_0, List.getElem?_map] at e
  obtain ⟨j, e1, rfl⟩ := Option.map_eq_some_iff.mp e
  rw [List.getElem?_range (by
    rcases Nat.lt_or_ge k n with h | h
    · exact h
    · rw [List.getElem?_eq_none (by simpa using h)] at e1; cases e1)] at e1
  cases e1
  exact step k va s (by
    rcases Nat.lt_or_ge k n with h | h
    · exact h
    · rw [List.getElem?_eq_none (by simpa using h)] at e; cases e) z
def forRO (g : VTg) (b : VSx) (va : VEn) (s : Hs) (o : Option (List D)) : VSR := match o with
  | some xs => forV g b xs va s
  | none => .stuck
@[simp] theorem zForR_eq {rng : List D → Option (List D)} {g : VTg} {b : VSx} : zForR rng ar g b va s = (ar va s).to va fun ds s1 => forRO g b va s1 (rng ds) := by
  unfold zForR forRO
  rfl
@[simp] theorem forRO_some {g : VTg} {b : VSx} : forRO g b va s (some xs) = forV g b xs va s := (rfl)
@[simp] theorem zFor_eq {g : VTg} {b : VSx} : zFor v g b va s = (v va s).to va (forD g b va) := (rfl)
@[simp] theorem forD_tup {g : VTg} {b : VSx} : forD g b va (.tup xs) s = forV g b xs va s := (rfl)
@[simp] theorem forD_sh {g : VTg} {b : VSx} : forD g b va (.lst .sh xs) s = forV g b xs va s := (rfl)
@[simp] theorem forD_ow {g : VTg} {b : VSx} : forD g b va (.lst .ow xs) s = forV g b xs va s := (rfl)
def forIO (o : Option (Option D)) (g : VTg) (b : VSx) (va : VEn) (s : Hs) : VSR := match o with
  | some (some d) => forI g b va d s
  | _ => .stuck
@[simp] theorem zForI_eq {i : Nat} {g : VTg} {b : VSx} : zForI i g b va s = forIO va[i]? g b va s := (rfl)
@[simp] theorem forIO_tup {g : VTg} {b : VSx} : forIO (some (some (.tup xs))) g b va s = forV g b xs va s := (rfl)
@[simp] theorem forIO_sh {g : VTg} {b : VSx} : forIO (some (some (.lst .sh xs))) g b va s = forV g b xs va s := (rfl)
@[simp] theorem forIO_bo {g : VTg} {b : VSx} : forIO (some (some (.lst .bo xs))) g b va s = forV g b xs va s := (rfl)
@[simp] theorem zForE_eq {g : VTg} {b : VSx} : zForE v g b va s = (v va s).to va (enD g b va) := (rfl)
@[simp] theorem enD_sh {g : VTg} {b : VSx} : enD g b va (.lst .sh xs) s = forV g b (enumV xs) va s := (rfl)
@[simp] theorem enD_ow {g : VTg} {b : VSx} : enD g b va (.lst .ow xs) s = forV g b (enumV xs) va s := (rfl)
def enIO (o : Option (Option D)) (g : VTg) (b : VSx) (va : VEn) (s : Hs) : VSR := match o with
  | some (some d) => enI g b va d s
  | _ => .stuck
@[simp] theorem zForEI_eq {i : Nat} {g : VTg} {b : VSx} : zForEI i g b va s = enIO va[i]? g b va s := (rfl)
@[simp] theorem enIO_sh {g : VTg} {b : VSx} : enIO (some (some (.lst .sh xs))) g b va s = forV g b (enumV xs) va s := (rfl)
@[simp] theorem enIO_bo {g : VTg} {b : VSx} : enIO (some (some (.lst .bo xs))) g b va s = forV g b (enumV xs) va s := (rfl)
theorem enumV_get {k : Nat} (e : (enumV xs)[k]? = some d) : ∃ x, xs[k]? = some x ∧ d = .tup [.int (k : Nat), x] := by
  unfold enumV at e
  rw [List.getElem?_mapIdx] at e
  obtain ⟨x, e1, rfl⟩ := Option.map_eq_some_iff.mp e
  exact ⟨x, e1, rfl⟩
@[simp] theorem enumV_len : (enumV xs).length = xs.length := by simp [enumV]
/-! comprehensions -/
@[simp] theorem wipeV_nil : wipeV va [] = va := (rfl)
@[simp] theorem wipeV_cons {i : Nat} {l : List Nat} : wipeV va (i :: l) = (wipeV va l).set i none := (rfl)
def lcO (g : VG) (t : VT) (el : VE) (va : VEn) (s : Hs) (o : Option (List D)) : VR D := match o with
  | some xs => rLcV (lcV g t el va xs [] s)
  | none => .stuck
@[simp] theorem lcO_some {g : VG} {el : VE} : lcO g t el va s (some xs) = rLcV (lcV g t el va xs [] s) := (rfl)
@[simp] theorem vLc_eq {g : VG} {el : VE} {vs : List Nat} : vLc v g t el vs va s = (v va s).bind fun d s1 => lcO g t el (wipeV va vs) s1 (itV d) := by
  unfold vLc lcO
  rfl
@[simp] theorem vLcR_eq {rng : List D → Option (List D)} {g : VG} {el : VE} {vs : List Nat} : vLcR rng ar g t el vs va s = (ar va s).bind fun ds s1 => lcO g t el (wipeV va vs) s1 (rng ds) := by
  unfold vLcR lcO
  rfl
def en1 : List D → Option (List D)
  | [.lst _ xs] => some (enumV xs)
  | _ => none
@[simp] theorem vLcE_eq {g : VG} {el : VE} {vs : List Nat} : vLcE ar g t el vs va s = (ar va s).bind fun ds s1 => lcO g t el (wipeV va vs) s1 (en1 ds) := by
  unfold vLcE
  congr 1
  funext ds s1
  split
  · rfl
  · rename_i h
    have : en1 ds = none := by
      unfold en1
      split
      · exact absurd rfl (h _ _)
      · rfl
    rw [this]
    rfl
@[simp] theorem en1_eq : en1 [.lst k xs] = some (enumV xs) := (rfl)
@[simp] theorem rLcV_ok' : rLcV (.ok xs s) = .ok (.lst .ow xs) s := (rfl)
theorem lcV_acc {g : VG} {el : VE} (f : D → Option D) : ∀ (xs acc : List D), acc.length + xs.length ≤ 10000 → (∀ d ∈ xs, ∃ va1, g d va = some va1 ∧ ((t va1 s = .ok true s ∧ ∃ y y', el va1 s = .ok y s ∧ stoV y = some y' ∧ f d = some y') ∨ (t va1 s = .ok false s ∧ f d = none))) →
    lcV g t el va xs acc s = .ok (acc ++ xs.filterMap f) s
  | [], acc, _, _ => by simp [lcV]
  | d :: xs, acc, l, h => by
    obtain ⟨va1, e1, e2⟩ := h d List.mem_cons_self
    unfold lcV
    rw [e1]
    dsimp only
    rcases e2 with ⟨e2, y, y', e3, e4, e5⟩ | ⟨e2, e5⟩
    · rw [e2]
      dsimp only
      rw [e3]
      dsimp only
      rw [e4]
      dsimp only
      simp only [List.length_cons] at l
      rw [if_pos (by omega), lcV_acc f xs (acc ++ [y']) (by simp; omega) (fun d hd => h d (List.mem_cons_of_mem _ hd)), List.filterMap_cons_some e5]
      simp
    · rw [e2]
      dsimp only
      simp only [List.length_cons] at l
      rw [lcV_acc f xs acc (by omega) (fun d hd => h d (List.mem_cons_of_mem _ hd)), List.filterMap_cons_none e5]
theorem lcV_fm {g : VG} {el : VE} (f : D → Option D) (l : xs.length ≤ 10000) (h : ∀ d ∈ xs, ∃ va1, g d va = some va1 ∧ ((t va1 s = .ok true s ∧ ∃ y y', el va1 s = .ok y s ∧ stoV y = some y' ∧ f d = some y') ∨ (t va1 s = .ok false s ∧ f d = none))) :
    lcV g t el va xs [] s = .ok (xs.filterMap f) s := by
  rw [lcV_acc f xs [] (by simpa using l) h]
  simp
theorem lcV_map {g : VG} {el : VE} (f : D → D) (l : xs.length ≤ 10000) (h : ∀ d ∈ xs, ∃ va1 y, g d va = some va1 ∧ t va1 s = .ok true s ∧ el va1 s = .ok y s ∧ stoV y = some (f d)) :
    lcV g t el va xs [] s = .ok (xs.map f) s := by
  rw [lcV_fm (fun d => some (f d)) l fun d hd => ?_]
  · rw [List.filterMap_eq_map']
  · obtain ⟨va1, y, e1, e2, e3, e4⟩ := h d hd
    exact ⟨va1, e1, .inl ⟨e2, y, f d, e3, e4, rfl⟩⟩
/-- with draws -/
theorem PR_lcV {g : VG} {el : VE} (I : Nat → List D → Hs → Prop) {R : List D → Hs → Prop} (l : xs.length ≤ 10000) (hend : ∀ acc s, I xs.length acc s → R acc s)
    (step : ∀ k d acc s, xs[k]? = some d → I k acc s → ∃ va1, g d va = some va1 ∧ t va1 s = .ok true s ∧ PR (el va1 s) (fun y s3 => ∃ y', stoV y = some y' ∧ I (k + 1) (acc ++ [y']) s3) noxV) (q : I 0 [] s) (la : ∀ k acc s, I k acc s → acc.length = k) : PR (lcV g t el va xs [] s) R X := by
  have key : ∀ (ds : List D) (k : Nat) (acc : List D) (s : Hs), k + ds.length = xs.length → xs.drop k = ds → I k acc s → PR (lcV g t el va ds acc s) R X := by
    intro ds
    induction ds with
    | nil =>
      intro k acc s e _ z
      have : k = xs.length := by simpa using e
      subst this
      show PR (.ok acc s) R X
      rw [PR_ok]
      exact hend acc s z
    | cons d ds ih =>
      intro k acc s e dd z
      have hk : xs[k]? = some d := by
        have := congrArg (fun l => l[0]?) dd
        simpa [List.getElem?_drop] using this
      have e2 : k + 1 + ds.length = xs.length := by simp at e; omega
      have hd : xs.drop (k + 1) = ds := by
        have := congrArg (List.drop 1) dd
        simpa [List.drop_drop, Nat.add_comm] using this
      obtain ⟨va1, e1, et, q1⟩ := step k d acc s hk z
      obtain ⟨y, s3, ey, y', e4, z3⟩ := q1.get
      unfold lcV
      rw [e1]
      dsimp only
      rw [et]
      dsimp only
      rw [ey]
      dsimp only
      rw [e4]
      dsimp only
      rw [if_pos (by rw [la k acc s z]; omega)]
      exact ih (k + 1) (acc ++ [y']) s3 e2 hd z3
  exact key xs 0 [] s (by simp) rfl q
def rLcQ (Q : D → Hs → Prop) : List D → Hs → Prop := fun acc s => Q (.lst .ow acc) s
@[simp] theorem PR_rLcV {r : VR (List D)} {Q : D → Hs → Prop} : PR r (fun acc s => Q (.lst .ow acc) s) noxV → PR (rLcV r) Q X := fun h => by
  obtain ⟨a, s', rfl, q⟩ := h.get
  rw [rLcV_ok', PR_ok]
  exact q
end
end J
namespace JP
open PySem PySem.Spec PyProof.Rows L2 J
theorem draw_PR {s : Hs} {n : Int} {Q : D → Hs → Prop} {X : VXP} (n0 : 0 < n) (n1 : n < 2 ^ 64) (k : ∀ (v : Int) (s' : Hs), 0 ≤ v → v < n → Q (.int v) s') : PR (v__law_draw [.hnd, .int n] s) Q X := by
  show PR (if 0 < n ∧ n < 2 ^ 64 then VR.ok (.int (drawn s n).1) (drawn s n).2 else .stuck) Q X
  rw [if_pos ⟨n0, n1⟩, PR_ok]
  exact k _ _ (drawn_lt n0).1 (drawn_lt n0).2
theorem draw_nat {s : Hs} {n : Nat} {m : Int} {Q : D → Hs → Prop} {X : VXP} (e : m = (n : Int)) (n0 : 0 < n) (n1 : n ≤ 10 ^ 19) (k : ∀ (v : Nat) (s' : Hs), v < n → Q (.int (v : Nat)) s') : PR (v__law_draw [.hnd, .int m] s) Q X := by
  subst e
  refine draw_PR (by omega) (by omega) fun v s' v0 v1 => ?_
  obtain ⟨w, rfl⟩ : ∃ w : Nat, v = w := ⟨v.toNat, by omega⟩
  exact k w s' (by omega)
end JP

namespace JP
open PySem PySem.Spec PyProof.Rows L2 J
def b__law_backs : Sx := (sSeq (sSet 2 (eListR rng1 (aCons (eVar 1) aNil))) (sSeq (sSet 3 (eListR rng1 (aCons (eVar 1) aNil))) (sSeq (sForR rng1 (aCons (eOp oDiv (eVar 1) (eC (.int 2))) aNil) (gNm 4) (sIf (xTb (eOp qEq (eCall m__law_draw 2 [] (aCons (eVar 0) (aCons (eC (.int 3)) aNil))) (eC (.int 0)))) (sSeq (sSet 5 (eLm mPopAt (eVar 3) (aCons (eCall m__law_draw 2 [] (aCons (eVar 0) (aCons (eFn fLen (aCons (eVar 3) aNil)) aNil))) aNil))) (sSeq (sSet 6 (eLm mPopAt (eVar 3) (aCons (eCall m__law_draw 2 [] (aCons (eVar 0) (aCons (eFn fLen (aCons (eVar 3) aNil)) aNil))) aNil))) (sSeq (sAsg (eVar 6) (gSb (eVar 2) (eVar 5))) (sAsg (eVar 5) (gSb (eVar 2) (eVar 6)))))) sPass)) (sRet (eVar 2)))))
def m__law_backs : Mir := runB b__law_backs 7
def vb__law_backs_6 : VSx := (zAsg (vVar 5) (gzSb 2 (vVar 6)))
def vb__law_backs_5 : VSx := (zSeq (zAsg (vVar 6) (gzSb 2 (vVar 5))) vb__law_backs_6)
def vb__law_backs_4 : VSx := (zSeq (zMutS 6 3 mPopAtV (arCons (vCall v__law_draw 2 [] (arCons (vVar 0) (arCons (vFn bLen (arCons (vVar 3) arNil)) arNil))) arNil)) vb__law_backs_5)
def vb__law_backs_3 : VSx := (zIf (uTb (vOp aEq (vCall v__law_draw 2 [] (arCons (vVar 0) (arCons (vC (.int 3)) arNil))) (vC (.int 0)))) (zSeq (zMutS 5 3 mPopAtV (arCons (vCall v__law_draw 2 [] (arCons (vVar 0) (arCons (vFn bLen (arCons (vVar 3) arNil)) arNil))) arNil)) vb__law_backs_4) zPass)
def vb__law_backs_7 : VSx := (zRetI 2)
def vb__law_backs_2 : VSx := (zSeq (zForR rngV1 (arCons (vOp aDiv (vVar 1) (vC (.int 2))) arNil) (gzNm 4) vb__law_backs_3) vb__law_backs_7)
def vb__law_backs_1 : VSx := (zSeq (zSet 3 (vListR rngV1 (arCons (vVar 1) arNil))) vb__law_backs_2)
def vb__law_backs : VSx := (zSeq (zSet 2 (vListR rngV1 (arCons (vVar 1) arNil))) vb__law_backs_1)
def v__law_backs : VM := vRun vb__law_backs 7
theorem dvf__law_backs : DVF v__law_backs m__law_backs := dvf_run (b := vb__law_backs) (bj := b__law_backs) (n := 7) (dvs_seq (dvs_set (i := 2) (by decide) (dv_listR okr_1 (dva_cons dv_var dva_nil))) (dvs_seq (dvs_set (i := 3) (by decide) (dv_listR okr_1 (dva_cons dv_var dva_nil))) (dvs_seq (dvs_forR okr_1 (dva_cons (dv_op oka_div dv_var dv_int) dva_nil) (dvtg_nm (i := 4) (by decide)) (dvs_if (dvt_tb (dv_op oka_eq (dv_call dvf__law_draw (fun _ _ => .nil) (dva_cons dv_var (dva_cons dv_int dva_nil))) dv_int)) (dvs_seq (dvs_mutS (i := 5) (by decide) okm_popAt (dva_cons (dv_call dvf__law_draw (fun _ _ => .nil) (dva_cons dv_var (dva_cons (dv_fn okb_len (dva_cons dv_var dva_nil)) dva_nil))) dva_nil)) (dvs_seq (dvs_mutS (i := 6) (by decide) okm_popAt (dva_cons (dv_call dvf__law_draw (fun _ _ => .nil) (dva_cons dv_var (dva_cons (dv_fn okb_len (dva_cons dv_var dva_nil)) dva_nil))) dva_nil)) (dvs_seq (dvs_asg dv_var (dvtg_sb dv_var)) (dvs_asg dv_var (dvtg_sb dv_var))))) dvs_pass)) dvs_retI)))
def b__law_labels : Sx := (sSeq (sSet 2 (eCall m__law_draw 2 [] (aCons (eVar 0) (aCons (eC (.int 3)) aNil)))) (sSeq (sSet 3 (eC (.int 1))) (sSeq (sIf (xTb (eOp qEq (eCall m__law_draw 2 [] (aCons (eVar 0) (aCons (eC (.int 2)) aNil))) (eC (.int 0)))) (sSeq (sSet 2 (eCall m__law_draw 2 [] (aCons (eVar 0) (aCons (eOp oPow (eC (.int 10)) (eC (.int 8))) aNil)))) (sSet 3 (eOp oAdd (eC (.int 1)) (eCall m__law_draw 2 [] (aCons (eVar 0) (aCons (eOp oDiv (eOp qMul (eC (.int 9)) (eOp oPow (eC (.int 10)) (eC (.int 8)))) (eFn fMax2 (aCons (eC (.int 1)) (aCons (eVar 1) aNil)))) aNil)))))) sPass) (sRet (eLcR rng1 (aCons (eVar 1) aNil) (gNm 4) xYes (eOp oAdd (eVar 2) (eOp qMul (eVar 4) (eVar 3))) [4])))))
def m__law_labels : Mir := runB b__law_labels 5
def vb__law_labels_3 : VSx := (zSetH 3 (vOp aAdd (vC (.int 1)) (vCall v__law_draw 2 [] (arCons (vVar 0) (arCons (vOp aDiv (vOp aMul (vC (.int 9)) (vOp aPow (vC (.int 10)) (vC (.int 8)))) (vFn bMax2 (arCons (vC (.int 1)) (arCons (vVar 1) arNil)))) arNil)))))
def vb__law_labels_4 : VSx := (zRet (vLcR rngV1 (arCons (vVar 1) arNil) (gvNm 4) uYes (vOp aAdd (vVar 2) (vOp aMul (vVar 4) (vVar 3))) [4]))
def vb__law_labels_2 : VSx := (zSeq (zIf (uTb (vOp aEq (vCall v__law_draw 2 [] (arCons (vVar 0) (arCons (vC (.int 2)) arNil))) (vC (.int 0)))) (zSeq (zSetH 2 (vCall v__law_draw 2 [] (arCons (vVar 0) (arCons (vOp aPow (vC (.int 10)) (vC (.int 8))) arNil)))) vb__law_labels_3) zPass) vb__law_labels_4)
def vb__law_labels_1 : VSx := (zSeq (zSetH 3 (vC (.int 1))) vb__law_labels_2)
def vb__law_labels : VSx := (zSeq (zSetH 2 (vCall v__law_draw 2 [] (arCons (vVar 0) (arCons (vC (.int 3)) arNil)))) vb__law_labels_1)
def v__law_labels : VM := vRun vb__law_labels 5
theorem dvf__law_labels : DVF v__law_labels m__law_labels := dvf_run (b := vb__law_labels) (bj := b__law_labels) (n := 5) (dvs_seq (dvs_setH (i := 2) (by decide) (dv_call dvf__law_draw (fun _ _ => .nil) (dva_cons dv_var (dva_cons dv_int dva_nil)))) (dvs_seq (dvs_setH (i := 3) (by decide) dv_int) (dvs_seq (dvs_if (dvt_tb (dv_op oka_eq (dv_call dvf__law_draw (fun _ _ => .nil) (dva_cons dv_var (dva_cons dv_int dva_nil))) dv_int)) (dvs_seq (dvs_setH (i := 2) (by decide) (dv_call dvf__law_draw (fun _ _ => .nil) (dva_cons dv_var (dva_cons (dv_op oka_pow dv_int dv_int) dva_nil)))) (dvs_setH (i := 3) (by decide) (dv_op oka_add dv_int (dv_call dvf__law_draw (fun _ _ => .nil) (dva_cons dv_var (dva_cons (dv_op oka_div (dv_op oka_mul dv_int (dv_op oka_pow dv_int dv_int)) (dv_fn okb_max2 (dva_cons dv_int (dva_cons dv_var dva_nil)))) dva_nil)))))) dvs_pass) (dvs_ret (dv_lcR okr_1 (dva_cons dv_var dva_nil) (dvg_nm (i := 4)) dvt_yes (dv_op oka_add dv_var (dv_op oka_mul dv_var dv_var)))))))
def b_is_whole : Sx := (sRet (eAnd (eIsi [] isInt (eVar 0)) (eAnd (eNot (eIsi [] isBool (eVar 0))) (eChain oLe oLe (eVar 1) (eVar 0) (eVar 2)))))
def m_is_whole : Mir := runB b_is_whole 3
def vb_is_whole : VSx := (zRet (vAnd (vIsi [] isInt (vVar 0)) (vAnd (vNot (vIsi [] isBool (vVar 0))) (vChain aLe aLe (vVar 1) (vVar 0) (vVar 2)))))
def v_is_whole : VM := vRun vb_is_whole 3
theorem dvf_is_whole : DVF v_is_whole m_is_whole := dvf_run (b := vb_is_whole) (bj := b_is_whole) (n := 3) (dvs_ret (dv_and (dv_isi dv_var) (dv_and (dv_not (dv_isi dv_var)) (dv_chain oka_le oka_le dv_var dv_var dv_var))))
def b__row_word : Sx := (sSeq (sIf (xNot (xTru (eIsi [] isLT (eVar 1)))) (sRet (eC (.str "row"))) sPass) (sSeq (sIf (xTb (eOp qNe (eFn fLen (aCons (eVar 1) aNil)) (eVar 2))) (sRet (eC (.str "length"))) sPass) (sSeq (sFor (eVar 1) (gNm 3) (sIf (xNot (xTru (eCall m_is_whole 3 [] (aCons (eVar 3) (aCons (eC (.int 0)) (aCons (eOp oSub (eUn (oFld [57] 18) (eVar 0)) (eC (.int 1))) aNil)))))) (sRet (eC (.str "tie"))) sPass)) (sRet (eC .non)))))
def m__row_word : Mir := runB b__row_word 4
def vb__row_word_3 : VSx := (zIf (uNot (uTru (vCall v_is_whole 3 [] (arCons (vVar 3) (arCons (vC (.int 0)) (arCons (vOp aSub (vUn (aFld [57] 18) (vVar 0)) (vC (.int 1))) arNil)))))) (zRet (vC (.str "tie"))) zPass)
def vb__row_word_4 : VSx := (zRet (vC .non))
def vb__row_word_2 : VSx := (zSeq (zForI 1 (gzNm 3) vb__row_word_3) vb__row_word_4)
def vb__row_word_1 : VSx := (zSeq (zIf (uTb (vOp aNe (vFn bLen (arCons (vVar 1) arNil)) (vVar 2))) (zRet (vC (.str "length"))) zPass) vb__row_word_2)
def vb__row_word : VSx := (zSeq (zIf (uNot (uTru (vIsi [] isLT (vVar 1)))) (zRet (vC (.str "row"))) zPass) vb__row_word_1)
def v__row_word : VM := vRun vb__row_word 4
theorem dvf__row_word : DVF v__row_word m__row_word := dvf_run (b := vb__row_word) (bj := b__row_word) (n := 4) (dvs_seq (dvs_if (dvt_not (dvt_tru (dv_isi dv_var))) (dvs_ret dv_str) dvs_pass) (dvs_seq (dvs_if (dvt_tb (dv_op oka_ne (dv_fn okb_len (dva_cons dv_var dva_nil)) dv_var)) (dvs_ret dv_str) dvs_pass) (dvs_seq (dvs_forI (dvtg_nm (i := 3) (by decide)) (dvs_if (dvt_not (dvt_tru (dv_call dvf_is_whole (fun _ _ => .nil) (dva_cons dv_var (dva_cons dv_int (dva_cons (dv_op oka_sub (dv_un oka_fld dv_var) dv_int) dva_nil)))))) (dvs_ret dv_str) dvs_pass)) (dvs_ret dv_non))))
def b_is_label : Sx := (sRet (eCall m_is_whole 3 [] (aCons (eVar 0) (aCons (eC (.int 0)) (aCons (eC (.int 1000000000)) aNil)))))
def m_is_label : Mir := runB b_is_label 1
def vb_is_label : VSx := (zRet (vCall v_is_whole 3 [] (arCons (vVar 0) (arCons (vC (.int 0)) (arCons (vC (.int 1000000000)) arNil)))))
def v_is_label : VM := vRun vb_is_label 1
theorem dvf_is_label : DVF v_is_label m_is_label := dvf_run (b := vb_is_label) (bj := b_is_label) (n := 1) (dvs_ret (dv_call dvf_is_whole (fun _ _ => .nil) (dva_cons dv_var (dva_cons dv_int (dva_cons dv_int dva_nil)))))
def b__check : Sx := (sSeq (sIf (xOr (xNot (xTru (eIsi [] isLT (eVar 1)))) (xNot (xTru (eIsi [] isLT (eVar 2))))) (sRaise 3 [2, 0] (aCons (eC (.int 0)) (aCons (eC (.str "sequence")) aNil))) sPass) (sSeq (sIf (xTb (eOp oGt (eFn fLen (aCons (eVar 1) aNil)) (eC (.int 60)))) (sRaise 3 [2, 0] (aCons (eC (.int 60)) (aCons (eC (.str "many")) aNil))) sPass) (sSeq (sForR rng1 (aCons (eFn fLen (aCons (eVar 1) aNil)) aNil) (gNm 3) (sSeq (sIf (xNot (xTru (eCall m_is_label 1 [] (aCons (eOp oIx (eVar 1) (eVar 3)) aNil)))) (sRaise 3 [2, 0] (aCons (eVar 3) (aCons (eC (.str "label")) aNil))) sPass) (sSeq (sIf (xAnd (xTb (eOp oGt (eVar 3) (eC (.int 0)))) (xTb (eOp oGe (eOp oIx (eVar 1) (eOp oSub (eVar 3) (eC (.int 1)))) (eOp oIx (eVar 1) (eVar 3))))) (sRaise 3 [2, 0] (aCons (eVar 3) (aCons (eC (.str "order")) aNil))) sPass) (sSeq (sIf (xTb (eOp oGe (eVar 3) (eFn fLen (aCons (eVar 2) aNil)))) (sRaise 3 [2, 0] (aCons (eVar 3) (aCons (eC (.str "row")) aNil))) sPass) (sSeq (sSet 4 (eCall m__row_word 3 [] (aCons (eVar 0) (aCons (eOp oIx (eVar 2) (eVar 3)) (aCons (eVar 3) aNil))))) (sIf (xTb (eOp oIsN (eVar 4) (eC .non))) (sRaise 3 [2, 0] (aCons (eVar 3) (aCons (eVar 4) aNil))) sPass)))))) (sIf (xTb (eOp oGt (eFn fLen (aCons (eVar 2) aNil)) (eFn fLen (aCons (eVar 1) aNil)))) (sRaise 3 [2, 0] (aCons (eFn fLen (aCons (eVar 1) aNil)) (aCons (eC (.str "rows")) aNil))) sPass))))
def m__check : Mir := runB b__check 5
def vb__check_7 : VSx := (zIf (uTb (vOp aIsN (vVar 4) (vC .non))) (zRaise 3 [2, 0] (arCons (vVar 3) (arCons (vVar 4) arNil))) zPass)
def vb__check_6 : VSx := (zSeq (zSetH 4 (vCall v__row_word 3 [] (arCons (vVar 0) (arCons (vOp aIx (vVar 2) (vVar 3)) (arCons (vVar 3) arNil))))) vb__check_7)
def vb__check_5 : VSx := (zSeq (zIf (uTb (vOp aGe (vVar 3) (vFn bLen (arCons (vVar 2) arNil)))) (zRaise 3 [2, 0] (arCons (vVar 3) (arCons (vC (.str "row")) arNil))) zPass) vb__check_6)
def vb__check_4 : VSx := (zSeq (zIf (uAnd (uTb (vOp aGt (vVar 3) (vC (.int 0)))) (uTb (vOp aGe (vOp aIx (vVar 1) (vOp aSub (vVar 3) (vC (.int 1)))) (vOp aIx (vVar 1) (vVar 3))))) (zRaise 3 [2, 0] (arCons (vVar 3) (arCons (vC (.str "order")) arNil))) zPass) vb__check_5)
def vb__check_3 : VSx := (zSeq (zIf (uNot (uTru (vCall v_is_label 1 [] (arCons (vOp aIx (vVar 1) (vVar 3)) arNil)))) (zRaise 3 [2, 0] (arCons (vVar 3) (arCons (vC (.str "label")) arNil))) zPass) vb__check_4)
def vb__check_8 : VSx := (zIf (uTb (vOp aGt (vFn bLen (arCons (vVar 2) arNil)) (vFn bLen (arCons (vVar 1) arNil)))) (zRaise 3 [2, 0] (arCons (vFn bLen (arCons (vVar 1) arNil)) (arCons (vC (.str "rows")) arNil))) zPass)
def vb__check_2 : VSx := (zSeq (zForR rngV1 (arCons (vFn bLen (arCons (vVar 1) arNil)) arNil) (gzNm 3) vb__check_3) vb__check_8)
def vb__check_1 : VSx := (zSeq (zIf (uTb (vOp aGt (vFn bLen (arCons (vVar 1) arNil)) (vC (.int 60)))) (zRaise 3 [2, 0] (arCons (vC (.int 60)) (arCons (vC (.str "many")) arNil))) zPass) vb__check_2)
def vb__check : VSx := (zSeq (zIf (uOr (uNot (uTru (vIsi [] isLT (vVar 1)))) (uNot (uTru (vIsi [] isLT (vVar 2))))) (zRaise 3 [2, 0] (arCons (vC (.int 0)) (arCons (vC (.str "sequence")) arNil))) zPass) vb__check_1)
def v__check : VM := vRun vb__check 5
theorem dvf__check : DVF v__check m__check := dvf_run (b := vb__check) (bj := b__check) (n := 5) (dvs_seq (dvs_if (dvt_or (dvt_not (dvt_tru (dv_isi dv_var))) (dvt_not (dvt_tru (dv_isi dv_var)))) (dvs_raise (dva_cons dv_int (dva_cons dv_str dva_nil))) dvs_pass) (dvs_seq (dvs_if (dvt_tb (dv_op oka_gt (dv_fn okb_len (dva_cons dv_var dva_nil)) dv_int)) (dvs_raise (dva_cons dv_int (dva_cons dv_str dva_nil))) dvs_pass) (dvs_seq (dvs_forR okr_1 (dva_cons (dv_fn okb_len (dva_cons dv_var dva_nil)) dva_nil) (dvtg_nm (i := 3) (by decide)) (dvs_seq (dvs_if (dvt_not (dvt_tru (dv_call dvf_is_label (fun _ _ => .nil) (dva_cons (dv_op oka_ix dv_var dv_var) dva_nil)))) (dvs_raise (dva_cons dv_var (dva_cons dv_str dva_nil))) dvs_pass) (dvs_seq (dvs_if (dvt_and (dvt_tb (dv_op oka_gt dv_var dv_int)) (dvt_tb (dv_op oka_ge (dv_op oka_ix dv_var (dv_op oka_sub dv_var dv_int)) (dv_op oka_ix dv_var dv_var)))) (dvs_raise (dva_cons dv_var (dva_cons dv_str dva_nil))) dvs_pass) (dvs_seq (dvs_if (dvt_tb (dv_op oka_ge dv_var (dv_fn okb_len (dva_cons dv_var dva_nil)))) (dvs_raise (dva_cons dv_var (dva_cons dv_str dva_nil))) dvs_pass) (dvs_seq (dvs_setH (i := 4) (by decide) (dv_call dvf__row_word (fun _ _ => .nil) (dva_cons dv_var (dva_cons (dv_op oka_ix dv_var dv_var) (dva_cons dv_var dva_nil))))) (dvs_if (dvt_tb (dv_op oka_isN dv_var dv_non)) (dvs_raise (dva_cons dv_var (dva_cons dv_var dva_nil))) dvs_pass)))))) (dvs_if (dvt_tb (dv_op oka_gt (dv_fn okb_len (dva_cons dv_var dva_nil)) (dv_fn okb_len (dva_cons dv_var dva_nil)))) (dvs_raise (dva_cons (dv_fn okb_len (dva_cons dv_var dva_nil)) (dva_cons dv_str dva_nil))) dvs_pass))))
def b_Company_zzinitzz : Sx := (sSeq (sExp (eCall m__check 3 [] (aCons (eVar 1) (aCons (eVar 2) (aCons (eVar 3) aNil))))) (sSeq (sFd [58] 19 (eVar 0) (eVar 1)) (sSeq (sFd [58] 20 (eVar 0) (eFn fTuple (aCons (eVar 2) aNil))) (sFd [58] 14 (eVar 0) (eFn fTuple (aCons (eLc (eVar 3) (gNm 4) xYes (eFn fTuple (aCons (eVar 4) aNil)) [4]) aNil))))))
def m_Company_zzinitzz : Mir := runB b_Company_zzinitzz 5
def vb_Company_zzinitzz_3 : VSx := (zFd [58] 14 0 (vFn bTuple (arCons (vLc (vVar 3) (gvNm 4) uYes (vFn bTuple (arCons (vVar 4) arNil)) [4]) arNil)))
def vb_Company_zzinitzz_2 : VSx := (zSeq (zFd [58] 20 0 (vFn bTuple (arCons (vVar 2) arNil))) vb_Company_zzinitzz_3)
def vb_Company_zzinitzz_1 : VSx := (zSeq (zFd [58] 19 0 (vVar 1)) vb_Company_zzinitzz_2)
def vb_Company_zzinitzz : VSx := (zSeq (zExp (vCall v__check 3 [] (arCons (vVar 1) (arCons (vVar 2) (arCons (vVar 3) arNil))))) vb_Company_zzinitzz_1)
def v_Company_zzinitzz : VM := vRunI vb_Company_zzinitzz 5
theorem dvi_Company_zzinitzz : DVI v_Company_zzinitzz m_Company_zzinitzz := dvi_run (b := vb_Company_zzinitzz) (bj := b_Company_zzinitzz) (n := 5) (dvs_seq (dvs_exp (dv_call dvf__check (fun _ _ => .nil) (dva_cons dv_var (dva_cons dv_var (dva_cons dv_var dva_nil))))) (dvs_seq (dvs_fd dv_var) (dvs_seq (dvs_fd (dv_fn okb_tuple (dva_cons dv_var dva_nil))) (dvs_fd (dv_fn okb_tuple (dva_cons (dv_lc dv_var (dvg_nm (i := 4)) dvt_yes (dv_fn okb_tuple (dva_cons dv_var dva_nil))) dva_nil))))))
def b_Ties_zzinitzz : Sx := (sSeq (sIf (xNot (xTru (eIsi [] isLT (eVar 1)))) (sRaise 1 [0] (aCons (eC (.str "row")) aNil)) sPass) (sSeq (sIf (xNot (xTb (eChain oLe oLe (eC (.int 2)) (eFn fLen (aCons (eVar 1) aNil)) (eC (.int 4))))) (sRaise 1 [0] (aCons (eC (.str "count")) aNil)) sPass) (sSeq (sFor (eVar 1) (gNm 2) (sIf (xNot (xTru (eCall m_is_whole 3 [] (aCons (eVar 2) (aCons (eC (.int 0)) (aCons (eOp oSub (eFn fLen (aCons (eVar 1) aNil)) (eC (.int 1))) aNil)))))) (sRaise 1 [0] (aCons (eC (.str "tie")) aNil)) sPass)) (sSeq (sForR rng1 (aCons (eFn fLen (aCons (eVar 1) aNil)) aNil) (gNm 3) (sIf (xTb (eOp qNe (eOp oIx (eVar 1) (eOp oIx (eVar 1) (eVar 3))) (eVar 3))) (sRaise 1 [0] (aCons (eC (.str "back")) aNil)) sPass)) (sSeq (sFd [57] 17 (eVar 0) (eFn fTuple (aCons (eVar 1) aNil))) (sFd [57] 18 (eVar 0) (eFn fLen (aCons (eVar 1) aNil))))))))
def m_Ties_zzinitzz : Mir := runB b_Ties_zzinitzz 4
def vb_Ties_zzinitzz_3 : VSx := (zIf (uNot (uTru (vCall v_is_whole 3 [] (arCons (vVar 2) (arCons (vC (.int 0)) (arCons (vOp aSub (vFn bLen (arCons (vVar 1) arNil)) (vC (.int 1))) arNil)))))) (zRaise 1 [0] (arCons (vC (.str "tie")) arNil)) zPass)
def vb_Ties_zzinitzz_5 : VSx := (zIf (uTb (vOp aNe (vOp aIx (vVar 1) (vOp aIx (vVar 1) (vVar 3))) (vVar 3))) (zRaise 1 [0] (arCons (vC (.str "back")) arNil)) zPass)
def vb_Ties_zzinitzz_7 : VSx := (zFd [57] 18 0 (vFn bLen (arCons (vVar 1) arNil)))
def vb_Ties_zzinitzz_6 : VSx := (zSeq (zFd [57] 17 0 (vFn bTuple (arCons (vVar 1) arNil))) vb_Ties_zzinitzz_7)
def vb_Ties_zzinitzz_4 : VSx := (zSeq (zForR rngV1 (arCons (vFn bLen (arCons (vVar 1) arNil)) arNil) (gzNm 3) vb_Ties_zzinitzz_5) vb_Ties_zzinitzz_6)
def vb_Ties_zzinitzz_2 : VSx := (zSeq (zForI 1 (gzNm 2) vb_Ties_zzinitzz_3) vb_Ties_zzinitzz_4)
def vb_Ties_zzinitzz_1 : VSx := (zSeq (zIf (uNot (uTb (vChain aLe aLe (vC (.int 2)) (vFn bLen (arCons (vVar 1) arNil)) (vC (.int 4))))) (zRaise 1 [0] (arCons (vC (.str "count")) arNil)) zPass) vb_Ties_zzinitzz_2)
def vb_Ties_zzinitzz : VSx := (zSeq (zIf (uNot (uTru (vIsi [] isLT (vVar 1)))) (zRaise 1 [0] (arCons (vC (.str "row")) arNil)) zPass) vb_Ties_zzinitzz_1)
def v_Ties_zzinitzz : VM := vRunI vb_Ties_zzinitzz 4
theorem dvi_Ties_zzinitzz : DVI v_Ties_zzinitzz m_Ties_zzinitzz := dvi_run (b := vb_Ties_zzinitzz) (bj := b_Ties_zzinitzz) (n := 4) (dvs_seq (dvs_if (dvt_not (dvt_tru (dv_isi dv_var))) (dvs_raise (dva_cons dv_str dva_nil)) dvs_pass) (dvs_seq (dvs_if (dvt_not (dvt_tb (dv_chain oka_le oka_le dv_int (dv_fn okb_len (dva_cons dv_var dva_nil)) dv_int))) (dvs_raise (dva_cons dv_str dva_nil)) dvs_pass) (dvs_seq (dvs_forI (dvtg_nm (i := 2) (by decide)) (dvs_if (dvt_not (dvt_tru (dv_call dvf_is_whole (fun _ _ => .nil) (dva_cons dv_var (dva_cons dv_int (dva_cons (dv_op oka_sub (dv_fn okb_len (dva_cons dv_var dva_nil)) dv_int) dva_nil)))))) (dvs_raise (dva_cons dv_str dva_nil)) dvs_pass)) (dvs_seq (dvs_forR okr_1 (dva_cons (dv_fn okb_len (dva_cons dv_var dva_nil)) dva_nil) (dvtg_nm (i := 3) (by decide)) (dvs_if (dvt_tb (dv_op oka_ne (dv_op oka_ix dv_var (dv_op oka_ix dv_var dv_var)) dv_var)) (dvs_raise (dva_cons dv_str dva_nil)) dvs_pass)) (dvs_seq (dvs_fd (dv_fn okb_tuple (dva_cons dv_var dva_nil))) (dvs_fd (dv_fn okb_len (dva_cons dv_var dva_nil))))))))
end JP

namespace JP
open PySem PySem.Spec PyProof.Rows L2 J
/-! ### things: what an argument may be -/
def okA : D → Bool
  | .non => true
  | .bl _ => true
  | .int _ => true
  | .str _ => true
  | .tup _ => true
  | .lst k _ => k == .sh || k == .bo
  | .dic k _ => k == .sh || k == .bo
  | _ => false
def okT (d : D) : Prop := okA d = true ∧ kd d = .sh
section
variable {d : D} {s : Hs} {X : VXP} {Q : D → Hs → Prop} {va : VEn}
theorem okA_cases (T : okA d = true) : d = .non ∨ (∃ b, d = .bl b) ∨ (∃ i, d = .int i) ∨ (∃ x, d = .str x) ∨ (∃ xs, d = .tup xs) ∨ (∃ xs, d = .lst .sh xs) ∨ (∃ xs, d = .lst .bo xs) ∨ (∃ xs, d = .dic .sh xs) ∨ ∃ xs, d = .dic .bo xs := by
  cases d with
  | lst k xs => cases k <;> first | (cases T; done) | simp
  | dic k xs => cases k <;> first | (cases T; done) | simp
  | ins k c fs => cases T
  | xcp c fs => cases T
  | hnd => cases T
  | _ => simp
theorem gvV_A (T : okA d = true) : gvV (some (some d)) s = .ok d s := by
  rcases okA_cases T with rfl | ⟨_, rfl⟩ | ⟨_, rfl⟩ | ⟨_, rfl⟩ | ⟨_, rfl⟩ | ⟨_, rfl⟩ | ⟨_, rfl⟩ | ⟨_, rfl⟩ | ⟨_, rfl⟩ <;> rfl
theorem argV_A (T : okA d = true) : argV d = some d := by
  rcases okA_cases T with rfl | ⟨_, rfl⟩ | ⟨_, rfl⟩ | ⟨_, rfl⟩ | ⟨_, rfl⟩ | ⟨_, rfl⟩ | ⟨_, rfl⟩ | ⟨_, rfl⟩ | ⟨_, rfl⟩ <;> rfl
theorem stoV_T (T : okT d) : stoV d = some d := stoV_of T.2
def isIntD : D → Bool
  | .int _ => true
  | .bl _ => true
  | _ => false
def isBlD : D → Bool
  | .bl _ => true
  | _ => false
def isLstD : D → Bool
  | .lst _ _ => true
  | _ => false
def isTupD : D → Bool
  | .tup _ => true
  | _ => false
theorem isi_int (T : okA d = true) : rIsiV [] isInt d s = .ok (.bl (isIntD d)) s := by
  rcases okA_cases T with rfl | ⟨_, rfl⟩ | ⟨_, rfl⟩ | ⟨_, rfl⟩ | ⟨_, rfl⟩ | ⟨_, rfl⟩ | ⟨_, rfl⟩ | ⟨_, rfl⟩ | ⟨_, rfl⟩ <;> rfl
theorem isi_bl (T : okA d = true) : rIsiV [] isBool d s = .ok (.bl (isBlD d)) s := by
  rcases okA_cases T with rfl | ⟨_, rfl⟩ | ⟨_, rfl⟩ | ⟨_, rfl⟩ | ⟨_, rfl⟩ | ⟨_, rfl⟩ | ⟨_, rfl⟩ | ⟨_, rfl⟩ | ⟨_, rfl⟩ <;> rfl
theorem isi_lst (T : okA d = true) : rIsiV [] isLst d s = .ok (.bl (isLstD d)) s := by
  rcases okA_cases T with rfl | ⟨_, rfl⟩ | ⟨_, rfl⟩ | ⟨_, rfl⟩ | ⟨_, rfl⟩ | ⟨_, rfl⟩ | ⟨_, rfl⟩ | ⟨_, rfl⟩ | ⟨_, rfl⟩ <;> rfl
theorem isi_lt (T : okA d = true) : rIsiV [] isLT d s = .ok (.bl (itV d).isSome) s := by
  rcases okA_cases T with rfl | ⟨_, rfl⟩ | ⟨_, rfl⟩ | ⟨_, rfl⟩ | ⟨_, rfl⟩ | ⟨_, rfl⟩ | ⟨_, rfl⟩ | ⟨_, rfl⟩ | ⟨_, rfl⟩ <;> rfl
theorem len_it {xs : List D} (e : itV d = some xs) : bLen [d] = some (.int xs.length) := by
  cases d <;> first | (cases e; done) | (cases e; rfl)
theorem ix_it {xs : List D} {i : Int} (e : itV d = some xs) : aIx d (.int i) = atI xs i := by
  cases d <;> first | (cases e; done) | (cases e; rfl)
/-! ### whole numbers -/
def isWhD (d : D) (lo hi : Int) : Bool := match d with
  | .int i => decide (lo ≤ i) && decide (i ≤ hi)
  | _ => false
theorem isWhD_int {lo hi : Int} (h : isWhD d lo hi = true) : ∃ i, d = .int i ∧ lo ≤ i ∧ i ≤ hi := by
  cases d <;> first | (cases h; done) | skip
  simp [isWhD] at h
  exact ⟨_, rfl, h⟩
theorem is_whole_eq {lo hi : Int} (T : okA d = true) : v_is_whole [d, .int lo, .int hi] s = .ok (.bl (isWhD d lo hi)) s := by
  rw [v_is_whole, vRun_eq]
  rcases okA_cases T with rfl | ⟨_, rfl⟩ | ⟨i, rfl⟩ | ⟨_, rfl⟩ | ⟨_, rfl⟩ | ⟨_, rfl⟩ | ⟨_, rfl⟩ | ⟨_, rfl⟩ | ⟨_, rfl⟩
  case inr.inr.inl =>
    by_cases c : lo ≤ i
    · simp [vb_is_whole, isWhD, c]
    · simp [vb_is_whole, isWhD, c]
  all_goals simp [vb_is_whole, isWhD]
theorem is_label_eq (T : okA d = true) : v_is_label [d] s = .ok (.bl (isWhD d 0 1000000000)) s := by
  rw [v_is_label, vRun_eq]
  simp [vb_is_label, gvV_A T, argV_A T, is_whole_eq T]
end
/-! ### numbers as values -/
def nD (bs : List Nat) : List D := bs.map fun n => D.int (n : Nat)
@[simp] theorem nD_len (bs : List Nat) : (nD bs).length = bs.length := by simp [nD]
@[simp] theorem nD_get (bs : List Nat) (i : Nat) : (nD bs)[i]? = (bs[i]?).map fun n => D.int (n : Nat) := by simp [nD]
theorem nD_set (bs : List Nat) (i n : Nat) : (nD bs).set i (.int (n : Nat)) = nD (bs.set i n) := by simp [nD, List.map_set]
theorem map_erase {α β : Type} (f : α → β) : ∀ (l : List α) (i : Nat), (l.map f).eraseIdx i = (l.eraseIdx i).map f
  | [], _ => rfl
  | x :: l, 0 => rfl
  | x :: l, i + 1 => by
    show f x :: (l.map f).eraseIdx i = f x :: (l.eraseIdx i).map f
    rw [map_erase f l i]
theorem nD_erase (bs : List Nat) (i : Nat) : (nD bs).eraseIdx i = nD (bs.eraseIdx i) := map_erase _ _ _
theorem numD_nD (n : Nat) : numD 0 n = nD (List.range n) := numD_0 n
/-- backs that are right -/
def Invol (bs : List Nat) : Prop := ∀ k, k < bs.length → ∃ j, bs[k]? = some j ∧ bs[j]? = some k
theorem Invol.range (n : Nat) : Invol (List.range n) := fun k hk => ⟨k, by simp at hk; simp [hk], by simp at hk; simp [hk]⟩
theorem Invol.two {bs : List Nat} (I : Invol bs) {a b : Nat} (ha : bs[a]? = some a) (hb : bs[b]? = some b) (ne : a ≠ b) : Invol ((bs.set a b).set b a) := by
  have la := (List.getElem?_eq_some_iff.mp ha).1
  have lb := (List.getElem?_eq_some_iff.mp hb).1
  intro k hk
  have hk : k < bs.length := by simpa using hk
  by_cases k1 : k = a
  · subst k1
    exact ⟨b, by rw [List.getElem?_set_ne (by omega), List.getElem?_set_self la], by rw [List.getElem?_set_self (by simpa using lb)]⟩
  · by_cases k2 : k = b
    · subst k2
      exact ⟨a, by rw [List.getElem?_set_self (by simpa using lb)], by rw [List.getElem?_set_ne (by omega), List.getElem?_set_self la]⟩
    · obtain ⟨j, e1, e2⟩ := I k hk
      have j1 : j ≠ a := fun z => by subst z; rw [ha] at e2; exact k1 (Option.some.inj e2).symm
      have j2 : j ≠ b := fun z => by subst z; rw [hb] at e2; exact k2 (Option.some.inj e2).symm
      exact ⟨j, by rw [List.getElem?_set_ne (by omega), List.getElem?_set_ne (by omega)]; exact e1, by rw [List.getElem?_set_ne (by omega), List.getElem?_set_ne (by omega)]; exact e2⟩
theorem not_mem_erase {l : List Nat} (n : l.Nodup) {i : Nat} (hi : i < l.length) : l[i] ∉ l.eraseIdx i := by
  rw [List.mem_eraseIdx_iff_getElem]
  rintro ⟨j, hj, hjn, e⟩
  exact hjn ((List.getElem_inj n).mp e)
/-- where the pairing stands -/
def BInv (m i : Nat) (va : VEn) (_ : Hs) : Prop := ∃ (x y z : Option D) (bs ls : List Nat), va = [some .hnd, some (.int m), some (.lst .ow (nD bs)), some (.lst .ow (nD ls)), x, y, z] ∧
    bs.length = m ∧ Invol bs ∧ ls.Nodup ∧ (∀ l ∈ ls, bs[l]? = some l) ∧ m ≤ ls.length + 2 * i ∧ ls.length ≤ m
theorem backs_ok {s : Hs} {X : VXP} {Q : D → Hs → Prop} {m : Nat} (hm : m ≤ 1000) (k : ∀ (s' : Hs) (bs : List Nat), bs.length = m → Invol bs → Q (.lst .ow (nD bs)) s') : PR (v__law_backs [.hnd, .int m] s) Q X := by
  refine PR_run ?_
  have r1 : rngV1 [.int (m : Int)] = some (numD 0 m) := by rw [rngV1_int (by omega) (by omega)]; simp
  have hm' : m ≤ 10000 := by omega
  have r2 : rngV1 [.int ((m : Int) / 2)] = some (numD 0 (m / 2)) := by rw [rngV1_int (by omega) (by omega)]; congr 1
  simp [vb__law_backs, vb__law_backs_1, vb__law_backs_2, r1, r2, hm']
  refine PS_forN (m / 2) (BInv m) ?_ ?_ ⟨none, none, none, List.range m, List.range m, by simp [numD_nD], by simp, Invol.range m, List.nodup_range, fun l hl => by simp at hl; simp [hl], by simp, by simp⟩
  · rintro va s ⟨x, y, z, bs, ls, rfl, a1, a2, a3, a4, a5, a6⟩
    simp [vb__law_backs_7]
    exact k s bs a1 a2
  · rintro i va s hi ⟨x, y, z, bs, ls, rfl, a1, a2, a3, a4, a5, a6⟩
    refine ⟨_, _, rfl, ?_⟩
    simp [vb__law_backs_3]
    refine draw_nat (n := 3) rfl (by decide) (by decide) fun v s1 hv => ?_
    by_cases cv : v = 0
    · subst cv
      have hls : 2 ≤ ls.length := by omega
      simp
      refine draw_nat (n := ls.length) rfl (by omega) (by omega) fun n1 s2 h1 => ?_
      have g1 : (0 : Int) ≤ n1 ∧ (n1 : Int) < 2 ^ 63 := by omega
      simp [g1.1, (by omega : (n1 : Int) < 9223372036854775808), List.getElem?_eq_getElem h1, nD_erase, vb__law_backs_4]
      have lE : (ls.eraseIdx n1).length = ls.length - 1 := by simp [List.length_eraseIdx, h1]
      refine draw_nat (n := (ls.eraseIdx n1).length) rfl (by omega) (by omega) fun n2 s3 h2 => ?_
      have hone : bs[ls[n1]]? = some ls[n1] := a4 _ (List.getElem_mem h1)
      have hmem : (ls.eraseIdx n1)[n2] ∈ ls := (List.eraseIdx_sublist ls n1).subset (List.getElem_mem h2)
      have hother := a4 _ hmem
      have hnot : ls[n1] ∉ ls.eraseIdx n1 := not_mem_erase a3 h1
      have hnot2 : (ls.eraseIdx n1)[n2] ∉ (ls.eraseIdx n1).eraseIdx n2 := not_mem_erase (a3.eraseIdx n1) h2
      have hne : ls[n1] ≠ (ls.eraseIdx n1)[n2] := fun z => hnot (z ▸ List.getElem_mem h2)
      have lo := (List.getElem?_eq_some_iff.mp hone).1
      have lt := (List.getElem?_eq_some_iff.mp hother).1
      simp [(by omega : (n2 : Int) < 9223372036854775808), List.getElem?_eq_getElem h2, nD_erase, vb__law_backs_5, vb__law_backs_6]
      generalize (ls.eraseIdx n1)[n2] = other at *
      generalize ls[n1] = one at *
      have w1 : ∀ va', va' = [some .hnd, some (.int m), some (.lst .ow (nD bs)), some (.lst .ow (nD ((ls.eraseIdx n1).eraseIdx n2))), some (.int i), some (.int one), some (.int other)] → putI va' 2 (.int other) (.int one) = some (va'.set 2 (some (.lst .ow (nD (bs.set one other))))) := fun va' e => by
        subst e
        rw [putI_ow (xs := nD bs) rfl (by omega) (by simp; omega)]
        simp [nD_set]
      have w2 : ∀ va', va' = [some .hnd, some (.int m), some (.lst .ow (nD (bs.set one other))), some (.lst .ow (nD ((ls.eraseIdx n1).eraseIdx n2))), some (.int i), some (.int one), some (.int other)] → putI va' 2 (.int one) (.int other) = some (va'.set 2 (some (.lst .ow (nD ((bs.set one other).set other one))))) := fun va' e => by
        subst e
        rw [putI_ow (xs := nD (bs.set one other)) rfl (by omega) (by simp; omega)]
        simp [nD_set]
      simp [w1, w2]
      refine ⟨_, _, _, (bs.set one other).set other one, (ls.eraseIdx n1).eraseIdx n2, rfl, by simpa using a1, a2.two hone hother hne, (a3.eraseIdx n1).eraseIdx n2, ?_, ?_, ?_⟩
      · intro l hl
        have l1 : l ∈ ls.eraseIdx n1 := (List.eraseIdx_sublist _ _).subset hl
        have l2 : l ∈ ls := (List.eraseIdx_sublist _ _).subset l1
        have e1 : l ≠ one := fun z => hnot (z ▸ l1)
        have e2 : l ≠ other := fun z => hnot2 (z ▸ hl)
        rw [List.getElem?_set_ne (by omega), List.getElem?_set_ne (by omega)]
        exact a4 l l2
      · rw [List.length_eraseIdx, if_pos h2]; omega
      · rw [List.length_eraseIdx, if_pos h2]; omega
    · have cv' : ¬ (v : Int) = 0 := by omega
      simp [cv', cv]
      exact ⟨_, _, _, bs, ls, rfl, a1, a2, a3, a4, by omega, a6⟩
end JP

/-! reading of what V8 adds -/
namespace J
open PySem PySem.Spec PyProof.Rows L2
section
variable {α β : Type} {Q : D → Hs → Prop} {X : VXP} {s : Hs} {va : VEn} {p : Pz} {v v1 v2 v3 : VE} {ar : VA} {d : D} {k : Kd} {xs ys : List D}
@[simp] theorem vSh_eq : vSh v va s = (v va s).bind fun d s1 => .ok (shO d) s1 := (rfl)
@[simp] theorem shO_non : shO .non = .non := (rfl)
@[simp] theorem shO_bl {b : Bool} : shO (.bl b) = .bl b := (rfl)
@[simp] theorem shO_int {i : Int} : shO (.int i) = .int i := (rfl)
@[simp] theorem shO_str {x : Str} : shO (.str x) = .str x := (rfl)
@[simp] theorem shO_tup : shO (.tup xs) = .tup xs := (rfl)
@[simp] theorem shO_low : shO (.lst .ow xs) = .lst .sh xs := (rfl)
@[simp] theorem shO_lsh : shO (.lst .sh xs) = .lst .sh xs := (rfl)
@[simp] theorem shO_iow {c : Nat} {fs : List (Nat × D)} : shO (.ins .ow c fs) = .ins .sh c fs := (rfl)
@[simp] theorem shO_ish {c : Nat} {fs : List (Nat × D)} : shO (.ins .sh c fs) = .ins .sh c fs := (rfl)
def xisO (o : Option (Option D)) (l : List (Nat × Bool)) (s : Hs) : VR D := match o with
  | some (some (.xcp c _)) => (match l.lookup c with
    | some b => .ok (.bl b) s
    | none => .stuck)
  | _ => .stuck
@[simp] theorem vXis_eq {i : Nat} {l : List (Nat × Bool)} : vXis i l va s = xisO va[i]? l s := (rfl)
def xisB' (o : Option Bool) (s : Hs) : VR D := match o with
  | some b => .ok (.bl b) s
  | none => .stuck
@[simp] theorem xisO_x {c : Nat} {fs : List (Nat × D)} {l : List (Nat × Bool)} : xisO (some (some (.xcp c fs))) l s = xisB' (l.lookup c) s := (rfl)
@[simp] theorem xisB'_some {b : Bool} : xisB' (some b) s = .ok (.bl b) s := (rfl)
@[simp] theorem zForZ_eq {g : VTg} {b : VSx} : zForZ ar g b va s = (ar va s).to va (zzD g b va) := (rfl)
@[simp] theorem zzD_tt {g : VTg} {b : VSx} : zzD g b va [.tup xs, .tup ys] s = forV g b (zipV2 xs ys) va s := (rfl)
@[simp] theorem zAsgLT_eq {n : Nat} {r : VTgs} : zAsgLT v n r va s = (v va s).to va (kAsgLT va n r) := (rfl)
def asgLTO (va : VEn) (n : Nat) (r : VTgs) (o : Option (List D)) (s : Hs) : VSR := match o with
  | some xs => if xs.length = n then asgO (r xs va s) else .stuck
  | none => .stuck
@[simp] theorem kAsgLT_eq {n : Nat} {r : VTgs} : kAsgLT va n r d s = asgLTO va n r (itV d) s := by
  unfold kAsgLT asgLTO asgO
  cases itV d with
  | none => rfl
  | some xs => dsimp only; all_goals (split <;> first | rfl | (try (cases r xs va s <;> rfl)))
@[simp] theorem asgLTO_some {n : Nat} {r : VTgs} : asgLTO va n r (some xs) s = if xs.length = n then asgO (r xs va s) else .stuck := (rfl)
theorem intsD_map : ∀ ns : List Int, intsD (ns.map D.int) = some ns
  | [] => rfl
  | n :: r => by simp only [List.map_cons, intsD, intsD_map r]; rfl
theorem keysD_map : ∀ ks : List (List Int), keysD (ks.map tupD) = some ks
  | [] => rfl
  | k :: r => by
    have h : tupDI (tupD k) = some k := intsD_map k
    simp only [List.map_cons, keysD, h, keysD_map r]
    rfl
theorem bSorted_keys {ks : List (List Int)} (h : ks.length < 64) (ok : okKs ks = true) : bSorted [.lst k (ks.map tupD)] = some (.lst .ow ((sortK (TS.code cB) ks).map tupD)) := by
  have e : intsD (ks.map tupD) = none := by
    cases ks with
    | nil => cases ok
    | cons x r => rfl
  unfold bSorted
  dsimp only
  rw [e, keysD_map]
  exact if_pos ⟨h, ok⟩
theorem bSorted_ints {ns : List Int} : bSorted [.lst k (ns.map D.int)] = some (.lst .ow ((sortK id ns).map D.int)) := by
  unfold bSorted
  dsimp only
  rw [intsD_map]
theorem bSortSet_keys {ks : List (List Int)} (h : ks.length < 64) (ok : okKs ks = true) : bSortSet [.lst k (ks.map tupD)] = some (.lst .ow ((uniqK ks).map tupD)) := by
  unfold bSortSet
  dsimp only
  rw [keysD_map]
  exact if_pos ⟨h, ok⟩
end
end J

/-! Ties, made of right backs -/
namespace JP
open PySem PySem.Spec PyProof.Rows L2 J
def tiesD (k : Kd) (bs : List Nat) : D := .ins k 57 [(17, .tup (nD bs)), (18, .int bs.length)]
section
variable {s : Hs} {X : VXP} {Q : D → Hs → Prop}
theorem ties_init {k : Kd} {bs : List Nat} (hk : k = .sh ∨ k = .bo) (I : Invol bs) (l2 : 2 ≤ bs.length) (l4 : bs.length ≤ 4) (q : Q (tiesD .ow bs) s) : PR (v_Ties_zzinitzz [.ins .io 57 [], .lst k (nD bs)] s) Q X := by
  refine PR_runI ?_
  have g0 : ∀ s, gvV (some (some (.lst k (nD bs)))) s = .ok (.lst k (nD bs)) s := fun s => by rcases hk with rfl | rfl <;> rfl
  have fi : ∀ gg b va s, forIO (some (some (.lst k (nD bs)))) gg b va s = forV gg b (nD bs) va s := fun gg b va s => by rcases hk with rfl | rfl <;> rfl
  have c1 : (2 : Int) ≤ bs.length ∧ (bs.length : Int) ≤ 4 := by omega
  have rg : rngV1 [.int (bs.length : Int)] = some (numD 0 bs.length) := by rw [rngV1_int (by omega) (by omega)]; simp
  simp [vb_Ties_zzinitzz, vb_Ties_zzinitzz_1, vb_Ties_zzinitzz_2, g0, c1.1, c1.2, fi]
  refine PS_forV (nD bs) (fun j va s' => s' = s ∧ ∃ y z, va = [some (.ins .io 57 []), some (.lst k (nD bs)), y, z]) ?_ ?_ ⟨rfl, none, none, rfl⟩
  · rintro va s' ⟨rfl, y, z, rfl⟩
    simp [vb_Ties_zzinitzz_4, g0, rg]
    refine PS_forN bs.length (fun j va s'' => s'' = s' ∧ ∃ y z, va = [some (.ins .io 57 []), some (.lst k (nD bs)), y, z]) ?_ ?_ ⟨rfl, _, _, rfl⟩
    · rintro va s'' ⟨rfl, y, z, rfl⟩
      simp [vb_Ties_zzinitzz_6, vb_Ties_zzinitzz_7, g0]
      exact q
    · rintro j va s'' hj ⟨rfl, y, z, rfl⟩
      refine ⟨_, _, rfl, ?_⟩
      obtain ⟨b, e1, e2⟩ := I j hj
      simp [vb_Ties_zzinitzz_5, g0, e1, e2]
  · rintro j d va s' hj ⟨rfl, y, z, rfl⟩
    refine ⟨_, _, rfl, ?_⟩
    rw [nD_get] at hj
    obtain ⟨b, e1, rfl⟩ := Option.map_eq_some_iff.mp hj
    have hb : b < bs.length := by
      obtain ⟨c, e3, e4⟩ := I j (List.getElem?_eq_some_iff.mp e1).1
      rw [e1] at e3
      cases e3
      exact (List.getElem?_eq_some_iff.mp e4).1
    have w := is_whole_eq (d := .int b) (lo := 0) (hi := (bs.length : Int) - 1) (s := s') rfl
    have wb : isWhD (.int b) 0 ((bs.length : Int) - 1) = true := by simp [isWhD]; omega
    rw [wb] at w
    simp [vb_Ties_zzinitzz_3, g0, w]
end
/-- the back as a function -/
def bk (bs : List Nat) (i : Nat) : Nat := bs.getD i 0
theorem bk_at {bs : List Nat} {i : Nat} (h : i < bs.length) : bs[i]? = some (bk bs i) := by
  unfold bk
  rw [List.getD_eq_getElem?_getD, List.getElem?_eq_getElem h]
  rfl
theorem bk_lt {bs : List Nat} (I : Invol bs) {i : Nat} (h : i < bs.length) : bk bs i < bs.length := by
  obtain ⟨j, e1, e2⟩ := I i h
  rw [bk_at h] at e1
  cases e1
  exact (List.getElem?_eq_some_iff.mp e2).1
theorem bk_inv {bs : List Nat} (I : Invol bs) {i : Nat} (h : i < bs.length) : bk bs (bk bs i) = i := by
  obtain ⟨j, e1, e2⟩ := I i h
  rw [bk_at h] at e1
  cases e1
  have := bk_at (bs := bs) (bk_lt I h)
  rw [e2] at this
  exact (Option.some.inj this).symm
theorem all_to {xs : List D} {p : D → Bool} (h : ∀ j < xs.length, ∀ d, xs[j]? = some d → p d = true) : xs.all p = true := by
  rw [List.all_eq_true]
  intro d hd
  obtain ⟨j, hj⟩ := List.mem_iff_getElem?.mp hd
  exact h j (List.getElem?_eq_some_iff.mp hj).1 d hj
theorem all_no {xs : List D} {p : D → Bool} {d : D} (h : d ∈ xs) (n : p d = false) : xs.all p = false := by
  rw [Bool.eq_false_iff]
  intro z
  rw [List.all_eq_true] at z
  rw [z d h] at n
  cases n
theorem for_it {d : D} {xs : List D} (T : okA d = true) (e : itV d = some xs) : forIO (some (some d)) = fun gg b va s => forV gg b xs va s := by
  funext gg b va s
  rcases okA_cases T with rfl | ⟨_, rfl⟩ | ⟨_, rfl⟩ | ⟨_, rfl⟩ | ⟨_, rfl⟩ | ⟨_, rfl⟩ | ⟨_, rfl⟩ | ⟨_, rfl⟩ | ⟨_, rfl⟩ <;> first | (cases e; done) | (cases e; rfl)
end JP

namespace K09
open PySem PySem.Spec PyProof.Rows L2 J JP NdefX
def top (i : Nat) : Stmt := PySem.Challenge.pw_joinedguests_k09_whole_readings_of_three.main.body.getD i (.Pass ⟨0, 0, 0, 0⟩)
def clB : Stmt → List Stmt
  | .ClassDef _ _ _ b _ _ _ _ _ _ _ => b
  | _ => []
def mth (i j : Nat) : Stmt := (clB (top i)).getD j (.Pass ⟨0, 0, 0, 0⟩)
def nms : List Str := (["what", "tie", "index", "label", "count", "row", "three", "clash", "labels", "number", "lot", "name", "depth", "k", "rows", "which", "kind", "backs", "many", "ties"] : List Str) ++ ((["guests", "barred", "least_barred", "grid", "known", "company", "one", "other", "witnesses", "times", "same", "made_one", "x", "y", "book", "askings", "hall", "free", "binders", "size"] : List Str) ++ ((["width", "is_plain", "inner", "body", "asked", "lawful", "asker", "lots", "outer", "inners", "onto", "seen_ties", "verdict", "tokens", "place", "waiting", "steps", "facts", "log", "sketch"] : List Str) ++ ((["names", "told", "couples", "bench", "standing", "given", "start"] : List Str))))
def cas : List Str := (["GuestError", "BadTies", "NoTie", "", "", "", "", "", "", "NoThree", "", "", "", "", "", "", "", "", "", ""] : List Str) ++ ((["", "", "", "", "", "", "", "", "", "", "", "", "", "", "", "", "", "", "", ""] : List Str) ++ ((["", "", "", "", "", "", "", "", "", "", "", "", "", "", "", "", "", "Ties", "", ""] : List Str) ++ ((["", "", "", "", "", "", "", "", "", "", "", "", "", "", "", "", "", "", "", ""] : List Str) ++ ((["", "", "", "", "", "", "", "", "", "", "", "", "", "", "", "", ""] : List Str)))))
def st (K : PySem.W.Frag) : Sta := ⟨K, nms, fun c => He.ga K (cas.getD c "")⟩
theorem st_nd {K : PySem.W.Frag} : (st K).nm.Nodup := (by decide +kernel : nms.Nodup)
theorem st_no {K : PySem.W.Frag} (m : Str) (h : m ∉ nms) : ∀ (i : Nat) (y : Str), (st K).nm[i]? = some y → y ≠ m := fun i y e z => h (z ▸ List.mem_of_getElem? e)
theorem b_int : bootBuiltins "int" = some (.type "int") := by decide +kernel
theorem b_abs : bootBuiltins "abs" = some (.builtin "abs") := by decide +kernel
theorem b_len : bootBuiltins "len" = some (.builtin "len") := by decide +kernel
theorem b_bool : bootBuiltins "bool" = some (.type "bool") := by decide +kernel
theorem b_list : bootBuiltins "list" = some (.type "list") := by decide +kernel
theorem b_tuple : bootBuiltins "tuple" = some (.type "tuple") := by decide +kernel
theorem b_str : bootBuiltins "str" = some (.type "str") := by decide +kernel
theorem b_sorted : bootBuiltins "sorted" = some (.builtin "sorted") := by decide +kernel
theorem b_set : bootBuiltins "set" = some (.type "set") := by decide +kernel
abbrev s__law_hand : Stmt := top 19
abbrev s__law_mix : Stmt := top 18
abbrev s__law_draw : Stmt := top 20
abbrev s__law_pick : Stmt := top 21
abbrev s__law_backs : Stmt := top 22
abbrev s_BadTies_zzinitzz : Stmt := mth 3 0
abbrev s_is_whole : Stmt := top 8
abbrev s_Ties_zzinitzz : Stmt := mth 9 0
abbrev s__law_plain : Stmt := top 23
abbrev s__law_shown : Stmt := top 25
abbrev s__law_shape : Stmt := top 24
abbrev s_all_threes : Stmt := top 15
abbrev s_is_three : Stmt := top 11
abbrev s_NoThree_zzinitzz : Stmt := mth 5 0
abbrev s__six : Stmt := top 12
abbrev s_readings_of : Stmt := top 13
abbrev s_least_reading : Stmt := top 14
abbrev s_reading_classes : Stmt := top 16
abbrev s__law_refused : Stmt := top 27
abbrev s__law_bad : Stmt := top 26
abbrev s_law : Stmt := top 28
def flN : Str := PySem.Challenge.pw_joinedguests_k09_whole_readings_of_three.main.file
def exs : Exs := [fun K => oexB K (He.ga K "BadTies"),
  fun K => He.eqO (PySem.W.findIn K (.ref (He.ga K "BadTies")) "what") (some none),
  fun K => He.eqO (PySem.W.findIn K (.ref (He.ga K "BadTies")) "__init__") (some (some (.ref (He.ma K (He.ga K "BadTies") "__init__")))),
  fun K => decide (PySem.W.typeIn K (.ref (He.ma K (He.ga K "BadTies") "__init__")) = some (.type "function")),
  fun K => supB K (He.ga K "NoThree") (He.ma K (He.ga K "NoThree") "__init__") "NoThree.__init__" flN,
  fun K => oexB K (He.ga K "NoThree"),
  fun K => supIB K (He.ga K "NoThree") (He.ga K "NoThree"),
  fun K => He.eqO (PySem.W.findIn K (.ref (He.ga K "NoThree")) "three") (some none),
  fun K => He.eqO (PySem.W.findIn K (.ref (He.ga K "NoThree")) "__init__") (some (some (.ref (He.ma K (He.ga K "NoThree") "__init__")))),
  fun K => decide (PySem.W.typeIn K (.ref (He.ma K (He.ga K "NoThree") "__init__")) = some (.type "function")),
  fun K => xisB K (st K) ([(9, true)] : List (Nat × Bool)) (He.ga K "GuestError"),
  fun K => xfB K (He.ga K "NoThree"),
  fun K => mtB K (st K) [(9, true)] (He.ga K "NoThree")]
structure Facts (P : Program) (K : PySem.W.Frag) (mg : Str → Option Value) : Prop where
  ex : exAll exs K = true
  pf : PFile P flN
  d__law_hand : ∃ fd, FnP K "_law_hand" "_law_hand" s__law_hand (He.ga K "_law_hand") fd
  f_int : mg "int" = none
  f_enumerate : mg "enumerate" = none
  f_abs : mg "abs" = none
  g__law_hand : mg "_law_hand" = some (.ref (He.ga K "_law_hand"))
  d__law_mix : ∃ fd, FnP K "_law_mix" "_law_mix" s__law_mix (He.ga K "_law_mix") fd
  g__law_mix : mg "_law_mix" = some (.ref (He.ga K "_law_mix"))
  d__law_draw : ∃ fd, FnP K "_law_draw" "_law_draw" s__law_draw (He.ga K "_law_draw") fd
  f_len : mg "len" = none
  g__law_draw : mg "_law_draw" = some (.ref (He.ga K "_law_draw"))
  d__law_pick : ∃ fd, FnP K "_law_pick" "_law_pick" s__law_pick (He.ga K "_law_pick") fd
  g__law_pick : mg "_law_pick" = some (.ref (He.ga K "_law_pick"))
  d__law_backs : ∃ fd, FnP K "_law_backs" "_law_backs" s__law_backs (He.ga K "_law_backs") fd
  f_list : mg "list" = none
  f_range : mg "range" = none
  g__law_backs : mg "_law_backs" = some (.ref (He.ga K "_law_backs"))
  d_BadTies_zzinitzz : ∃ fd, FnP K "__init__" "BadTies.__init__" s_BadTies_zzinitzz (He.ma K (He.ga K "BadTies") "__init__") fd
  g_BadTies : mg "BadTies" = some (.ref (He.ga K "BadTies"))
  d_is_whole : ∃ fd, FnP K "is_whole" "is_whole" s_is_whole (He.ga K "is_whole") fd
  f_isinstance : mg "isinstance" = none
  f_bool : mg "bool" = none
  g_is_whole : mg "is_whole" = some (.ref (He.ga K "is_whole"))
  d_Ties_zzinitzz : ∃ fd, FnP K "__init__" "Ties.__init__" s_Ties_zzinitzz (He.ma K (He.ga K "Ties") "__init__") fd
  f_tuple : mg "tuple" = none
  i_MOST_TIES : ∃ t, mg "MOST_TIES" = some (.int 4 t)
  cls_Ties : Cls K (He.ga K "Ties")
  no_Ties_backs : NoAttr K (He.ga K "Ties") "backs"
  no_Ties_many : NoAttr K (He.ga K "Ties") "many"
  g_Ties : mg "Ties" = some (.ref (He.ga K "Ties"))
  mk_Ties : Mk K (He.ga K "Ties") (He.ma K (He.ga K "Ties") "__init__")
  d__law_plain : ∃ fd, FnP K "_law_plain" "_law_plain" s__law_plain (He.ga K "_law_plain") fd
  f_zip : mg "zip" = none
  f_str : mg "str" = none
  g__law_plain : mg "_law_plain" = some (.ref (He.ga K "_law_plain"))
  d__law_shown : ∃ fd, FnP K "_law_shown" "_law_shown" s__law_shown (He.ga K "_law_shown") fd
  f_sorted : mg "sorted" = none
  g__law_shown : mg "_law_shown" = some (.ref (He.ga K "_law_shown"))
  d__law_shape : ∃ fd, FnP K "_law_shape" "_law_shape" s__law_shape (He.ga K "_law_shape") fd
  g__law_shape : mg "_law_shape" = some (.ref (He.ga K "_law_shape"))
  d_all_threes : ∃ fd, FnP K "all_threes" "all_threes" s_all_threes (He.ga K "all_threes") fd
  g_all_threes : mg "all_threes" = some (.ref (He.ga K "all_threes"))
  d_is_three : ∃ fd, FnP K "is_three" "is_three" s_is_three (He.ga K "is_three") fd
  g_is_three : mg "is_three" = some (.ref (He.ga K "is_three"))
  s_NoThree_zzinitzz : ∃ fd, SupF K (He.ga K "NoThree") "__init__" "NoThree.__init__" s_NoThree_zzinitzz (He.ma K (He.ga K "NoThree") "__init__") fd flN
  g_NoThree : mg "NoThree" = some (.ref (He.ga K "NoThree"))
  f_super : mg "super" = none
  d__six : ∃ fd, FnP K "_six" "_six" s__six (He.ga K "_six") fd
  g__six : mg "_six" = some (.ref (He.ga K "_six"))
  d_readings_of : ∃ fd, FnP K "readings_of" "readings_of" s_readings_of (He.ga K "readings_of") fd
  f_set : mg "set" = none
  g_readings_of : mg "readings_of" = some (.ref (He.ga K "readings_of"))
  d_least_reading : ∃ fd, FnP K "least_reading" "least_reading" s_least_reading (He.ga K "least_reading") fd
  g_least_reading : mg "least_reading" = some (.ref (He.ga K "least_reading"))
  d_reading_classes : ∃ fd, FnP K "reading_classes" "reading_classes" s_reading_classes (He.ga K "reading_classes") fd
  g_reading_classes : mg "reading_classes" = some (.ref (He.ga K "reading_classes"))
  d__law_refused : ∃ fd, FnP K "_law_refused" "_law_refused" s__law_refused (He.ga K "_law_refused") fd
  g_GuestError : mg "GuestError" = some (.ref (He.ga K "GuestError"))
  g__law_refused : mg "_law_refused" = some (.ref (He.ga K "_law_refused"))
  d__law_bad : ∃ fd, FnP K "_law_bad" "_law_bad" s__law_bad (He.ga K "_law_bad") fd
  g__law_bad : mg "_law_bad" = some (.ref (He.ga K "_law_bad"))
  d_law : ∃ fd, FnP K "law" "law" s_law (He.ga K "law") fd
section
variable {P : Program} {w : World} {K : PySem.W.Frag} {mg : Str → Option Value} {base : Heap}
/-! ### _law_hand -/
theorem sc__law_hand : FnScope ["_law_script", "_law_total", "_law_k", "_law_cell"] ["_law_script"] (defScope s__law_hand) := ⟨rfl, rfl, rfl, by decide +kernel, rfl, by decide +kernel, by decide +kernel⟩
theorem fn__law_hand (c : Facts P K mg) : FnM P w K mg base (st K) 1 (He.ga K "_law_hand") 1 m__law_hand [] := by
  obtain ⟨fd, F⟩ := c.d__law_hand
  refine fnm_of (N := ["_law_script", "_law_total", "_law_k", "_law_cell"]) (ps := ["_law_script"]) (b := b__law_hand) F sc__law_hand rfl (F.bindsN fun _ _ _ _ _ _ us hl => match us, hl with | [_], _ => rfl) fun cdv A outer s H E hr => ?_
  exact (db_cons (ds_set (i := 1) sc__law_hand.nd rfl (by first | exact .inl rfl | exact .inr rfl) de_int) (db_cons (ds_forE rfl passes_body rfl rfl c.f_enumerate (da_cons (de_var (i := 0) rfl (by first | exact .inl rfl | exact .inr (.inl rfl) | exact .inr (.inr rfl))) da_nil) (dg_tup rfl rfl (dgs_cons (dg_name (i := 2) sc__law_hand.nd rfl (by first | exact .inl rfl | exact .inr rfl)) (dgs_cons (dg_name (i := 3) sc__law_hand.nd rfl (by first | exact .inl rfl | exact .inr rfl)) dgs_nil))) (db_one (ds_set (i := 1) sc__law_hand.nd rfl (by first | exact .inl rfl | exact .inr rfl) (de_op ok_mod (de_callTy ok_int rfl c.f_int b_int (da_cons (de_op (ok_add rfl) (de_op (ok_qMul rfl) (de_var (i := 1) rfl (by first | exact .inl rfl | exact .inr (.inl rfl) | exact .inr (.inr rfl))) de_int) (de_op (ok_qMul rfl) (de_callTy ok_int rfl c.f_int b_int (da_cons (de_var (i := 3) rfl (by first | exact .inl rfl | exact .inr (.inl rfl) | exact .inr (.inr rfl))) da_nil)) (de_op (ok_add rfl) (de_var (i := 2) rfl (by first | exact .inl rfl | exact .inr (.inl rfl) | exact .inr (.inr rfl))) de_int))) da_nil)) de_int)))) (db_one (ds_ret (de_lst (da_cons (de_lc rfl rfl rfl sc__law_hand.nd (de_var (i := 0) rfl (by first | exact .inl rfl | exact .inr (.inl rfl) | exact .inr (.inr rfl))) (own := [("_law_cell", 3)]) (blkOk_by (N := ["_law_script", "_law_total", "_law_k", "_law_cell"]) (sc := defScope s__law_hand) (by decide +kernel)) (fun s H C cl fp => (dgv_name (i := 3) sc__law_hand.nd rfl (by first | exact .inl rfl | exact .inr rfl))) (fun s H C cl fp => dts_nil) (fun s H C cl fp => (de_callB ok_abs rfl c.f_abs b_abs (da_cons (de_callTy ok_int rfl c.f_int b_int (da_cons (de_var (i := 3) rfl (by first | exact .inl rfl | exact .inr (.inl rfl) | exact .inr (.inr rfl))) da_nil)) da_nil)))) (da_cons de_int (da_cons de_int (da_cons (de_var (i := 1) rfl (by first | exact .inl rfl | exact .inr (.inl rfl) | exact .inr (.inr rfl))) da_nil)))))))))
theorem df__law_hand (c : Facts P K mg) : Df P w K mg base (st K) 1 "_law_hand" 1 m__law_hand [] := by
  obtain ⟨fd, F⟩ := c.d__law_hand
  exact ⟨_, c.g__law_hand, F.kp, fn__law_hand c⟩
/-! ### _law_mix -/
theorem sc__law_mix : FnScope ["_law_number", "_law_turn", "_law_once", "_law_twice"] ["_law_number", "_law_turn"] (defScope s__law_mix) := ⟨rfl, rfl, rfl, by decide +kernel, rfl, by decide +kernel, by decide +kernel⟩
theorem fn__law_mix (c : Facts P K mg) : FnM P w K mg base (st K) 1 (He.ga K "_law_mix") 2 m__law_mix [] := by
  obtain ⟨fd, F⟩ := c.d__law_mix
  refine fnm_of (N := ["_law_number", "_law_turn", "_law_once", "_law_twice"]) (ps := ["_law_number", "_law_turn"]) (b := b__law_mix) F sc__law_mix rfl (F.bindsN fun _ _ _ _ _ _ us hl => match us, hl with | [_, _], _ => rfl) fun cdv A outer s H E hr => ?_
  exact (db_cons (ds_set (i := 2) sc__law_mix.nd rfl (by first | exact .inl rfl | exact .inr rfl) (de_op ok_mod (de_callTy ok_int rfl c.f_int b_int (da_cons (de_op (ok_add rfl) (de_op (ok_add rfl) (de_op (ok_qMul rfl) (de_var (i := 0) rfl (by first | exact .inl rfl | exact .inr (.inl rfl) | exact .inr (.inr rfl))) de_int) (de_op (ok_qMul rfl) (de_var (i := 1) rfl (by first | exact .inl rfl | exact .inr (.inl rfl) | exact .inr (.inr rfl))) de_int)) de_int) da_nil)) de_int)) (db_cons (ds_set (i := 3) sc__law_mix.nd rfl (by first | exact .inl rfl | exact .inr rfl) (de_op ok_mod (de_callTy ok_int rfl c.f_int b_int (da_cons (de_op (ok_add rfl) (de_op (ok_add rfl) (de_op (ok_qMul rfl) (de_var (i := 2) rfl (by first | exact .inl rfl | exact .inr (.inl rfl) | exact .inr (.inr rfl))) (de_var (i := 2) rfl (by first | exact .inl rfl | exact .inr (.inl rfl) | exact .inr (.inr rfl)))) (de_op (ok_qMul rfl) (de_op ok_div (de_var (i := 2) rfl (by first | exact .inl rfl | exact .inr (.inl rfl) | exact .inr (.inr rfl))) de_int) de_int)) (de_op (ok_qMul rfl) (de_var (i := 1) rfl (by first | exact .inl rfl | exact .inr (.inl rfl) | exact .inr (.inr rfl))) de_int)) da_nil)) de_int)) (db_one (ds_ret (de_op ok_div (de_op ok_mod (de_callTy ok_int rfl c.f_int b_int (da_cons (de_op (ok_add rfl) (de_op ok_div (de_op (ok_qMul rfl) (de_var (i := 3) rfl (by first | exact .inl rfl | exact .inr (.inl rfl) | exact .inr (.inr rfl))) (de_var (i := 3) rfl (by first | exact .inl rfl | exact .inr (.inl rfl) | exact .inr (.inr rfl)))) de_int) (de_var (i := 2) rfl (by first | exact .inl rfl | exact .inr (.inl rfl) | exact .inr (.inr rfl)))) da_nil)) de_int) de_int)))))
theorem df__law_mix (c : Facts P K mg) : Df P w K mg base (st K) 1 "_law_mix" 2 m__law_mix [] := by
  obtain ⟨fd, F⟩ := c.d__law_mix
  exact ⟨_, c.g__law_mix, F.kp, fn__law_mix c⟩
/-! ### _law_draw -/
theorem sc__law_draw : FnScope ["_law_hand_here", "_law_many", "_law_cell", "_law_rest"] ["_law_hand_here", "_law_many"] (defScope s__law_draw) := ⟨rfl, rfl, rfl, by decide +kernel, rfl, by decide +kernel, by decide +kernel⟩
theorem fn__law_draw (c : Facts P K mg) : FnM P w K mg base (st K) 2 (He.ga K "_law_draw") 2 m__law_draw [] := by
  obtain ⟨fd, F⟩ := c.d__law_draw
  refine fnm_of (N := ["_law_hand_here", "_law_many", "_law_cell", "_law_rest"]) (ps := ["_law_hand_here", "_law_many"]) (b := b__law_draw) F sc__law_draw rfl (F.bindsN fun _ _ _ _ _ _ us hl => match us, hl with | [_, _], _ => rfl) fun cdv A outer s H E hr => ?_
  exact (db_cons (ds_if (dw_pt (dw_and (dt_cmp (ok_qEq rfl hr.units) (de_ix (ok_ix rfl) (de_var (i := 0) rfl (by first | exact .inl rfl | exact .inr (.inl rfl) | exact .inr (.inr rfl))) de_int) de_int) (dw_and1 (dt_cmp ok_lt (de_ix (ok_ix rfl) (de_var (i := 0) rfl (by first | exact .inl rfl | exact .inr (.inl rfl) | exact .inr (.inr rfl))) de_int) (de_callB (ok_len rfl) rfl c.f_len b_len (da_cons (de_ix (ok_ix rfl) (de_var (i := 0) rfl (by first | exact .inl rfl | exact .inr (.inl rfl) | exact .inr (.inr rfl))) de_int) da_nil)))))) (db_cons (ds_set (i := 2) sc__law_draw.nd rfl (by first | exact .inl rfl | exact .inr rfl) (de_ix (ok_ix rfl) (de_ix (ok_ix rfl) (de_var (i := 0) rfl (by first | exact .inl rfl | exact .inr (.inl rfl) | exact .inr (.inr rfl))) de_int) (de_ix (ok_ix rfl) (de_var (i := 0) rfl (by first | exact .inl rfl | exact .inr (.inl rfl) | exact .inr (.inr rfl))) de_int))) (db_cons (ds_asg (de_op (ok_add rfl) (de_ix (ok_ix rfl) (de_var (i := 0) rfl (by first | exact .inl rfl | exact .inr (.inl rfl) | exact .inr (.inr rfl))) de_int) de_int) (dg_sub (de_var (i := 0) rfl (by first | exact .inl rfl | exact .inr (.inl rfl) | exact .inr (.inr rfl))) de_int)) (db_cons (ds_if (dt_cmp ok_lt (de_var (i := 2) rfl (by first | exact .inl rfl | exact .inr (.inl rfl) | exact .inr (.inr rfl))) (de_op ok_pow de_int de_int)) (db_one (ds_ret (de_op ok_mod (de_callTy ok_int rfl c.f_int b_int (da_cons (de_call (df__law_mix c) (hr.mono (by decide)) takes_body rfl (da_cons (de_op ok_mod (de_callTy ok_int rfl c.f_int b_int (da_cons (de_var (i := 2) rfl (by first | exact .inl rfl | exact .inr (.inl rfl) | exact .inr (.inr rfl))) da_nil)) de_int) (da_cons (de_ix (ok_ix rfl) (de_var (i := 0) rfl (by first | exact .inl rfl | exact .inr (.inl rfl) | exact .inr (.inr rfl))) de_int) da_nil))) da_nil)) (de_var (i := 1) rfl (by first | exact .inl rfl | exact .inr (.inl rfl) | exact .inr (.inr rfl)))))) db_nil) (db_one (ds_asg (de_var (i := 2) rfl (by first | exact .inl rfl | exact .inr (.inl rfl) | exact .inr (.inr rfl))) (dg_sub (de_var (i := 0) rfl (by first | exact .inl rfl | exact .inr (.inl rfl) | exact .inr (.inr rfl))) de_int)))))) db_nil) (db_cons (ds_if (dt_cmp ok_gt (de_ix (ok_ix rfl) (de_var (i := 0) rfl (by first | exact .inl rfl | exact .inr (.inl rfl) | exact .inr (.inr rfl))) de_int) de_int) (db_cons (ds_set (i := 3) sc__law_draw.nd rfl (by first | exact .inl rfl | exact .inr rfl) (de_ix (ok_ix rfl) (de_var (i := 0) rfl (by first | exact .inl rfl | exact .inr (.inl rfl) | exact .inr (.inr rfl))) de_int)) (db_cons (ds_asg (de_op ok_div (de_var (i := 3) rfl (by first | exact .inl rfl | exact .inr (.inl rfl) | exact .inr (.inr rfl))) (de_var (i := 1) rfl (by first | exact .inl rfl | exact .inr (.inl rfl) | exact .inr (.inr rfl)))) (dg_sub (de_var (i := 0) rfl (by first | exact .inl rfl | exact .inr (.inl rfl) | exact .inr (.inr rfl))) de_int)) (db_one (ds_ret (de_op ok_mod (de_callTy ok_int rfl c.f_int b_int (da_cons (de_var (i := 3) rfl (by first | exact .inl rfl | exact .inr (.inl rfl) | exact .inr (.inr rfl))) da_nil)) (de_var (i := 1) rfl (by first | exact .inl rfl | exact .inr (.inl rfl) | exact .inr (.inr rfl)))))))) db_nil) (db_cons (ds_asg (de_op ok_mod (de_callTy ok_int rfl c.f_int b_int (da_cons (de_op (ok_add rfl) (de_ix (ok_ix rfl) (de_var (i := 0) rfl (by first | exact .inl rfl | exact .inr (.inl rfl) | exact .inr (.inr rfl))) de_int) de_int) da_nil)) de_int) (dg_sub (de_var (i := 0) rfl (by first | exact .inl rfl | exact .inr (.inl rfl) | exact .inr (.inr rfl))) de_int)) (db_one (ds_ret (de_op ok_mod (de_callTy ok_int rfl c.f_int b_int (da_cons (de_call (df__law_mix c) (hr.mono (by decide)) takes_body rfl (da_cons (de_ix (ok_ix rfl) (de_var (i := 0) rfl (by first | exact .inl rfl | exact .inr (.inl rfl) | exact .inr (.inr rfl))) de_int) (da_cons (de_ix (ok_ix rfl) (de_var (i := 0) rfl (by first | exact .inl rfl | exact .inr (.inl rfl) | exact .inr (.inr rfl))) de_int) da_nil))) da_nil)) (de_var (i := 1) rfl (by first | exact .inl rfl | exact .inr (.inl rfl) | exact .inr (.inr rfl)))))))))
theorem df__law_draw (c : Facts P K mg) : Df P w K mg base (st K) 2 "_law_draw" 2 m__law_draw [] := by
  obtain ⟨fd, F⟩ := c.d__law_draw
  exact ⟨_, c.g__law_draw, F.kp, fn__law_draw c⟩
/-! ### _law_pick -/
theorem sc__law_pick : FnScope ["_law_hand_here", "_law_things"] ["_law_hand_here", "_law_things"] (defScope s__law_pick) := ⟨rfl, rfl, rfl, by decide +kernel, rfl, by decide +kernel, by decide +kernel⟩
def b__law_pick : Sx := (sRet (eOp oIx (eVar 1) (eCall m__law_draw 2 [] (aCons (eVar 0) (aCons (eFn fLen (aCons (eVar 1) aNil)) aNil)))))
def m__law_pick : Mir := runB b__law_pick 2
def vb__law_pick : VSx := (zRet (vOp aIx (vVar 1) (vCall v__law_draw 2 [] (arCons (vVar 0) (arCons (vFn bLen (arCons (vVar 1) arNil)) arNil)))))
def v__law_pick : VM := vRun vb__law_pick 2
theorem dvf__law_pick : DVF v__law_pick m__law_pick := dvf_run (b := vb__law_pick) (bj := b__law_pick) (n := 2) (dvs_ret (dv_op oka_ix dv_var (dv_call dvf__law_draw (fun _ _ => .nil) (dva_cons dv_var (dva_cons (dv_fn okb_len (dva_cons dv_var dva_nil)) dva_nil)))))
theorem fn__law_pick (c : Facts P K mg) : FnM P w K mg base (st K) 3 (He.ga K "_law_pick") 2 m__law_pick [] := by
  obtain ⟨fd, F⟩ := c.d__law_pick
  refine fnm_of (N := ["_law_hand_here", "_law_things"]) (ps := ["_law_hand_here", "_law_things"]) (b := b__law_pick) F sc__law_pick rfl (F.bindsN fun _ _ _ _ _ _ us hl => match us, hl with | [_, _], _ => rfl) fun cdv A outer s H E hr => ?_
  exact (db_one (ds_ret (de_ix (ok_ix rfl) (de_var (i := 1) rfl (by first | exact .inl rfl | exact .inr (.inl rfl) | exact .inr (.inr rfl))) (de_call (df__law_draw c) (hr.mono (by decide)) takes_body rfl (da_cons (de_var (i := 0) rfl (by first | exact .inl rfl | exact .inr (.inl rfl) | exact .inr (.inr rfl))) (da_cons (de_callB (ok_len rfl) rfl c.f_len b_len (da_cons (de_var (i := 1) rfl (by first | exact .inl rfl | exact .inr (.inl rfl) | exact .inr (.inr rfl))) da_nil)) da_nil))))))
theorem df__law_pick (c : Facts P K mg) : Df P w K mg base (st K) 3 "_law_pick" 2 m__law_pick [] := by
  obtain ⟨fd, F⟩ := c.d__law_pick
  exact ⟨_, c.g__law_pick, F.kp, fn__law_pick c⟩
/-! ### _law_backs -/
theorem sc__law_backs : FnScope ["_law_hand_here", "_law_many", "_law_backs_here", "_law_left", "_law_k", "_law_one", "_law_other"] ["_law_hand_here", "_law_many"] (defScope s__law_backs) := ⟨rfl, rfl, rfl, by decide +kernel, rfl, by decide +kernel, by decide +kernel⟩
theorem fn__law_backs (c : Facts P K mg) : FnM P w K mg base (st K) 3 (He.ga K "_law_backs") 2 m__law_backs [] := by
  obtain ⟨fd, F⟩ := c.d__law_backs
  refine fnm_of (N := ["_law_hand_here", "_law_many", "_law_backs_here", "_law_left", "_law_k", "_law_one", "_law_other"]) (ps := ["_law_hand_here", "_law_many"]) (b := b__law_backs) F sc__law_backs rfl (F.bindsN fun _ _ _ _ _ _ us hl => match us, hl with | [_, _], _ => rfl) fun cdv A outer s H E hr => ?_
  exact (db_cons (ds_set (i := 2) sc__law_backs.nd rfl (by first | exact .inl rfl | exact .inr rfl) (de_listR1 rfl rfl c.f_list rfl c.f_range (da_cons (de_var (i := 1) rfl (by first | exact .inl rfl | exact .inr (.inl rfl) | exact .inr (.inr rfl))) da_nil))) (db_cons (ds_set (i := 3) sc__law_backs.nd rfl (by first | exact .inl rfl | exact .inr rfl) (de_listR1 rfl rfl c.f_list rfl c.f_range (da_cons (de_var (i := 1) rfl (by first | exact .inl rfl | exact .inr (.inl rfl) | exact .inr (.inr rfl))) da_nil))) (db_cons (ds_forR1 passes_body rfl rfl c.f_range (da_cons (de_op ok_div (de_var (i := 1) rfl (by first | exact .inl rfl | exact .inr (.inl rfl) | exact .inr (.inr rfl))) de_int) da_nil) (dg_name (i := 4) sc__law_backs.nd rfl (by first | exact .inl rfl | exact .inr rfl)) (db_one (ds_if (dt_cmp (ok_qEq rfl hr.units) (de_call (df__law_draw c) (hr.mono (by decide)) takes_body rfl (da_cons (de_var (i := 0) rfl (by first | exact .inl rfl | exact .inr (.inl rfl) | exact .inr (.inr rfl))) (da_cons de_int da_nil))) de_int) (db_cons (ds_set (i := 5) sc__law_backs.nd rfl (by first | exact .inl rfl | exact .inr rfl) (de_lm rfl PySem.F.slot_list_pop PySem.F.type_list_pop ok_popAt (de_var (i := 3) rfl (by first | exact .inl rfl | exact .inr (.inl rfl) | exact .inr (.inr rfl))) (da_cons (de_call (df__law_draw c) (hr.mono (by decide)) takes_body rfl (da_cons (de_var (i := 0) rfl (by first | exact .inl rfl | exact .inr (.inl rfl) | exact .inr (.inr rfl))) (da_cons (de_callB (ok_len rfl) rfl c.f_len b_len (da_cons (de_var (i := 3) rfl (by first | exact .inl rfl | exact .inr (.inl rfl) | exact .inr (.inr rfl))) da_nil)) da_nil))) da_nil))) (db_cons (ds_set (i := 6) sc__law_backs.nd rfl (by first | exact .inl rfl | exact .inr rfl) (de_lm rfl PySem.F.slot_list_pop PySem.F.type_list_pop ok_popAt (de_var (i := 3) rfl (by first | exact .inl rfl | exact .inr (.inl rfl) | exact .inr (.inr rfl))) (da_cons (de_call (df__law_draw c) (hr.mono (by decide)) takes_body rfl (da_cons (de_var (i := 0) rfl (by first | exact .inl rfl | exact .inr (.inl rfl) | exact .inr (.inr rfl))) (da_cons (de_callB (ok_len rfl) rfl c.f_len b_len (da_cons (de_var (i := 3) rfl (by first | exact .inl rfl | exact .inr (.inl rfl) | exact .inr (.inr rfl))) da_nil)) da_nil))) da_nil))) (db_cons (ds_asg (de_var (i := 6) rfl (by first | exact .inl rfl | exact .inr (.inl rfl) | exact .inr (.inr rfl))) (dg_sub (de_var (i := 2) rfl (by first | exact .inl rfl | exact .inr (.inl rfl) | exact .inr (.inr rfl))) (de_var (i := 5) rfl (by first | exact .inl rfl | exact .inr (.inl rfl) | exact .inr (.inr rfl))))) (db_one (ds_asg (de_var (i := 5) rfl (by first | exact .inl rfl | exact .inr (.inl rfl) | exact .inr (.inr rfl))) (dg_sub (de_var (i := 2) rfl (by first | exact .inl rfl | exact .inr (.inl rfl) | exact .inr (.inr rfl))) (de_var (i := 6) rfl (by first | exact .inl rfl | exact .inr (.inl rfl) | exact .inr (.inr rfl))))))))) db_nil))) (db_one (ds_ret (de_var (i := 2) rfl (by first | exact .inl rfl | exact .inr (.inl rfl) | exact .inr (.inr rfl))))))))
theorem df__law_backs (c : Facts P K mg) : Df P w K mg base (st K) 3 "_law_backs" 2 m__law_backs [] := by
  obtain ⟨fd, F⟩ := c.d__law_backs
  exact ⟨_, c.g__law_backs, F.kp, fn__law_backs c⟩
/-! ### BadTies_zzinitzz -/
theorem sc_BadTies_zzinitzz : FnScope ["self", "what"] ["self", "what"] (defScope s_BadTies_zzinitzz) := ⟨rfl, rfl, rfl, by decide +kernel, rfl, by decide +kernel, by decide +kernel⟩
theorem xc_BadTies (c : Facts P K mg) : Xc P w K mg base (st K) 1 1 "BadTies" [0] := by
  obtain ⟨fd, F⟩ := c.d_BadTies_zzinitzz
  refine ⟨c.g_BadTies, (oexB_ok (ex_at c.ex 0)), _, fd, _, ["what"], (He.eqO_ok (ex_at c.ex 2)), (of_decide_eq_true (ex_at c.ex 3)), ok_xinit1 F sc_BadTies_zzinitzz (oexB_ok (ex_at c.ex 0)) (He.eqO_ok (ex_at c.ex 1)) rfl, (F.bindsN fun _ _ _ _ _ _ us hl => match us, hl with | [_, _], _ => rfl), rfl, ?_⟩
  intro i x e
  match i, e with
  | 0, e => cases e; exact ⟨_, rfl, rfl⟩
  | i + 1, e => exact absurd e (by simp)
/-! ### is_whole -/
theorem sc_is_whole : FnScope ["thing", "low", "high"] ["thing", "low", "high"] (defScope s_is_whole) := ⟨rfl, rfl, rfl, by decide +kernel, rfl, by decide +kernel, by decide +kernel⟩
theorem fn_is_whole (c : Facts P K mg) : FnM P w K mg base (st K) 1 (He.ga K "is_whole") 3 m_is_whole [] := by
  obtain ⟨fd, F⟩ := c.d_is_whole
  refine fnm_of (N := ["thing", "low", "high"]) (ps := ["thing", "low", "high"]) (b := b_is_whole) F sc_is_whole rfl (F.bindsN fun _ _ _ _ _ _ us hl => match us, hl with | [_, _, _], _ => rfl) fun cdv A outer s H E hr => ?_
  exact (db_one (ds_ret (de_and rfl (de_isi (cs := []) (f := isInt) rfl no_mem (pc_ty rfl c.f_int b_int) (.ty _) (isInt_ok K) rfl c.f_isinstance (de_var (i := 0) rfl (by first | exact .inl rfl | exact .inr (.inl rfl) | exact .inr (.inr rfl)))) (de_and rfl (de_not rfl (de_isi (cs := []) (f := isBool) rfl no_mem (pc_ty rfl c.f_bool b_bool) (.ty _) (isBool_ok K) rfl c.f_isinstance (de_var (i := 0) rfl (by first | exact .inl rfl | exact .inr (.inl rfl) | exact .inr (.inr rfl))))) (de_one (de_chain ok_le ok_le (de_var (i := 1) rfl (by first | exact .inl rfl | exact .inr (.inl rfl) | exact .inr (.inr rfl))) (de_var (i := 0) rfl (by first | exact .inl rfl | exact .inr (.inl rfl) | exact .inr (.inr rfl))) (de_var (i := 2) rfl (by first | exact .inl rfl | exact .inr (.inl rfl) | exact .inr (.inr rfl)))))))))
theorem df_is_whole (c : Facts P K mg) : Df P w K mg base (st K) 1 "is_whole" 3 m_is_whole [] := by
  obtain ⟨fd, F⟩ := c.d_is_whole
  exact ⟨_, c.g_is_whole, F.kp, fn_is_whole c⟩
/-! ### Ties_zzinitzz -/
theorem sc_Ties_zzinitzz : FnScope ["self", "backs", "entry", "place"] ["self", "backs"] (defScope s_Ties_zzinitzz) := ⟨rfl, rfl, rfl, by decide +kernel, rfl, by decide +kernel, by decide +kernel⟩
theorem fn_Ties_zzinitzz (c : Facts P K mg) : FnM P w K mg base (st K) 3 (He.ma K (He.ga K "Ties") "__init__") 2 m_Ties_zzinitzz [] := by
  obtain ⟨fd, F⟩ := c.d_Ties_zzinitzz
  refine fnm_of (N := ["self", "backs", "entry", "place"]) (ps := ["self", "backs"]) (b := b_Ties_zzinitzz) F sc_Ties_zzinitzz rfl (F.bindsN fun _ _ _ _ _ _ us hl => match us, hl with | [_, _], _ => rfl) fun cdv A outer s H E hr => ?_
  exact (db_cons (ds_if (dt_not (dt_tru rfl (de_isiT (cs := []) (f := isLT) rfl no_mem (pc_cons (pc_ty rfl c.f_list b_list) (pc_cons (pc_ty rfl c.f_tuple b_tuple) pc_nil)) paired_lt (by decide) (isLT_ok K) rfl c.f_isinstance (de_var (i := 1) rfl (by first | exact .inl rfl | exact .inr (.inl rfl) | exact .inr (.inr rfl)))))) (db_one (ds_raise rfl rfl takes_body (xc_BadTies c) (hr.mono (by decide)) rfl (da_cons de_str da_nil))) db_nil) (db_cons (ds_if (dt_not (dt_chain ok_le ok_le de_int (de_callB (ok_len rfl) rfl c.f_len b_len (da_cons (de_var (i := 1) rfl (by first | exact .inl rfl | exact .inr (.inl rfl) | exact .inr (.inr rfl))) da_nil)) (de_glI rfl c.i_MOST_TIES.choose_spec))) (db_one (ds_raise rfl rfl takes_body (xc_BadTies c) (hr.mono (by decide)) rfl (da_cons de_str da_nil))) db_nil) (db_cons (ds_for rfl passes_body rfl (de_var (i := 1) rfl (by first | exact .inl rfl | exact .inr (.inl rfl) | exact .inr (.inr rfl))) (dg_name (i := 2) sc_Ties_zzinitzz.nd rfl (by first | exact .inl rfl | exact .inr rfl)) (db_one (ds_if (dt_not (dt_tru rfl (de_call (df_is_whole c) (hr.mono (by decide)) takes_body rfl (da_cons (de_var (i := 2) rfl (by first | exact .inl rfl | exact .inr (.inl rfl) | exact .inr (.inr rfl))) (da_cons de_int (da_cons (de_op ok_sub (de_callB (ok_len rfl) rfl c.f_len b_len (da_cons (de_var (i := 1) rfl (by first | exact .inl rfl | exact .inr (.inl rfl) | exact .inr (.inr rfl))) da_nil)) de_int) da_nil)))))) (db_one (ds_raise rfl rfl takes_body (xc_BadTies c) (hr.mono (by decide)) rfl (da_cons de_str da_nil))) db_nil))) (db_cons (ds_forR1 passes_body rfl rfl c.f_range (da_cons (de_callB (ok_len rfl) rfl c.f_len b_len (da_cons (de_var (i := 1) rfl (by first | exact .inl rfl | exact .inr (.inl rfl) | exact .inr (.inr rfl))) da_nil)) da_nil) (dg_name (i := 3) sc_Ties_zzinitzz.nd rfl (by first | exact .inl rfl | exact .inr rfl)) (db_one (ds_if (dt_cmp (ok_qNe rfl hr.units) (de_ix (ok_ix rfl) (de_var (i := 1) rfl (by first | exact .inl rfl | exact .inr (.inl rfl) | exact .inr (.inr rfl))) (de_ix (ok_ix rfl) (de_var (i := 1) rfl (by first | exact .inl rfl | exact .inr (.inl rfl) | exact .inr (.inr rfl))) (de_var (i := 3) rfl (by first | exact .inl rfl | exact .inr (.inl rfl) | exact .inr (.inr rfl))))) (de_var (i := 3) rfl (by first | exact .inl rfl | exact .inr (.inl rfl) | exact .inr (.inr rfl)))) (db_one (ds_raise rfl rfl takes_body (xc_BadTies c) (hr.mono (by decide)) rfl (da_cons de_str da_nil))) db_nil))) (db_cons (ds_fld (f := 17) (cs := [57]) st_nd rfl (mem_cons' (p := fun d => Cls K ((st K).ca d) ∧ NoAttr K ((st K).ca d) "backs") ⟨c.cls_Ties, c.no_Ties_backs⟩ no_mem) (de_var (i := 0) rfl (by first | exact .inl rfl | exact .inr (.inl rfl) | exact .inr (.inr rfl))) (de_callTy (ok_tuple rfl) rfl c.f_tuple b_tuple (da_cons (de_var (i := 1) rfl (by first | exact .inl rfl | exact .inr (.inl rfl) | exact .inr (.inr rfl))) da_nil))) (db_one (ds_fld (f := 18) (cs := [57]) st_nd rfl (mem_cons' (p := fun d => Cls K ((st K).ca d) ∧ NoAttr K ((st K).ca d) "many") ⟨c.cls_Ties, c.no_Ties_many⟩ no_mem) (de_var (i := 0) rfl (by first | exact .inl rfl | exact .inr (.inl rfl) | exact .inr (.inr rfl))) (de_callB (ok_len rfl) rfl c.f_len b_len (da_cons (de_var (i := 1) rfl (by first | exact .inl rfl | exact .inr (.inl rfl) | exact .inr (.inr rfl))) da_nil)))))))))
theorem nw_Ties (c : Facts P K mg) : Nw P w K mg base (st K) 3 57 "Ties" 2 m_Ties_zzinitzz [] := ⟨c.g_Ties, _, c.mk_Ties, fn_Ties_zzinitzz c⟩
/-! ### _law_plain -/
theorem sc__law_plain : FnScope ["_law_answer", "_law_due", "_law_one", "_law_other"] ["_law_answer", "_law_due"] (defScope s__law_plain) := ⟨rfl, rfl, rfl, by decide +kernel, rfl, by decide +kernel, by decide +kernel⟩
def bf__law_plain (r : Mir) : Sx := (sSeq (sIf (xTru (eIsi [] isTup (eVar 1))) (sSeq (sIf (xOr (xNot (xTru (eIsi [] isTup (eVar 0)))) (xTb (eOp qNe (eFn fLen (aCons (eVar 0) aNil)) (eFn fLen (aCons (eVar 1) aNil))))) (sRet (eC (.bl false))) sPass) (sSeq (sForZ (aCons (eVar 0) (aCons (eVar 1) aNil)) (gTp 2 (gsCons (gNm 2) (gsCons (gNm 3) gsNil))) (sIf (xNot (xTru (eCall r 2 [] (aCons (eVar 2) (aCons (eVar 3) aNil))))) (sRet (eC (.bl false))) sPass)) (sRet (eC (.bl true))))) sPass) (sSeq (sIf (xTb (eOp oIs (eVar 1) (eC .non))) (sRet (eOp oIs (eVar 0) (eC .non))) sPass) (sSeq (sIf (xOr (xTru (eIsi [] isBool (eVar 1))) (xTru (eIsi [] isBool (eVar 0)))) (sRet (eAnd (eIsi [] isBool (eVar 1)) (eAnd (eIsi [] isBool (eVar 0)) (eOp qEq (eVar 0) (eVar 1))))) sPass) (sSeq (sIf (xTru (eIsi [] isInt (eVar 1))) (sRet (eAnd (eIsi [] isInt (eVar 0)) (eOp qEq (eVar 0) (eVar 1)))) sPass) (sRet (eAnd (eIsi [] isStr (eVar 0)) (eOp qEq (eVar 0) (eVar 1))))))))
def mf__law_plain : Nat → Mir
  | 0 => fun _ _ => .stuck
  | n + 1 => runB (bf__law_plain (mf__law_plain n)) 4
def m__law_plain : Mir := mf__law_plain 8
def vb__law_plain_2 (r : VM) : VSx := (zIf (uNot (uTru (vCall r 2 [] (arCons (vVar 2) (arCons (vVar 3) arNil))))) (zRet (vC (.bl false))) zPass)
def vb__law_plain_3 (r : VM) : VSx := (zRet (vC (.bl true)))
def vb__law_plain_1 (r : VM) : VSx := (zSeq (zForZ (arCons (vVar 0) (arCons (vVar 1) arNil)) (gzTp 2 (gzCons (gzNm 2) (gzCons (gzNm 3) gzNil))) (vb__law_plain_2 r)) (vb__law_plain_3 r))
def vb__law_plain_7 (r : VM) : VSx := (zRet (vAnd (vIsi [] isStr (vVar 0)) (vOp aEq (vVar 0) (vVar 1))))
def vb__law_plain_6 (r : VM) : VSx := (zSeq (zIf (uTru (vIsi [] isInt (vVar 1))) (zRet (vAnd (vIsi [] isInt (vVar 0)) (vOp aEq (vVar 0) (vVar 1)))) zPass) (vb__law_plain_7 r))
def vb__law_plain_5 (r : VM) : VSx := (zSeq (zIf (uOr (uTru (vIsi [] isBool (vVar 1))) (uTru (vIsi [] isBool (vVar 0)))) (zRet (vAnd (vIsi [] isBool (vVar 1)) (vAnd (vIsi [] isBool (vVar 0)) (vOp aEq (vVar 0) (vVar 1))))) zPass) (vb__law_plain_6 r))
def vb__law_plain_4 (r : VM) : VSx := (zSeq (zIf (uTb (vOp aIs (vVar 1) (vC .non))) (zRet (vOp aIs (vVar 0) (vC .non))) zPass) (vb__law_plain_5 r))
def vb__law_plain (r : VM) : VSx := (zSeq (zIf (uTru (vIsi [] isTup (vVar 1))) (zSeq (zIf (uOr (uNot (uTru (vIsi [] isTup (vVar 0)))) (uTb (vOp aNe (vFn bLen (arCons (vVar 0) arNil)) (vFn bLen (arCons (vVar 1) arNil))))) (zRet (vC (.bl false))) zPass) (vb__law_plain_1 r)) zPass) (vb__law_plain_4 r))
def vf__law_plain : Nat → VM
  | 0 => fun _ _ => .stuck
  | n + 1 => vRun (vb__law_plain (vf__law_plain n)) 4
def v__law_plain : VM := vf__law_plain 8
theorem dvfr__law_plain : ∀ n, DVF (vf__law_plain n) (mf__law_plain n)
  | 0 => fun _ _ _ _ _ _ _ _ => trivial
  | n + 1 => dvf_run (b := vb__law_plain (vf__law_plain n)) (bj := bf__law_plain (mf__law_plain n)) (n := 4) (dvs_seq (dvs_if (dvt_tru (dv_isi dv_var)) (dvs_seq (dvs_if (dvt_or (dvt_not (dvt_tru (dv_isi dv_var))) (dvt_tb (dv_op oka_ne (dv_fn okb_len (dva_cons dv_var dva_nil)) (dv_fn okb_len (dva_cons dv_var dva_nil))))) (dvs_ret dv_bl) dvs_pass) (dvs_seq (dvs_forZ (dva_cons dv_var (dva_cons dv_var dva_nil)) (dvtg_tp (dvtgs_cons (dvtg_nm (i := 2) (by decide)) (dvtgs_cons (dvtg_nm (i := 3) (by decide)) dvtgs_nil))) (dvs_if (dvt_not (dvt_tru (dv_call (dvfr__law_plain n) (fun _ _ => .nil) (dva_cons dv_var (dva_cons dv_var dva_nil))))) (dvs_ret dv_bl) dvs_pass)) (dvs_ret dv_bl))) dvs_pass) (dvs_seq (dvs_if (dvt_tb (dv_op oka_is dv_var dv_non)) (dvs_ret (dv_op oka_is dv_var dv_non)) dvs_pass) (dvs_seq (dvs_if (dvt_or (dvt_tru (dv_isi dv_var)) (dvt_tru (dv_isi dv_var))) (dvs_ret (dv_and (dv_isi dv_var) (dv_and (dv_isi dv_var) (dv_op oka_eq dv_var dv_var)))) dvs_pass) (dvs_seq (dvs_if (dvt_tru (dv_isi dv_var)) (dvs_ret (dv_and (dv_isi dv_var) (dv_op oka_eq dv_var dv_var))) dvs_pass) (dvs_ret (dv_and (dv_isi dv_var) (dv_op oka_eq dv_var dv_var)))))))
theorem dvf__law_plain : DVF v__law_plain m__law_plain := dvfr__law_plain 8
theorem fnr__law_plain (c : Facts P K mg) : ∀ n, FnM P w K mg base (st K) (n + 1) (He.ga K "_law_plain") 2 (mf__law_plain n) []
  | 0 => by
    obtain ⟨fd, F⟩ := c.d__law_plain
    exact fnm_stuck (ps := ["_law_answer", "_law_due"]) rfl (F.bindsN fun _ _ _ _ _ _ us hl => match us, hl with | [_, _], _ => rfl)
  | n + 1 => by
    have ih := fnr__law_plain c n
    have df : Df P w K mg base (st K) (n + 1) "_law_plain" 2 (mf__law_plain n) [] := by
      obtain ⟨fd, F⟩ := c.d__law_plain
      exact ⟨_, c.g__law_plain, F.kp, ih⟩
    obtain ⟨fd, F⟩ := c.d__law_plain
    refine fnm_of (k := n + 1) (N := ["_law_answer", "_law_due", "_law_one", "_law_other"]) (ps := ["_law_answer", "_law_due"]) (b := bf__law_plain (mf__law_plain n)) F sc__law_plain rfl (F.bindsN fun _ _ _ _ _ _ us hl => match us, hl with | [_, _], _ => rfl) fun cdv A outer s H E hr => ?_
    exact (db_cons (ds_if (dt_tru rfl (de_isi (cs := []) (f := isTup) rfl no_mem (pc_ty rfl c.f_tuple b_tuple) (.ty _) (isTup_ok K) rfl c.f_isinstance (de_var (i := 1) rfl (by first | exact .inl rfl | exact .inr (.inl rfl) | exact .inr (.inr rfl))))) (db_cons (ds_if (dw_pt (dw_or (dt_not (dt_tru rfl (de_isi (cs := []) (f := isTup) rfl no_mem (pc_ty rfl c.f_tuple b_tuple) (.ty _) (isTup_ok K) rfl c.f_isinstance (de_var (i := 0) rfl (by first | exact .inl rfl | exact .inr (.inl rfl) | exact .inr (.inr rfl)))))) (dw_or1 (dt_cmp (ok_qNe rfl hr.units) (de_callB (ok_len rfl) rfl c.f_len b_len (da_cons (de_var (i := 0) rfl (by first | exact .inl rfl | exact .inr (.inl rfl) | exact .inr (.inr rfl))) da_nil)) (de_callB (ok_len rfl) rfl c.f_len b_len (da_cons (de_var (i := 1) rfl (by first | exact .inl rfl | exact .inr (.inl rfl) | exact .inr (.inr rfl))) da_nil)))))) (db_one (ds_ret de_bl)) db_nil) (db_cons (ds_forZ rfl passes_body rfl rfl c.f_zip (da_cons (de_var (i := 0) rfl (by first | exact .inl rfl | exact .inr (.inl rfl) | exact .inr (.inr rfl))) (da_cons (de_var (i := 1) rfl (by first | exact .inl rfl | exact .inr (.inl rfl) | exact .inr (.inr rfl))) da_nil)) (dg_tup rfl rfl (dgs_cons (dg_name (i := 2) sc__law_plain.nd rfl (by first | exact .inl rfl | exact .inr rfl)) (dgs_cons (dg_name (i := 3) sc__law_plain.nd rfl (by first | exact .inl rfl | exact .inr rfl)) dgs_nil))) (db_one (ds_if (dt_not (dt_tru rfl (de_call df (hr.mono (by omega)) takes_body rfl (da_cons (de_var (i := 2) rfl (by first | exact .inl rfl | exact .inr (.inl rfl) | exact .inr (.inr rfl))) (da_cons (de_var (i := 3) rfl (by first | exact .inl rfl | exact .inr (.inl rfl) | exact .inr (.inr rfl))) da_nil))))) (db_one (ds_ret de_bl)) db_nil))) (db_one (ds_ret de_bl)))) db_nil) (db_cons (ds_if (dt_cmp ok_is (de_var (i := 1) rfl (by first | exact .inl rfl | exact .inr (.inl rfl) | exact .inr (.inr rfl))) de_non) (db_one (ds_ret (de_cmp ok_is (de_var (i := 0) rfl (by first | exact .inl rfl | exact .inr (.inl rfl) | exact .inr (.inr rfl))) de_non))) db_nil) (db_cons (ds_if (dw_pt (dw_or (dt_tru rfl (de_isi (cs := []) (f := isBool) rfl no_mem (pc_ty rfl c.f_bool b_bool) (.ty _) (isBool_ok K) rfl c.f_isinstance (de_var (i := 1) rfl (by first | exact .inl rfl | exact .inr (.inl rfl) | exact .inr (.inr rfl))))) (dw_or1 (dt_tru rfl (de_isi (cs := []) (f := isBool) rfl no_mem (pc_ty rfl c.f_bool b_bool) (.ty _) (isBool_ok K) rfl c.f_isinstance (de_var (i := 0) rfl (by first | exact .inl rfl | exact .inr (.inl rfl) | exact .inr (.inr rfl)))))))) (db_one (ds_ret (de_and rfl (de_isi (cs := []) (f := isBool) rfl no_mem (pc_ty rfl c.f_bool b_bool) (.ty _) (isBool_ok K) rfl c.f_isinstance (de_var (i := 1) rfl (by first | exact .inl rfl | exact .inr (.inl rfl) | exact .inr (.inr rfl)))) (de_and rfl (de_isi (cs := []) (f := isBool) rfl no_mem (pc_ty rfl c.f_bool b_bool) (.ty _) (isBool_ok K) rfl c.f_isinstance (de_var (i := 0) rfl (by first | exact .inl rfl | exact .inr (.inl rfl) | exact .inr (.inr rfl)))) (de_one (de_cmp (ok_qEq rfl hr.units) (de_var (i := 0) rfl (by first | exact .inl rfl | exact .inr (.inl rfl) | exact .inr (.inr rfl))) (de_var (i := 1) rfl (by first | exact .inl rfl | exact .inr (.inl rfl) | exact .inr (.inr rfl))))))))) db_nil) (db_cons (ds_if (dt_tru rfl (de_isi (cs := []) (f := isInt) rfl no_mem (pc_ty rfl c.f_int b_int) (.ty _) (isInt_ok K) rfl c.f_isinstance (de_var (i := 1) rfl (by first | exact .inl rfl | exact .inr (.inl rfl) | exact .inr (.inr rfl))))) (db_one (ds_ret (de_and rfl (de_isi (cs := []) (f := isInt) rfl no_mem (pc_ty rfl c.f_int b_int) (.ty _) (isInt_ok K) rfl c.f_isinstance (de_var (i := 0) rfl (by first | exact .inl rfl | exact .inr (.inl rfl) | exact .inr (.inr rfl)))) (de_one (de_cmp (ok_qEq rfl hr.units) (de_var (i := 0) rfl (by first | exact .inl rfl | exact .inr (.inl rfl) | exact .inr (.inr rfl))) (de_var (i := 1) rfl (by first | exact .inl rfl | exact .inr (.inl rfl) | exact .inr (.inr rfl)))))))) db_nil) (db_one (ds_ret (de_and rfl (de_isi (cs := []) (f := isStr) rfl no_mem (pc_ty rfl c.f_str b_str) (.ty _) (isStr_ok K) rfl c.f_isinstance (de_var (i := 0) rfl (by first | exact .inl rfl | exact .inr (.inl rfl) | exact .inr (.inr rfl)))) (de_one (de_cmp (ok_qEq rfl hr.units) (de_var (i := 0) rfl (by first | exact .inl rfl | exact .inr (.inl rfl) | exact .inr (.inr rfl))) (de_var (i := 1) rfl (by first | exact .inl rfl | exact .inr (.inl rfl) | exact .inr (.inr rfl))))))))))))
theorem fn__law_plain (c : Facts P K mg) : FnM P w K mg base (st K) 9 (He.ga K "_law_plain") 2 m__law_plain [] := fnr__law_plain c 8
theorem df__law_plain (c : Facts P K mg) : Df P w K mg base (st K) 9 "_law_plain" 2 m__law_plain [] := by
  obtain ⟨fd, F⟩ := c.d__law_plain
  exact ⟨_, c.g__law_plain, F.kp, fn__law_plain c⟩
/-! ### _law_shown -/
theorem sc__law_shown : FnScope ["_law_backs_here", "_law_p", "_law_q", "_law_r", "_law_table", "_law_found", "_law_x", "_law_y", "_law_z", "_law_three"] ["_law_backs_here", "_law_p", "_law_q", "_law_r"] (defScope s__law_shown) := ⟨rfl, rfl, rfl, by decide +kernel, rfl, by decide +kernel, by decide +kernel⟩
def b__law_shown : Sx := (sSeq (sSet 4 (eLst (aCons (eLst (aCons (eUn oNeg (eC (.int 1))) (aCons (eVar 1) (aCons (eVar 3) aNil)))) (aCons (eLst (aCons (eOp oIx (eVar 0) (eVar 1)) (aCons (eUn oNeg (eC (.int 1))) (aCons (eVar 2) aNil)))) (aCons (eLst (aCons (eOp oIx (eVar 0) (eVar 3)) (aCons (eOp oIx (eVar 0) (eVar 2)) (aCons (eUn oNeg (eC (.int 1))) aNil)))) aNil))))) (sSeq (sSet 5 (eLst aNil)) (sSeq (sFor (eLst (aCons (eTup (aCons (eC (.int 0)) (aCons (eC (.int 1)) (aCons (eC (.int 2)) aNil)))) (aCons (eTup (aCons (eC (.int 0)) (aCons (eC (.int 2)) (aCons (eC (.int 1)) aNil)))) (aCons (eTup (aCons (eC (.int 1)) (aCons (eC (.int 0)) (aCons (eC (.int 2)) aNil)))) (aCons (eTup (aCons (eC (.int 1)) (aCons (eC (.int 2)) (aCons (eC (.int 0)) aNil)))) (aCons (eTup (aCons (eC (.int 2)) (aCons (eC (.int 0)) (aCons (eC (.int 1)) aNil)))) (aCons (eTup (aCons (eC (.int 2)) (aCons (eC (.int 1)) (aCons (eC (.int 0)) aNil)))) aNil))))))) (gTp 3 (gsCons (gNm 6) (gsCons (gNm 7) (gsCons (gNm 8) gsNil)))) (sSeq (sSet 9 (eTup (aCons (eOp oIx (eOp oIx (eVar 4) (eVar 6)) (eVar 7)) (aCons (eOp oIx (eOp oIx (eVar 4) (eVar 7)) (eVar 8)) (aCons (eOp oIx (eOp oIx (eVar 4) (eVar 6)) (eVar 8)) aNil))))) (sIf (xTb (eOp qNin (eVar 9) (eVar 5))) (sExp (eLm mAppend (eVar 5) (aCons (eVar 9) aNil))) sPass))) (sRet (eFn fSorted (aCons (eVar 5) aNil))))))
def m__law_shown : Mir := runB b__law_shown 10
def vb__law_shown_4 : VSx := (zIf (uTb (vOp aNin (vVar 9) (vVar 5))) (zMut 5 mAppendV (arCons (vVar 9) arNil)) zPass)
def vb__law_shown_3 : VSx := (zSeq (zSetH 9 (vTup (arCons (vOp aIx (vOp aIx (vVar 4) (vVar 6)) (vVar 7)) (arCons (vOp aIx (vOp aIx (vVar 4) (vVar 7)) (vVar 8)) (arCons (vOp aIx (vOp aIx (vVar 4) (vVar 6)) (vVar 8)) arNil))))) vb__law_shown_4)
def vb__law_shown_5 : VSx := (zRet (vFn bSorted (arCons (vVar 5) arNil)))
def vb__law_shown_2 : VSx := (zSeq (zFor (vLst (arCons (vTup (arCons (vC (.int 0)) (arCons (vC (.int 1)) (arCons (vC (.int 2)) arNil)))) (arCons (vTup (arCons (vC (.int 0)) (arCons (vC (.int 2)) (arCons (vC (.int 1)) arNil)))) (arCons (vTup (arCons (vC (.int 1)) (arCons (vC (.int 0)) (arCons (vC (.int 2)) arNil)))) (arCons (vTup (arCons (vC (.int 1)) (arCons (vC (.int 2)) (arCons (vC (.int 0)) arNil)))) (arCons (vTup (arCons (vC (.int 2)) (arCons (vC (.int 0)) (arCons (vC (.int 1)) arNil)))) (arCons (vTup (arCons (vC (.int 2)) (arCons (vC (.int 1)) (arCons (vC (.int 0)) arNil)))) arNil))))))) (gzTp 3 (gzCons (gzNm 6) (gzCons (gzNm 7) (gzCons (gzNm 8) gzNil)))) vb__law_shown_3) vb__law_shown_5)
def vb__law_shown_1 : VSx := (zSeq (zSet 5 (vLst arNil)) vb__law_shown_2)
def vb__law_shown : VSx := (zSeq (zSetH 4 (vLst (arCons (vLst (arCons (vUn aNeg (vC (.int 1))) (arCons (vVar 1) (arCons (vVar 3) arNil)))) (arCons (vLst (arCons (vOp aIx (vVar 0) (vVar 1)) (arCons (vUn aNeg (vC (.int 1))) (arCons (vVar 2) arNil)))) (arCons (vLst (arCons (vOp aIx (vVar 0) (vVar 3)) (arCons (vOp aIx (vVar 0) (vVar 2)) (arCons (vUn aNeg (vC (.int 1))) arNil)))) arNil))))) vb__law_shown_1)
def v__law_shown : VM := vRun vb__law_shown 10
theorem dvf__law_shown : DVF v__law_shown m__law_shown := dvf_run (b := vb__law_shown) (bj := b__law_shown) (n := 10) (dvs_seq (dvs_setH (i := 4) (by decide) (dv_lst (dva_cons (dv_lst (dva_cons (dv_un oka_neg dv_int) (dva_cons dv_var (dva_cons dv_var dva_nil)))) (dva_cons (dv_lst (dva_cons (dv_op oka_ix dv_var dv_var) (dva_cons (dv_un oka_neg dv_int) (dva_cons dv_var dva_nil)))) (dva_cons (dv_lst (dva_cons (dv_op oka_ix dv_var dv_var) (dva_cons (dv_op oka_ix dv_var dv_var) (dva_cons (dv_un oka_neg dv_int) dva_nil)))) dva_nil))))) (dvs_seq (dvs_set (i := 5) (by decide) (dv_lst dva_nil)) (dvs_seq (dvs_for (dv_lst (dva_cons (dv_tup (dva_cons dv_int (dva_cons dv_int (dva_cons dv_int dva_nil)))) (dva_cons (dv_tup (dva_cons dv_int (dva_cons dv_int (dva_cons dv_int dva_nil)))) (dva_cons (dv_tup (dva_cons dv_int (dva_cons dv_int (dva_cons dv_int dva_nil)))) (dva_cons (dv_tup (dva_cons dv_int (dva_cons dv_int (dva_cons dv_int dva_nil)))) (dva_cons (dv_tup (dva_cons dv_int (dva_cons dv_int (dva_cons dv_int dva_nil)))) (dva_cons (dv_tup (dva_cons dv_int (dva_cons dv_int (dva_cons dv_int dva_nil)))) dva_nil))))))) (dvtg_tp (dvtgs_cons (dvtg_nm (i := 6) (by decide)) (dvtgs_cons (dvtg_nm (i := 7) (by decide)) (dvtgs_cons (dvtg_nm (i := 8) (by decide)) dvtgs_nil)))) (dvs_seq (dvs_setH (i := 9) (by decide) (dv_tup (dva_cons (dv_op oka_ix (dv_op oka_ix dv_var dv_var) dv_var) (dva_cons (dv_op oka_ix (dv_op oka_ix dv_var dv_var) dv_var) (dva_cons (dv_op oka_ix (dv_op oka_ix dv_var dv_var) dv_var) dva_nil))))) (dvs_if (dvt_tb (dv_op oka_nin dv_var dv_var)) (dvs_mut okm_append (dva_cons dv_var dva_nil)) dvs_pass))) (dvs_ret (dv_fn okb_sorted (dva_cons dv_var dva_nil))))))
theorem fn__law_shown (c : Facts P K mg) : FnM P w K mg base (st K) 1 (He.ga K "_law_shown") 4 m__law_shown [] := by
  obtain ⟨fd, F⟩ := c.d__law_shown
  refine fnm_of (N := ["_law_backs_here", "_law_p", "_law_q", "_law_r", "_law_table", "_law_found", "_law_x", "_law_y", "_law_z", "_law_three"]) (ps := ["_law_backs_here", "_law_p", "_law_q", "_law_r"]) (b := b__law_shown) F sc__law_shown rfl (F.bindsN fun _ _ _ _ _ _ us hl => match us, hl with | [_, _, _, _], _ => rfl) fun cdv A outer s H E hr => ?_
  exact (db_cons (ds_set (i := 4) sc__law_shown.nd rfl (by first | exact .inl rfl | exact .inr rfl) (de_lst (da_cons (de_lst (da_cons (de_un ok_neg de_int) (da_cons (de_var (i := 1) rfl (by first | exact .inl rfl | exact .inr (.inl rfl) | exact .inr (.inr rfl))) (da_cons (de_var (i := 3) rfl (by first | exact .inl rfl | exact .inr (.inl rfl) | exact .inr (.inr rfl))) da_nil)))) (da_cons (de_lst (da_cons (de_ix (ok_ix rfl) (de_var (i := 0) rfl (by first | exact .inl rfl | exact .inr (.inl rfl) | exact .inr (.inr rfl))) (de_var (i := 1) rfl (by first | exact .inl rfl | exact .inr (.inl rfl) | exact .inr (.inr rfl)))) (da_cons (de_un ok_neg de_int) (da_cons (de_var (i := 2) rfl (by first | exact .inl rfl | exact .inr (.inl rfl) | exact .inr (.inr rfl))) da_nil)))) (da_cons (de_lst (da_cons (de_ix (ok_ix rfl) (de_var (i := 0) rfl (by first | exact .inl rfl | exact .inr (.inl rfl) | exact .inr (.inr rfl))) (de_var (i := 3) rfl (by first | exact .inl rfl | exact .inr (.inl rfl) | exact .inr (.inr rfl)))) (da_cons (de_ix (ok_ix rfl) (de_var (i := 0) rfl (by first | exact .inl rfl | exact .inr (.inl rfl) | exact .inr (.inr rfl))) (de_var (i := 2) rfl (by first | exact .inl rfl | exact .inr (.inl rfl) | exact .inr (.inr rfl)))) (da_cons (de_un ok_neg de_int) da_nil)))) da_nil))))) (db_cons (ds_set (i := 5) sc__law_shown.nd rfl (by first | exact .inl rfl | exact .inr rfl) (de_lst da_nil)) (db_cons (ds_for rfl passes_body rfl (de_lst (da_cons (de_tup (da_cons de_int (da_cons de_int (da_cons de_int da_nil)))) (da_cons (de_tup (da_cons de_int (da_cons de_int (da_cons de_int da_nil)))) (da_cons (de_tup (da_cons de_int (da_cons de_int (da_cons de_int da_nil)))) (da_cons (de_tup (da_cons de_int (da_cons de_int (da_cons de_int da_nil)))) (da_cons (de_tup (da_cons de_int (da_cons de_int (da_cons de_int da_nil)))) (da_cons (de_tup (da_cons de_int (da_cons de_int (da_cons de_int da_nil)))) da_nil))))))) (dg_tup rfl rfl (dgs_cons (dg_name (i := 6) sc__law_shown.nd rfl (by first | exact .inl rfl | exact .inr rfl)) (dgs_cons (dg_name (i := 7) sc__law_shown.nd rfl (by first | exact .inl rfl | exact .inr rfl)) (dgs_cons (dg_name (i := 8) sc__law_shown.nd rfl (by first | exact .inl rfl | exact .inr rfl)) dgs_nil)))) (db_cons (ds_set (i := 9) sc__law_shown.nd rfl (by first | exact .inl rfl | exact .inr rfl) (de_tup (da_cons (de_ix (ok_ix rfl) (de_ix (ok_ix rfl) (de_var (i := 4) rfl (by first | exact .inl rfl | exact .inr (.inl rfl) | exact .inr (.inr rfl))) (de_var (i := 6) rfl (by first | exact .inl rfl | exact .inr (.inl rfl) | exact .inr (.inr rfl)))) (de_var (i := 7) rfl (by first | exact .inl rfl | exact .inr (.inl rfl) | exact .inr (.inr rfl)))) (da_cons (de_ix (ok_ix rfl) (de_ix (ok_ix rfl) (de_var (i := 4) rfl (by first | exact .inl rfl | exact .inr (.inl rfl) | exact .inr (.inr rfl))) (de_var (i := 7) rfl (by first | exact .inl rfl | exact .inr (.inl rfl) | exact .inr (.inr rfl)))) (de_var (i := 8) rfl (by first | exact .inl rfl | exact .inr (.inl rfl) | exact .inr (.inr rfl)))) (da_cons (de_ix (ok_ix rfl) (de_ix (ok_ix rfl) (de_var (i := 4) rfl (by first | exact .inl rfl | exact .inr (.inl rfl) | exact .inr (.inr rfl))) (de_var (i := 6) rfl (by first | exact .inl rfl | exact .inr (.inl rfl) | exact .inr (.inr rfl)))) (de_var (i := 8) rfl (by first | exact .inl rfl | exact .inr (.inl rfl) | exact .inr (.inr rfl)))) da_nil))))) (db_one (ds_if (dt_cmp (ok_qNin rfl hr.units) (de_var (i := 9) rfl (by first | exact .inl rfl | exact .inr (.inl rfl) | exact .inr (.inr rfl))) (de_var (i := 5) rfl (by first | exact .inl rfl | exact .inr (.inl rfl) | exact .inr (.inr rfl)))) (db_one (ds_exp (de_lm rfl PySem.F.slot_list_append PySem.F.type_list_append ok_append (de_var (i := 5) rfl (by first | exact .inl rfl | exact .inr (.inl rfl) | exact .inr (.inr rfl))) (da_cons (de_var (i := 9) rfl (by first | exact .inl rfl | exact .inr (.inl rfl) | exact .inr (.inr rfl))) da_nil)))) db_nil)))) (db_one (ds_ret (de_callB (ok_sorted rfl) rfl c.f_sorted b_sorted (da_cons (de_var (i := 5) rfl (by first | exact .inl rfl | exact .inr (.inl rfl) | exact .inr (.inr rfl))) da_nil)))))))
theorem df__law_shown (c : Facts P K mg) : Df P w K mg base (st K) 1 "_law_shown" 4 m__law_shown [] := by
  obtain ⟨fd, F⟩ := c.d__law_shown
  exact ⟨_, c.g__law_shown, F.kp, fn__law_shown c⟩
/-! ### _law_shape -/
theorem sc__law_shape : FnScope ["_law_hand_here", "_law_row"] ["_law_hand_here", "_law_row"] (defScope s__law_shape) := ⟨rfl, rfl, rfl, by decide +kernel, rfl, by decide +kernel, by decide +kernel⟩
def b__law_shape : Sx := (sSeq (sIf (xTb (eOp qEq (eCall m__law_draw 2 [] (aCons (eVar 0) (aCons (eC (.int 2)) aNil))) (eC (.int 0)))) (sRet (eFn fList (aCons (eVar 1) aNil))) sPass) (sRet (eFn fTuple (aCons (eVar 1) aNil))))
def m__law_shape : Mir := runB b__law_shape 2
def vb__law_shape_1 : VSx := (zRet (vFn bTuple (arCons (vVar 1) arNil)))
def vb__law_shape : VSx := (zSeq (zIf (uTb (vOp aEq (vCall v__law_draw 2 [] (arCons (vVar 0) (arCons (vC (.int 2)) arNil))) (vC (.int 0)))) (zRet (vFn bList (arCons (vVar 1) arNil))) zPass) vb__law_shape_1)
def v__law_shape : VM := vRun vb__law_shape 2
theorem dvf__law_shape : DVF v__law_shape m__law_shape := dvf_run (b := vb__law_shape) (bj := b__law_shape) (n := 2) (dvs_seq (dvs_if (dvt_tb (dv_op oka_eq (dv_call dvf__law_draw (fun _ _ => .nil) (dva_cons dv_var (dva_cons dv_int dva_nil))) dv_int)) (dvs_ret (dv_fn okb_list (dva_cons dv_var dva_nil))) dvs_pass) (dvs_ret (dv_fn okb_tuple (dva_cons dv_var dva_nil))))
theorem fn__law_shape (c : Facts P K mg) : FnM P w K mg base (st K) 3 (He.ga K "_law_shape") 2 m__law_shape [] := by
  obtain ⟨fd, F⟩ := c.d__law_shape
  refine fnm_of (N := ["_law_hand_here", "_law_row"]) (ps := ["_law_hand_here", "_law_row"]) (b := b__law_shape) F sc__law_shape rfl (F.bindsN fun _ _ _ _ _ _ us hl => match us, hl with | [_, _], _ => rfl) fun cdv A outer s H E hr => ?_
  exact (db_cons (ds_if (dt_cmp (ok_qEq rfl hr.units) (de_call (df__law_draw c) (hr.mono (by decide)) takes_body rfl (da_cons (de_var (i := 0) rfl (by first | exact .inl rfl | exact .inr (.inl rfl) | exact .inr (.inr rfl))) (da_cons de_int da_nil))) de_int) (db_one (ds_ret (de_callTy (ok_list rfl) rfl c.f_list b_list (da_cons (de_var (i := 1) rfl (by first | exact .inl rfl | exact .inr (.inl rfl) | exact .inr (.inr rfl))) da_nil)))) db_nil) (db_one (ds_ret (de_callTy (ok_tuple rfl) rfl c.f_tuple b_tuple (da_cons (de_var (i := 1) rfl (by first | exact .inl rfl | exact .inr (.inl rfl) | exact .inr (.inr rfl))) da_nil)))))
theorem df__law_shape (c : Facts P K mg) : Df P w K mg base (st K) 3 "_law_shape" 2 m__law_shape [] := by
  obtain ⟨fd, F⟩ := c.d__law_shape
  exact ⟨_, c.g__law_shape, F.kp, fn__law_shape c⟩
/-! ### all_threes -/
theorem sc_all_threes : FnScope ["ties", "rows", "p", "q", "r"] ["ties"] (defScope s_all_threes) := ⟨rfl, rfl, rfl, by decide +kernel, rfl, by decide +kernel, by decide +kernel⟩
def b_all_threes : Sx := (sSeq (sSet 1 (eLst aNil)) (sSeq (sForR rng1 (aCons (eUn (oFld [57] 18) (eVar 0)) aNil) (gNm 2) (sForR rng1 (aCons (eUn (oFld [57] 18) (eVar 0)) aNil) (gNm 3) (sForR rng1 (aCons (eUn (oFld [57] 18) (eVar 0)) aNil) (gNm 4) (sExp (eLm mAppend (eVar 1) (aCons (eTup (aCons (eVar 2) (aCons (eVar 3) (aCons (eVar 4) aNil)))) aNil)))))) (sRet (eFn fTuple (aCons (eVar 1) aNil)))))
def m_all_threes : Mir := runB b_all_threes 5
def vb_all_threes_4 : VSx := (zMut 1 mAppendV (arCons (vTup (arCons (vVar 2) (arCons (vVar 3) (arCons (vVar 4) arNil)))) arNil))
def vb_all_threes_3 : VSx := (zForR rngV1 (arCons (vUn (aFld [57] 18) (vVar 0)) arNil) (gzNm 4) vb_all_threes_4)
def vb_all_threes_2 : VSx := (zForR rngV1 (arCons (vUn (aFld [57] 18) (vVar 0)) arNil) (gzNm 3) vb_all_threes_3)
def vb_all_threes_5 : VSx := (zRet (vFn bTuple (arCons (vVar 1) arNil)))
def vb_all_threes_1 : VSx := (zSeq (zForR rngV1 (arCons (vUn (aFld [57] 18) (vVar 0)) arNil) (gzNm 2) vb_all_threes_2) vb_all_threes_5)
def vb_all_threes : VSx := (zSeq (zSet 1 (vLst arNil)) vb_all_threes_1)
def v_all_threes : VM := vRun vb_all_threes 5
theorem dvf_all_threes : DVF v_all_threes m_all_threes := dvf_run (b := vb_all_threes) (bj := b_all_threes) (n := 5) (dvs_seq (dvs_set (i := 1) (by decide) (dv_lst dva_nil)) (dvs_seq (dvs_forR okr_1 (dva_cons (dv_un oka_fld dv_var) dva_nil) (dvtg_nm (i := 2) (by decide)) (dvs_forR okr_1 (dva_cons (dv_un oka_fld dv_var) dva_nil) (dvtg_nm (i := 3) (by decide)) (dvs_forR okr_1 (dva_cons (dv_un oka_fld dv_var) dva_nil) (dvtg_nm (i := 4) (by decide)) (dvs_mut okm_append (dva_cons (dv_tup (dva_cons dv_var (dva_cons dv_var (dva_cons dv_var dva_nil)))) dva_nil))))) (dvs_ret (dv_fn okb_tuple (dva_cons dv_var dva_nil)))))
theorem fn_all_threes (c : Facts P K mg) : FnM P w K mg base (st K) 1 (He.ga K "all_threes") 1 m_all_threes [] := by
  obtain ⟨fd, F⟩ := c.d_all_threes
  refine fnm_of (N := ["ties", "rows", "p", "q", "r"]) (ps := ["ties"]) (b := b_all_threes) F sc_all_threes rfl (F.bindsN fun _ _ _ _ _ _ us hl => match us, hl with | [_], _ => rfl) fun cdv A outer s H E hr => ?_
  exact (db_cons (ds_set (i := 1) sc_all_threes.nd rfl (by first | exact .inl rfl | exact .inr rfl) (de_lst da_nil)) (db_cons (ds_forR1 passes_body rfl rfl c.f_range (da_cons (de_fld (f := 18) (cs := [57]) st_nd rfl (mem_cons' (p := fun d => Cls K ((st K).ca d) ∧ NoAttr K ((st K).ca d) "many") ⟨c.cls_Ties, c.no_Ties_many⟩ no_mem) (de_var (i := 0) rfl (by first | exact .inl rfl | exact .inr (.inl rfl) | exact .inr (.inr rfl)))) da_nil) (dg_name (i := 2) sc_all_threes.nd rfl (by first | exact .inl rfl | exact .inr rfl)) (db_one (ds_forR1 passes_body rfl rfl c.f_range (da_cons (de_fld (f := 18) (cs := [57]) st_nd rfl (mem_cons' (p := fun d => Cls K ((st K).ca d) ∧ NoAttr K ((st K).ca d) "many") ⟨c.cls_Ties, c.no_Ties_many⟩ no_mem) (de_var (i := 0) rfl (by first | exact .inl rfl | exact .inr (.inl rfl) | exact .inr (.inr rfl)))) da_nil) (dg_name (i := 3) sc_all_threes.nd rfl (by first | exact .inl rfl | exact .inr rfl)) (db_one (ds_forR1 passes_body rfl rfl c.f_range (da_cons (de_fld (f := 18) (cs := [57]) st_nd rfl (mem_cons' (p := fun d => Cls K ((st K).ca d) ∧ NoAttr K ((st K).ca d) "many") ⟨c.cls_Ties, c.no_Ties_many⟩ no_mem) (de_var (i := 0) rfl (by first | exact .inl rfl | exact .inr (.inl rfl) | exact .inr (.inr rfl)))) da_nil) (dg_name (i := 4) sc_all_threes.nd rfl (by first | exact .inl rfl | exact .inr rfl)) (db_one (ds_exp (de_lm rfl PySem.F.slot_list_append PySem.F.type_list_append ok_append (de_var (i := 1) rfl (by first | exact .inl rfl | exact .inr (.inl rfl) | exact .inr (.inr rfl))) (da_cons (de_tup (da_cons (de_var (i := 2) rfl (by first | exact .inl rfl | exact .inr (.inl rfl) | exact .inr (.inr rfl))) (da_cons (de_var (i := 3) rfl (by first | exact .inl rfl | exact .inr (.inl rfl) | exact .inr (.inr rfl))) (da_cons (de_var (i := 4) rfl (by first | exact .inl rfl | exact .inr (.inl rfl) | exact .inr (.inr rfl))) da_nil)))) da_nil))))))))) (db_one (ds_ret (de_callTy (ok_tuple rfl) rfl c.f_tuple b_tuple (da_cons (de_var (i := 1) rfl (by first | exact .inl rfl | exact .inr (.inl rfl) | exact .inr (.inr rfl))) da_nil))))))
theorem df_all_threes (c : Facts P K mg) : Df P w K mg base (st K) 1 "all_threes" 1 m_all_threes [] := by
  obtain ⟨fd, F⟩ := c.d_all_threes
  exact ⟨_, c.g_all_threes, F.kp, fn_all_threes c⟩
/-! ### is_three -/
theorem sc_is_three : FnScope ["ties", "thing", "entry"] ["ties", "thing"] (defScope s_is_three) := ⟨rfl, rfl, rfl, by decide +kernel, rfl, by decide +kernel, by decide +kernel⟩
def b_is_three : Sx := (sSeq (sIf (xOr (xNot (xTru (eIsi [] isLT (eVar 1)))) (xTb (eOp qNe (eFn fLen (aCons (eVar 1) aNil)) (eC (.int 3))))) (sRet (eC (.bl false))) sPass) (sSeq (sFor (eVar 1) (gNm 2) (sIf (xNot (xTru (eCall m_is_whole 3 [] (aCons (eVar 2) (aCons (eC (.int 0)) (aCons (eOp oSub (eUn (oFld [57] 18) (eVar 0)) (eC (.int 1))) aNil)))))) (sRet (eC (.bl false))) sPass)) (sRet (eC (.bl true)))))
def m_is_three : Mir := runB b_is_three 3
def vb_is_three_2 : VSx := (zIf (uNot (uTru (vCall v_is_whole 3 [] (arCons (vVar 2) (arCons (vC (.int 0)) (arCons (vOp aSub (vUn (aFld [57] 18) (vVar 0)) (vC (.int 1))) arNil)))))) (zRet (vC (.bl false))) zPass)
def vb_is_three_3 : VSx := (zRet (vC (.bl true)))
def vb_is_three_1 : VSx := (zSeq (zForI 1 (gzNm 2) vb_is_three_2) vb_is_three_3)
def vb_is_three : VSx := (zSeq (zIf (uOr (uNot (uTru (vIsi [] isLT (vVar 1)))) (uTb (vOp aNe (vFn bLen (arCons (vVar 1) arNil)) (vC (.int 3))))) (zRet (vC (.bl false))) zPass) vb_is_three_1)
def v_is_three : VM := vRun vb_is_three 3
theorem dvf_is_three : DVF v_is_three m_is_three := dvf_run (b := vb_is_three) (bj := b_is_three) (n := 3) (dvs_seq (dvs_if (dvt_or (dvt_not (dvt_tru (dv_isi dv_var))) (dvt_tb (dv_op oka_ne (dv_fn okb_len (dva_cons dv_var dva_nil)) dv_int))) (dvs_ret dv_bl) dvs_pass) (dvs_seq (dvs_forI (dvtg_nm (i := 2) (by decide)) (dvs_if (dvt_not (dvt_tru (dv_call dvf_is_whole (fun _ _ => .nil) (dva_cons dv_var (dva_cons dv_int (dva_cons (dv_op oka_sub (dv_un oka_fld dv_var) dv_int) dva_nil)))))) (dvs_ret dv_bl) dvs_pass)) (dvs_ret dv_bl)))
theorem fn_is_three (c : Facts P K mg) : FnM P w K mg base (st K) 2 (He.ga K "is_three") 2 m_is_three [] := by
  obtain ⟨fd, F⟩ := c.d_is_three
  refine fnm_of (N := ["ties", "thing", "entry"]) (ps := ["ties", "thing"]) (b := b_is_three) F sc_is_three rfl (F.bindsN fun _ _ _ _ _ _ us hl => match us, hl with | [_, _], _ => rfl) fun cdv A outer s H E hr => ?_
  exact (db_cons (ds_if (dw_pt (dw_or (dt_not (dt_tru rfl (de_isiT (cs := []) (f := isLT) rfl no_mem (pc_cons (pc_ty rfl c.f_list b_list) (pc_cons (pc_ty rfl c.f_tuple b_tuple) pc_nil)) paired_lt (by decide) (isLT_ok K) rfl c.f_isinstance (de_var (i := 1) rfl (by first | exact .inl rfl | exact .inr (.inl rfl) | exact .inr (.inr rfl)))))) (dw_or1 (dt_cmp (ok_qNe rfl hr.units) (de_callB (ok_len rfl) rfl c.f_len b_len (da_cons (de_var (i := 1) rfl (by first | exact .inl rfl | exact .inr (.inl rfl) | exact .inr (.inr rfl))) da_nil)) de_int)))) (db_one (ds_ret de_bl)) db_nil) (db_cons (ds_for rfl passes_body rfl (de_var (i := 1) rfl (by first | exact .inl rfl | exact .inr (.inl rfl) | exact .inr (.inr rfl))) (dg_name (i := 2) sc_is_three.nd rfl (by first | exact .inl rfl | exact .inr rfl)) (db_one (ds_if (dt_not (dt_tru rfl (de_call (df_is_whole c) (hr.mono (by decide)) takes_body rfl (da_cons (de_var (i := 2) rfl (by first | exact .inl rfl | exact .inr (.inl rfl) | exact .inr (.inr rfl))) (da_cons de_int (da_cons (de_op ok_sub (de_fld (f := 18) (cs := [57]) st_nd rfl (mem_cons' (p := fun d => Cls K ((st K).ca d) ∧ NoAttr K ((st K).ca d) "many") ⟨c.cls_Ties, c.no_Ties_many⟩ no_mem) (de_var (i := 0) rfl (by first | exact .inl rfl | exact .inr (.inl rfl) | exact .inr (.inr rfl)))) de_int) da_nil)))))) (db_one (ds_ret de_bl)) db_nil))) (db_one (ds_ret de_bl))))
theorem df_is_three (c : Facts P K mg) : Df P w K mg base (st K) 2 "is_three" 2 m_is_three [] := by
  obtain ⟨fd, F⟩ := c.d_is_three
  exact ⟨_, c.g_is_three, F.kp, fn_is_three c⟩
/-! ### NoThree_zzinitzz -/
theorem sc_NoThree_zzinitzz : NScope ["self", "three", "__class__"] ["self", "three"] ["__class__"] (defScope s_NoThree_zzinitzz) := nscope_by (by decide +kernel)
theorem xc_NoThree (c : Facts P K mg) : Xc P w K mg base (st K) 1 9 "NoThree" [6] := by
  obtain ⟨fd, F⟩ := c.s_NoThree_zzinitzz
  refine ⟨c.g_NoThree, (oexB_ok (ex_at c.ex 5)), _, fd, _, ["three"], (He.eqO_ok (ex_at c.ex 8)), (of_decide_eq_true (ex_at c.ex 9)), ok_sinit1 F (supIB_ok (ex_at c.ex 6)) sc_NoThree_zzinitzz ⟨_, rfl, rfl⟩ (oexB_ok (ex_at c.ex 5)) (He.eqO_ok (ex_at c.ex 7)) c.pf.1 c.pf.2 c.f_super rfl rfl (fun env => ⟨_, rfl⟩), (F.binds fun _ _ _ _ _ _ us hl => match us, hl with | [_, _], _ => rfl), rfl, ?_⟩
  intro i x e
  match i, e with
  | 0, e => cases e; exact ⟨_, rfl, rfl⟩
  | i + 1, e => exact absurd e (by simp)
/-! ### _six -/
theorem sc__six : FnScope ["ties", "three", "p", "q", "r", "backs"] ["ties", "three"] (defScope s__six) := ⟨rfl, rfl, rfl, by decide +kernel, rfl, by decide +kernel, by decide +kernel⟩
def b__six : Sx := (sSeq (sAsg (eVar 1) (gLT 3 (gsCons (gNm 2) (gsCons (gNm 3) (gsCons (gNm 4) gsNil))))) (sSeq (sSet 5 (eUn (oFld [57] 17) (eVar 0))) (sRet (eLst (aCons (eTup (aCons (eVar 2) (aCons (eVar 3) (aCons (eVar 4) aNil)))) (aCons (eTup (aCons (eVar 4) (aCons (eOp oIx (eVar 5) (eVar 3)) (aCons (eVar 2) aNil)))) (aCons (eTup (aCons (eOp oIx (eVar 5) (eVar 2)) (aCons (eVar 4) (aCons (eVar 3) aNil)))) (aCons (eTup (aCons (eVar 3) (aCons (eOp oIx (eVar 5) (eVar 4)) (aCons (eOp oIx (eVar 5) (eVar 2)) aNil)))) (aCons (eTup (aCons (eOp oIx (eVar 5) (eVar 4)) (aCons (eVar 2) (aCons (eOp oIx (eVar 5) (eVar 3)) aNil)))) (aCons (eTup (aCons (eOp oIx (eVar 5) (eVar 3)) (aCons (eOp oIx (eVar 5) (eVar 2)) (aCons (eOp oIx (eVar 5) (eVar 4)) aNil)))) aNil))))))))))
def m__six : Mir := runB b__six 6
def vb__six_2 : VSx := (zRet (vLst (arCons (vTup (arCons (vVar 2) (arCons (vVar 3) (arCons (vVar 4) arNil)))) (arCons (vTup (arCons (vVar 4) (arCons (vOp aIx (vVar 5) (vVar 3)) (arCons (vVar 2) arNil)))) (arCons (vTup (arCons (vOp aIx (vVar 5) (vVar 2)) (arCons (vVar 4) (arCons (vVar 3) arNil)))) (arCons (vTup (arCons (vVar 3) (arCons (vOp aIx (vVar 5) (vVar 4)) (arCons (vOp aIx (vVar 5) (vVar 2)) arNil)))) (arCons (vTup (arCons (vOp aIx (vVar 5) (vVar 4)) (arCons (vVar 2) (arCons (vOp aIx (vVar 5) (vVar 3)) arNil)))) (arCons (vTup (arCons (vOp aIx (vVar 5) (vVar 3)) (arCons (vOp aIx (vVar 5) (vVar 2)) (arCons (vOp aIx (vVar 5) (vVar 4)) arNil)))) arNil))))))))
def vb__six_1 : VSx := (zSeq (zSetH 5 (vUn (aFld [57] 17) (vVar 0))) vb__six_2)
def vb__six : VSx := (zSeq (zAsgLT (vVar 1) 3 (gzCons (gzNm 2) (gzCons (gzNm 3) (gzCons (gzNm 4) gzNil)))) vb__six_1)
def v__six : VM := vRun vb__six 6
theorem dvf__six : DVF v__six m__six := dvf_run (b := vb__six) (bj := b__six) (n := 6) (dvs_seq (dvs_asgLT dv_var (dvtgs_cons (dvtg_nm (i := 2) (by decide)) (dvtgs_cons (dvtg_nm (i := 3) (by decide)) (dvtgs_cons (dvtg_nm (i := 4) (by decide)) dvtgs_nil)))) (dvs_seq (dvs_setH (i := 5) (by decide) (dv_un oka_fld dv_var)) (dvs_ret (dv_lst (dva_cons (dv_tup (dva_cons dv_var (dva_cons dv_var (dva_cons dv_var dva_nil)))) (dva_cons (dv_tup (dva_cons dv_var (dva_cons (dv_op oka_ix dv_var dv_var) (dva_cons dv_var dva_nil)))) (dva_cons (dv_tup (dva_cons (dv_op oka_ix dv_var dv_var) (dva_cons dv_var (dva_cons dv_var dva_nil)))) (dva_cons (dv_tup (dva_cons dv_var (dva_cons (dv_op oka_ix dv_var dv_var) (dva_cons (dv_op oka_ix dv_var dv_var) dva_nil)))) (dva_cons (dv_tup (dva_cons (dv_op oka_ix dv_var dv_var) (dva_cons dv_var (dva_cons (dv_op oka_ix dv_var dv_var) dva_nil)))) (dva_cons (dv_tup (dva_cons (dv_op oka_ix dv_var dv_var) (dva_cons (dv_op oka_ix dv_var dv_var) (dva_cons (dv_op oka_ix dv_var dv_var) dva_nil)))) dva_nil))))))))))
theorem fn__six (c : Facts P K mg) : FnM P w K mg base (st K) 1 (He.ga K "_six") 2 m__six [] := by
  obtain ⟨fd, F⟩ := c.d__six
  refine fnm_of (N := ["ties", "three", "p", "q", "r", "backs"]) (ps := ["ties", "three"]) (b := b__six) F sc__six rfl (F.bindsN fun _ _ _ _ _ _ us hl => match us, hl with | [_, _], _ => rfl) fun cdv A outer s H E hr => ?_
  exact (db_cons (ds_asg (de_var (i := 1) rfl (by first | exact .inl rfl | exact .inr (.inl rfl) | exact .inr (.inr rfl))) (dg_lt rfl rfl (dgs_cons (dg_name (i := 2) sc__six.nd rfl (by first | exact .inl rfl | exact .inr rfl)) (dgs_cons (dg_name (i := 3) sc__six.nd rfl (by first | exact .inl rfl | exact .inr rfl)) (dgs_cons (dg_name (i := 4) sc__six.nd rfl (by first | exact .inl rfl | exact .inr rfl)) dgs_nil))))) (db_cons (ds_set (i := 5) sc__six.nd rfl (by first | exact .inl rfl | exact .inr rfl) (de_fld (f := 17) (cs := [57]) st_nd rfl (mem_cons' (p := fun d => Cls K ((st K).ca d) ∧ NoAttr K ((st K).ca d) "backs") ⟨c.cls_Ties, c.no_Ties_backs⟩ no_mem) (de_var (i := 0) rfl (by first | exact .inl rfl | exact .inr (.inl rfl) | exact .inr (.inr rfl))))) (db_one (ds_ret (de_lst (da_cons (de_tup (da_cons (de_var (i := 2) rfl (by first | exact .inl rfl | exact .inr (.inl rfl) | exact .inr (.inr rfl))) (da_cons (de_var (i := 3) rfl (by first | exact .inl rfl | exact .inr (.inl rfl) | exact .inr (.inr rfl))) (da_cons (de_var (i := 4) rfl (by first | exact .inl rfl | exact .inr (.inl rfl) | exact .inr (.inr rfl))) da_nil)))) (da_cons (de_tup (da_cons (de_var (i := 4) rfl (by first | exact .inl rfl | exact .inr (.inl rfl) | exact .inr (.inr rfl))) (da_cons (de_ix (ok_ix rfl) (de_var (i := 5) rfl (by first | exact .inl rfl | exact .inr (.inl rfl) | exact .inr (.inr rfl))) (de_var (i := 3) rfl (by first | exact .inl rfl | exact .inr (.inl rfl) | exact .inr (.inr rfl)))) (da_cons (de_var (i := 2) rfl (by first | exact .inl rfl | exact .inr (.inl rfl) | exact .inr (.inr rfl))) da_nil)))) (da_cons (de_tup (da_cons (de_ix (ok_ix rfl) (de_var (i := 5) rfl (by first | exact .inl rfl | exact .inr (.inl rfl) | exact .inr (.inr rfl))) (de_var (i := 2) rfl (by first | exact .inl rfl | exact .inr (.inl rfl) | exact .inr (.inr rfl)))) (da_cons (de_var (i := 4) rfl (by first | exact .inl rfl | exact .inr (.inl rfl) | exact .inr (.inr rfl))) (da_cons (de_var (i := 3) rfl (by first | exact .inl rfl | exact .inr (.inl rfl) | exact .inr (.inr rfl))) da_nil)))) (da_cons (de_tup (da_cons (de_var (i := 3) rfl (by first | exact .inl rfl | exact .inr (.inl rfl) | exact .inr (.inr rfl))) (da_cons (de_ix (ok_ix rfl) (de_var (i := 5) rfl (by first | exact .inl rfl | exact .inr (.inl rfl) | exact .inr (.inr rfl))) (de_var (i := 4) rfl (by first | exact .inl rfl | exact .inr (.inl rfl) | exact .inr (.inr rfl)))) (da_cons (de_ix (ok_ix rfl) (de_var (i := 5) rfl (by first | exact .inl rfl | exact .inr (.inl rfl) | exact .inr (.inr rfl))) (de_var (i := 2) rfl (by first | exact .inl rfl | exact .inr (.inl rfl) | exact .inr (.inr rfl)))) da_nil)))) (da_cons (de_tup (da_cons (de_ix (ok_ix rfl) (de_var (i := 5) rfl (by first | exact .inl rfl | exact .inr (.inl rfl) | exact .inr (.inr rfl))) (de_var (i := 4) rfl (by first | exact .inl rfl | exact .inr (.inl rfl) | exact .inr (.inr rfl)))) (da_cons (de_var (i := 2) rfl (by first | exact .inl rfl | exact .inr (.inl rfl) | exact .inr (.inr rfl))) (da_cons (de_ix (ok_ix rfl) (de_var (i := 5) rfl (by first | exact .inl rfl | exact .inr (.inl rfl) | exact .inr (.inr rfl))) (de_var (i := 3) rfl (by first | exact .inl rfl | exact .inr (.inl rfl) | exact .inr (.inr rfl)))) da_nil)))) (da_cons (de_tup (da_cons (de_ix (ok_ix rfl) (de_var (i := 5) rfl (by first | exact .inl rfl | exact .inr (.inl rfl) | exact .inr (.inr rfl))) (de_var (i := 3) rfl (by first | exact .inl rfl | exact .inr (.inl rfl) | exact .inr (.inr rfl)))) (da_cons (de_ix (ok_ix rfl) (de_var (i := 5) rfl (by first | exact .inl rfl | exact .inr (.inl rfl) | exact .inr (.inr rfl))) (de_var (i := 2) rfl (by first | exact .inl rfl | exact .inr (.inl rfl) | exact .inr (.inr rfl)))) (da_cons (de_ix (ok_ix rfl) (de_var (i := 5) rfl (by first | exact .inl rfl | exact .inr (.inl rfl) | exact .inr (.inr rfl))) (de_var (i := 4) rfl (by first | exact .inl rfl | exact .inr (.inl rfl) | exact .inr (.inr rfl)))) da_nil)))) da_nil)))))))))))
theorem df__six (c : Facts P K mg) : Df P w K mg base (st K) 1 "_six" 2 m__six [] := by
  obtain ⟨fd, F⟩ := c.d__six
  exact ⟨_, c.g__six, F.kp, fn__six c⟩
/-! ### readings_of -/
theorem sc_readings_of : FnScope ["ties", "three"] ["ties", "three"] (defScope s_readings_of) := ⟨rfl, rfl, rfl, by decide +kernel, rfl, by decide +kernel, by decide +kernel⟩
def b_readings_of : Sx := (sSeq (sIf (xNot (xTru (eCall m_is_three 2 [] (aCons (eVar 0) (aCons (eVar 1) aNil))))) (sRaise 9 [6] (aCons (eVar 1) aNil)) sPass) (sRet (eFn fTuple (aCons (eSortSet (aCons (eCall m__six 2 [] (aCons (eVar 0) (aCons (eVar 1) aNil))) aNil)) aNil))))
def m_readings_of : Mir := runB b_readings_of 2
def vb_readings_of_1 : VSx := (zRet (vFn bTuple (arCons (vFn bSortSet (arCons (vCall v__six 2 [] (arCons (vVar 0) (arCons (vVar 1) arNil))) arNil)) arNil)))
def vb_readings_of : VSx := (zSeq (zIf (uNot (uTru (vCall v_is_three 2 [] (arCons (vVar 0) (arCons (vVar 1) arNil))))) (zRaise 9 [6] (arCons (vVar 1) arNil)) zPass) vb_readings_of_1)
def v_readings_of : VM := vRun vb_readings_of 2
theorem dvf_readings_of : DVF v_readings_of m_readings_of := dvf_run (b := vb_readings_of) (bj := b_readings_of) (n := 2) (dvs_seq (dvs_if (dvt_not (dvt_tru (dv_call dvf_is_three (fun _ _ => .nil) (dva_cons dv_var (dva_cons dv_var dva_nil))))) (dvs_raise (dva_cons dv_var dva_nil)) dvs_pass) (dvs_ret (dv_fn okb_tuple (dva_cons (dv_sortSet (dva_cons (dv_call dvf__six (fun _ _ => .nil) (dva_cons dv_var (dva_cons dv_var dva_nil))) dva_nil)) dva_nil))))
theorem fn_readings_of (c : Facts P K mg) : FnM P w K mg base (st K) 3 (He.ga K "readings_of") 2 m_readings_of [] := by
  obtain ⟨fd, F⟩ := c.d_readings_of
  refine fnm_of (N := ["ties", "three"]) (ps := ["ties", "three"]) (b := b_readings_of) F sc_readings_of rfl (F.bindsN fun _ _ _ _ _ _ us hl => match us, hl with | [_, _], _ => rfl) fun cdv A outer s H E hr => ?_
  exact (db_cons (ds_if (dt_not (dt_tru rfl (de_call (df_is_three c) (hr.mono (by decide)) takes_body rfl (da_cons (de_var (i := 0) rfl (by first | exact .inl rfl | exact .inr (.inl rfl) | exact .inr (.inr rfl))) (da_cons (de_var (i := 1) rfl (by first | exact .inl rfl | exact .inr (.inl rfl) | exact .inr (.inr rfl))) da_nil))))) (db_one (ds_raise rfl rfl takes_body (xc_NoThree c) (hr.mono (by decide)) rfl (da_cons (de_var (i := 1) rfl (by first | exact .inl rfl | exact .inr (.inl rfl) | exact .inr (.inr rfl))) da_nil))) db_nil) (db_one (ds_ret (de_callTy (ok_tuple rfl) rfl c.f_tuple b_tuple (da_cons (de_sortSet rfl rfl hr.units rfl c.f_sorted b_sorted rfl c.f_set b_set (da_cons (de_call (df__six c) (hr.mono (by decide)) takes_body rfl (da_cons (de_var (i := 0) rfl (by first | exact .inl rfl | exact .inr (.inl rfl) | exact .inr (.inr rfl))) (da_cons (de_var (i := 1) rfl (by first | exact .inl rfl | exact .inr (.inl rfl) | exact .inr (.inr rfl))) da_nil))) da_nil)) da_nil)))))
theorem df_readings_of (c : Facts P K mg) : Df P w K mg base (st K) 3 "readings_of" 2 m_readings_of [] := by
  obtain ⟨fd, F⟩ := c.d_readings_of
  exact ⟨_, c.g_readings_of, F.kp, fn_readings_of c⟩
/-! ### least_reading -/
theorem sc_least_reading : FnScope ["ties", "three"] ["ties", "three"] (defScope s_least_reading) := ⟨rfl, rfl, rfl, by decide +kernel, rfl, by decide +kernel, by decide +kernel⟩
def b_least_reading : Sx := (sRet (eOp oIx (eCall m_readings_of 2 [] (aCons (eVar 0) (aCons (eVar 1) aNil))) (eC (.int 0))))
def m_least_reading : Mir := runB b_least_reading 2
def vb_least_reading : VSx := (zRet (vOp aIx (vCall v_readings_of 2 [] (arCons (vVar 0) (arCons (vVar 1) arNil))) (vC (.int 0))))
def v_least_reading : VM := vRun vb_least_reading 2
theorem dvf_least_reading : DVF v_least_reading m_least_reading := dvf_run (b := vb_least_reading) (bj := b_least_reading) (n := 2) (dvs_ret (dv_op oka_ix (dv_call dvf_readings_of (fun _ _ => .nil) (dva_cons dv_var (dva_cons dv_var dva_nil))) dv_int))
theorem fn_least_reading (c : Facts P K mg) : FnM P w K mg base (st K) 4 (He.ga K "least_reading") 2 m_least_reading [] := by
  obtain ⟨fd, F⟩ := c.d_least_reading
  refine fnm_of (N := ["ties", "three"]) (ps := ["ties", "three"]) (b := b_least_reading) F sc_least_reading rfl (F.bindsN fun _ _ _ _ _ _ us hl => match us, hl with | [_, _], _ => rfl) fun cdv A outer s H E hr => ?_
  exact (db_one (ds_ret (de_ix (ok_ix rfl) (de_call (df_readings_of c) (hr.mono (by decide)) takes_body rfl (da_cons (de_var (i := 0) rfl (by first | exact .inl rfl | exact .inr (.inl rfl) | exact .inr (.inr rfl))) (da_cons (de_var (i := 1) rfl (by first | exact .inl rfl | exact .inr (.inl rfl) | exact .inr (.inr rfl))) da_nil))) de_int)))
theorem df_least_reading (c : Facts P K mg) : Df P w K mg base (st K) 4 "least_reading" 2 m_least_reading [] := by
  obtain ⟨fd, F⟩ := c.d_least_reading
  exact ⟨_, c.g_least_reading, F.kp, fn_least_reading c⟩
/-! ### reading_classes -/
theorem sc_reading_classes : FnScope ["ties", "three"] ["ties"] (defScope s_reading_classes) := ⟨rfl, rfl, rfl, by decide +kernel, rfl, by decide +kernel, by decide +kernel⟩
def b_reading_classes : Sx := (sRet (eFn fTuple (aCons (eLc (eCall m_all_threes 1 [] (aCons (eVar 0) aNil)) (gNm 1) (xTb (eOp qEq (eCall m_least_reading 2 [] (aCons (eVar 0) (aCons (eVar 1) aNil))) (eVar 1))) (eVar 1) [1]) aNil)))
def m_reading_classes : Mir := runB b_reading_classes 2
def vb_reading_classes : VSx := (zRet (vFn bTuple (arCons (vLc (vCall v_all_threes 1 [] (arCons (vVar 0) arNil)) (gvNm 1) (uTb (vOp aEq (vCall v_least_reading 2 [] (arCons (vVar 0) (arCons (vVar 1) arNil))) (vVar 1))) (vVar 1) [1]) arNil)))
def v_reading_classes : VM := vRun vb_reading_classes 2
theorem dvf_reading_classes : DVF v_reading_classes m_reading_classes := dvf_run (b := vb_reading_classes) (bj := b_reading_classes) (n := 2) (dvs_ret (dv_fn okb_tuple (dva_cons (dv_lc (dv_call dvf_all_threes (fun _ _ => .nil) (dva_cons dv_var dva_nil)) (dvg_nm (i := 1)) (dvt_tb (dv_op oka_eq (dv_call dvf_least_reading (fun _ _ => .nil) (dva_cons dv_var (dva_cons dv_var dva_nil))) dv_var)) dv_var) dva_nil)))
theorem fn_reading_classes (c : Facts P K mg) : FnM P w K mg base (st K) 5 (He.ga K "reading_classes") 1 m_reading_classes [] := by
  obtain ⟨fd, F⟩ := c.d_reading_classes
  refine fnm_of (N := ["ties", "three"]) (ps := ["ties"]) (b := b_reading_classes) F sc_reading_classes rfl (F.bindsN fun _ _ _ _ _ _ us hl => match us, hl with | [_], _ => rfl) fun cdv A outer s H E hr => ?_
  exact (db_one (ds_ret (de_callTy (ok_tuple rfl) rfl c.f_tuple b_tuple (da_cons (de_lc rfl rfl rfl sc_reading_classes.nd (de_call (df_all_threes c) (hr.mono (by decide)) takes_body rfl (da_cons (de_var (i := 0) rfl (by first | exact .inl rfl | exact .inr (.inl rfl) | exact .inr (.inr rfl))) da_nil)) (own := [("three", 1)]) (blkOk_by (N := ["ties", "three"]) (sc := defScope s_reading_classes) (by decide +kernel)) (fun s H C cl fp => (dgv_name (i := 1) sc_reading_classes.nd rfl (by first | exact .inl rfl | exact .inr rfl))) (fun s H C cl fp => (dts_one (dt_cmp (ok_qEq rfl hr.units) (de_call (df_least_reading c) (hr.mono (by decide)) tk0 rfl (da_cons (de_var (i := 0) rfl (by first | exact .inl rfl | exact .inr (.inl rfl) | exact .inr (.inr rfl))) (da_cons (de_var (i := 1) rfl (by first | exact .inl rfl | exact .inr (.inl rfl) | exact .inr (.inr rfl))) da_nil))) (de_var (i := 1) rfl (by first | exact .inl rfl | exact .inr (.inl rfl) | exact .inr (.inr rfl)))))) (fun s H C cl fp => (de_var (i := 1) rfl (by first | exact .inl rfl | exact .inr (.inl rfl) | exact .inr (.inr rfl))))) da_nil))))
theorem df_reading_classes (c : Facts P K mg) : Df P w K mg base (st K) 5 "reading_classes" 1 m_reading_classes [] := by
  obtain ⟨fd, F⟩ := c.d_reading_classes
  exact ⟨_, c.g_reading_classes, F.kp, fn_reading_classes c⟩
/-! ### _law_refused -/
theorem sc__law_refused : FnScope ["_law_ties", "_law_thing", "_law_met", "e"] ["_law_ties", "_law_thing"] (defScope s__law_refused) := ⟨rfl, rfl, rfl, by decide +kernel, rfl, by decide +kernel, by decide +kernel⟩
def b__law_refused : Sx := (sSeq (sSet 2 (eC (.int 0))) (sSeq (sTry (fun c => ([(9, true)] : List (Nat × Bool)).lookup c) 3 (sExp (eCall m_readings_of 2 [] (aCons (eVar 0) (aCons (eVar 1) aNil)))) (sIf (xAnd (xTru (eXis 3 ([(9, true)] : List (Nat × Bool)))) (xTb (eOp qEq (eXf 3 [9] 6) (eVar 1)))) (sSet 2 (eOp oAdd (eVar 2) (eC (.int 1)))) sPass)) (sSeq (sTry (fun c => ([(9, true)] : List (Nat × Bool)).lookup c) 3 (sExp (eCall m_least_reading 2 [] (aCons (eVar 0) (aCons (eVar 1) aNil)))) (sIf (xTb (eOp qEq (eXf 3 [9] 6) (eVar 1))) (sSet 2 (eOp oAdd (eVar 2) (eC (.int 1)))) sPass)) (sRet (eAnd (eOp qEq (eVar 2) (eC (.int 2))) (eCall m__law_plain 2 [] (aCons (eCall m_is_three 2 [] (aCons (eVar 0) (aCons (eVar 1) aNil))) (aCons (eC (.bl false)) aNil))))))))
def m__law_refused : Mir := runB b__law_refused 4
def vb__law_refused_3 : VSx := (zRet (vAnd (vOp aEq (vVar 2) (vC (.int 2))) (vCall v__law_plain 2 [] (arCons (vSh (vCall v_is_three 2 [] (arCons (vVar 0) (arCons (vVar 1) arNil)))) (arCons (vC (.bl false)) arNil)))))
def vb__law_refused_2 : VSx := (zSeq (zTry (fun c => ([(9, true)] : List (Nat × Bool)).lookup c) 3 (zExp (vCall v_least_reading 2 [] (arCons (vVar 0) (arCons (vVar 1) arNil)))) (zIf (uTb (vOp aEq (vXf 3 [9] 6) (vVar 1))) (zSetH 2 (vOp aAdd (vVar 2) (vC (.int 1)))) zPass)) vb__law_refused_3)
def vb__law_refused_1 : VSx := (zSeq (zTry (fun c => ([(9, true)] : List (Nat × Bool)).lookup c) 3 (zExp (vCall v_readings_of 2 [] (arCons (vVar 0) (arCons (vVar 1) arNil)))) (zIf (uAnd (uTru (vXis 3 ([(9, true)] : List (Nat × Bool)))) (uTb (vOp aEq (vXf 3 [9] 6) (vVar 1)))) (zSetH 2 (vOp aAdd (vVar 2) (vC (.int 1)))) zPass)) vb__law_refused_2)
def vb__law_refused : VSx := (zSeq (zSetH 2 (vC (.int 0))) vb__law_refused_1)
def v__law_refused : VM := vRun vb__law_refused 4
theorem dvf__law_refused : DVF v__law_refused m__law_refused := dvf_run (b := vb__law_refused) (bj := b__law_refused) (n := 4) (dvs_seq (dvs_setH (i := 2) (by decide) dv_int) (dvs_seq (dvs_try (i := 3) (by decide) (dvs_exp (dv_call dvf_readings_of (fun _ _ => .nil) (dva_cons dv_var (dva_cons dv_var dva_nil)))) (dvs_if (dvt_and (dvt_tru dv_xis) (dvt_tb (dv_op oka_eq dv_xf dv_var))) (dvs_setH (i := 2) (by decide) (dv_op oka_add dv_var dv_int)) dvs_pass)) (dvs_seq (dvs_try (i := 3) (by decide) (dvs_exp (dv_call dvf_least_reading (fun _ _ => .nil) (dva_cons dv_var (dva_cons dv_var dva_nil)))) (dvs_if (dvt_tb (dv_op oka_eq dv_xf dv_var)) (dvs_setH (i := 2) (by decide) (dv_op oka_add dv_var dv_int)) dvs_pass)) (dvs_ret (dv_and (dv_op oka_eq dv_var dv_int) (dv_call dvf__law_plain (fun _ _ => .nil) (dva_cons (dv_sh (dv_call dvf_is_three (fun _ _ => .nil) (dva_cons dv_var (dva_cons dv_var dva_nil)))) (dva_cons dv_bl dva_nil))))))))
theorem fn__law_refused (c : Facts P K mg) : FnM P w K mg base (st K) 10 (He.ga K "_law_refused") 2 m__law_refused [] := by
  obtain ⟨fd, F⟩ := c.d__law_refused
  refine fnm_of (N := ["_law_ties", "_law_thing", "_law_met", "e"]) (ps := ["_law_ties", "_law_thing"]) (b := b__law_refused) F sc__law_refused rfl (F.bindsN fun _ _ _ _ _ _ us hl => match us, hl with | [_, _], _ => rfl) fun cdv A outer s H E hr => ?_
  exact (db_cons (ds_set (i := 2) sc__law_refused.nd rfl (by first | exact .inl rfl | exact .inr rfl) de_int) (db_cons (ds_try (cc := He.ga K "NoThree") (i := 3) rfl rfl rfl rfl sc__law_refused.nd rfl rfl ⟨rfl, by decide, .inl c.g_NoThree⟩ (mtB_ok (ex_at c.ex 12)) takes_body (fun W pn xe t1 p1 => (db_one (ds_exp (de_call (df_readings_of c) (hr.mono (by decide)) t1 rfl (da_cons (de_var (i := 0) rfl (by first | exact .inl rfl | exact .inr (.inl rfl) | exact .inr (.inr rfl))) (da_cons (de_var (i := 1) rfl (by first | exact .inl rfl | exact .inr (.inl rfl) | exact .inr (.inr rfl))) da_nil)))))) (fun a oe cur pn cok => (db_one (ds_if (dw_pt (dw_and (dt_tru rfl (de_xis (i := 3) (l := ([(9, true)] : List (Nat × Bool))) cok (pc_own rfl c.g_GuestError) (.own _) (xisB_ok (ex_at c.ex 10)) rfl (by first | exact .inl rfl | exact .inr (.inl rfl) | exact .inr (.inr rfl)) rfl c.f_isinstance)) (dw_and1 (dt_cmp (ok_qEq rfl hr.units) (de_xf (i := 3) (f := 6) (cs := [9]) cok st_nd rfl (mem_cons' (p := fun d => XfC K ((st K).ca d) ∧ PySem.W.findIn K (.ref ((st K).ca d)) "three" = some none) ⟨xfB_ok (ex_at c.ex 11), He.eqO_ok (ex_at c.ex 7)⟩ no_mem) rfl (by first | exact .inl rfl | exact .inr (.inl rfl) | exact .inr (.inr rfl))) (de_var (i := 1) rfl (by first | exact .inl rfl | exact .inr (.inl rfl) | exact .inr (.inr rfl))))))) (db_one (ds_set (i := 2) sc__law_refused.nd rfl (by first | exact .inl rfl | exact .inr rfl) (de_op (ok_add rfl) (de_var (i := 2) rfl (by first | exact .inl rfl | exact .inr (.inl rfl) | exact .inr (.inr rfl))) de_int))) db_nil)))) (db_cons (ds_try (cc := He.ga K "NoThree") (i := 3) rfl rfl rfl rfl sc__law_refused.nd rfl rfl ⟨rfl, by decide, .inl c.g_NoThree⟩ (mtB_ok (ex_at c.ex 12)) takes_body (fun W pn xe t1 p1 => (db_one (ds_exp (de_call (df_least_reading c) (hr.mono (by decide)) t1 rfl (da_cons (de_var (i := 0) rfl (by first | exact .inl rfl | exact .inr (.inl rfl) | exact .inr (.inr rfl))) (da_cons (de_var (i := 1) rfl (by first | exact .inl rfl | exact .inr (.inl rfl) | exact .inr (.inr rfl))) da_nil)))))) (fun a oe cur pn cok => (db_one (ds_if (dt_cmp (ok_qEq rfl hr.units) (de_xf (i := 3) (f := 6) (cs := [9]) cok st_nd rfl (mem_cons' (p := fun d => XfC K ((st K).ca d) ∧ PySem.W.findIn K (.ref ((st K).ca d)) "three" = some none) ⟨xfB_ok (ex_at c.ex 11), He.eqO_ok (ex_at c.ex 7)⟩ no_mem) rfl (by first | exact .inl rfl | exact .inr (.inl rfl) | exact .inr (.inr rfl))) (de_var (i := 1) rfl (by first | exact .inl rfl | exact .inr (.inl rfl) | exact .inr (.inr rfl)))) (db_one (ds_set (i := 2) sc__law_refused.nd rfl (by first | exact .inl rfl | exact .inr rfl) (de_op (ok_add rfl) (de_var (i := 2) rfl (by first | exact .inl rfl | exact .inr (.inl rfl) | exact .inr (.inr rfl))) de_int))) db_nil)))) (db_one (ds_ret (de_and rfl (de_cmp (ok_qEq rfl hr.units) (de_var (i := 2) rfl (by first | exact .inl rfl | exact .inr (.inl rfl) | exact .inr (.inr rfl))) de_int) (de_one (de_call (df__law_plain c) (hr.mono (by decide)) takes_body rfl (da_cons (de_call (df_is_three c) (hr.mono (by decide)) takes_body rfl (da_cons (de_var (i := 0) rfl (by first | exact .inl rfl | exact .inr (.inl rfl) | exact .inr (.inr rfl))) (da_cons (de_var (i := 1) rfl (by first | exact .inl rfl | exact .inr (.inl rfl) | exact .inr (.inr rfl))) da_nil))) (da_cons de_bl da_nil))))))))))
theorem df__law_refused (c : Facts P K mg) : Df P w K mg base (st K) 10 "_law_refused" 2 m__law_refused [] := by
  obtain ⟨fd, F⟩ := c.d__law_refused
  exact ⟨_, c.g__law_refused, F.kp, fn__law_refused c⟩
/-! ### _law_bad -/
theorem sc__law_bad : FnScope ["_law_hand_here", "_law_many", "_law_p", "_law_q", "_law_odd", "_law_sort"] ["_law_hand_here", "_law_many"] (defScope s__law_bad) := ⟨rfl, rfl, rfl, by decide +kernel, rfl, by decide +kernel, by decide +kernel⟩
def b__law_bad : Sx := (sSeq (sSet 2 (eCall m__law_draw 2 [] (aCons (eVar 0) (aCons (eVar 1) aNil)))) (sSeq (sSet 3 (eCall m__law_draw 2 [] (aCons (eVar 0) (aCons (eVar 1) aNil)))) (sSeq (sSet 4 (eCall m__law_pick 2 [] (aCons (eVar 0) (aCons (eLst (aCons (eVar 1) (aCons (eOp oAdd (eVar 1) (eCall m__law_draw 2 [] (aCons (eVar 0) (aCons (eOp oPow (eC (.int 10)) (eC (.int 6))) aNil)))) (aCons (eUn oNeg (eC (.int 1))) (aCons (eOp oSub (eUn oNeg (eC (.int 1))) (eCall m__law_draw 2 [] (aCons (eVar 0) (aCons (eOp oPow (eC (.int 10)) (eC (.int 6))) aNil)))) (aCons (eC .non) (aCons (eC (.str "0")) (aCons (eTup (aCons (eC (.int 0)) aNil)) aNil)))))))) aNil)))) (sSeq (sSet 5 (eCall m__law_draw 2 [] (aCons (eVar 0) (aCons (eC (.int 9)) aNil)))) (sSeq (sIf (xTb (eOp qEq (eVar 5) (eC (.int 0)))) (sRet (eLst (aCons (eVar 2) (aCons (eVar 3) aNil)))) sPass) (sSeq (sIf (xTb (eOp qEq (eVar 5) (eC (.int 1)))) (sRet (eTup (aCons (eVar 2) (aCons (eVar 3) (aCons (eVar 2) (aCons (eVar 3) aNil)))))) sPass) (sSeq (sIf (xTb (eOp qEq (eVar 5) (eC (.int 2)))) (sRet (eTup (aCons (eVar 4) (aCons (eVar 2) (aCons (eVar 3) aNil))))) sPass) (sSeq (sIf (xTb (eOp qEq (eVar 5) (eC (.int 3)))) (sRet (eLst (aCons (eVar 2) (aCons (eVar 4) (aCons (eVar 3) aNil))))) sPass) (sSeq (sIf (xTb (eOp qEq (eVar 5) (eC (.int 4)))) (sRet (eTup (aCons (eVar 2) (aCons (eVar 3) (aCons (eVar 4) aNil))))) sPass) (sSeq (sIf (xTb (eOp qEq (eVar 5) (eC (.int 5)))) (sRet (eLst (aCons (eVar 2) (aCons (eVar 3) (aCons (eC (.bl true)) aNil))))) sPass) (sSeq (sIf (xTb (eOp qEq (eVar 5) (eC (.int 6)))) (sRet (eTup (aCons (eC (.bl false)) (aCons (eVar 2) (aCons (eVar 3) aNil))))) sPass) (sSeq (sIf (xTb (eOp qEq (eVar 5) (eC (.int 7)))) (sRet (eCall m__law_pick 2 [] (aCons (eVar 0) (aCons (eLst (aCons (eC .non) (aCons (eC (.int 0)) (aCons (eC (.str "000")) (aCons (eC (.str "abc")) (aCons (eC (.bl true)) aNil)))))) aNil)))) sPass) (sRet (eTup aNil))))))))))))))
def m__law_bad : Mir := runB b__law_bad 6
def vb__law_bad_12 : VSx := (zRet (vTup arNil))
def vb__law_bad_11 : VSx := (zSeq (zIf (uTb (vOp aEq (vVar 5) (vC (.int 7)))) (zRet (vCall v__law_pick 2 [] (arCons (vVar 0) (arCons (vSh (vLst (arCons (vC .non) (arCons (vC (.int 0)) (arCons (vC (.str "000")) (arCons (vC (.str "abc")) (arCons (vC (.bl true)) arNil))))))) arNil)))) zPass) vb__law_bad_12)
def vb__law_bad_10 : VSx := (zSeq (zIf (uTb (vOp aEq (vVar 5) (vC (.int 6)))) (zRet (vTup (arCons (vC (.bl false)) (arCons (vVar 2) (arCons (vVar 3) arNil))))) zPass) vb__law_bad_11)
def vb__law_bad_9 : VSx := (zSeq (zIf (uTb (vOp aEq (vVar 5) (vC (.int 5)))) (zRet (vLst (arCons (vVar 2) (arCons (vVar 3) (arCons (vC (.bl true)) arNil))))) zPass) vb__law_bad_10)
def vb__law_bad_8 : VSx := (zSeq (zIf (uTb (vOp aEq (vVar 5) (vC (.int 4)))) (zRet (vTup (arCons (vVar 2) (arCons (vVar 3) (arCons (vVar 4) arNil))))) zPass) vb__law_bad_9)
def vb__law_bad_7 : VSx := (zSeq (zIf (uTb (vOp aEq (vVar 5) (vC (.int 3)))) (zRet (vLst (arCons (vVar 2) (arCons (vVar 4) (arCons (vVar 3) arNil))))) zPass) vb__law_bad_8)
def vb__law_bad_6 : VSx := (zSeq (zIf (uTb (vOp aEq (vVar 5) (vC (.int 2)))) (zRet (vTup (arCons (vVar 4) (arCons (vVar 2) (arCons (vVar 3) arNil))))) zPass) vb__law_bad_7)
def vb__law_bad_5 : VSx := (zSeq (zIf (uTb (vOp aEq (vVar 5) (vC (.int 1)))) (zRet (vTup (arCons (vVar 2) (arCons (vVar 3) (arCons (vVar 2) (arCons (vVar 3) arNil)))))) zPass) vb__law_bad_6)
def vb__law_bad_4 : VSx := (zSeq (zIf (uTb (vOp aEq (vVar 5) (vC (.int 0)))) (zRet (vLst (arCons (vVar 2) (arCons (vVar 3) arNil)))) zPass) vb__law_bad_5)
def vb__law_bad_3 : VSx := (zSeq (zSetH 5 (vCall v__law_draw 2 [] (arCons (vVar 0) (arCons (vC (.int 9)) arNil)))) vb__law_bad_4)
def vb__law_bad_2 : VSx := (zSeq (zSetH 4 (vCall v__law_pick 2 [] (arCons (vVar 0) (arCons (vSh (vLst (arCons (vVar 1) (arCons (vOp aAdd (vVar 1) (vCall v__law_draw 2 [] (arCons (vVar 0) (arCons (vOp aPow (vC (.int 10)) (vC (.int 6))) arNil)))) (arCons (vUn aNeg (vC (.int 1))) (arCons (vOp aSub (vUn aNeg (vC (.int 1))) (vCall v__law_draw 2 [] (arCons (vVar 0) (arCons (vOp aPow (vC (.int 10)) (vC (.int 6))) arNil)))) (arCons (vC .non) (arCons (vC (.str "0")) (arCons (vTup (arCons (vC (.int 0)) arNil)) arNil))))))))) arNil)))) vb__law_bad_3)
def vb__law_bad_1 : VSx := (zSeq (zSetH 3 (vCall v__law_draw 2 [] (arCons (vVar 0) (arCons (vVar 1) arNil)))) vb__law_bad_2)
def vb__law_bad : VSx := (zSeq (zSetH 2 (vCall v__law_draw 2 [] (arCons (vVar 0) (arCons (vVar 1) arNil)))) vb__law_bad_1)
def v__law_bad : VM := vRun vb__law_bad 6
theorem dvf__law_bad : DVF v__law_bad m__law_bad := dvf_run (b := vb__law_bad) (bj := b__law_bad) (n := 6) (dvs_seq (dvs_setH (i := 2) (by decide) (dv_call dvf__law_draw (fun _ _ => .nil) (dva_cons dv_var (dva_cons dv_var dva_nil)))) (dvs_seq (dvs_setH (i := 3) (by decide) (dv_call dvf__law_draw (fun _ _ => .nil) (dva_cons dv_var (dva_cons dv_var dva_nil)))) (dvs_seq (dvs_setH (i := 4) (by decide) (dv_call dvf__law_pick (fun _ _ => .nil) (dva_cons dv_var (dva_cons (dv_sh (dv_lst (dva_cons dv_var (dva_cons (dv_op oka_add dv_var (dv_call dvf__law_draw (fun _ _ => .nil) (dva_cons dv_var (dva_cons (dv_op oka_pow dv_int dv_int) dva_nil)))) (dva_cons (dv_un oka_neg dv_int) (dva_cons (dv_op oka_sub (dv_un oka_neg dv_int) (dv_call dvf__law_draw (fun _ _ => .nil) (dva_cons dv_var (dva_cons (dv_op oka_pow dv_int dv_int) dva_nil)))) (dva_cons dv_non (dva_cons dv_str (dva_cons (dv_tup (dva_cons dv_int dva_nil)) dva_nil))))))))) dva_nil)))) (dvs_seq (dvs_setH (i := 5) (by decide) (dv_call dvf__law_draw (fun _ _ => .nil) (dva_cons dv_var (dva_cons dv_int dva_nil)))) (dvs_seq (dvs_if (dvt_tb (dv_op oka_eq dv_var dv_int)) (dvs_ret (dv_lst (dva_cons dv_var (dva_cons dv_var dva_nil)))) dvs_pass) (dvs_seq (dvs_if (dvt_tb (dv_op oka_eq dv_var dv_int)) (dvs_ret (dv_tup (dva_cons dv_var (dva_cons dv_var (dva_cons dv_var (dva_cons dv_var dva_nil)))))) dvs_pass) (dvs_seq (dvs_if (dvt_tb (dv_op oka_eq dv_var dv_int)) (dvs_ret (dv_tup (dva_cons dv_var (dva_cons dv_var (dva_cons dv_var dva_nil))))) dvs_pass) (dvs_seq (dvs_if (dvt_tb (dv_op oka_eq dv_var dv_int)) (dvs_ret (dv_lst (dva_cons dv_var (dva_cons dv_var (dva_cons dv_var dva_nil))))) dvs_pass) (dvs_seq (dvs_if (dvt_tb (dv_op oka_eq dv_var dv_int)) (dvs_ret (dv_tup (dva_cons dv_var (dva_cons dv_var (dva_cons dv_var dva_nil))))) dvs_pass) (dvs_seq (dvs_if (dvt_tb (dv_op oka_eq dv_var dv_int)) (dvs_ret (dv_lst (dva_cons dv_var (dva_cons dv_var (dva_cons dv_bl dva_nil))))) dvs_pass) (dvs_seq (dvs_if (dvt_tb (dv_op oka_eq dv_var dv_int)) (dvs_ret (dv_tup (dva_cons dv_bl (dva_cons dv_var (dva_cons dv_var dva_nil))))) dvs_pass) (dvs_seq (dvs_if (dvt_tb (dv_op oka_eq dv_var dv_int)) (dvs_ret (dv_call dvf__law_pick (fun _ _ => .nil) (dva_cons dv_var (dva_cons (dv_sh (dv_lst (dva_cons dv_non (dva_cons dv_int (dva_cons dv_str (dva_cons dv_str (dva_cons dv_bl dva_nil))))))) dva_nil)))) dvs_pass) (dvs_ret (dv_tup dva_nil))))))))))))))
theorem fn__law_bad (c : Facts P K mg) : FnM P w K mg base (st K) 4 (He.ga K "_law_bad") 2 m__law_bad [] := by
  obtain ⟨fd, F⟩ := c.d__law_bad
  refine fnm_of (N := ["_law_hand_here", "_law_many", "_law_p", "_law_q", "_law_odd", "_law_sort"]) (ps := ["_law_hand_here", "_law_many"]) (b := b__law_bad) F sc__law_bad rfl (F.bindsN fun _ _ _ _ _ _ us hl => match us, hl with | [_, _], _ => rfl) fun cdv A outer s H E hr => ?_
  exact (db_cons (ds_set (i := 2) sc__law_bad.nd rfl (by first | exact .inl rfl | exact .inr rfl) (de_call (df__law_draw c) (hr.mono (by decide)) takes_body rfl (da_cons (de_var (i := 0) rfl (by first | exact .inl rfl | exact .inr (.inl rfl) | exact .inr (.inr rfl))) (da_cons (de_var (i := 1) rfl (by first | exact .inl rfl | exact .inr (.inl rfl) | exact .inr (.inr rfl))) da_nil)))) (db_cons (ds_set (i := 3) sc__law_bad.nd rfl (by first | exact .inl rfl | exact .inr rfl) (de_call (df__law_draw c) (hr.mono (by decide)) takes_body rfl (da_cons (de_var (i := 0) rfl (by first | exact .inl rfl | exact .inr (.inl rfl) | exact .inr (.inr rfl))) (da_cons (de_var (i := 1) rfl (by first | exact .inl rfl | exact .inr (.inl rfl) | exact .inr (.inr rfl))) da_nil)))) (db_cons (ds_set (i := 4) sc__law_bad.nd rfl (by first | exact .inl rfl | exact .inr rfl) (de_call (df__law_pick c) (hr.mono (by decide)) takes_body rfl (da_cons (de_var (i := 0) rfl (by first | exact .inl rfl | exact .inr (.inl rfl) | exact .inr (.inr rfl))) (da_cons (de_lst (da_cons (de_var (i := 1) rfl (by first | exact .inl rfl | exact .inr (.inl rfl) | exact .inr (.inr rfl))) (da_cons (de_op (ok_add rfl) (de_var (i := 1) rfl (by first | exact .inl rfl | exact .inr (.inl rfl) | exact .inr (.inr rfl))) (de_call (df__law_draw c) (hr.mono (by decide)) takes_body rfl (da_cons (de_var (i := 0) rfl (by first | exact .inl rfl | exact .inr (.inl rfl) | exact .inr (.inr rfl))) (da_cons (de_op ok_pow de_int de_int) da_nil)))) (da_cons (de_un ok_neg de_int) (da_cons (de_op ok_sub (de_un ok_neg de_int) (de_call (df__law_draw c) (hr.mono (by decide)) takes_body rfl (da_cons (de_var (i := 0) rfl (by first | exact .inl rfl | exact .inr (.inl rfl) | exact .inr (.inr rfl))) (da_cons (de_op ok_pow de_int de_int) da_nil)))) (da_cons de_non (da_cons de_str (da_cons (de_tup (da_cons de_int da_nil)) da_nil)))))))) da_nil)))) (db_cons (ds_set (i := 5) sc__law_bad.nd rfl (by first | exact .inl rfl | exact .inr rfl) (de_call (df__law_draw c) (hr.mono (by decide)) takes_body rfl (da_cons (de_var (i := 0) rfl (by first | exact .inl rfl | exact .inr (.inl rfl) | exact .inr (.inr rfl))) (da_cons de_int da_nil)))) (db_cons (ds_if (dt_cmp (ok_qEq rfl hr.units) (de_var (i := 5) rfl (by first | exact .inl rfl | exact .inr (.inl rfl) | exact .inr (.inr rfl))) de_int) (db_one (ds_ret (de_lst (da_cons (de_var (i := 2) rfl (by first | exact .inl rfl | exact .inr (.inl rfl) | exact .inr (.inr rfl))) (da_cons (de_var (i := 3) rfl (by first | exact .inl rfl | exact .inr (.inl rfl) | exact .inr (.inr rfl))) da_nil))))) db_nil) (db_cons (ds_if (dt_cmp (ok_qEq rfl hr.units) (de_var (i := 5) rfl (by first | exact .inl rfl | exact .inr (.inl rfl) | exact .inr (.inr rfl))) de_int) (db_one (ds_ret (de_tup (da_cons (de_var (i := 2) rfl (by first | exact .inl rfl | exact .inr (.inl rfl) | exact .inr (.inr rfl))) (da_cons (de_var (i := 3) rfl (by first | exact .inl rfl | exact .inr (.inl rfl) | exact .inr (.inr rfl))) (da_cons (de_var (i := 2) rfl (by first | exact .inl rfl | exact .inr (.inl rfl) | exact .inr (.inr rfl))) (da_cons (de_var (i := 3) rfl (by first | exact .inl rfl | exact .inr (.inl rfl) | exact .inr (.inr rfl))) da_nil))))))) db_nil) (db_cons (ds_if (dt_cmp (ok_qEq rfl hr.units) (de_var (i := 5) rfl (by first | exact .inl rfl | exact .inr (.inl rfl) | exact .inr (.inr rfl))) de_int) (db_one (ds_ret (de_tup (da_cons (de_var (i := 4) rfl (by first | exact .inl rfl | exact .inr (.inl rfl) | exact .inr (.inr rfl))) (da_cons (de_var (i := 2) rfl (by first | exact .inl rfl | exact .inr (.inl rfl) | exact .inr (.inr rfl))) (da_cons (de_var (i := 3) rfl (by first | exact .inl rfl | exact .inr (.inl rfl) | exact .inr (.inr rfl))) da_nil)))))) db_nil) (db_cons (ds_if (dt_cmp (ok_qEq rfl hr.units) (de_var (i := 5) rfl (by first | exact .inl rfl | exact .inr (.inl rfl) | exact .inr (.inr rfl))) de_int) (db_one (ds_ret (de_lst (da_cons (de_var (i := 2) rfl (by first | exact .inl rfl | exact .inr (.inl rfl) | exact .inr (.inr rfl))) (da_cons (de_var (i := 4) rfl (by first | exact .inl rfl | exact .inr (.inl rfl) | exact .inr (.inr rfl))) (da_cons (de_var (i := 3) rfl (by first | exact .inl rfl | exact .inr (.inl rfl) | exact .inr (.inr rfl))) da_nil)))))) db_nil) (db_cons (ds_if (dt_cmp (ok_qEq rfl hr.units) (de_var (i := 5) rfl (by first | exact .inl rfl | exact .inr (.inl rfl) | exact .inr (.inr rfl))) de_int) (db_one (ds_ret (de_tup (da_cons (de_var (i := 2) rfl (by first | exact .inl rfl | exact .inr (.inl rfl) | exact .inr (.inr rfl))) (da_cons (de_var (i := 3) rfl (by first | exact .inl rfl | exact .inr (.inl rfl) | exact .inr (.inr rfl))) (da_cons (de_var (i := 4) rfl (by first | exact .inl rfl | exact .inr (.inl rfl) | exact .inr (.inr rfl))) da_nil)))))) db_nil) (db_cons (ds_if (dt_cmp (ok_qEq rfl hr.units) (de_var (i := 5) rfl (by first | exact .inl rfl | exact .inr (.inl rfl) | exact .inr (.inr rfl))) de_int) (db_one (ds_ret (de_lst (da_cons (de_var (i := 2) rfl (by first | exact .inl rfl | exact .inr (.inl rfl) | exact .inr (.inr rfl))) (da_cons (de_var (i := 3) rfl (by first | exact .inl rfl | exact .inr (.inl rfl) | exact .inr (.inr rfl))) (da_cons de_bl da_nil)))))) db_nil) (db_cons (ds_if (dt_cmp (ok_qEq rfl hr.units) (de_var (i := 5) rfl (by first | exact .inl rfl | exact .inr (.inl rfl) | exact .inr (.inr rfl))) de_int) (db_one (ds_ret (de_tup (da_cons de_bl (da_cons (de_var (i := 2) rfl (by first | exact .inl rfl | exact .inr (.inl rfl) | exact .inr (.inr rfl))) (da_cons (de_var (i := 3) rfl (by first | exact .inl rfl | exact .inr (.inl rfl) | exact .inr (.inr rfl))) da_nil)))))) db_nil) (db_cons (ds_if (dt_cmp (ok_qEq rfl hr.units) (de_var (i := 5) rfl (by first | exact .inl rfl | exact .inr (.inl rfl) | exact .inr (.inr rfl))) de_int) (db_one (ds_ret (de_call (df__law_pick c) (hr.mono (by decide)) takes_body rfl (da_cons (de_var (i := 0) rfl (by first | exact .inl rfl | exact .inr (.inl rfl) | exact .inr (.inr rfl))) (da_cons (de_lst (da_cons de_non (da_cons de_int (da_cons de_str (da_cons de_str (da_cons de_bl da_nil)))))) da_nil))))) db_nil) (db_one (ds_ret (de_tup da_nil)))))))))))))))
theorem df__law_bad (c : Facts P K mg) : Df P w K mg base (st K) 4 "_law_bad" 2 m__law_bad [] := by
  obtain ⟨fd, F⟩ := c.d__law_bad
  exact ⟨_, c.g__law_bad, F.kp, fn__law_bad c⟩
/-! ### law -/
theorem sc_law : FnScope ["_law_script", "_law_hand_here", "_law_many", "_law_backs_here", "_law_ties", "_law_threes", "_law_p", "_law_q", "_law_r", "_law_classes", "_law_three", "_law_due", "_law_handed", "_law_other", "_law_k"] ["_law_script"] (defScope s_law) := ⟨rfl, rfl, rfl, by decide +kernel, rfl, by decide +kernel, by decide +kernel⟩
def b_law : Sx := (sSeq (sSet 1 (eCall m__law_hand 1 [] (aCons (eVar 0) aNil))) (sSeq (sSet 2 (eCall m__law_pick 2 [] (aCons (eVar 1) (aCons (eLst (aCons (eC (.int 2)) (aCons (eC (.int 3)) (aCons (eC (.int 3)) (aCons (eC (.int 2)) (aCons (eC (.int 4)) aNil)))))) aNil)))) (sSeq (sSet 3 (eCall m__law_backs 2 [] (aCons (eVar 1) (aCons (eVar 2) aNil)))) (sSeq (sSet 4 (eNew 57 2 m_Ties_zzinitzz [] (aCons (eVar 3) aNil))) (sSeq (sSet 5 (eLst aNil)) (sSeq (sForR rng1 (aCons (eVar 2) aNil) (gNm 6) (sForR rng1 (aCons (eVar 2) aNil) (gNm 7) (sSet 5 (eOp oAdd (eVar 5) (eLcR rng1 (aCons (eVar 2) aNil) (gNm 8) xYes (eTup (aCons (eVar 6) (aCons (eVar 7) (aCons (eVar 8) aNil)))) [8]))))) (sSeq (sIf (xNot (xTru (eCall m__law_plain 2 [] (aCons (eCall m_all_threes 1 [] (aCons (eVar 4) aNil)) (aCons (eFn fTuple (aCons (eVar 5) aNil)) aNil))))) (sRet (eC (.bl false))) sPass) (sSeq (sSet 9 (eLst aNil)) (sSeq (sFor (eVar 5) (gNm 10) (sSeq (sSet 11 (eCall m__law_shown 4 [] (aCons (eVar 3) (aCons (eOp oIx (eVar 10) (eC (.int 0))) (aCons (eOp oIx (eVar 10) (eC (.int 1))) (aCons (eOp oIx (eVar 10) (eC (.int 2))) aNil)))))) (sSeq (sSet 12 (eCall m__law_shape 2 [] (aCons (eVar 1) (aCons (eVar 10) aNil)))) (sSeq (sIf (xOr (xNot (xTru (eCall m__law_plain 2 [] (aCons (eCall m_readings_of 2 [] (aCons (eVar 4) (aCons (eVar 12) aNil))) (aCons (eFn fTuple (aCons (eVar 11) aNil)) aNil))))) (xNot (xTru (eCall m__law_plain 2 [] (aCons (eCall m_least_reading 2 [] (aCons (eVar 4) (aCons (eVar 12) aNil))) (aCons (eOp oIx (eVar 11) (eC (.int 0))) aNil)))))) (sRet (eC (.bl false))) sPass) (sSeq (sIf (xOr (xTb (eOp qNe (eFn fList (aCons (eVar 12) aNil)) (eFn fList (aCons (eVar 10) aNil)))) (xNot (xTru (eCall m__law_plain 2 [] (aCons (eCall m_is_three 2 [] (aCons (eVar 4) (aCons (eVar 12) aNil))) (aCons (eC (.bl true)) aNil)))))) (sRet (eC (.bl false))) sPass) (sSeq (sSet 13 (eOp oIx (eVar 11) (eCall m__law_draw 2 [] (aCons (eVar 1) (aCons (eFn fLen (aCons (eVar 11) aNil)) aNil))))) (sSeq (sIf (xNot (xTru (eCall m__law_plain 2 [] (aCons (eCall m_readings_of 2 [] (aCons (eVar 4) (aCons (eFn fList (aCons (eVar 13) aNil)) aNil))) (aCons (eFn fTuple (aCons (eVar 11) aNil)) aNil))))) (sRet (eC (.bl false))) sPass) (sIf (xTb (eOp qNin (eOp oIx (eVar 11) (eC (.int 0))) (eVar 9))) (sExp (eLm mAppend (eVar 9) (aCons (eOp oIx (eVar 11) (eC (.int 0))) aNil))) sPass)))))))) (sSeq (sIf (xNot (xTru (eCall m__law_plain 2 [] (aCons (eCall m_reading_classes 1 [] (aCons (eVar 4) aNil)) (aCons (eFn fTuple (aCons (eFn fSorted (aCons (eVar 9) aNil)) aNil)) aNil))))) (sRet (eC (.bl false))) sPass) (sSeq (sForR rng1 (aCons (eC (.int 5)) aNil) (gNm 14) (sIf (xNot (xTru (eCall m__law_refused 2 [] (aCons (eVar 4) (aCons (eCall m__law_bad 2 [] (aCons (eVar 1) (aCons (eVar 2) aNil))) aNil))))) (sRet (eC (.bl false))) sPass)) (sRet (eCall m__law_plain 2 [] (aCons (eCall m_reading_classes 1 [] (aCons (eNew 57 2 m_Ties_zzinitzz [] (aCons (eFn fList (aCons (eVar 3) aNil)) aNil)) aNil)) (aCons (eFn fTuple (aCons (eFn fSorted (aCons (eVar 9) aNil)) aNil)) aNil)))))))))))))))
def m_law : Mir := runB b_law 15
def vb_law_6 : VSx := (zSetH 5 (vOp aAdd (vVar 5) (vLcR rngV1 (arCons (vVar 2) arNil) (gvNm 8) uYes (vTup (arCons (vVar 6) (arCons (vVar 7) (arCons (vVar 8) arNil)))) [8])))
def vb_law_5 : VSx := (zForR rngV1 (arCons (vVar 2) arNil) (gzNm 7) vb_law_6)
def vb_law_16 : VSx := (zIf (uTb (vOp aNin (vOp aIx (vVar 11) (vC (.int 0))) (vVar 9))) (zMut 9 mAppendV (arCons (vOp aIx (vVar 11) (vC (.int 0))) arNil)) zPass)
def vb_law_15 : VSx := (zSeq (zIf (uNot (uTru (vCall v__law_plain 2 [] (arCons (vSh (vCall v_readings_of 2 [] (arCons (vVar 4) (arCons (vSh (vFn bList (arCons (vVar 13) arNil))) arNil)))) (arCons (vFn bTuple (arCons (vVar 11) arNil)) arNil))))) (zRet (vC (.bl false))) zPass) vb_law_16)
def vb_law_14 : VSx := (zSeq (zSetH 13 (vOp aIx (vVar 11) (vCall v__law_draw 2 [] (arCons (vVar 1) (arCons (vFn bLen (arCons (vVar 11) arNil)) arNil))))) vb_law_15)
def vb_law_13 : VSx := (zSeq (zIf (uOr (uTb (vOp aNe (vFn bList (arCons (vVar 12) arNil)) (vFn bList (arCons (vVar 10) arNil)))) (uNot (uTru (vCall v__law_plain 2 [] (arCons (vSh (vCall v_is_three 2 [] (arCons (vVar 4) (arCons (vVar 12) arNil)))) (arCons (vC (.bl true)) arNil)))))) (zRet (vC (.bl false))) zPass) vb_law_14)
def vb_law_12 : VSx := (zSeq (zIf (uOr (uNot (uTru (vCall v__law_plain 2 [] (arCons (vSh (vCall v_readings_of 2 [] (arCons (vVar 4) (arCons (vVar 12) arNil)))) (arCons (vFn bTuple (arCons (vVar 11) arNil)) arNil))))) (uNot (uTru (vCall v__law_plain 2 [] (arCons (vSh (vCall v_least_reading 2 [] (arCons (vVar 4) (arCons (vVar 12) arNil)))) (arCons (vOp aIx (vVar 11) (vC (.int 0))) arNil)))))) (zRet (vC (.bl false))) zPass) vb_law_13)
def vb_law_11 : VSx := (zSeq (zSetH 12 (vCall v__law_shape 2 [] (arCons (vVar 1) (arCons (vVar 10) arNil)))) vb_law_12)
def vb_law_10 : VSx := (zSeq (zSetH 11 (vCall v__law_shown 4 [] (arCons (vVar 3) (arCons (vOp aIx (vVar 10) (vC (.int 0))) (arCons (vOp aIx (vVar 10) (vC (.int 1))) (arCons (vOp aIx (vVar 10) (vC (.int 2))) arNil)))))) vb_law_11)
def vb_law_19 : VSx := (zIf (uNot (uTru (vCall v__law_refused 2 [] (arCons (vVar 4) (arCons (vSh (vCall v__law_bad 2 [] (arCons (vVar 1) (arCons (vVar 2) arNil)))) arNil))))) (zRet (vC (.bl false))) zPass)
def vb_law_20 : VSx := (zRet (vCall v__law_plain 2 [] (arCons (vSh (vCall v_reading_classes 1 [] (arCons (vNew 57 2 v_Ties_zzinitzz [] (arCons (vFn bList (arCons (vVar 3) arNil)) arNil)) arNil))) (arCons (vFn bTuple (arCons (vFn bSorted (arCons (vVar 9) arNil)) arNil)) arNil))))
def vb_law_18 : VSx := (zSeq (zForR rngV1 (arCons (vC (.int 5)) arNil) (gzNm 14) vb_law_19) vb_law_20)
def vb_law_17 : VSx := (zSeq (zIf (uNot (uTru (vCall v__law_plain 2 [] (arCons (vSh (vCall v_reading_classes 1 [] (arCons (vVar 4) arNil))) (arCons (vFn bTuple (arCons (vFn bSorted (arCons (vVar 9) arNil)) arNil)) arNil))))) (zRet (vC (.bl false))) zPass) vb_law_18)
def vb_law_9 : VSx := (zSeq (zForI 5 (gzNm 10) vb_law_10) vb_law_17)
def vb_law_8 : VSx := (zSeq (zSet 9 (vLst arNil)) vb_law_9)
def vb_law_7 : VSx := (zSeq (zIf (uNot (uTru (vCall v__law_plain 2 [] (arCons (vSh (vCall v_all_threes 1 [] (arCons (vVar 4) arNil))) (arCons (vFn bTuple (arCons (vVar 5) arNil)) arNil))))) (zRet (vC (.bl false))) zPass) vb_law_8)
def vb_law_4 : VSx := (zSeq (zForR rngV1 (arCons (vVar 2) arNil) (gzNm 6) vb_law_5) vb_law_7)
def vb_law_3 : VSx := (zSeq (zSetH 5 (vLst arNil)) vb_law_4)
def vb_law_2 : VSx := (zSeq (zSetH 4 (vNew 57 2 v_Ties_zzinitzz [] (arCons (vVar 3) arNil))) vb_law_3)
def vb_law_1 : VSx := (zSeq (zSetH 3 (vCall v__law_backs 2 [] (arCons (vVar 1) (arCons (vVar 2) arNil)))) vb_law_2)
def vb_law : VSx := (zSeq (zSetH 2 (vCall v__law_pick 2 [] (arCons (vVar 1) (arCons (vSh (vLst (arCons (vC (.int 2)) (arCons (vC (.int 3)) (arCons (vC (.int 3)) (arCons (vC (.int 2)) (arCons (vC (.int 4)) arNil))))))) arNil)))) vb_law_1)
theorem ok_law (c : Facts P K mg) {fd : FuncData} (F : FnP K "law" "law" s_law (He.ga K "law") fd) : FnOk P w K mg base (L2.CX P w) 11 (He.ga K "law") fd ["_law_script"] (spM (st K) 1 m_law) := by
  refine fnok_of (N := ["_law_script", "_law_hand_here", "_law_many", "_law_backs_here", "_law_ties", "_law_threes", "_law_p", "_law_q", "_law_r", "_law_classes", "_law_three", "_law_due", "_law_handed", "_law_other", "_law_k"]) (ps := ["_law_script"]) (b := b_law) F sc_law rfl fun cdv A outer s H E hr => ?_
  exact (db_cons (ds_set (i := 1) sc_law.nd rfl (by first | exact .inl rfl | exact .inr rfl) (de_call (df__law_hand c) (hr.mono (by decide)) takes_body rfl (da_cons (de_var (i := 0) rfl (by first | exact .inl rfl | exact .inr (.inl rfl) | exact .inr (.inr rfl))) da_nil))) (db_cons (ds_set (i := 2) sc_law.nd rfl (by first | exact .inl rfl | exact .inr rfl) (de_call (df__law_pick c) (hr.mono (by decide)) takes_body rfl (da_cons (de_var (i := 1) rfl (by first | exact .inl rfl | exact .inr (.inl rfl) | exact .inr (.inr rfl))) (da_cons (de_lst (da_cons de_int (da_cons de_int (da_cons de_int (da_cons de_int (da_cons de_int da_nil)))))) da_nil)))) (db_cons (ds_set (i := 3) sc_law.nd rfl (by first | exact .inl rfl | exact .inr rfl) (de_call (df__law_backs c) (hr.mono (by decide)) takes_body rfl (da_cons (de_var (i := 1) rfl (by first | exact .inl rfl | exact .inr (.inl rfl) | exact .inr (.inr rfl))) (da_cons (de_var (i := 2) rfl (by first | exact .inl rfl | exact .inr (.inl rfl) | exact .inr (.inr rfl))) da_nil)))) (db_cons (ds_set (i := 4) sc_law.nd rfl (by first | exact .inl rfl | exact .inr rfl) (de_new (nw_Ties c) (hr.mono (by decide)) takes_body rfl (da_cons (de_var (i := 3) rfl (by first | exact .inl rfl | exact .inr (.inl rfl) | exact .inr (.inr rfl))) da_nil))) (db_cons (ds_set (i := 5) sc_law.nd rfl (by first | exact .inl rfl | exact .inr rfl) (de_lst da_nil)) (db_cons (ds_forR1 passes_body rfl rfl c.f_range (da_cons (de_var (i := 2) rfl (by first | exact .inl rfl | exact .inr (.inl rfl) | exact .inr (.inr rfl))) da_nil) (dg_name (i := 6) sc_law.nd rfl (by first | exact .inl rfl | exact .inr rfl)) (db_one (ds_forR1 passes_body rfl rfl c.f_range (da_cons (de_var (i := 2) rfl (by first | exact .inl rfl | exact .inr (.inl rfl) | exact .inr (.inr rfl))) da_nil) (dg_name (i := 7) sc_law.nd rfl (by first | exact .inl rfl | exact .inr rfl)) (db_one (ds_set (i := 5) sc_law.nd rfl (by first | exact .inl rfl | exact .inr rfl) (de_op (ok_add rfl) (de_var (i := 5) rfl (by first | exact .inl rfl | exact .inr (.inl rfl) | exact .inr (.inr rfl))) (de_lcR1 rfl rfl sc_law.nd rfl c.f_range (da_cons (de_var (i := 2) rfl (by first | exact .inl rfl | exact .inr (.inl rfl) | exact .inr (.inr rfl))) da_nil) (own := [("_law_r", 8)]) (blkOk_by (N := ["_law_script", "_law_hand_here", "_law_many", "_law_backs_here", "_law_ties", "_law_threes", "_law_p", "_law_q", "_law_r", "_law_classes", "_law_three", "_law_due", "_law_handed", "_law_other", "_law_k"]) (sc := defScope s_law) (by decide +kernel)) (fun s H C cl fp => (dgv_name (i := 8) sc_law.nd rfl (by first | exact .inl rfl | exact .inr rfl))) (fun s H C cl fp => dts_nil) (fun s H C cl fp => (de_tup (da_cons (de_var (i := 6) rfl (by first | exact .inl rfl | exact .inr (.inl rfl) | exact .inr (.inr rfl))) (da_cons (de_var (i := 7) rfl (by first | exact .inl rfl | exact .inr (.inl rfl) | exact .inr (.inr rfl))) (da_cons (de_var (i := 8) rfl (by first | exact .inl rfl | exact .inr (.inl rfl) | exact .inr (.inr rfl))) da_nil)))))))))))) (db_cons (ds_if (dt_not (dt_tru rfl (de_call (df__law_plain c) (hr.mono (by decide)) takes_body rfl (da_cons (de_call (df_all_threes c) (hr.mono (by decide)) takes_body rfl (da_cons (de_var (i := 4) rfl (by first | exact .inl rfl | exact .inr (.inl rfl) | exact .inr (.inr rfl))) da_nil)) (da_cons (de_callTy (ok_tuple rfl) rfl c.f_tuple b_tuple (da_cons (de_var (i := 5) rfl (by first | exact .inl rfl | exact .inr (.inl rfl) | exact .inr (.inr rfl))) da_nil)) da_nil))))) (db_one (ds_ret de_bl)) db_nil) (db_cons (ds_set (i := 9) sc_law.nd rfl (by first | exact .inl rfl | exact .inr rfl) (de_lst da_nil)) (db_cons (ds_for rfl passes_body rfl (de_var (i := 5) rfl (by first | exact .inl rfl | exact .inr (.inl rfl) | exact .inr (.inr rfl))) (dg_name (i := 10) sc_law.nd rfl (by first | exact .inl rfl | exact .inr rfl)) (db_cons (ds_set (i := 11) sc_law.nd rfl (by first | exact .inl rfl | exact .inr rfl) (de_call (df__law_shown c) (hr.mono (by decide)) takes_body rfl (da_cons (de_var (i := 3) rfl (by first | exact .inl rfl | exact .inr (.inl rfl) | exact .inr (.inr rfl))) (da_cons (de_ix (ok_ix rfl) (de_var (i := 10) rfl (by first | exact .inl rfl | exact .inr (.inl rfl) | exact .inr (.inr rfl))) de_int) (da_cons (de_ix (ok_ix rfl) (de_var (i := 10) rfl (by first | exact .inl rfl | exact .inr (.inl rfl) | exact .inr (.inr rfl))) de_int) (da_cons (de_ix (ok_ix rfl) (de_var (i := 10) rfl (by first | exact .inl rfl | exact .inr (.inl rfl) | exact .inr (.inr rfl))) de_int) da_nil)))))) (db_cons (ds_set (i := 12) sc_law.nd rfl (by first | exact .inl rfl | exact .inr rfl) (de_call (df__law_shape c) (hr.mono (by decide)) takes_body rfl (da_cons (de_var (i := 1) rfl (by first | exact .inl rfl | exact .inr (.inl rfl) | exact .inr (.inr rfl))) (da_cons (de_var (i := 10) rfl (by first | exact .inl rfl | exact .inr (.inl rfl) | exact .inr (.inr rfl))) da_nil)))) (db_cons (ds_if (dw_pt (dw_or (dt_not (dt_tru rfl (de_call (df__law_plain c) (hr.mono (by decide)) takes_body rfl (da_cons (de_call (df_readings_of c) (hr.mono (by decide)) takes_body rfl (da_cons (de_var (i := 4) rfl (by first | exact .inl rfl | exact .inr (.inl rfl) | exact .inr (.inr rfl))) (da_cons (de_var (i := 12) rfl (by first | exact .inl rfl | exact .inr (.inl rfl) | exact .inr (.inr rfl))) da_nil))) (da_cons (de_callTy (ok_tuple rfl) rfl c.f_tuple b_tuple (da_cons (de_var (i := 11) rfl (by first | exact .inl rfl | exact .inr (.inl rfl) | exact .inr (.inr rfl))) da_nil)) da_nil))))) (dw_or1 (dt_not (dt_tru rfl (de_call (df__law_plain c) (hr.mono (by decide)) takes_body rfl (da_cons (de_call (df_least_reading c) (hr.mono (by decide)) takes_body rfl (da_cons (de_var (i := 4) rfl (by first | exact .inl rfl | exact .inr (.inl rfl) | exact .inr (.inr rfl))) (da_cons (de_var (i := 12) rfl (by first | exact .inl rfl | exact .inr (.inl rfl) | exact .inr (.inr rfl))) da_nil))) (da_cons (de_ix (ok_ix rfl) (de_var (i := 11) rfl (by first | exact .inl rfl | exact .inr (.inl rfl) | exact .inr (.inr rfl))) de_int) da_nil)))))))) (db_one (ds_ret de_bl)) db_nil) (db_cons (ds_if (dw_pt (dw_or (dt_cmp (ok_qNe rfl hr.units) (de_callTy (ok_list rfl) rfl c.f_list b_list (da_cons (de_var (i := 12) rfl (by first | exact .inl rfl | exact .inr (.inl rfl) | exact .inr (.inr rfl))) da_nil)) (de_callTy (ok_list rfl) rfl c.f_list b_list (da_cons (de_var (i := 10) rfl (by first | exact .inl rfl | exact .inr (.inl rfl) | exact .inr (.inr rfl))) da_nil))) (dw_or1 (dt_not (dt_tru rfl (de_call (df__law_plain c) (hr.mono (by decide)) takes_body rfl (da_cons (de_call (df_is_three c) (hr.mono (by decide)) takes_body rfl (da_cons (de_var (i := 4) rfl (by first | exact .inl rfl | exact .inr (.inl rfl) | exact .inr (.inr rfl))) (da_cons (de_var (i := 12) rfl (by first | exact .inl rfl | exact .inr (.inl rfl) | exact .inr (.inr rfl))) da_nil))) (da_cons de_bl da_nil)))))))) (db_one (ds_ret de_bl)) db_nil) (db_cons (ds_set (i := 13) sc_law.nd rfl (by first | exact .inl rfl | exact .inr rfl) (de_ix (ok_ix rfl) (de_var (i := 11) rfl (by first | exact .inl rfl | exact .inr (.inl rfl) | exact .inr (.inr rfl))) (de_call (df__law_draw c) (hr.mono (by decide)) takes_body rfl (da_cons (de_var (i := 1) rfl (by first | exact .inl rfl | exact .inr (.inl rfl) | exact .inr (.inr rfl))) (da_cons (de_callB (ok_len rfl) rfl c.f_len b_len (da_cons (de_var (i := 11) rfl (by first | exact .inl rfl | exact .inr (.inl rfl) | exact .inr (.inr rfl))) da_nil)) da_nil))))) (db_cons (ds_if (dt_not (dt_tru rfl (de_call (df__law_plain c) (hr.mono (by decide)) takes_body rfl (da_cons (de_call (df_readings_of c) (hr.mono (by decide)) takes_body rfl (da_cons (de_var (i := 4) rfl (by first | exact .inl rfl | exact .inr (.inl rfl) | exact .inr (.inr rfl))) (da_cons (de_callTy (ok_list rfl) rfl c.f_list b_list (da_cons (de_var (i := 13) rfl (by first | exact .inl rfl | exact .inr (.inl rfl) | exact .inr (.inr rfl))) da_nil)) da_nil))) (da_cons (de_callTy (ok_tuple rfl) rfl c.f_tuple b_tuple (da_cons (de_var (i := 11) rfl (by first | exact .inl rfl | exact .inr (.inl rfl) | exact .inr (.inr rfl))) da_nil)) da_nil))))) (db_one (ds_ret de_bl)) db_nil) (db_one (ds_if (dt_cmp (ok_qNin rfl hr.units) (de_ix (ok_ix rfl) (de_var (i := 11) rfl (by first | exact .inl rfl | exact .inr (.inl rfl) | exact .inr (.inr rfl))) de_int) (de_var (i := 9) rfl (by first | exact .inl rfl | exact .inr (.inl rfl) | exact .inr (.inr rfl)))) (db_one (ds_exp (de_lm rfl PySem.F.slot_list_append PySem.F.type_list_append ok_append (de_var (i := 9) rfl (by first | exact .inl rfl | exact .inr (.inl rfl) | exact .inr (.inr rfl))) (da_cons (de_ix (ok_ix rfl) (de_var (i := 11) rfl (by first | exact .inl rfl | exact .inr (.inl rfl) | exact .inr (.inr rfl))) de_int) da_nil)))) db_nil))))))))) (db_cons (ds_if (dt_not (dt_tru rfl (de_call (df__law_plain c) (hr.mono (by decide)) takes_body rfl (da_cons (de_call (df_reading_classes c) (hr.mono (by decide)) takes_body rfl (da_cons (de_var (i := 4) rfl (by first | exact .inl rfl | exact .inr (.inl rfl) | exact .inr (.inr rfl))) da_nil)) (da_cons (de_callTy (ok_tuple rfl) rfl c.f_tuple b_tuple (da_cons (de_callB (ok_sorted rfl) rfl c.f_sorted b_sorted (da_cons (de_var (i := 9) rfl (by first | exact .inl rfl | exact .inr (.inl rfl) | exact .inr (.inr rfl))) da_nil)) da_nil)) da_nil))))) (db_one (ds_ret de_bl)) db_nil) (db_cons (ds_forR1 passes_body rfl rfl c.f_range (da_cons de_int da_nil) (dg_name (i := 14) sc_law.nd rfl (by first | exact .inl rfl | exact .inr rfl)) (db_one (ds_if (dt_not (dt_tru rfl (de_call (df__law_refused c) (hr.mono (by decide)) takes_body rfl (da_cons (de_var (i := 4) rfl (by first | exact .inl rfl | exact .inr (.inl rfl) | exact .inr (.inr rfl))) (da_cons (de_call (df__law_bad c) (hr.mono (by decide)) takes_body rfl (da_cons (de_var (i := 1) rfl (by first | exact .inl rfl | exact .inr (.inl rfl) | exact .inr (.inr rfl))) (da_cons (de_var (i := 2) rfl (by first | exact .inl rfl | exact .inr (.inl rfl) | exact .inr (.inr rfl))) da_nil))) da_nil))))) (db_one (ds_ret de_bl)) db_nil))) (db_one (ds_ret (de_call (df__law_plain c) (hr.mono (by decide)) takes_body rfl (da_cons (de_call (df_reading_classes c) (hr.mono (by decide)) takes_body rfl (da_cons (de_new (nw_Ties c) (hr.mono (by decide)) takes_body rfl (da_cons (de_callTy (ok_list rfl) rfl c.f_list b_list (da_cons (de_var (i := 3) rfl (by first | exact .inl rfl | exact .inr (.inl rfl) | exact .inr (.inr rfl))) da_nil)) da_nil)) da_nil)) (da_cons (de_callTy (ok_tuple rfl) rfl c.f_tuple b_tuple (da_cons (de_callB (ok_sorted rfl) rfl c.f_sorted b_sorted (da_cons (de_var (i := 9) rfl (by first | exact .inl rfl | exact .inr (.inl rfl) | exact .inr (.inr rfl))) da_nil)) da_nil)) da_nil))))))))))))))))
theorem law_v (hT : ∀ s : Hs, ∃ va s', vb_law (none :: some .hnd :: List.replicate 13 none) s = .rt (.bl true) va s') (ns : List Int) (hl : ns.length ≤ 63) : ∃ h', m_law [.cst (ns.map W.int)] [] = .ok (.bl true) h' :=
  law_V (v := vb_law) (dvs_seq (dvs_setH (i := 2) (by decide) (dv_call dvf__law_pick (fun _ _ => .nil) (dva_cons dv_var (dva_cons (dv_sh (dv_lst (dva_cons dv_int (dva_cons dv_int (dva_cons dv_int (dva_cons dv_int (dva_cons dv_int dva_nil))))))) dva_nil)))) (dvs_seq (dvs_setH (i := 3) (by decide) (dv_call dvf__law_backs (fun _ _ => .nil) (dva_cons dv_var (dva_cons dv_var dva_nil)))) (dvs_seq (dvs_setH (i := 4) (by decide) (dv_new dvi_Ties_zzinitzz (fun _ _ => .nil) (dva_cons dv_var dva_nil))) (dvs_seq (dvs_setH (i := 5) (by decide) (dv_lst dva_nil)) (dvs_seq (dvs_forR okr_1 (dva_cons dv_var dva_nil) (dvtg_nm (i := 6) (by decide)) (dvs_forR okr_1 (dva_cons dv_var dva_nil) (dvtg_nm (i := 7) (by decide)) (dvs_setH (i := 5) (by decide) (dv_op oka_add dv_var (dv_lcR okr_1 (dva_cons dv_var dva_nil) (dvg_nm (i := 8)) dvt_yes (dv_tup (dva_cons dv_var (dva_cons dv_var (dva_cons dv_var dva_nil))))))))) (dvs_seq (dvs_if (dvt_not (dvt_tru (dv_call dvf__law_plain (fun _ _ => .nil) (dva_cons (dv_sh (dv_call dvf_all_threes (fun _ _ => .nil) (dva_cons dv_var dva_nil))) (dva_cons (dv_fn okb_tuple (dva_cons dv_var dva_nil)) dva_nil))))) (dvs_ret dv_bl) dvs_pass) (dvs_seq (dvs_set (i := 9) (by decide) (dv_lst dva_nil)) (dvs_seq (dvs_forI (dvtg_nm (i := 10) (by decide)) (dvs_seq (dvs_setH (i := 11) (by decide) (dv_call dvf__law_shown (fun _ _ => .nil) (dva_cons dv_var (dva_cons (dv_op oka_ix dv_var dv_int) (dva_cons (dv_op oka_ix dv_var dv_int) (dva_cons (dv_op oka_ix dv_var dv_int) dva_nil)))))) (dvs_seq (dvs_setH (i := 12) (by decide) (dv_call dvf__law_shape (fun _ _ => .nil) (dva_cons dv_var (dva_cons dv_var dva_nil)))) (dvs_seq (dvs_if (dvt_or (dvt_not (dvt_tru (dv_call dvf__law_plain (fun _ _ => .nil) (dva_cons (dv_sh (dv_call dvf_readings_of (fun _ _ => .nil) (dva_cons dv_var (dva_cons dv_var dva_nil)))) (dva_cons (dv_fn okb_tuple (dva_cons dv_var dva_nil)) dva_nil))))) (dvt_not (dvt_tru (dv_call dvf__law_plain (fun _ _ => .nil) (dva_cons (dv_sh (dv_call dvf_least_reading (fun _ _ => .nil) (dva_cons dv_var (dva_cons dv_var dva_nil)))) (dva_cons (dv_op oka_ix dv_var dv_int) dva_nil)))))) (dvs_ret dv_bl) dvs_pass) (dvs_seq (dvs_if (dvt_or (dvt_tb (dv_op oka_ne (dv_fn okb_list (dva_cons dv_var dva_nil)) (dv_fn okb_list (dva_cons dv_var dva_nil)))) (dvt_not (dvt_tru (dv_call dvf__law_plain (fun _ _ => .nil) (dva_cons (dv_sh (dv_call dvf_is_three (fun _ _ => .nil) (dva_cons dv_var (dva_cons dv_var dva_nil)))) (dva_cons dv_bl dva_nil)))))) (dvs_ret dv_bl) dvs_pass) (dvs_seq (dvs_setH (i := 13) (by decide) (dv_op oka_ix dv_var (dv_call dvf__law_draw (fun _ _ => .nil) (dva_cons dv_var (dva_cons (dv_fn okb_len (dva_cons dv_var dva_nil)) dva_nil))))) (dvs_seq (dvs_if (dvt_not (dvt_tru (dv_call dvf__law_plain (fun _ _ => .nil) (dva_cons (dv_sh (dv_call dvf_readings_of (fun _ _ => .nil) (dva_cons dv_var (dva_cons (dv_sh (dv_fn okb_list (dva_cons dv_var dva_nil))) dva_nil)))) (dva_cons (dv_fn okb_tuple (dva_cons dv_var dva_nil)) dva_nil))))) (dvs_ret dv_bl) dvs_pass) (dvs_if (dvt_tb (dv_op oka_nin (dv_op oka_ix dv_var dv_int) dv_var)) (dvs_mut okm_append (dva_cons (dv_op oka_ix dv_var dv_int) dva_nil)) dvs_pass)))))))) (dvs_seq (dvs_if (dvt_not (dvt_tru (dv_call dvf__law_plain (fun _ _ => .nil) (dva_cons (dv_sh (dv_call dvf_reading_classes (fun _ _ => .nil) (dva_cons dv_var dva_nil))) (dva_cons (dv_fn okb_tuple (dva_cons (dv_fn okb_sorted (dva_cons dv_var dva_nil)) dva_nil)) dva_nil))))) (dvs_ret dv_bl) dvs_pass) (dvs_seq (dvs_forR okr_1 (dva_cons dv_int dva_nil) (dvtg_nm (i := 14) (by decide)) (dvs_if (dvt_not (dvt_tru (dv_call dvf__law_refused (fun _ _ => .nil) (dva_cons dv_var (dva_cons (dv_sh (dv_call dvf__law_bad (fun _ _ => .nil) (dva_cons dv_var (dva_cons dv_var dva_nil)))) dva_nil))))) (dvs_ret dv_bl) dvs_pass)) (dvs_ret (dv_call dvf__law_plain (fun _ _ => .nil) (dva_cons (dv_sh (dv_call dvf_reading_classes (fun _ _ => .nil) (dva_cons (dv_new dvi_Ties_zzinitzz (fun _ _ => .nil) (dva_cons (dv_fn okb_list (dva_cons dv_var dva_nil)) dva_nil)) dva_nil))) (dva_cons (dv_fn okb_tuple (dva_cons (dv_fn okb_sorted (dva_cons dv_var dva_nil)) dva_nil)) dva_nil)))))))))))))) (by decide) hT ns hl
end
end K09

namespace K09
open PySem PySem.Spec PyProof.Rows L2 J JP
abbrev T3 : Type := Nat × Nat × Nat
def ky (t : T3) : List Int := [(t.1 : Int), (t.2.1 : Int), (t.2.2 : Int)]
def six (b : Nat → Nat) : T3 → List T3
  | (p, q, r) => [(p, q, r), (r, b q, p), (b p, r, q), (q, b r, b p), (b r, p, b q), (b q, b p, b r)]
def lt3 (m : Nat) (t : T3) : Prop := t.1 < m ∧ t.2.1 < m ∧ t.2.2 < m
structure Bk (m : Nat) (b : Nat → Nat) : Prop where
  lt : ∀ i, i < m → b i < m
  inv : ∀ i, i < m → b (b i) = i
variable {m : Nat} {b : Nat → Nat} {t y : T3}
theorem ky_inj {a c : T3} (e : ky a = ky c) : a = c := by
  obtain ⟨a1, a2, a3⟩ := a
  obtain ⟨c1, c2, c3⟩ := c
  simp only [ky, List.cons.injEq, and_true] at e
  obtain ⟨e1, e2, e3⟩ := e
  have e1 : a1 = c1 := by omega
  have e2 : a2 = c2 := by omega
  have e3 : a3 = c3 := by omega
  rw [e1, e2, e3]
theorem six_lt (B : Bk m b) (h : lt3 m t) (hy : y ∈ six b t) : lt3 m y := by
  obtain ⟨p, q, r⟩ := t
  obtain ⟨h1, h2, h3⟩ := h
  have l := B.lt
  simp only [six, List.mem_cons, List.mem_nil_iff, or_false] at hy
  rcases hy with rfl | rfl | rfl | rfl | rfl | rfl <;> refine ⟨?_, ?_, ?_⟩ <;> first | assumption | exact l _ ‹_›
theorem six_sub (B : Bk m b) (h : lt3 m t) (hy : y ∈ six b t) : ∀ z ∈ six b y, z ∈ six b t := by
  obtain ⟨p, q, r⟩ := t
  obtain ⟨h1, h2, h3⟩ := h
  have i1 : b (b p) = p := B.inv _ h1
  have i2 : b (b q) = q := B.inv _ h2
  have i3 : b (b r) = r := B.inv _ h3
  intro z hz
  simp only [six, List.mem_cons, List.mem_nil_iff, or_false] at hy
  rcases hy with rfl | rfl | rfl | rfl | rfl | rfl <;> simp only [six, i1, i2, i3, List.mem_cons, List.mem_nil_iff, or_false] at hz ⊢ <;> rcases hz with rfl | rfl | rfl | rfl | rfl | rfl <;> simp
theorem six_self (B : Bk m b) (h : lt3 m t) (hy : y ∈ six b t) : t ∈ six b y := by
  obtain ⟨p, q, r⟩ := t
  obtain ⟨h1, h2, h3⟩ := h
  have i1 : b (b p) = p := B.inv _ h1
  have i2 : b (b q) = q := B.inv _ h2
  have i3 : b (b r) = r := B.inv _ h3
  simp only [six, List.mem_cons, List.mem_nil_iff, or_false] at hy
  rcases hy with rfl | rfl | rfl | rfl | rfl | rfl <;> simp [six, i1, i2, i3]
theorem six_same (B : Bk m b) (h : lt3 m t) (hy : y ∈ six b t) (z : T3) : z ∈ six b y ↔ z ∈ six b t :=
  ⟨six_sub B h hy z, six_sub B (six_lt B h hy) (six_self B h hy) z⟩
/-! sorted lists of keys -/
def KO (k : List Int) : Prop := k.length = 3 ∧ TS.Bd cB k
theorem ky_ok (h : lt3 m t) (hm : m ≤ 1000) : KO (ky t) := by
  obtain ⟨p, q, r⟩ := t
  obtain ⟨h1, h2, h3⟩ := h
  refine ⟨rfl, fun x hx => ?_⟩
  unfold cB
  simp only [ky, List.mem_cons, List.mem_nil_iff, or_false] at hx h1 h2 h3
  rcases hx with rfl | rfl | rfl <;> omega
theorem srt_one {l l' : List (List Int)} (n : l.Nodup) (n' : l'.Nodup) (e : ∀ k, k ∈ l ↔ k ∈ l') (h : ∀ k ∈ l, KO k) (s : l'.Pairwise (fun a c => TS.code cB a ≤ TS.code cB c)) : sortK (TS.code cB) l = l' := by
  have pm : (sortK (TS.code cB) l).Perm l' := (sortK_perm _ _).trans ((List.perm_ext_iff_of_nodup n n').mpr e)
  refine sorted_one (TS.code cB) pm (sortK_sorted _ _) s fun a ha c hc z => ?_
  have h1 := h a ((sortK_perm _ _).mem_iff.mp ha)
  have h2 := h c ((sortK_perm _ _).mem_iff.mp hc)
  exact code_inj (h1.1.trans h2.1.symm) h1.2 h2.2 z
theorem sortK_nodup {l : List (List Int)} (n : l.Nodup) : (sortK (TS.code cB) l).Nodup := (sortK_perm _ _).nodup_iff.mpr n
theorem sortK_mem {l : List (List Int)} {k : List Int} : k ∈ sortK (TS.code cB) l ↔ k ∈ l := (sortK_perm _ _).mem_iff
theorem uniq_nodup (l : List (List Int)) : (uniqK l).Nodup := sortK_nodup (dedK_nodup l)
theorem uniq_mem {l : List (List Int)} {k : List Int} : k ∈ uniqK l ↔ k ∈ l := by unfold uniqK; rw [sortK_mem, dedK_mem]
theorem uniq_sorted (l : List (List Int)) : (uniqK l).Pairwise (fun a c => TS.code cB a ≤ TS.code cB c) := sortK_sorted _ _
/-- the readings of t -/
def uq (b : Nat → Nat) (t : T3) : List (List Int) := uniqK ((six b t).map ky)
theorem uq_mem {k : List Int} : k ∈ uq b t ↔ ∃ y ∈ six b t, ky y = k := by unfold uq; rw [uniq_mem, List.mem_map]
theorem uq_ok (B : Bk m b) (hm : m ≤ 1000) (h : lt3 m t) : ∀ k ∈ uq b t, KO k := fun k hk => by
  obtain ⟨y, hy, rfl⟩ := uq_mem.mp hk
  exact ky_ok (six_lt B h hy) hm
theorem uq_same (B : Bk m b) (hm : m ≤ 1000) (h : lt3 m t) (hy : y ∈ six b t) : uq b y = uq b t := by
  have e : ∀ k, k ∈ dedK ((six b y).map ky) ↔ k ∈ uq b t := fun k => by
    rw [dedK_mem, uq_mem, List.mem_map]
    constructor
    · rintro ⟨z, hz, rfl⟩; exact ⟨z, (six_same B h hy z).mp hz, rfl⟩
    · rintro ⟨z, hz, rfl⟩; exact ⟨z, (six_same B h hy z).mpr hz, rfl⟩
  exact srt_one (dedK_nodup _) (uniq_nodup _) e (fun k hk => uq_ok B hm h k ((e k).mp hk)) (uniq_sorted _)
theorem uq_ne : uq b t ≠ [] := fun e => by
  obtain ⟨p, q, r⟩ := t
  have : ky (p, q, r) ∈ uq b (p, q, r) := uq_mem.mpr ⟨_, by simp [six], rfl⟩
  rw [e] at this
  simp at this
/-- what is met first, kept in order -/
def addN {α : Type} [DecidableEq α] (l : List α) (x : α) : List α := if x ∈ l then l else l ++ [x]
def dd {α : Type} [DecidableEq α] (l : List α) : List α := l.foldl addN []
theorem foldAdd_mem {α : Type} [DecidableEq α] : ∀ (l a : List α) (x : α), x ∈ l.foldl addN a ↔ x ∈ a ∨ x ∈ l
  | [], a, x => by simp
  | z :: l, a, x => by
    rw [List.foldl_cons, foldAdd_mem l]
    unfold addN
    split
    · rename_i c
      simp only [List.mem_cons]
      constructor
      · rintro (h | h)
        · exact .inl h
        · exact .inr (.inr h)
      · rintro (h | rfl | h)
        · exact .inl h
        · exact .inl c
        · exact .inr h
    · simp only [List.mem_append, List.mem_cons, List.mem_nil_iff, or_false, or_assoc]
theorem foldAdd_nodup {α : Type} [DecidableEq α] : ∀ (l a : List α), a.Nodup → (l.foldl addN a).Nodup
  | [], a, h => h
  | z :: l, a, h => by
    rw [List.foldl_cons]
    refine foldAdd_nodup l _ ?_
    unfold addN
    split
    · exact h
    · rename_i c
      refine List.nodup_append.mpr ⟨h, by simp, ?_⟩
      intro x hx y hy e
      simp at hy
      subst hy
      subst e
      exact c hx
theorem dd_mem {α : Type} [DecidableEq α] {l : List α} {x : α} : x ∈ dd l ↔ x ∈ l := by unfold dd; rw [foldAdd_mem]; simp
theorem dd_nodup {α : Type} [DecidableEq α] (l : List α) : (dd l).Nodup := foldAdd_nodup l [] .nil
theorem dd_take {α : Type} [DecidableEq α] {l : List α} {k : Nat} {x : α} (e : l[k]? = some x) : dd (l.take (k + 1)) = addN (dd (l.take k)) x := by
  unfold dd
  rw [List.take_succ, e, Option.toList_some, List.foldl_append]
  rfl
/-- the law's own readings: in the order of the six, then sorted -/
theorem shown_uq (B : Bk m b) (hm : m ≤ 1000) (h : lt3 m t) : sortK (TS.code cB) (dd ((six b t).map ky)) = uq b t := by
  refine srt_one (dd_nodup _) (uniq_nodup _) (fun k => ?_) (fun k hk => ?_) (uniq_sorted _)
  · rw [dd_mem, uq, uniq_mem]
  · obtain ⟨y, hy, rfl⟩ := List.mem_map.mp (dd_mem.mp hk)
    exact ky_ok (six_lt B h hy) hm
end K09

namespace K09
open PySem PySem.Spec PyProof.Rows L2 J JP
/-- numbers, truths and tuples of these, at most n deep -/
def plD : Nat → D → Prop
  | _, .int _ => True
  | _, .bl _ => True
  | n + 1, .tup xs => ∀ x ∈ xs, plD n x
  | _, _ => False
theorem plD_T {n : Nat} {d : D} (h : plD n d) : okT d := by
  cases d with
  | int i => exact ⟨rfl, rfl⟩
  | bl b => exact ⟨rfl, rfl⟩
  | tup xs => exact ⟨rfl, rfl⟩
  | _ => cases n <;> exact h.elim
theorem zip2_get : ∀ (xs : List D) (k : Nat) (d : D), (zipV2 xs xs)[k]? = some d → ∃ x, xs[k]? = some x ∧ d = .tup [x, x]
  | [], k, d, e => by simp [zipV2] at e
  | x :: xs, 0, d, e => by simp [zipV2] at e; exact ⟨x, rfl, e.symm⟩
  | x :: xs, k + 1, d, e => by
    obtain ⟨y, h1, h2⟩ := zip2_get xs k d (by simpa [zipV2] using e)
    exact ⟨y, by simpa using h1, h2⟩
section
variable {X : VXP}
theorem plain_n : ∀ (n : Nat) (d : D) (s : Hs) (Q : D → Hs → Prop), plD n d → Q (.bl true) s → PR (vf__law_plain (n + 1) [d, d] s) Q X
  | n, .int i, s, Q, h, q => by
    refine PR_run ?_
    simp [vb__law_plain, vb__law_plain_4, vb__law_plain_5, vb__law_plain_6]
    exact q
  | n, .bl b, s, Q, h, q => by
    refine PR_run ?_
    have e1 : aIs (.bl b) .non = some (.bl false) := rfl
    have e2 : aEq (.bl b) (.bl b) = some (.bl true) := by cases b <;> rfl
    simp [vb__law_plain, vb__law_plain_4, vb__law_plain_5, e1, e2]
    exact q
  | n + 1, .tup xs, s, Q, h, q => by
    refine PR_run ?_
    simp [vb__law_plain, vb__law_plain_1]
    refine PS_forV (zipV2 xs xs) (fun k va s' => s' = s ∧ ∃ y z, va = [some (.tup xs), some (.tup xs), y, z]) ?_ ?_ ⟨rfl, none, none, rfl⟩
    · rintro va s' ⟨rfl, y, z, rfl⟩
      simp [vb__law_plain_3]
      exact q
    · rintro k d va s' hk ⟨rfl, y, z, rfl⟩
      obtain ⟨x, hx, rfl⟩ := zip2_get xs k d hk
      have hp : plD n x := h x (List.mem_of_getElem? hx)
      refine ⟨_, _, rfl, ?_⟩
      simp [vb__law_plain_2, gvV_A (plD_T hp).1, argV_A (plD_T hp).1]
      refine plain_n n x _ _ hp ?_
      simp
  | 0, .tup xs, s, Q, h, q => h.elim
  | 0, .non, s, Q, h, q => h.elim
  | n + 1, .non, s, Q, h, q => h.elim
  | 0, .str _, s, Q, h, q => h.elim
  | n + 1, .str _, s, Q, h, q => h.elim
  | 0, .lst _ _, s, Q, h, q => h.elim
  | n + 1, .lst _ _, s, Q, h, q => h.elim
  | 0, .ins _ _ _, s, Q, h, q => h.elim
  | n + 1, .ins _ _ _, s, Q, h, q => h.elim
  | 0, .dic _ _, s, Q, h, q => h.elim
  | n + 1, .dic _ _, s, Q, h, q => h.elim
  | 0, .xcp _ _, s, Q, h, q => h.elim
  | n + 1, .xcp _ _, s, Q, h, q => h.elim
  | 0, .hnd, s, Q, h, q => h.elim
  | n + 1, .hnd, s, Q, h, q => h.elim
theorem plain_ok {d : D} {s : Hs} {Q : D → Hs → Prop} (h : plD 7 d) (q : Q (.bl true) s) : PR (v__law_plain [d, d] s) Q X := plain_n 7 d s Q h q
/-! ### what is a three -/
def is3 (m : Int) (d : D) : Bool := match itV d with
  | some xs => decide (xs.length = 3) && xs.all fun x => isWhD x 0 (m - 1)
  | none => false
theorem is3_ok {bs : List Nat} {d : D} {s : Hs} {Q : D → Hs → Prop} (T : okA d = true) (TI : ∀ xs, itV d = some xs → ∀ x ∈ xs, okT x) (q : Q (.bl (is3 bs.length d)) s) : PR (v_is_three [tiesD .sh bs, d] s) Q X := by
  refine PR_run ?_
  have gt0 : ∀ s, gvV (some (some (tiesD .sh bs))) s = .ok (tiesD .sh bs) s := fun s => rfl
  have g0 := fun s => gvV_A T (s := s)
  simp [vb_is_three, g0, isi_lt T]
  cases e : itV d with
  | none =>
    simp
    simpa [is3, e] using q
  | some xs =>
    have l := len_it e
    simp [l]
    by_cases c : xs.length = 3
    · have c' : (xs.length : Int) = 3 := by omega
      simp [c, c', vb_is_three_1, for_it T e]
      refine PS_forV xs (fun j va s' => s' = s ∧ (∃ y, va = [some (tiesD .sh bs), some d, y]) ∧ ∀ i < j, ∀ x, xs[i]? = some x → isWhD x 0 ((bs.length : Int) - 1) = true) ?_ ?_ ⟨rfl, ⟨none, rfl⟩, fun i z => absurd z (Nat.not_lt_zero _)⟩
      · rintro va s' ⟨rfl, ⟨y, rfl⟩, hall⟩
        simp [vb_is_three_3]
        have z : is3 bs.length d = true := by unfold is3; rw [e]; dsimp only; rw [all_to hall]; simp [c]
        rw [z] at q
        exact q
      · rintro j x va s' hj ⟨rfl, ⟨y, rfl⟩, hall⟩
        refine ⟨_, _, rfl, ?_⟩
        have Tx := TI xs e x (List.mem_of_getElem? hj)
        simp [vb_is_three_2, gvV_A Tx.1, tiesD, argV_A Tx.1, is_whole_eq Tx.1]
        cases hw : isWhD x 0 ((bs.length : Int) - 1)
        · simp
          have z : is3 bs.length d = false := by unfold is3; rw [e]; dsimp only; rw [all_no (List.mem_of_getElem? hj) hw]; simp
          rw [z] at q
          exact q
        · simp
          intro i hi x' hx'
          rcases Nat.lt_succ_iff_lt_or_eq.mp hi with hi | rfl
          · exact hall i hi x' hx'
          · rw [hj] at hx'; cases hx'; exact hw
    · have c' : ¬ (xs.length : Int) = 3 := by omega
      simp [c, c']
      simpa [is3, e, c] using q
end
end K09

namespace K09
open PySem PySem.Spec PyProof.Rows L2 J JP
def tD (t : T3) : D := tupD (ky t)
theorem tD_eq {p q r : Nat} : tD (p, q, r) = .tup [.int (p : Nat), .int (q : Nat), .int (r : Nat)] := rfl
def itsT (t : T3) : List D := [.int (t.1 : Nat), .int (t.2.1 : Nat), .int (t.2.2 : Nat)]
section
variable {X : VXP} {bs : List Nat} {d : D} {t : T3} {s : Hs} {Q : D → Hs → Prop}
theorem six_ok (T : okA d = true) (e : itV d = some (itsT t)) (h : lt3 bs.length t) (q : Q (.lst .ow (((six (bk bs) t).map ky).map tupD)) s) : PR (v__six [tiesD .sh bs, d] s) Q X := by
  obtain ⟨p, u, r⟩ := t
  obtain ⟨h1, h2, h3⟩ := h
  refine PR_run ?_
  have gt0 : ∀ s, gvV (some (some (tiesD .sh bs))) s = .ok (tiesD .sh bs) s := fun s => rfl
  have e1 := bk_at h1
  have e2 := bk_at h2
  have e3 := bk_at h3
  simp at e1 e2 e3
  simp [vb__six, vb__six_1, vb__six_2, gvV_A T, gt0, e, itsT, tiesD, e1, e2, e3]
  exact q
theorem is3_T (h : lt3 bs.length t) (e : itV d = some (itsT t)) : is3 bs.length d = true := by
  obtain ⟨p, u, r⟩ := t
  obtain ⟨h1, h2, h3⟩ := h
  simp at h1 h2 h3
  unfold is3
  rw [e]
  simp [itsT, isWhD]
  omega
theorem itsT_ok (e : itV d = some (itsT t)) : ∀ xs, itV d = some xs → ∀ x ∈ xs, okT x := fun xs e2 x hx => by
  rw [e] at e2
  cases e2
  simp [itsT] at hx
  rcases hx with rfl | rfl | rfl <;> exact ⟨rfl, rfl⟩
theorem okKs_of3 {ks : List (List Int)} (n : ks ≠ []) (h : ∀ k ∈ ks, KO k) : okKs ks = true := by
  cases ks with
  | nil => exact absurd rfl n
  | cons k r =>
    unfold okKs
    have hk := (h k (by simp)).1
    simp only [Bool.and_eq_true, decide_eq_true_eq, List.all_eq_true]
    refine ⟨by omega, fun l hl => ⟨by rw [hk]; exact (h l hl).1, fun m hm => (h l hl).2 m hm⟩⟩
theorem read_ok (I : Invol bs) (hm : bs.length ≤ 4) (T : okT d) (e : itV d = some (itsT t)) (h : lt3 bs.length t) (q : Q (.tup ((uq (bk bs) t).map tupD)) s) : PR (v_readings_of [tiesD .sh bs, d] s) Q X := by
  have B : Bk bs.length (bk bs) := ⟨fun i hi => bk_lt I hi, fun i hi => bk_inv I hi⟩
  refine PR_run ?_
  have gt0 : ∀ s, gvV (some (some (tiesD .sh bs))) s = .ok (tiesD .sh bs) s := fun s => rfl
  have at0 : argV (tiesD .sh bs) = some (tiesD .sh bs) := rfl
  simp [vb_readings_of, gvV_A T.1, gt0, at0, argV_A T.1]
  refine is3_ok T.1 (itsT_ok e) ?_
  simp [is3_T h e, vb_readings_of_1, gvV_A T.1, gt0, at0, argV_A T.1]
  refine six_ok T.1 e h ?_
  have ok : okKs ((six (bk bs) t).map ky) = true := okKs_of3 (by obtain ⟨p, u, r⟩ := t; simp [six]) fun k hk => by
    obtain ⟨y, hy, rfl⟩ := List.mem_map.mp hk
    exact ky_ok (six_lt B h hy) (by omega)
  have b := fun k => bSortSet_keys (k := k) (ks := (six (bk bs) t).map ky) (by obtain ⟨p, u, r⟩ := t; simp [six]) ok
  have b1 := b .ow
  have b2 := b .sh
  have b3 := b .bo
  have b4 := b .tm
  simp only [PR_ok, PR_bind, vFn_eq, ofV, b1, b2, b3, b4]
  simp
  exact q
theorem read_no (T : okT d) (TI : ∀ xs, itV d = some xs → ∀ x ∈ xs, okT x) (h : is3 bs.length d = false) (q : X 9 [(6, d)] s) : PR (v_readings_of [tiesD .sh bs, d] s) Q X := by
  refine PR_run ?_
  have gt0 : ∀ s, gvV (some (some (tiesD .sh bs))) s = .ok (tiesD .sh bs) s := fun s => rfl
  have at0 : argV (tiesD .sh bs) = some (tiesD .sh bs) := rfl
  simp [vb_readings_of, gvV_A T.1, gt0, at0, argV_A T.1]
  refine is3_ok T.1 TI ?_
  simp [h, gvV_A T.1, stoV_T T]
  exact q
end
end K09

namespace K09
open PySem PySem.Spec PyProof.Rows L2 J JP
def lst (b : Nat → Nat) (t : T3) : List Int := (uq b t).headD []
section
variable {X : VXP} {bs : List Nat} {d : D} {t : T3} {s : Hs} {Q : D → Hs → Prop}
theorem uq_head {b : Nat → Nat} : ((uq b t).map tupD)[0]? = some (tupD (lst b t)) := by
  unfold lst
  cases e : uq b t with
  | nil => exact absurd e uq_ne
  | cons k r => rfl
theorem least_ok (I : Invol bs) (hm : bs.length ≤ 4) (T : okT d) (e : itV d = some (itsT t)) (h : lt3 bs.length t) (q : Q (tupD (lst (bk bs) t)) s) : PR (v_least_reading [tiesD .sh bs, d] s) Q X := by
  refine PR_run ?_
  have gt0 : ∀ s, gvV (some (some (tiesD .sh bs))) s = .ok (tiesD .sh bs) s := fun s => rfl
  have at0 : argV (tiesD .sh bs) = some (tiesD .sh bs) := rfl
  simp [vb_least_reading, gvV_A T.1, gt0, at0, argV_A T.1]
  refine read_ok I hm T e h ?_
  have u : ∀ xs : List D, aIx (.tup xs) (.int 0) = xs[0]? := fun xs => ix_it (d := .tup xs) (xs := xs) rfl ▸ atI_0
  have u1 : aIx (.tup ((uq (bk bs) t).map tupD)) (.int 0) = some (tupD (lst (bk bs) t)) := by rw [u, uq_head]
  have r : retV (tupD (lst (bk bs) t)) = tupD (lst (bk bs) t) := rfl
  simp only [PR_ok, PR_bind, vC, u1, ofV, PS_to, PS_rt, r, VR.to, VR.bind]
  simp [u1]
  exact q
theorem least_no (T : okT d) (TI : ∀ xs, itV d = some xs → ∀ x ∈ xs, okT x) (h : is3 bs.length d = false) (q : X 9 [(6, d)] s) : PR (v_least_reading [tiesD .sh bs, d] s) Q X := by
  refine PR_run ?_
  have gt0 : ∀ s, gvV (some (some (tiesD .sh bs))) s = .ok (tiesD .sh bs) s := fun s => rfl
  have at0 : argV (tiesD .sh bs) = some (tiesD .sh bs) := rfl
  simp [vb_least_reading, gvV_A T.1, gt0, at0, argV_A T.1]
  refine read_no T TI h ?_
  simpa using q
/-! ### all threes -/
def row3 (m p u : Nat) : List T3 := (List.range m).map fun r => (p, u, r)
def pl3 (m p : Nat) (k : Nat) : List T3 := (List.range k).flatMap (row3 m p)
def all3 (m : Nat) (k : Nat) : List T3 := (List.range k).flatMap fun p => pl3 m p m
theorem pl3_succ {m p k : Nat} : pl3 m p (k + 1) = pl3 m p k ++ row3 m p k := by simp [pl3, List.range_succ]
theorem all3_succ {m k : Nat} : all3 m (k + 1) = all3 m k ++ pl3 m k m := by simp [all3, List.range_succ]
theorem all3_len {m k : Nat} : (all3 m k).length = k * (m * m) := by
  induction k with
  | zero => simp [all3]
  | succ k ih =>
    have : ∀ j, (pl3 m k j).length = j * m := fun j => by
      induction j with
      | zero => simp [pl3]
      | succ j ih => rw [pl3_succ, List.length_append, ih]; simp [row3, Nat.succ_mul]
    rw [all3_succ, List.length_append, ih, this, Nat.succ_mul]
theorem mem_all3 {m : Nat} {t : T3} : t ∈ all3 m m ↔ lt3 m t := by
  obtain ⟨p, u, r⟩ := t
  simp only [all3, pl3, row3, List.mem_flatMap, List.mem_range, List.mem_map, lt3]
  constructor
  · rintro ⟨p', h1, u', h2, r', h3, e⟩
    cases e
    exact ⟨h1, h2, h3⟩
  · rintro ⟨h1, h2, h3⟩
    exact ⟨p, h1, u, h2, r, h3, rfl⟩
end
end K09

namespace K09
open PySem PySem.Spec PyProof.Rows L2 J JP
theorem all3_le {m k : Nat} (hm : m ≤ 4) (hk : k ≤ m) : (all3 m k).length ≤ 64 := by
  rw [all3_len]
  have : m * m ≤ 4 * 4 := Nat.mul_le_mul hm hm
  exact Nat.le_trans (Nat.mul_le_mul (Nat.le_trans hk hm) this) (by decide)
theorem pl3_len {m p : Nat} : ∀ j, (pl3 m p j).length = j * m
  | 0 => by simp [pl3]
  | j + 1 => by rw [pl3_succ, List.length_append, pl3_len j]; simp [row3, Nat.succ_mul]
theorem pl3_le {m p j : Nat} (hm : m ≤ 4) (hj : j ≤ m) : (pl3 m p j).length ≤ 16 := by
  rw [pl3_len]
  exact Nat.le_trans (Nat.mul_le_mul (Nat.le_trans hj hm) hm) (by decide)
section
variable {X : VXP} {bs : List Nat} {d : D} {t : T3} {s : Hs} {Q : D → Hs → Prop}
theorem all_ok (hm : bs.length ≤ 4) (q : Q (.tup ((all3 bs.length bs.length).map tD)) s) : PR (v_all_threes [tiesD .sh bs] s) Q X := by
  refine PR_run ?_
  have gt0 : ∀ s, gvV (some (some (tiesD .sh bs))) s = .ok (tiesD .sh bs) s := fun s => rfl
  have rg : rngV1 [.int (bs.length : Int)] = some (numD 0 bs.length) := by rw [rngV1_int (by omega) (by omega)]; simp
  have fl : aFld [57] 18 (tiesD .sh bs) = some (.int (bs.length : Nat)) := rfl
  simp [vb_all_threes, vb_all_threes_1, gt0, fl, rg]
  refine PS_forN bs.length (fun k va s' => s' = s ∧ ∃ y z w, va = [some (tiesD .sh bs), some (.lst .ow ((all3 bs.length k).map tD)), y, z, w]) ?_ ?_ ⟨rfl, none, none, none, rfl⟩
  · rintro va s' ⟨rfl, y, z, w, rfl⟩
    simp [vb_all_threes_5]
    exact q
  · rintro k va s' hk ⟨rfl, y, z, w, rfl⟩
    refine ⟨_, _, rfl, ?_⟩
    simp [vb_all_threes_2, gt0, fl, rg]
    refine PS_forN bs.length (fun j va s2 => s2 = s' ∧ ∃ z w, va = [some (tiesD .sh bs), some (.lst .ow ((all3 bs.length k ++ pl3 bs.length k j).map tD)), some (.int k), z, w]) ?_ ?_ ⟨rfl, z, w, by simp [pl3]⟩
    · rintro va s2 ⟨rfl, z, w, rfl⟩
      refine ⟨rfl, _, _, _, by rw [all3_succ]⟩
    · rintro j va s2 hj ⟨rfl, z, w, rfl⟩
      refine ⟨_, _, rfl, ?_⟩
      simp [vb_all_threes_3, gt0, fl, rg]
      refine PS_forN bs.length (fun r va s3 => s3 = s2 ∧ ∃ w, va = [some (tiesD .sh bs), some (.lst .ow ((all3 bs.length k ++ pl3 bs.length k j ++ (List.range r).map fun r => (k, j, r)).map tD)), some (.int k), some (.int j), w]) ?_ ?_ ⟨rfl, w, by simp⟩
      · rintro va s3 ⟨rfl, w, rfl⟩
        refine ⟨rfl, _, _, by rw [pl3_succ, ← List.append_assoc]; rfl⟩
      · rintro r va s3 hr ⟨rfl, w, rfl⟩
        refine ⟨_, _, rfl, ?_⟩
        have l1 := all3_le (m := bs.length) (k := k) hm (by omega)
        have l2 := pl3_le (m := bs.length) (p := k) (j := j) hm (by omega)
        have l3 : (all3 bs.length k).length + ((pl3 bs.length k j).length + r) < 10000 := by omega
        simp [vb_all_threes_4, l3]
        simp [List.range_succ, tD, tupD, ky]
end
end K09

namespace K09
open PySem PySem.Spec PyProof.Rows L2 J JP
theorem eqI {n : Nat} (i j : Int) : eqV (n + 1) (.int i) (.int j) = some (decide (i = j)) := by
  show scDV (.int i) (.int j) = some _
  show scV (.int i) (.int j) = some _
  simp only [scV]
  by_cases h : i = j <;> simp [h]
theorem zipI {n : Nat} : ∀ (a c : List Int), ∃ bs, zipV (eqV (n + 1)) (a.map D.int) (c.map D.int) = some bs ∧ (bs.all id && (a.length == c.length)) = decide (a = c)
  | [], [] => ⟨[], rfl, rfl⟩
  | [], y :: c => ⟨[], rfl, by simp⟩
  | x :: a, [] => ⟨[], rfl, by simp⟩
  | x :: a, y :: c => by
    obtain ⟨bs, e1, e2⟩ := zipI (n := n) a c
    refine ⟨decide (x = y) :: bs, ?_, ?_⟩
    · rw [List.map_cons, List.map_cons, zipV_cons, eqI, e1]
      rfl
    · have h : (List.length (x :: a) == List.length (y :: c)) = (a.length == c.length) := by simp
      rw [h, List.all_cons, Bool.and_assoc, e2]
      by_cases hx : x = y <;> by_cases ha : a = c <;> simp [hx, ha]
theorem eqT {n : Nat} (a c : List Int) : eqV (n + 2) (tupD a) (tupD c) = some (decide (a = c)) := by
  obtain ⟨bs, e1, e2⟩ := zipI (n := n) a c
  unfold tupD
  rw [eqV_tt, e1]
  simp only [Option.map_some, List.length_map]
  rw [e2]
theorem aEq_T (a c : List Int) : aEq (tupD a) (tupD c) = some (.bl (decide (a = c))) := by
  unfold aEq
  rw [eqT]
  rfl
theorem anyT {n : Nat} (a : List Int) : ∀ cs : List (List Int), anyV (eqV (n + 2)) (tupD a) (cs.map tupD) = some (decide (a ∈ cs))
  | [] => by simp [anyV]
  | c :: cs => by
    simp only [List.map_cons, anyV, eqT, anyT a cs]
    by_cases h : c = a
    · subst h; simp
    · have h' : ¬ a = c := fun z => h z.symm
      simp [h, h']
theorem aNin_T {k : Kd} (a : List Int) (cs : List (List Int)) : aNin (tupD a) (.lst k (cs.map tupD)) = some (.bl (!decide (a ∈ cs))) := by
  unfold aNin J.inV
  show ((anyV (eqV 9) (tupD a) (cs.map tupD))).map _ = _
  rw [anyT]
  rfl
section
variable {X : VXP} {bs : List Nat} {d : D} {t : T3} {s : Hs} {Q : D → Hs → Prop}
theorem tD_it : itV (tD t) = some (itsT t) := rfl
theorem tD_T : okT (tD t) := ⟨rfl, rfl⟩
theorem least_eq (I : Invol bs) (hm : bs.length ≤ 4) (h : lt3 bs.length t) : v_least_reading [tiesD .sh bs, tD t] s = .ok (tupD (lst (bk bs) t)) s := by
  obtain ⟨a, s', e, rfl, rfl⟩ := (least_ok (X := noxV) (Q := fun d s' => d = tupD (lst (bk bs) t) ∧ s' = s) I hm tD_T tD_it h ⟨rfl, rfl⟩).get
  exact e
theorem classes_ok (I : Invol bs) (hm : bs.length ≤ 4) (q : Q (.tup (((all3 bs.length bs.length).filter fun t => decide (lst (bk bs) t = ky t)).map tD)) s) : PR (v_reading_classes [tiesD .sh bs] s) Q X := by
  refine PR_run ?_
  have gt0 : ∀ s, gvV (some (some (tiesD .sh bs))) s = .ok (tiesD .sh bs) s := fun s => rfl
  have at0 : argV (tiesD .sh bs) = some (tiesD .sh bs) := rfl
  simp [vb_reading_classes, gt0, at0]
  refine all_ok hm ?_
  have key : ∀ va : VEn, va = [some (tiesD .sh bs), none] → lcV (gvNm 1) (uTb (vOp aEq (vCall v_least_reading 2 [] (arCons (vVar 0) (arCons (vVar 1) arNil))) (vVar 1))) (vVar 1) va ((all3 bs.length bs.length).map tD) [] s = .ok (((all3 bs.length bs.length).filter fun t => decide (lst (bk bs) t = ky t)).map tD) s := by
    rintro va rfl
    rw [lcV_fm (fun d => match d with
      | .tup [.int p, .int u, .int r] => if lst (bk bs) (p.toNat, u.toNat, r.toNat) = ky (p.toNat, u.toNat, r.toNat) then some d else none
      | _ => none) (by rw [List.length_map]; have := all3_le hm (Nat.le_refl bs.length); omega) fun d hd => ?_]
    · congr 1
      induction all3 bs.length bs.length with
      | nil => rfl
      | cons t r ih =>
        obtain ⟨p, u, w⟩ := t
        by_cases c : lst (bk bs) (p, u, w) = ky (p, u, w)
        · simp [tD_eq, c, ih]
        · simp [tD_eq, c, ih]
    · obtain ⟨t, ht, rfl⟩ := List.mem_map.mp hd
      have lt := mem_all3.mp ht
      refine ⟨[some (tiesD .sh bs), some (tD t)], rfl, ?_⟩
      have e1 := least_eq (s := s) I hm lt
      have ge : ∀ s, gvV (some (some (tD t))) s = .ok (tD t) s := fun s => gvV_A tD_T.1
      have ae : argV (tD t) = some (tD t) := rfl
      have q1 : aEq (tupD (lst (bk bs) t)) (tD t) = some (.bl (decide (lst (bk bs) t = ky t))) := aEq_T _ _
      by_cases c : lst (bk bs) t = ky t
      · have q2 : aEq (tupD (ky t)) (tD t) = some (.bl true) := by rw [c] at q1; simpa using q1
        refine .inl ⟨?_, tD t, tD t, by simp [ge], rfl, ?_⟩
        · simp [gt0, at0, ge, ae, e1, q2, c]
        · obtain ⟨p, u, w⟩ := t
          simp [tD_eq, c]
      · refine .inr ⟨?_, ?_⟩
        · simp [gt0, at0, ge, ae, e1, q1, c]
        · obtain ⟨p, u, w⟩ := t
          simp [tD_eq, c]
  simp [key]
  exact q
end
end K09

namespace K09
open PySem PySem.Spec PyProof.Rows L2 J JP
def tblD (b : Nat → Nat) (t : T3) : D := .lst .sh [.lst .sh [.int (-1), .int (t.1 : Nat), .int (t.2.2 : Nat)], .lst .sh [.int (b t.1 : Nat), .int (-1), .int (t.2.1 : Nat)], .lst .sh [.int (b t.2.2 : Nat), .int (b t.2.1 : Nat), .int (-1)]]
def ordD : List D := [.tup [.int 0, .int 1, .int 2], .tup [.int 0, .int 2, .int 1], .tup [.int 1, .int 0, .int 2], .tup [.int 1, .int 2, .int 0], .tup [.int 2, .int 0, .int 1], .tup [.int 2, .int 1, .int 0]]
theorem addN_len {α : Type} [DecidableEq α] : ∀ (l a : List α), (l.foldl addN a).length ≤ a.length + l.length
  | [], a => by simp
  | x :: l, a => by
    rw [List.foldl_cons]
    refine Nat.le_trans (addN_len l _) ?_
    unfold addN
    split <;> simp <;> omega
section
variable {X : VXP} {bs : List Nat} {d : D} {t : T3} {s : Hs} {Q : D → Hs → Prop}
theorem shown_ok (I : Invol bs) (hm : bs.length ≤ 4) (h : lt3 bs.length t) (q : Q (.lst .ow ((uq (bk bs) t).map tupD)) s) : PR (v__law_shown [.lst .sh (nD bs), .int (t.1 : Nat), .int (t.2.1 : Nat), .int (t.2.2 : Nat)] s) Q X := by
  have B : Bk bs.length (bk bs) := ⟨fun i hi => bk_lt I hi, fun i hi => bk_inv I hi⟩
  have sh := shown_uq B (by omega) h
  refine PR_run ?_
  obtain ⟨p, u, r⟩ := t
  obtain ⟨h1, h2, h3⟩ := h
  simp at h1 h2 h3
  have e1 := bk_at h1
  have e2 := bk_at h2
  have e3 := bk_at h3
  simp [vb__law_shown, vb__law_shown_1, vb__law_shown_2, e1, e2, e3]
  refine PS_forV ordD (fun k va s' => s' = s ∧ ∃ x6 x7 x8 x9, va = [some (.lst .sh (nD bs)), some (.int (p : Nat)), some (.int (u : Nat)), some (.int (r : Nat)), some (tblD (bk bs) (p, u, r)), some (.lst .ow ((dd (((six (bk bs) (p, u, r)).map ky).take k)).map tupD)), x6, x7, x8, x9]) ?_ ?_ ⟨rfl, _, _, _, _, rfl⟩
  · rintro va s' ⟨rfl, x6, x7, x8, x9, rfl⟩
    have e : ((six (bk bs) (p, u, r)).map ky).take ordD.length = (six (bk bs) (p, u, r)).map ky := rfl
    rw [e]
    have ok : okKs (dd ((six (bk bs) (p, u, r)).map ky)) = true := okKs_of3 (fun z => by
      have : ky (p, u, r) ∈ dd ((six (bk bs) (p, u, r)).map ky) := dd_mem.mpr (List.mem_map_of_mem (by simp [six]))
      rw [z] at this
      simp at this) fun k hk => by
      obtain ⟨y, hy, rfl⟩ := List.mem_map.mp (dd_mem.mp hk)
      exact ky_ok (six_lt B ⟨h1, h2, h3⟩ hy) (by omega)
    have len : (dd ((six (bk bs) (p, u, r)).map ky)).length < 64 := by
      have := addN_len ((six (bk bs) (p, u, r)).map ky) []
      unfold dd
      simp [six] at this ⊢
      omega
    have b := fun k => bSorted_keys (k := k) len ok
    have b1 := b .ow
    have b2 := b .tm
    rw [sh] at b1 b2
    simp [vb__law_shown_5, b1, b2]
    exact q
  · rintro k d va s' hk ⟨rfl, x6, x7, x8, x9, rfl⟩
    have nn : ∀ (K : Kd) (a b c : Int) (cs : List (List Int)), aNin (.tup [.int a, .int b, .int c]) (.lst K (cs.map tupD)) = some (.bl (!decide ([a, b, c] ∈ cs))) := fun K a b c cs => aNin_T [a, b, c] cs
    have l6 : (dd (((six (bk bs) (p, u, r)).map ky).take k)).length < 10000 := by
      have := addN_len (((six (bk bs) (p, u, r)).map ky).take k) []
      unfold dd
      simp [six] at this ⊢
      omega
    have nx : ∀ three, ((six (bk bs) (p, u, r)).map ky)[k]? = some three → dd (((six (bk bs) (p, u, r)).map ky).take (k + 1)) = addN (dd (((six (bk bs) (p, u, r)).map ky).take k)) three := fun three e => dd_take e
    rcases k with _ | _ | _ | _ | _ | _ | k
    all_goals try (simp [ordD] at hk; done)
    all_goals
      simp [ordD] at hk
      subst hk
      refine ⟨_, _, rfl, ?_⟩
      have n1 := nx _ rfl
      revert l6 n1
      generalize dd (((six (bk bs) (p, u, r)).map ky).take _) = cs
      generalize dd (((six (bk bs) (p, u, r)).map ky).take _) = cs'
      intro l6 n1
      simp [vb__law_shown_3, vb__law_shown_4, tblD, nn]
      split
      · rename_i c
        have n2 : cs' = cs := n1.trans (if_pos c)
        subst n2
        simp
      · rename_i c
        have n2 := n1.trans (if_neg c)
        subst n2
        simp [l6, tupD, ky]
end
end K09

namespace K09
open PySem PySem.Spec PyProof.Rows L2 J JP
variable {m : Nat} {b : Nat → Nat} {t : T3}
theorem all3_asc (hm : m ≤ 4) : (all3 m m).Pairwise (fun x y => TS.code cB (ky x) < TS.code cB (ky y)) := by
  have : m = 0 ∨ m = 1 ∨ m = 2 ∨ m = 3 ∨ m = 4 := by omega
  rcases this with rfl | rfl | rfl | rfl | rfl <;> decide +kernel
theorem lst_mem : lst b t ∈ uq b t := by
  unfold lst
  cases e : uq b t with
  | nil => exact absurd e uq_ne
  | cons k r => simp
theorem lst_of (B : Bk m b) (hm : m ≤ 1000) (h : lt3 m t) : ∃ y, lt3 m y ∧ ky y = lst b t ∧ lst b y = lst b t ∧ y ∈ six b t := by
  obtain ⟨y, hy, e⟩ := uq_mem.mp (lst_mem (b := b) (t := t))
  refine ⟨y, six_lt B h hy, e, ?_, hy⟩
  unfold lst
  rw [uq_same B hm h hy]
def cls (b : Nat → Nat) (l : List T3) : List (List Int) := dd (l.map (lst b))
theorem cls_ok (B : Bk m b) (hm : m ≤ 4) : sortK (TS.code cB) (cls b (all3 m m)) = ((all3 m m).filter fun t => decide (lst b t = ky t)).map ky := by
  have asc := all3_asc hm
  refine srt_one (dd_nodup _) ?_ (fun k => ?_) (fun k hk => ?_) ?_
  · have p1 := List.Pairwise.filter (fun t => decide (lst b t = ky t)) asc
    exact List.pairwise_map.mpr (p1.imp fun {x y} h e => by rw [e] at h; omega)
  · unfold cls
    rw [dd_mem]
    simp only [List.mem_map, List.mem_filter, decide_eq_true_eq]
    constructor
    · rintro ⟨t, ht, rfl⟩
      obtain ⟨y, h1, h2, h3, _⟩ := lst_of B (by omega) (mem_all3.mp ht)
      exact ⟨y, ⟨mem_all3.mpr h1, h3.trans h2.symm⟩, h2⟩
    · rintro ⟨y, ⟨h1, h2⟩, rfl⟩
      exact ⟨y, h1, h2⟩
  · unfold cls at hk
    rw [dd_mem] at hk
    obtain ⟨t, ht, rfl⟩ := List.mem_map.mp hk
    exact uq_ok B (by omega) (mem_all3.mp ht) _ lst_mem
  · have p1 := List.Pairwise.filter (fun t => decide (lst b t = ky t)) asc
    exact List.pairwise_map.mpr (p1.imp fun {x y} h => by omega)
theorem uq_min {k : List Int} (hk : k ∈ uq b t) : TS.code cB (lst b t) ≤ TS.code cB k := by
  have p : (uq b t).Pairwise (fun a c => TS.code cB a ≤ TS.code cB c) := uniq_sorted _
  unfold lst
  cases e : uq b t with
  | nil => exact absurd e uq_ne
  | cons x r =>
    rw [e] at p hk
    rcases List.mem_cons.mp hk with rfl | hk
    · exact Int.le_refl _
    · exact (List.pairwise_cons.mp p).1 k hk
theorem cls_len (B : Bk m b) (hm : m ≤ 4) : (cls b (all3 m m)).length < 64 := by
  have e := congrArg List.length (cls_ok B hm)
  rw [(sortK_perm _ _).length_eq, List.length_map] at e
  rw [e]
  have l := all3_len (m := m) (k := m)
  by_cases h4 : m = 4
  · subst h4
    have lt : ((all3 4 4).filter fun t => decide (lst b t = ky t)).length < (all3 4 4).length := by
      refine List.length_filter_lt_length_iff_exists.mpr ⟨(3, 0, 0), mem_all3.mpr ⟨by decide, by decide, by decide⟩, ?_⟩
      rw [decide_eq_true_eq]
      intro z
      have h : ky (0, b 0, 3) ∈ uq b (3, 0, 0) := uq_mem.mpr ⟨_, by simp [six], rfl⟩
      have g := uq_min h
      rw [z] at g
      have hb := B.lt 0 (by decide)
      have c : TS.code cB (ky (0, b 0, 3)) < TS.code cB (ky (3, 0, 0)) := TS.code_lt (by rfl) (ky_ok (m := 4) (t := (0, b 0, 3)) ⟨(by decide : 0 < 4), hb, (by decide : 3 < 4)⟩ (by decide)).2.tail (ky_ok (m := 4) (t := (3, 0, 0)) ⟨by decide, by decide, by decide⟩ (by decide)).2.tail (show (0 : Int) < 3 by decide)
      omega
    omega
  · have : m * (m * m) ≤ 3 * (3 * 3) := Nat.mul_le_mul (by omega) (Nat.mul_le_mul (by omega) (by omega))
    have := List.length_filter_le (fun t => decide (lst b t = ky t)) (all3 m m)
    omega
end K09

namespace K09
open PySem PySem.Spec PyProof.Rows L2 J JP
section
variable {X : VXP} {bs : List Nat} {d : D} {t : T3} {s : Hs} {Q : D → Hs → Prop}
theorem refused_ok (T : okT d) (TI : ∀ xs, itV d = some xs → ∀ x ∈ xs, okT x) (h : is3 bs.length d = false) (eq : aEq d d = some (.bl true)) (q : Q (.bl true) s) : PR (v__law_refused [tiesD .sh bs, d] s) Q X := by
  refine PR_run ?_
  have gt0 : ∀ s, gvV (some (some (tiesD .sh bs))) s = .ok (tiesD .sh bs) s := fun s => rfl
  have at0 : argV (tiesD .sh bs) = some (tiesD .sh bs) := rfl
  simp [vb__law_refused, vb__law_refused_1]
  refine PS_try ?_
  simp [gvV_A T.1, gt0, at0, argV_A T.1]
  refine read_no T TI h ?_
  refine .inl ⟨rfl, by simp, ?_⟩
  have lk : List.lookup 9 ([(9, true)] : List (Nat × Bool)) = some true := rfl
  have lf : List.lookup 6 ([(6, d)] : List (Nat × D)) = some d := rfl
  have ox : okX d = true := by
    rcases okA_cases T.1 with rfl | ⟨_, rfl⟩ | ⟨_, rfl⟩ | ⟨_, rfl⟩ | ⟨_, rfl⟩ | ⟨_, rfl⟩ | ⟨_, rfl⟩ | ⟨_, rfl⟩ | ⟨_, rfl⟩ <;> rfl
  have cl : ∀ i : Int, clrV [some (tiesD .sh bs), some d, some (.int i), some (.xcp 9 [(6, d)])] = [some (tiesD .sh bs), some d, some (.int i), none] := fun i => by
    have ot : okX (tiesD .sh bs) = true := rfl
    simp only [clrV, List.map_cons, List.map_nil, ox, ot]
    rfl
  simp [lk, lf, gvV_A T.1, eq, vb__law_refused_2, cl]
  refine PS_try ?_
  simp [gvV_A T.1, gt0, at0, argV_A T.1]
  refine least_no T TI h ?_
  refine .inl ⟨rfl, by simp, ?_⟩
  simp [lk, lf, gvV_A T.1, eq, vb__law_refused_3, gt0, at0, argV_A T.1, cl]
  refine is3_ok T.1 TI ?_
  rw [h]
  simp
  refine plain_ok (d := .bl false) (by trivial) ?_
  simp
  exact q
end
end K09

namespace K09
open PySem PySem.Spec PyProof.Rows L2 J JP
structure Odd (m : Int) (d : D) : Prop where
  T : okT d
  TI : ∀ xs, itV d = some xs → ∀ x ∈ xs, okT x
  no : is3 m d = false
  eq : aEq d d = some (.bl true)
section
variable {X : VXP} {bs : List Nat} {d : D} {t : T3} {s : Hs} {Q : D → Hs → Prop}
theorem pick_ok {xs : List D} (l0 : 0 < xs.length) (hl : xs.length ≤ 1000) (hx : ∀ x ∈ xs, okT x) (q : ∀ x ∈ xs, ∀ s', Q x s') : PR (v__law_pick [.hnd, .lst .sh xs] s) Q X := by
  refine PR_run ?_
  simp [vb__law_pick]
  refine draw_nat (n := xs.length) rfl (by omega) (by omega) fun v s1 hv => ?_
  have e : xs[v]? = some xs[v] := List.getElem?_eq_getElem hv
  have r : retV xs[v] = xs[v] := by
    have := hx _ (List.getElem_mem hv)
    rcases okA_cases this.1 with h | ⟨_, h⟩ | ⟨_, h⟩ | ⟨_, h⟩ | ⟨_, h⟩ | ⟨_, h⟩ | ⟨_, h⟩ | ⟨_, h⟩ | ⟨_, h⟩ <;> rw [h] <;> first | rfl | (rw [h] at this; cases this.2)
  simp [e, r]
  exact q _ (List.getElem_mem hv) s1
theorem shape_ok {xs : List D} (hl : xs.length ≤ 100) (q : ∀ d s', (d = .lst .ow xs ∨ d = .tup xs) → Q d s') : PR (v__law_shape [.hnd, .tup xs] s) Q X := by
  refine PR_run ?_
  simp [vb__law_shape, vb__law_shape_1]
  refine draw_nat (n := 2) rfl (by decide) (by decide) fun v s1 hv => ?_
  by_cases c : v = 0
  · subst c
    simp
    exact q _ _ (.inl rfl)
  · have c' : ¬ (v : Int) = 0 := by omega
    simp [c, c']
    exact q _ _ (.inr rfl)
end
end K09

namespace K09
open PySem PySem.Spec PyProof.Rows L2 J JP
/-- an entry that is no tie -/
structure OddE (m : Int) (x : D) : Prop where
  T : okT x
  no : isWhD x 0 (m - 1) = false
  eq : ∀ n, eqV (n + 2) x x = some true
theorem eI (n : Nat) (i : Int) : eqV (n + 1) (.int i) (.int i) = some true := by rw [eqI]; simp
theorem oddE_of {m : Nat} (h2 : 2 ≤ m) (a c : Nat) : ∀ x ∈ [D.int m, .int (m + a), .int (-1), .int (-1 - c), .non, .str ("0" : Str), .tup [.int 0]], OddE m x := by
  intro x hx
  simp only [List.mem_cons, List.mem_nil_iff, or_false] at hx
  rcases hx with rfl | rfl | rfl | rfl | rfl | rfl | rfl
  · exact ⟨⟨rfl, rfl⟩, by simp [isWhD]; omega, fun n => eI _ _⟩
  · exact ⟨⟨rfl, rfl⟩, by simp [isWhD]; omega, fun n => eI _ _⟩
  · exact ⟨⟨rfl, rfl⟩, by simp [isWhD], fun n => eI _ _⟩
  · exact ⟨⟨rfl, rfl⟩, by simp [isWhD]; omega, fun n => eI _ _⟩
  · exact ⟨⟨rfl, rfl⟩, rfl, fun n => rfl⟩
  · exact ⟨⟨rfl, rfl⟩, rfl, fun n => by cases n <;> rfl⟩
  · exact ⟨⟨rfl, rfl⟩, rfl, fun n => by rw [eqV_ts]; intro d hd; simp at hd; subst hd; exact eI _ _⟩
theorem odd_seq {m : Int} {xs : List D} (hT : ∀ x ∈ xs, okT x) (he : ∀ x ∈ xs, ∀ n, eqV (n + 2) x x = some true) (no : xs.length ≠ 3 ∨ ∃ x ∈ xs, isWhD x 0 (m - 1) = false) : Odd m (.lst .sh xs) ∧ Odd m (.tup xs) := by
  have z : ∀ d, itV d = some xs → is3 m d = false := fun d e => by
    unfold is3
    rw [e]
    dsimp only
    rcases no with h | ⟨x, hx, h⟩
    · simp [h]
    · rw [all_no hx h]; simp
  have e1 : aEq (.lst .sh xs) (.lst .sh xs) = some (.bl true) := by
    unfold aEq
    rw [eqV_ls fun d hd => he d hd 7]
    rfl
  have e2 : aEq (.tup xs) (.tup xs) = some (.bl true) := by
    unfold aEq
    rw [eqV_ts fun d hd => he d hd 7]
    rfl
  exact ⟨⟨⟨rfl, rfl⟩, fun ys e => by cases e; exact hT, z _ rfl, e1⟩, ⟨rfl, rfl⟩, fun ys e => by cases e; exact hT, z _ rfl, e2⟩
end K09

namespace K09
open PySem PySem.Spec PyProof.Rows L2 J JP
section
variable {X : VXP} {s : Hs} {Q : D → Hs → Prop}
theorem bad_ok {m : Nat} (h2 : 2 ≤ m) (h4 : m ≤ 4) (q : ∀ d s', Odd m (shO d) → Q d s') : PR (v__law_bad [.hnd, .int m] s) Q X := by
  refine PR_run ?_
  simp [vb__law_bad, vb__law_bad_1, vb__law_bad_2]
  refine draw_nat (n := m) rfl (by omega) (by omega) fun p s1 hp => ?_
  simp
  refine draw_nat (n := m) rfl (by omega) (by omega) fun u s2 hu => ?_
  simp
  refine draw_nat (n := 1000000) rfl (by decide) (by decide) fun a s3 ha => ?_
  simp
  refine draw_nat (n := 1000000) rfl (by decide) (by decide) fun c s4 hc => ?_
  simp
  have po := oddE_of h2 a c
  refine pick_ok (by simp) (by simp) (fun x hx => (po x hx).T) fun x hx s5 => ?_
  have ox := po x hx
  simp [kSet_of ox.T.2, gvV_A ox.T.1, stoV_T ox.T, vb__law_bad_3]
  refine draw_nat (n := 9) rfl (by decide) (by decide) fun k s6 hk => ?_
  have hk' : k = 0 ∨ k = 1 ∨ k = 2 ∨ k = 3 ∨ k = 4 ∨ k = 5 ∨ k = 6 ∨ k = 7 ∨ k = 8 := by omega
  rcases hk' with rfl | rfl | rfl | rfl | rfl | rfl | rfl | rfl | rfl
  all_goals simp [vb__law_bad_4, vb__law_bad_5, vb__law_bad_6, vb__law_bad_7, vb__law_bad_8, vb__law_bad_9, vb__law_bad_10, vb__law_bad_11, vb__law_bad_12, gvV_A ox.T.1, stoV_T ox.T]
  · refine q _ _ (odd_seq (m := m) (xs := [D.int p, .int u]) ?_ ?_ (.inl (by simp))).1
    · intro y hy; simp at hy; rcases hy with rfl | rfl <;> exact ⟨rfl, rfl⟩
    · intro y hy n; simp at hy; rcases hy with rfl | rfl <;> exact eI _ _
  · refine q _ _ (odd_seq (m := m) (xs := [D.int p, .int u, .int p, .int u]) ?_ ?_ (.inl (by simp))).2
    · intro y hy; simp at hy; rcases hy with rfl | rfl | rfl | rfl <;> exact ⟨rfl, rfl⟩
    · intro y hy n; simp at hy; rcases hy with rfl | rfl | rfl | rfl <;> exact eI _ _
  · refine q _ _ (odd_seq (m := m) (xs := [x, .int p, .int u]) ?_ ?_ (.inr ⟨x, by simp, ox.no⟩)).2
    · intro y hy; simp at hy; rcases hy with rfl | rfl | rfl <;> first | exact ox.T | exact ⟨rfl, rfl⟩
    · intro y hy n; simp at hy; rcases hy with rfl | rfl | rfl <;> first | exact ox.eq n | exact eI _ _
  · refine q _ _ (odd_seq (m := m) (xs := [.int p, x, .int u]) ?_ ?_ (.inr ⟨x, by simp, ox.no⟩)).1
    · intro y hy; simp at hy; rcases hy with rfl | rfl | rfl <;> first | exact ox.T | exact ⟨rfl, rfl⟩
    · intro y hy n; simp at hy; rcases hy with rfl | rfl | rfl <;> first | exact ox.eq n | exact eI _ _
  · refine q _ _ (odd_seq (m := m) (xs := [.int p, .int u, x]) ?_ ?_ (.inr ⟨x, by simp, ox.no⟩)).2
    · intro y hy; simp at hy; rcases hy with rfl | rfl | rfl <;> first | exact ox.T | exact ⟨rfl, rfl⟩
    · intro y hy n; simp at hy; rcases hy with rfl | rfl | rfl <;> first | exact ox.eq n | exact eI _ _
  · refine q _ _ (odd_seq (m := m) (xs := [.int p, .int u, .bl true]) ?_ ?_ (.inr ⟨.bl true, by simp, rfl⟩)).1
    · intro y hy; simp at hy; rcases hy with rfl | rfl | rfl <;> exact ⟨rfl, rfl⟩
    · intro y hy n; simp at hy; rcases hy with rfl | rfl | rfl <;> first | exact eI _ _ | rfl
  · refine q _ _ (odd_seq (m := m) (xs := [.bl false, .int p, .int u]) ?_ ?_ (.inr ⟨.bl false, by simp, rfl⟩)).2
    · intro y hy; simp at hy; rcases hy with rfl | rfl | rfl <;> exact ⟨rfl, rfl⟩
    · intro y hy n; simp at hy; rcases hy with rfl | rfl | rfl <;> first | exact eI _ _ | rfl
  · refine pick_ok (by simp) (by simp) (fun y hy => ?_) fun y hy s7 => ?_
    · simp at hy; rcases hy with rfl | rfl | rfl | rfl | rfl <;> exact ⟨rfl, rfl⟩
    · have o : Odd m y := by
        simp at hy
        rcases hy with rfl | rfl | rfl | rfl | rfl <;> exact ⟨⟨rfl, rfl⟩, fun xs e => (nomatch e), rfl, rfl⟩
      have r : retV y = y := by simp at hy; rcases hy with rfl | rfl | rfl | rfl | rfl <;> rfl
      have sh : shO y = y := by simp at hy; rcases hy with rfl | rfl | rfl | rfl | rfl <;> rfl
      simp [r]
      exact q _ _ (by rw [sh]; exact o)
  · refine q _ _ (odd_seq (m := m) (xs := []) ?_ ?_ (.inl (by simp))).2
    · intro y hy; simp at hy
    · intro y hy n; simp at hy
end
end K09

namespace K09
open PySem PySem.Spec PyProof.Rows L2 J JP
def PT : Pz := ⟨fun _ _ => False, fun d _ _ => d = .bl true, fun _ _ => False, fun _ _ => False, fun _ _ _ _ => False⟩
@[simp] theorem PT_r {d : D} {va : VEn} {s : Hs} : PT.r d va s = (d = .bl true) := rfl
section
variable {bs : List Nat} {s : Hs}
theorem gt0 {bs : List Nat} : ∀ s, gvV (some (some (tiesD .sh bs))) s = .ok (tiesD .sh bs) s := fun s => rfl
theorem at0 {bs : List Nat} : argV (tiesD .sh bs) = some (tiesD .sh bs) := rfl
theorem plD_nats {l : List (List Int)} : plD 7 (.tup (l.map tupD)) := by
  intro x hx
  obtain ⟨k, _, rfl⟩ := List.mem_map.mp hx
  intro y hy
  obtain ⟨i, _, rfl⟩ := List.mem_map.mp hy
  trivial
theorem plD_tup {k : List Int} : plD 7 (tupD k) := by
  intro y hy
  obtain ⟨i, _, rfl⟩ := List.mem_map.mp hy
  trivial
/-- what is no three is refused; the classes once more -/
theorem end_ok (I : Invol bs) (h2 : 2 ≤ bs.length) (h4 : bs.length ≤ 4) {x5 x6 x7 x8 x10 x11 x12 x13 x14 : Option D} :
    PS (vb_law_17 [none, some .hnd, some (.int (bs.length : Nat)), some (.lst .sh (nD bs)), some (tiesD .sh bs), x5, x6, x7, x8, some (.lst .ow ((cls (bk bs) (all3 bs.length bs.length)).map tupD)), x10, x11, x12, x13, x14] s) PT := by
  have B : Bk bs.length (bk bs) := ⟨fun i hi => bk_lt I hi, fun i hi => bk_inv I hi⟩
  have ok : okKs (cls (bk bs) (all3 bs.length bs.length)) = true := okKs_of3 (fun z => by
    have : lst (bk bs) (0, 0, 0) ∈ cls (bk bs) (all3 bs.length bs.length) := dd_mem.mpr (List.mem_map_of_mem (mem_all3.mpr ⟨show 0 < bs.length by omega, show 0 < bs.length by omega, show 0 < bs.length by omega⟩))
    rw [z] at this
    simp at this) fun k hk => by
      obtain ⟨t, ht, rfl⟩ := List.mem_map.mp (dd_mem.mp hk)
      exact uq_ok B (by omega) (mem_all3.mp ht) _ lst_mem
  have b := fun k => bSorted_keys (k := k) (cls_len B h4) ok
  rw [cls_ok B h4] at b
  have b2 := b .tm
  have b1 := b .ow
  have e3 : ∀ l : List T3, (l.map ky).map tupD = l.map tD := fun l => by rw [List.map_map]; rfl
  rw [e3] at b1 b2
  have pd : ∀ l : List T3, plD 7 (.tup (l.map tD)) := fun l => by rw [← e3]; exact plD_nats
  have rg : rngV1 [.int 5] = some (numD 0 5) := by rw [rngV1_int (by omega) (by omega)]; simp
  simp [vb_law_17, gt0, at0, b1, b2]
  refine classes_ok I h4 ?_
  simp
  refine plain_ok (pd _) ?_
  simp [vb_law_18, rg]
  refine PS_forN 5 (fun _ va _ => ∃ x5 x6 x7 x8 x10 x11 x12 x13 x14, va = [none, some .hnd, some (.int (bs.length : Nat)), some (.lst .sh (nD bs)), some (tiesD .sh bs), x5, x6, x7, x8, some (.lst .ow ((cls (bk bs) (all3 bs.length bs.length)).map tupD)), x10, x11, x12, x13, x14]) ?_ ?_ ⟨_, _, _, _, _, _, _, _, _, rfl⟩
  · rintro va s ⟨x5, x6, x7, x8, x10, x11, x12, x13, x14, rfl⟩
    simp [vb_law_20, gt0, at0, b1, b2]
    refine ties_init (.inl rfl) I h2 h4 ?_
    have sh : shO (tiesD .ow bs) = tiesD .sh bs := rfl
    have a1 : argV (tiesD .ow bs) = some (tiesD .sh bs) := rfl
    simp [sh, at0, a1, b1, b2]
    refine classes_ok I h4 ?_
    simp [b1, b2]
    refine plain_ok (pd _) ?_
    simp
  · rintro k va s hk ⟨x5, x6, x7, x8, x10, x11, x12, x13, x14, rfl⟩
    refine ⟨_, _, rfl, ?_⟩
    simp [vb_law_19, gt0, at0]
    refine bad_ok h2 h4 fun d s1 o => ?_
    simp [gt0, at0, argV_A o.T.1]
    refine refused_ok o.T o.TI o.no o.eq ?_
    simp
end
end K09

namespace K09
open PySem PySem.Spec PyProof.Rows L2 J JP
section
variable {bs : List Nat} {s : Hs}
theorem uq_it {b : Nat → Nat} {t : T3} : ((uq b t).map tupD)[0]? = some (tupD (lst b t)) := uq_head
theorem dedK_len : ∀ l : List (List Int), (dedK l).length ≤ l.length
  | [] => Nat.le_refl _
  | k :: r => by
    have ih := dedK_len r
    unfold dedK
    split <;> simp <;> omega
/-- one three -/
theorem turn_ok (I : Invol bs) (h4 : bs.length ≤ 4) {t : T3} (h : lt3 bs.length t) {cs : List (List Int)} (lc : cs.length < 1000) {x5 x6 x7 x8 x11 x12 x13 x14 : Option D} {P : Pz}
    (q : ∀ s' x11 x12 x13, P.n [none, some .hnd, some (.int (bs.length : Nat)), some (.lst .sh (nD bs)), some (tiesD .sh bs), x5, x6, x7, x8, some (.lst .ow ((addN cs (lst (bk bs) t)).map tupD)), some (tD t), x11, x12, x13, x14] s') :
    PS (vb_law_10 [none, some .hnd, some (.int (bs.length : Nat)), some (.lst .sh (nD bs)), some (tiesD .sh bs), x5, x6, x7, x8, some (.lst .ow (cs.map tupD)), some (tD t), x11, x12, x13, x14] s) P := by
  have B : Bk bs.length (bk bs) := ⟨fun i hi => bk_lt I hi, fun i hi => bk_inv I hi⟩
  have gT : ∀ s, gvV (some (some (tD t))) s = .ok (tD t) s := fun s => rfl
  have aT : argV (tD t) = some (tD t) := rfl
  have i0 : aIx (tD t) (.int 0) = some (.int (t.1 : Nat)) := rfl
  have i1 : aIx (tD t) (.int 1) = some (.int (t.2.1 : Nat)) := rfl
  have i2 : aIx (tD t) (.int 2) = some (.int (t.2.2 : Nat)) := rfl
  have tT : tD t = .tup (itsT t) := rfl
  simp [vb_law_10, gT, i0, i1, i2]
  refine shown_ok I h4 h ?_
  simp [vb_law_11, gT, aT]
  rw [tT]
  refine shape_ok (by simp [itsT]) fun d s1 hd => ?_
  have u0 : ∀ k, aIx (.lst k ((uq (bk bs) t).map tupD)) (.int 0) = some (tupD (lst (bk bs) t)) := fun k => by rw [aIx_lst, atI_0]; exact uq_head
  have u1 : (uq (bk bs) t)[0]? = some (lst (bk bs) t) := by
    unfold lst
    cases e : uq (bk bs) t with
    | nil => exact absurd e uq_ne
    | cons k r => rfl
  have dT : okT (shO d) := by rcases hd with rfl | rfl <;> exact ⟨rfl, rfl⟩
  have dI : itV (shO d) = some (itsT t) := by rcases hd with rfl | rfl <;> rfl
  have ds : stoV d = some (shO d) := by rcases hd with rfl | rfl <;> rfl
  have aI : argV (tupD (lst (bk bs) t)) = some (tupD (lst (bk bs) t)) := rfl
  simp [ds, vb_law_12, gt0, at0, gvV_A dT.1, argV_A dT.1]
  refine read_ok I h4 dT dI h ?_
  simp
  refine plain_ok plD_nats ?_
  simp [gt0, at0, gvV_A dT.1, argV_A dT.1]
  refine least_ok I h4 dT dI h ?_
  simp [u0, u1, aI]
  refine plain_ok plD_tup ?_
  have nn : aNe (.lst .ow (itsT t)) (.lst .ow (itsT t)) = some (.bl false) := by
    unfold aNe
    rw [eqV_ls fun d hd => by simp [itsT] at hd; rcases hd with rfl | rfl | rfl <;> exact eI _ _]
    rfl
  have gI : ∀ s, gvV (some (some (.tup (itsT t)))) s = .ok (.tup (itsT t)) s := fun s => rfl
  have iI : itV (.tup (itsT t)) = some (itsT t) := rfl
  have lu : 0 < (uq (bk bs) t).length := by
    rcases e : uq (bk bs) t with _ | ⟨k, r⟩
    · exact absurd e uq_ne
    · simp
  have lu6 : (uq (bk bs) t).length ≤ 6 := by
    unfold uq uniqK
    rw [(sortK_perm _ _).length_eq]
    refine Nat.le_trans (dedK_len _) ?_
    obtain ⟨p, u, r⟩ := t
    simp [six]
  simp [vb_law_13, gvV_A dT.1, argV_A dT.1, dI, nn, gt0, at0]
  refine is3_ok dT.1 (itsT_ok dI) ?_
  simp [is3_T h dI]
  refine plain_ok (d := .bl true) (by trivial) ?_
  simp [vb_law_14]
  refine draw_nat (n := (uq (bk bs) t).length) rfl lu (by omega) fun v s2 hv => ?_
  have ev : (uq (bk bs) t)[v]? = some (uq (bk bs) t)[v] := List.getElem?_eq_getElem hv
  obtain ⟨y, hy, ey⟩ := uq_mem.mp (List.getElem_mem hv)
  have ly := six_lt B h hy
  have su := uq_same B (by omega) h hy
  have st : stoV (tupD (uq (bk bs) t)[v]) = some (tD y) := by rw [← ey]; rfl
  have gy : ∀ s, gvV (some (some (tD y))) s = .ok (tD y) s := fun s => rfl
  have iy : itV (tD y) = some (itsT y) := rfl
  simp [ev, st, vb_law_15, gt0, at0, gy, iy]
  refine read_ok I h4 ⟨rfl, rfl⟩ rfl ly ?_
  rw [su]
  simp
  refine plain_ok plD_nats ?_
  have nin := aNin_T (k := .tm) (lst (bk bs) t) cs
  simp [vb_law_16, u0, u1, nin]
  have q' := q s2 (some (.lst .sh ((uq (bk bs) t).map tupD))) (some (shO d)) (some (tD y))
  unfold addN at q'
  by_cases c : lst (bk bs) t ∈ cs
  · rw [if_pos c] at q'
    simp [c]
    exact q'
  · rw [if_neg c] at q'
    have sa : stoV (tupD (lst (bk bs) t)) = some (tupD (lst (bk bs) t)) := rfl
    simp [c, u0, u1, sa, show cs.length < 10000 by omega]
    simp at q'
    exact q'
end
end K09

namespace K09
open PySem PySem.Spec PyProof.Rows L2 J JP
theorem law_body (s : Hs) : PS (vb_law (none :: some .hnd :: List.replicate 13 none) s) PT := by
  simp [vb_law]
  refine pick_ok (by simp) (by simp) (fun x hx => ?_) fun x hx s1 => ?_
  · simp at hx; rcases hx with rfl | rfl | rfl | rfl | rfl <;> exact ⟨rfl, rfl⟩
  have hm : ∃ m : Nat, x = .int (m : Nat) ∧ 2 ≤ m ∧ m ≤ 4 := by
    simp only [List.mem_cons, List.mem_nil_iff, or_false] at hx
    rcases hx with rfl | rfl | rfl | rfl | rfl
    · exact ⟨2, rfl, by omega, by omega⟩
    · exact ⟨3, rfl, by omega, by omega⟩
    · exact ⟨3, rfl, by omega, by omega⟩
    · exact ⟨2, rfl, by omega, by omega⟩
    · exact ⟨4, rfl, by omega, by omega⟩
  obtain ⟨m, rfl, h2, h4⟩ := hm
  simp [vb_law_1]
  refine backs_ok (by omega) fun s2 bs hl I => ?_
  subst hl
  simp [vb_law_2]
  refine ties_init (.inl rfl) I h2 h4 ?_
  have st : stoV (tiesD .ow bs) = some (tiesD .sh bs) := rfl
  have rg : rngV1 [.int (bs.length : Int)] = some (numD 0 bs.length) := by rw [rngV1_int (by omega) (by omega)]; simp
  simp [st, vb_law_3, vb_law_4, rg]
  refine PS_forN bs.length (fun k va _ => ∃ x6 x7 x8, va = [none, some .hnd, some (.int (bs.length : Nat)), some (.lst .sh (nD bs)), some (tiesD .sh bs), some (.lst .sh ((all3 bs.length k).map tD)), x6, x7, x8, none, none, none, none, none, none]) ?_ ?_ ⟨none, none, none, rfl⟩
  · rintro va s ⟨x6, x7, x8, rfl⟩
    simp [vb_law_7, gt0, at0]
    refine all_ok h4 ?_
    simp
    refine plain_ok (fun x hx => ?_) ?_
    · obtain ⟨t, _, rfl⟩ := List.mem_map.mp hx
      intro y hy
      obtain ⟨i, _, rfl⟩ := List.mem_map.mp hy
      trivial
    simp [vb_law_8, vb_law_9]
    refine PS_forV ((all3 bs.length bs.length).map tD) (fun k va _ => ∃ x10 x11 x12 x13 x14, va = [none, some .hnd, some (.int (bs.length : Nat)), some (.lst .sh (nD bs)), some (tiesD .sh bs), some (.lst .sh ((all3 bs.length bs.length).map tD)), x6, x7, x8, some (.lst .ow ((cls (bk bs) ((all3 bs.length bs.length).take k)).map tupD)), x10, x11, x12, x13, x14]) ?_ ?_ ⟨none, none, none, none, none, by simp [cls, dd]⟩
    · rintro va s ⟨x10, x11, x12, x13, x14, rfl⟩
      rw [List.length_map, List.take_length]
      exact end_ok I h2 h4
    · rintro k d va s hk ⟨x10, x11, x12, x13, x14, rfl⟩
      rw [List.getElem?_map] at hk
      obtain ⟨t, ht, rfl⟩ := Option.map_eq_some_iff.mp hk
      refine ⟨_, _, rfl, ?_⟩
      have lt : lt3 bs.length t := mem_all3.mp (List.mem_of_getElem? ht)
      have lc : (cls (bk bs) ((all3 bs.length bs.length).take k)).length < 1000 := by
        have := addN_len (((all3 bs.length bs.length).take k).map (lst (bk bs))) []
        have l2 := all3_le (m := bs.length) (k := bs.length) h4 (Nat.le_refl _)
        unfold cls dd
        simp at this ⊢
        omega
      refine turn_ok I h4 lt lc fun s' y11 y12 y13 => ?_
      refine ⟨some (tD t), y11, y12, y13, x14, ?_⟩
      have e : cls (bk bs) ((all3 bs.length bs.length).take (k + 1)) = addN (cls (bk bs) ((all3 bs.length bs.length).take k)) (lst (bk bs) t) := by
        unfold cls
        rw [List.map_take, List.map_take]
        exact dd_take (by rw [List.getElem?_map, ht]; rfl)
      rw [e]
  · rintro k va s hk ⟨x6, x7, x8, rfl⟩
    refine ⟨_, _, rfl, ?_⟩
    simp [vb_law_5, rg]
    refine PS_forN bs.length (fun j va _ => ∃ x7 x8, va = [none, some .hnd, some (.int (bs.length : Nat)), some (.lst .sh (nD bs)), some (tiesD .sh bs), some (.lst .sh ((all3 bs.length k ++ pl3 bs.length k j).map tD)), some (.int (k : Nat)), x7, x8, none, none, none, none, none, none]) ?_ ?_ ⟨x7, x8, by simp [pl3]⟩
    · rintro va s ⟨x7, x8, rfl⟩
      exact ⟨_, _, _, by rw [all3_succ]⟩
    · rintro j va s hj ⟨x7, x8, rfl⟩
      refine ⟨_, _, rfl, ?_⟩
      have l1 := all3_le (m := bs.length) (k := k) h4 (by omega)
      have l2 := pl3_le (m := bs.length) (p := k) (j := j) h4 (by omega)
      have lc : ∀ s1, lcV (gvNm 8) uYes (vTup (arCons (vVar 6) (arCons (vVar 7) (arCons (vVar 8) arNil)))) [none, some .hnd, some (.int (bs.length : Nat)), some (.lst .sh (nD bs)), some (tiesD .sh bs), some (.lst .sh ((all3 bs.length k ++ pl3 bs.length k j).map tD)), some (.int (k : Nat)), some (.int (j : Nat)), none, none, none, none, none, none, none] (numD 0 bs.length) [] s1 = .ok ((row3 bs.length k j).map tD) s1 := fun s1 => by
        rw [lcV_map (fun d => .tup [.int (k : Nat), .int (j : Nat), d]) (by simp; omega) fun d hd => ?_]
        · rw [numD_0, List.map_map]
          unfold row3
          rw [List.map_map]
          rfl
        · rw [numD_0] at hd
          obtain ⟨r, _, rfl⟩ := List.mem_map.mp hd
          exact ⟨_, _, rfl, rfl, rfl, rfl⟩
      have lr : (row3 bs.length k j).length = bs.length := by simp [row3]
      simp at lc
      have lz : (all3 bs.length k).length + (pl3 bs.length k j).length + bs.length ≤ 10000 := by omega
      simp [vb_law_6, rg, lc, lr, lz]
      rw [pl3_succ]
      simp
theorem law_plain (ns : List Int) (hl : ns.length ≤ 63) : ∃ h', m_law [.cst (ns.map W.int)] [] = .ok (.bl true) h' := by
  refine law_v (fun s => ?_) ns hl
  have key := law_body s
  cases e : vb_law (none :: some .hnd :: List.replicate 13 none) s with
  | rt d va s' => rw [e, PS_rt] at key; cases key; exact ⟨va, s', rfl⟩
  | nx va s' => rw [e, PS_nx] at key; exact key.elim
  | bk va s' => rw [e, PS_bk] at key; exact key.elim
  | ct va s' => rw [e, PS_ct] at key; exact key.elim
  | exc c fs va s' => rw [e, PS_exc] at key; exact key.elim
  | stuck => rw [e, PS_stuck] at key; exact key.elim
end K09

namespace K09
open PySem PySem.Spec PyProof.Rows L2 J
def dd__law_hand : He.DefD := ⟨("_law_hand", none), "_law_hand", "_law_hand", defArgs s__law_hand, defBody s__law_hand, defScope s__law_hand, [], []⟩
def dd__law_mix : He.DefD := ⟨("_law_mix", none), "_law_mix", "_law_mix", defArgs s__law_mix, defBody s__law_mix, defScope s__law_mix, [], []⟩
def dd__law_draw : He.DefD := ⟨("_law_draw", none), "_law_draw", "_law_draw", defArgs s__law_draw, defBody s__law_draw, defScope s__law_draw, [], []⟩
def dd__law_pick : He.DefD := ⟨("_law_pick", none), "_law_pick", "_law_pick", defArgs s__law_pick, defBody s__law_pick, defScope s__law_pick, [], []⟩
def dd__law_backs : He.DefD := ⟨("_law_backs", none), "_law_backs", "_law_backs", defArgs s__law_backs, defBody s__law_backs, defScope s__law_backs, [], []⟩
def dd_BadTies_zzinitzz : He.DefD := ⟨("BadTies", some "__init__"), "__init__", "BadTies.__init__", defArgs s_BadTies_zzinitzz, defBody s_BadTies_zzinitzz, defScope s_BadTies_zzinitzz, [], []⟩
def dd_is_whole : He.DefD := ⟨("is_whole", none), "is_whole", "is_whole", defArgs s_is_whole, defBody s_is_whole, defScope s_is_whole, [], []⟩
def dd_Ties_zzinitzz : He.DefD := ⟨("Ties", some "__init__"), "__init__", "Ties.__init__", defArgs s_Ties_zzinitzz, defBody s_Ties_zzinitzz, defScope s_Ties_zzinitzz, [], []⟩
def dd__law_plain : He.DefD := ⟨("_law_plain", none), "_law_plain", "_law_plain", defArgs s__law_plain, defBody s__law_plain, defScope s__law_plain, [], []⟩
def dd__law_shown : He.DefD := ⟨("_law_shown", none), "_law_shown", "_law_shown", defArgs s__law_shown, defBody s__law_shown, defScope s__law_shown, [], []⟩
def dd__law_shape : He.DefD := ⟨("_law_shape", none), "_law_shape", "_law_shape", defArgs s__law_shape, defBody s__law_shape, defScope s__law_shape, [], []⟩
def dd_all_threes : He.DefD := ⟨("all_threes", none), "all_threes", "all_threes", defArgs s_all_threes, defBody s_all_threes, defScope s_all_threes, [], []⟩
def dd_is_three : He.DefD := ⟨("is_three", none), "is_three", "is_three", defArgs s_is_three, defBody s_is_three, defScope s_is_three, [], []⟩
def dd__six : He.DefD := ⟨("_six", none), "_six", "_six", defArgs s__six, defBody s__six, defScope s__six, [], []⟩
def dd_readings_of : He.DefD := ⟨("readings_of", none), "readings_of", "readings_of", defArgs s_readings_of, defBody s_readings_of, defScope s_readings_of, [], []⟩
def dd_least_reading : He.DefD := ⟨("least_reading", none), "least_reading", "least_reading", defArgs s_least_reading, defBody s_least_reading, defScope s_least_reading, [], []⟩
def dd_reading_classes : He.DefD := ⟨("reading_classes", none), "reading_classes", "reading_classes", defArgs s_reading_classes, defBody s_reading_classes, defScope s_reading_classes, [], []⟩
def dd__law_refused : He.DefD := ⟨("_law_refused", none), "_law_refused", "_law_refused", defArgs s__law_refused, defBody s__law_refused, defScope s__law_refused, [], []⟩
def dd__law_bad : He.DefD := ⟨("_law_bad", none), "_law_bad", "_law_bad", defArgs s__law_bad, defBody s__law_bad, defScope s__law_bad, [], []⟩
def dd_law : He.DefD := ⟨("law", none), "law", "law", defArgs s_law, defBody s_law, defScope s_law, [], []⟩
def fa : List He.Fa := [.free "int", .free "enumerate", .free "abs", .glo "_law_hand", .glo "_law_mix", .free "len", .glo "_law_draw", .glo "_law_pick", .free "list", .free "range", .glo "_law_backs", .glo "BadTies", .free "isinstance", .free "bool", .glo "is_whole", .free "tuple", .int "MOST_TIES" (4), .cls "Ties", .noat "Ties" "backs", .noat "Ties" "many", .glo "Ties", .mkr "Ties", .free "zip", .free "str", .glo "_law_plain", .free "sorted", .glo "_law_shown", .glo "_law_shape", .glo "all_threes", .glo "is_three", .glo "NoThree", .free "super", .glo "_six", .free "set", .glo "readings_of", .glo "least_reading", .glo "reading_classes", .glo "GuestError", .glo "_law_refused", .glo "_law_bad", .glo "law"]
def fn : List He.DefD := [dd__law_hand, dd__law_mix, dd__law_draw, dd__law_pick, dd__law_backs, dd_BadTies_zzinitzz, dd_is_whole, dd_Ties_zzinitzz, dd__law_plain, dd__law_shown, dd__law_shape, dd_all_threes, dd_is_three, dd__six, dd_readings_of, dd_least_reading, dd_reading_classes, dd__law_refused, dd__law_bad, dd_law]
def cl : List CDef := [⟨"NoThree", "NoThree.__init__", s_NoThree_zzinitzz⟩]
theorem facts_of {P : Program} {K : PySem.W.Frag} {h h0 : Heap} {w : World} {mg : Str → Option Value} (X : K.In h) (G : h.Ns mainGlobals mg) (c : He.SaysX fa fn [] [] (exAll exs) w h0 K) (cy : ∀ (i : Nat) (d : CDef), cl[i]? = some d → fnC K (cAd K d) = cVal d) (hp : PFile P flN) : Facts P K mg where
  ex := c.more
  pf := hp
  d__law_hand := c.t.d.def_ 0 (d := dd__law_hand) rfl
  f_int := He.free_ok X G (c.t.d.fact 0 rfl)
  f_enumerate := He.free_ok X G (c.t.d.fact 1 rfl)
  f_abs := He.free_ok X G (c.t.d.fact 2 rfl)
  g__law_hand := He.glo_ok X G (c.t.d.fact 3 rfl)
  d__law_mix := c.t.d.def_ 1 (d := dd__law_mix) rfl
  g__law_mix := He.glo_ok X G (c.t.d.fact 4 rfl)
  d__law_draw := c.t.d.def_ 2 (d := dd__law_draw) rfl
  f_len := He.free_ok X G (c.t.d.fact 5 rfl)
  g__law_draw := He.glo_ok X G (c.t.d.fact 6 rfl)
  d__law_pick := c.t.d.def_ 3 (d := dd__law_pick) rfl
  g__law_pick := He.glo_ok X G (c.t.d.fact 7 rfl)
  d__law_backs := c.t.d.def_ 4 (d := dd__law_backs) rfl
  f_list := He.free_ok X G (c.t.d.fact 8 rfl)
  f_range := He.free_ok X G (c.t.d.fact 9 rfl)
  g__law_backs := He.glo_ok X G (c.t.d.fact 10 rfl)
  d_BadTies_zzinitzz := c.t.d.def_ 5 (d := dd_BadTies_zzinitzz) rfl
  g_BadTies := He.glo_ok X G (c.t.d.fact 11 rfl)
  d_is_whole := c.t.d.def_ 6 (d := dd_is_whole) rfl
  f_isinstance := He.free_ok X G (c.t.d.fact 12 rfl)
  f_bool := He.free_ok X G (c.t.d.fact 13 rfl)
  g_is_whole := He.glo_ok X G (c.t.d.fact 14 rfl)
  d_Ties_zzinitzz := c.t.d.def_ 7 (d := dd_Ties_zzinitzz) rfl
  f_tuple := He.free_ok X G (c.t.d.fact 15 rfl)
  i_MOST_TIES := He.int_ok X G (c.t.d.fact 16 rfl)
  cls_Ties := He.cls_ok (c.t.d.fact 17 rfl)
  no_Ties_backs := He.noat_ok (c.t.d.fact 18 rfl)
  no_Ties_many := He.noat_ok (c.t.d.fact 19 rfl)
  g_Ties := He.glo_ok X G (c.t.d.fact 20 rfl)
  mk_Ties := He.mkr_ok (c.t.d.fact 21 rfl)
  d__law_plain := c.t.d.def_ 8 (d := dd__law_plain) rfl
  f_zip := He.free_ok X G (c.t.d.fact 22 rfl)
  f_str := He.free_ok X G (c.t.d.fact 23 rfl)
  g__law_plain := He.glo_ok X G (c.t.d.fact 24 rfl)
  d__law_shown := c.t.d.def_ 9 (d := dd__law_shown) rfl
  f_sorted := He.free_ok X G (c.t.d.fact 25 rfl)
  g__law_shown := He.glo_ok X G (c.t.d.fact 26 rfl)
  d__law_shape := c.t.d.def_ 10 (d := dd__law_shape) rfl
  g__law_shape := He.glo_ok X G (c.t.d.fact 27 rfl)
  d_all_threes := c.t.d.def_ 11 (d := dd_all_threes) rfl
  g_all_threes := He.glo_ok X G (c.t.d.fact 28 rfl)
  d_is_three := c.t.d.def_ 12 (d := dd_is_three) rfl
  g_is_three := He.glo_ok X G (c.t.d.fact 29 rfl)
  s_NoThree_zzinitzz := supF_of (cy 0 ⟨"NoThree", "NoThree.__init__", s_NoThree_zzinitzz⟩ rfl) (ex_at c.more 4)
  g_NoThree := He.glo_ok X G (c.t.d.fact 30 rfl)
  f_super := He.free_ok X G (c.t.d.fact 31 rfl)
  d__six := c.t.d.def_ 13 (d := dd__six) rfl
  g__six := He.glo_ok X G (c.t.d.fact 32 rfl)
  d_readings_of := c.t.d.def_ 14 (d := dd_readings_of) rfl
  f_set := He.free_ok X G (c.t.d.fact 33 rfl)
  g_readings_of := He.glo_ok X G (c.t.d.fact 34 rfl)
  d_least_reading := c.t.d.def_ 15 (d := dd_least_reading) rfl
  g_least_reading := He.glo_ok X G (c.t.d.fact 35 rfl)
  d_reading_classes := c.t.d.def_ 16 (d := dd_reading_classes) rfl
  g_reading_classes := He.glo_ok X G (c.t.d.fact 36 rfl)
  d__law_refused := c.t.d.def_ 17 (d := dd__law_refused) rfl
  g_GuestError := He.glo_ok X G (c.t.d.fact 37 rfl)
  g__law_refused := He.glo_ok X G (c.t.d.fact 38 rfl)
  d__law_bad := c.t.d.def_ 18 (d := dd__law_bad) rfl
  g__law_bad := He.glo_ok X G (c.t.d.fact 39 rfl)
  d_law := c.t.d.def_ 19 (d := dd_law) rfl
theorem law_end (hT : ∀ ns : List Int, ns.length ≤ 63 → (∀ z ∈ ns, Builtin.Int.intBits z ≤ 1048576) → ∃ h', m_law [.cst (ns.map W.int)] [] = .ok (.bl true) h') {P : Program} {w : World} {K : PySem.W.Frag} {h : Heap} {mg : Str → Option Value} {f : Addr} (X : K.In h) (G : h.Ns mainGlobals mg) (hfa : mg ("law" : Str) = some (.ref f)) {h0 : Heap} (cY : SaysY fa fn cl (exAll exs) w h0 K) (hpf : PFile P flN) :
    ∃ fd : FuncData, (∀ (s : Shared) (v : Value), BindsTo s fd ⟨[v], []⟩ [("_law_script", v)]) ∧ ∀ base : Heap, K.In base → base.Ns mainGlobals mg → FnOk P w K mg base (L2.CX P w) 11 f fd ["_law_script"] (spL K) := by
  have c := cY.x
  have cc := facts_of X G c cY.c hpf
  obtain ⟨fd, F⟩ := cc.d_law
  have e := hfa.symm.trans (He.glo_ok X G (c.t.d.fact 40 rfl))
  cases e
  have b := FunD.bindsA (ps := ["_law_script"]) F fun _ _ _ _ _ _ us hl => match us, hl with | [_], _ => rfl
  exact ⟨fd, fun s v => b s [v] rfl, fun base _ _ => law_of rfl (ok_law cc F) fun ns h1 h2 => hT ns h1 h2⟩
abbrev R : PySem.W.OpenRow := PySem.W.OpenLaw.row PySem.Challenge.rw_joinedguests_k09_whole_readings_of_three
abbrev hk : PySem.W.Hook := hookY 5 fa fn cl (exAll exs)
def ob (s : PySem.W.SharedT) : AlY := obsY 5 fa fn cl (exAll exs) (HandSHeadRun.getT s)
theorem ob_eq (s : PySem.W.SharedT) : ob s = hk.obs s.abs := obsY_eq (HandSHeadRun.getT_eq s)
def loose : List Str := ["_wall", "GuestError", "BadTies", "NoTie", "NoThree", "MOST_TIES", "is_whole", "Ties", "is_three", "_six", "readings_of", "least_reading", "all_threes", "reading_classes", "_law_mix", "_law_hand", "_law_draw", "_law_pick", "_law_backs", "_law_plain", "_law_shape", "_law_shown", "_law_bad", "_law_refused"]
theorem run (w : World) : HandSHeadRun.RunEq R (PySem.W.view R.prog [28]) hk ob 20000 loose w := by
  intro os
  kernel_rfl
end K09
open PySem PySem.W PySem.Calls PyProof.Rows
theorem K09.holds_of (hT : ∀ ns : List Int, ns.length ≤ 63 → (∀ z ∈ ns, Builtin.Int.intBits z ≤ 1048576) → ∃ h', K09.m_law [.cst (ns.map J.W.int)] [] = .ok (.bl true) h') : PySem.Challenge.rw_joinedguests_k09_whole_readings_of_three.Holds := by
  w_on; o_law
  refine HandSHeadRun.head_any (r := OpenLaw.row PySem.Challenge.rw_joinedguests_k09_whole_readings_of_three) (q := view (OpenLaw.row PySem.Challenge.rw_joinedguests_k09_whole_readings_of_three).prog [28]) (H := K09.hk) (ob := K09.ob) (M := 20000) (loose := K09.loose) (d := HandSHeadRun.topDef (OpenLaw.row PySem.Challenge.rw_joinedguests_k09_whole_readings_of_three).prog 28) (kwd := []) K09.ob_eq
    (by kernel_rfl) (fun s => by kernel_rfl) K09.run (by kernel_rfl) (by kernel_rfl) (by kernel_rfl) (by rfl) (by first | assumption | decide +kernel) (by decide +kernel) ⟨rfl, rfl, rfl, rfl, rfl, by decide +kernel⟩ ?hw ?hc
  case hw => w_witness2
  case hc =>
    refine J.walk_J (l := PySem.Challenge.rw_joinedguests_k09_whole_readings_of_three) (k := 11) (x := "_law_script") rfl (by kernel_rfl) ⟨rfl, by decide, by decide⟩ ?F
    intro w mg fa h Y G hmg0
    obtain ⟨K, KX, c⟩ := Y
    have hmg : mg ("law" : PySem.Str) = some (.ref fa) := by
      have e : (HandSHeadRun.topDef (OpenLaw.row PySem.Challenge.rw_joinedguests_k09_whole_readings_of_three).prog 28).name = ("law" : PySem.Str) := by kernel_rfl
      rw [← e]
      exact hmg0
    obtain ⟨fd, hb, hF⟩ := K09.law_end hT (P := (PySem.Challenge.rw_joinedguests_k09_whole_readings_of_three).prog) (w := w) KX G hmg c ⟨by kernel_rfl, by kernel_rfl⟩
    exact ⟨K, fd, KX, hb, hF⟩

theorem PySem.Challenge.cw_joinedguests_k09_whole_readings_of_three_holds : PySem.Challenge.rw_joinedguests_k09_whole_readings_of_three.Holds := by
  exact K09.holds_of fun ns hl _ => K09.law_plain ns hl
