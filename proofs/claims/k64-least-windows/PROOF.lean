import PyProof.Rows.All
import Wide.All
import OpenK.AllK
import Wide.FinOn
import HandS.ForMost
import HandS.Exc
import HandS.ForExc
import HandS.TryMany
import HandS.Flow
import HandS.ExcInit
import HandS.ExcField
import HandS.IsInst
import HandS.TupAny
import HandS.TupMul
import HandS.Style
import HandS.Deep
import HandS.SortInts
import HandS.StrMore
import HandS.Iter
import HandS.WordsDict
import HandS.TupLe
import PyProof.MinMaxWalk
import PyProof.StrOps2
import HandS.ExcIs
import KE.KExcIs
import HandS.SortRule
import KE.SortData
import KE.DataMinMax
import HandS.Head0
import HandS.Head1
import HandS.Head2
import HandS.HeadEnd
import HandS.HeadHook1
import HandS.HeadHook2
import HandS.HeadHook3
import HandS.HeadHook4
import PyProof.ListStr
import PySem.Challenge.RW_intervalbench_k64_least_windows
set_option Elab.async false
set_option linter.all false
set_option maxRecDepth 100000
set_option maxHeartbeats 0
set_option autoImplicit false
/-! Sx1: plain data D over the hand layer: values as trees, a store of cells that are written, what a heap must bear, readings by functions -/
namespace Sx
open PySem L2

inductive D where
  | non
  | bl (b : Bool)
  | int (i : Int)
  | str (s : Str)
  | tup (xs : List D)
  | lst (xs : List D)
  | dct (ks : List Key) (vs : List D)
  | loc (n : Nat)
  | glb (x : Str)
  | ty (n : String)

structure Ex where
  cls : Str
  fs : List (Str × D)

inductive Cell where
  | lst (xs : List D)
  | dct (ks : List Key) (vs : List D)
  | ins (C : Str) (fs : List (Str × D))

inductive Slot where
  | un
  | val (d : D)
  | own (xs : List D)
  | exc (e : Ex)

abbrev Rho := List Slot
abbrev Sto := List Cell

inductive Out (α : Type) where
  | ok (a : α) (st : Sto)
  | exc (e : Ex) (st : Sto)
  | stuck

def Out.bind {α β : Type} (o : Out α) (f : α → Sto → Out β) : Out β :=
  match o with
  | .ok a st => f a st
  | .exc e st => .exc e st
  | .stuck => .stuck

abbrev EM := Rho → Sto → Out D
abbrev AM := Rho → Sto → Out (List D)
abbrev BM := Rho → Sto → Out Bool

inductive SOut where
  | nx (ρ : Rho) (st : Sto)
  | rt (d : D) (st : Sto)
  | bk (ρ : Rho) (st : Sto)
  | ct (ρ : Rho) (st : Sto)
  | exc (e : Ex) (ρ : Rho) (st : Sto)
  | stuck
abbrev SM := Rho → Sto → SOut

/-! ### what a value stands for -/
/-- a list that is not written (any more) -/
def SqF (K : PySem.W.Frag) (H : Hp) (a : Addr) (xs : List V) : Prop := (∃ o, H a = some (.frz o (.lst xs))) ∨
  ∃ (o : Obj) (its : Array Value) (n : Nat), K.lookup a = some o ∧ o.cls = .type "list" ∧ o.dict = none ∧ o.data = .seq its n ∧ its.size ≤ sizeLine ∧ Vals xs its.toList
theorem SqF.sq {K : PySem.W.Frag} {H : Hp} {a : Addr} {xs : List V} (h : SqF K H a xs) : SqL K H a xs := by
  rcases h with ⟨o, h⟩ | h
  · exact .inl (.inr ⟨o, h⟩)
  · exact .inr h
section
variable (K : PySem.W.Frag) (mg : Str → Option Value)
mutual
inductive Den (φ : List Addr) (H : Hp) : D → V → Prop
  | non : Den φ H .non .non
  | bl (b : Bool) : Den φ H (.bl b) (.bl b)
  | int (i : Int) : Den φ H (.int i) (.int i)
  | str (s : Str) : Den φ H (.str s) (.str s)
  | tup {a : Addr} {xs : List V} {ds : List D} : SqT K H a xs → Dens φ H ds xs → Den φ H (.tup ds) (.ref a)
  | lst {a : Addr} {xs : List V} {ds : List D} : SqF K H a xs → Dens φ H ds xs → Den φ H (.lst ds) (.ref a)
  | dct {a : Addr} {o : Obj} {ys : List V} {ks : List Key} {ds : List D} : H a = some (.frz o (.dK (ks.zip ys))) → ks.length = ys.length → Dens φ H ds ys → Den φ H (.dct ks ds) (.ref a)
  | loc {n : Nat} {a : Addr} : φ[n]? = some a → Den φ H (.loc n) (.ref a)
  | glb {x : Str} {a : Addr} : mg x = some (.ref a) → Den φ H (.glb x) (.ref a)
  | ty (n : String) : Den φ H (.ty n) (.ty n)
inductive Dens (φ : List Addr) (H : Hp) : List D → List V → Prop
  | nil : Dens φ H [] []
  | cons {d : D} {v : V} {ds : List D} {vs : List V} : Den φ H d v → Dens φ H ds vs → Dens φ H (d :: ds) (v :: vs)
end
/-- attributes by name -/
inductive FDens (φ : List Addr) (H : Hp) : List (Str × D) → List (Str × V) → Prop
  | nil : FDens φ H [] []
  | cons {f : Str} {d : D} {v : V} {ds : List (Str × D)} {vs : List (Str × V)} : Den K mg φ H d v → FDens φ H ds vs → FDens φ H ((f, d) :: ds) ((f, v) :: vs)
end

/-- what never changes -/
def Fz : HO → Prop
  | .tup _ => True
  | .frz _ _ => True
  | .xd _ => True
  | _ => False

/-- kept: all but the cells, and of them nothing that never changes -/
structure Kp (φ : List Addr) (H : Hp) (φ' : List Addr) (H' : Hp) : Prop where
  pre : ∃ more, φ' = φ ++ more
  same : ∀ a o, H a = some o → (a ∉ φ ∨ Fz o) → H' a = some o
  fresh : ∀ a, a ∈ φ' → a ∉ φ → H a = none

section
variable {K : PySem.W.Frag} {mg : Str → Option Value} {φ φ1 φ2 : List Addr} {H H1 H2 : Hp}
theorem Kp.refl : Kp φ H φ H := ⟨⟨[], (List.append_nil φ).symm⟩, fun _ _ h _ => h, fun _ h n => absurd h n⟩
theorem Kp.trans (a : Kp φ H φ1 H1) (b : Kp φ1 H1 φ2 H2) : Kp φ H φ2 H2 := by
  obtain ⟨m1, e1⟩ := a.pre
  obtain ⟨m2, e2⟩ := b.pre
  have no1 : ∀ c o, H c = some o → c ∉ φ → c ∉ φ1 := fun c o h n m => by
    have z := a.fresh c m n
    rw [h] at z
    cases z
  refine ⟨⟨m1 ++ m2, by rw [e2, e1, List.append_assoc]⟩, fun c o h w => ?_, fun c hm hn => ?_⟩
  · exact b.same c o (a.same c o h w) (w.imp (fun n => no1 c o h n) id)
  · by_cases h1 : c ∈ φ1
    · exact a.fresh c h1 hn
    · have z := b.fresh c hm h1
      cases e : H c with
      | none => rfl
      | some o =>
        rw [a.same c o e (.inl hn)] at z
        cases z
theorem Kp.new {p : Addr} {o : HO} (h : H p = none) : Kp φ H φ (upd H p o) :=
  ⟨⟨[], (List.append_nil φ).symm⟩, fun a u e _ => by rw [upd_ne (ne_of_none e h)]; exact e, fun _ m n => absurd m n⟩
theorem Kp.cell {p : Addr} {o : HO} (h : H p = none) : Kp φ H (φ ++ [p]) (upd H p o) :=
  ⟨⟨[p], rfl⟩, fun a u e _ => by rw [upd_ne (ne_of_none e h)]; exact e, fun a m n => by
    rcases List.mem_append.mp m with m | m
    · exact absurd m n
    · rw [List.mem_singleton.mp m]; exact h⟩
theorem Kp.write {p : Addr} {o u : HO} (m : p ∈ φ) (h : H p = some u) (nf : ¬ Fz u) : Kp φ H φ (upd H p o) :=
  ⟨⟨[], (List.append_nil φ).symm⟩, fun a w e c => by
    have ne : a ≠ p := by
      rintro rfl
      rw [h] at e
      cases e
      rcases c with c | c
      · exact c m
      · exact nf c
    rw [upd_ne ne]; exact e, fun _ m n => absurd m n⟩
/-- kept: what never changes -/
structure Kd (φ : List Addr) (H : Hp) (φ' : List Addr) (H' : Hp) : Prop where
  pre : ∃ more, φ' = φ ++ more
  same : ∀ a o, H a = some o → Fz o → H' a = some o
theorem Kp.d (k : Kp φ H φ1 H1) : Kd φ H φ1 H1 := ⟨k.pre, fun a o e f => k.same a o e (.inr f)⟩
theorem SqT.keep {a : Addr} {xs : List V} (k : Kd φ H φ1 H1) (h : SqT K H a xs) : SqT K H1 a xs := by
  rcases h with (h | ⟨o, h⟩) | h
  · exact .inl (.inl (k.same _ _ h trivial))
  · exact .inl (.inr ⟨o, k.same _ _ h trivial⟩)
  · exact .inr h
theorem SqF.keep {a : Addr} {xs : List V} (k : Kd φ H φ1 H1) (h : SqF K H a xs) : SqF K H1 a xs := by
  rcases h with ⟨o, h⟩ | h
  · exact .inl ⟨o, k.same _ _ h trivial⟩
  · exact .inr h
theorem Kd.at {n : Nat} {a : Addr} (k : Kd φ H φ1 H1) (h : φ[n]? = some a) : φ1[n]? = some a := by
  obtain ⟨m, e⟩ := k.pre
  rw [e, List.getElem?_append_left (List.getElem?_eq_some_iff.mp h).1]
  exact h
mutual
theorem Den.keep (k : Kd φ H φ1 H1) : ∀ {d : D} {v : V}, Den K mg φ H d v → Den K mg φ1 H1 d v
  | _, _, .non => .non
  | _, _, .bl b => .bl b
  | _, _, .int i => .int i
  | _, _, .str s => .str s
  | _, _, .tup h hs => .tup (SqT.keep k h) (Dens.keep k hs)
  | _, _, .lst h hs => .lst (SqF.keep k h) (Dens.keep k hs)
  | _, _, .dct h hl hs => .dct (k.same _ _ h trivial) hl (Dens.keep k hs)
  | _, _, .loc h => .loc (k.at h)
  | _, _, .glb h => .glb h
  | _, _, .ty n => .ty n
theorem Dens.keep (k : Kd φ H φ1 H1) : ∀ {ds : List D} {vs : List V}, Dens K mg φ H ds vs → Dens K mg φ1 H1 ds vs
  | _, _, .nil => .nil
  | _, _, .cons h hs => .cons (Den.keep k h) (Dens.keep k hs)
end
theorem FDens.keep (k : Kd φ H φ1 H1) : ∀ {ds : List (Str × D)} {vs : List (Str × V)}, FDens K mg φ H ds vs → FDens K mg φ1 H1 ds vs
  | _, _, .nil => .nil
  | _, _, .cons h hs => .cons (Den.keep k h) (FDens.keep k hs)
theorem Dens.length : ∀ {ds : List D} {vs : List V}, Dens K mg φ H ds vs → ds.length = vs.length
  | _, _, .nil => rfl
  | _, _, .cons _ hs => by rw [List.length_cons, List.length_cons, Dens.length hs]
theorem Dens.get : ∀ {ds : List D} {vs : List V} {i : Nat} {d : D}, Dens K mg φ H ds vs → ds[i]? = some d → ∃ v, vs[i]? = some v ∧ Den K mg φ H d v
  | _, _, _, _, .nil, e => by simp at e
  | _, _, 0, _, .cons h _, e => by simp at e; subst e; exact ⟨_, rfl, h⟩
  | _, _, i + 1, d, .cons _ hs, e => by
    obtain ⟨v, h1, h2⟩ := Dens.get (i := i) (d := d) hs (by simpa using e)
    exact ⟨v, by simpa using h1, h2⟩
theorem Dens.append : ∀ {ds es : List D} {vs ws : List V}, Dens K mg φ H ds vs → Dens K mg φ H es ws → Dens K mg φ H (ds ++ es) (vs ++ ws)
  | _, _, _, _, .nil, b => b
  | _, _, _, _, .cons h t, b => .cons h (Dens.append t b)
theorem Dens.set {d : D} {v : V} (h : Den K mg φ H d v) : ∀ {ds : List D} {vs : List V} (i : Nat), Dens K mg φ H ds vs → Dens K mg φ H (ds.set i d) (vs.set i v)
  | _, _, _, .nil => .nil
  | _, _, 0, .cons _ t => .cons h t
  | _, _, i + 1, .cons q t => .cons q (Dens.set h i t)
theorem Dens.take : ∀ {ds : List D} {vs : List V} (n : Nat), Dens K mg φ H ds vs → Dens K mg φ H (ds.take n) (vs.take n)
  | _, _, 0, _ => .nil
  | _, _, _ + 1, .nil => .nil
  | _, _, n + 1, .cons h t => .cons h (Dens.take n t)
theorem Dens.drop : ∀ {ds : List D} {vs : List V} (n : Nat), Dens K mg φ H ds vs → Dens K mg φ H (ds.drop n) (vs.drop n)
  | _, _, 0, h => h
  | _, _, _ + 1, .nil => .nil
  | _, _, n + 1, .cons _ t => Dens.drop n t
theorem Dens.erase : ∀ {ds : List D} {vs : List V} (n : Nat), Dens K mg φ H ds vs → Dens K mg φ H (ds.eraseIdx n) (vs.eraseIdx n)
  | _, _, _, .nil => .nil
  | _, _, 0, .cons _ t => t
  | _, _, n + 1, .cons h t => .cons h (Dens.erase n t)
end

/-! ### the store -/
section
variable (K : PySem.W.Frag) (mg : Str → Option Value)
def CellOk (φ : List Addr) (H : Hp) (a : Addr) : Cell → Prop
  | .lst ds => ∃ xs, H a = some (.lst xs) ∧ Dens K mg φ H ds xs
  | .dct ks ds => ∃ ys, H a = some (.dK (ks.zip ys)) ∧ ks.length = ys.length ∧ Dens K mg φ H ds ys
  | .ins C fs => ∃ c dx ys, mg C = some (.ref c) ∧ H a = some (.ins c dx ys) ∧ FDens K mg φ H fs ys
structure StoOk (φ : List Addr) (H : Hp) (st : Sto) : Prop where
  len : φ.length = st.length
  nd : φ.Nodup
  at' : ∀ (n : Nat) (c : Cell), st[n]? = some c → ∃ a, φ[n]? = some a ∧ CellOk K mg φ H a c
structure Post (φ : List Addr) (H : Hp) (st' : Sto) (φ' : List Addr) (H' : Hp) : Prop where
  kp : Kp φ H φ' H'
  sto : StoOk K mg φ' H' st'
/-- an error's class and its own dict -/
def ExDen (φ : List Addr) (H : Hp) (e : Ex) (c : Value) (dd : Option Addr) : Prop :=
  ∃ C d ys, mg e.cls = some (.ref C) ∧ c = .ref C ∧ dd = some d ∧ H d = some (.xd ys) ∧ FDens K mg φ H e.fs ys
/-- as a value that is only read at once: a list of one's own too -/
def BDen (φ : List Addr) (H : Hp) (d : D) (v : V) : Prop :=
  Den K mg φ H d v ∨ ∃ a xs ds, d = .lst ds ∧ v = .ref a ∧ H a = some (.lst xs) ∧ a ∉ φ ∧ Dens K mg φ H ds xs
def RDen (b : Bool) (φ : List Addr) (H : Hp) (d : D) (v : V) : Prop := if b then BDen K mg φ H d v else Den K mg φ H d v
end
section
variable {K : PySem.W.Frag} {mg : Str → Option Value} {φ φ1 φ2 : List Addr} {H H1 H2 : Hp} {st st1 st2 : Sto}
theorem Post.refl (h : StoOk K mg φ H st) : Post K mg φ H st φ H := ⟨Kp.refl, h⟩
theorem Post.trans (a : Post K mg φ H st1 φ1 H1) (b : Post K mg φ1 H1 st2 φ2 H2) : Post K mg φ H st2 φ2 H2 := ⟨a.kp.trans b.kp, b.sto⟩
theorem BDen.of {d : D} {v : V} (h : Den K mg φ H d v) : BDen K mg φ H d v := .inl h
theorem RDen.of {b : Bool} {d : D} {v : V} (h : Den K mg φ H d v) : RDen K mg b φ H d v := by
  cases b
  · exact h
  · exact .inl h
theorem RDen.b {b : Bool} {d : D} {v : V} (h : RDen K mg b φ H d v) : BDen K mg φ H d v := by
  cases b
  · exact .inl h
  · exact h
theorem BDen.keep (k : Kp φ H φ1 H1) {d : D} {v : V} (h : BDen K mg φ H d v) : BDen K mg φ1 H1 d v := by
  rcases h with h | ⟨a, xs, ds, rfl, rfl, ha, hn, hs⟩
  · exact .inl (h.keep k.d)
  · refine .inr ⟨a, xs, ds, rfl, rfl, k.same _ _ ha (.inl hn), fun m => ?_, hs.keep k.d⟩
    have z := k.fresh a m hn
    rw [ha] at z
    cases z
theorem RDen.keep (k : Kp φ H φ1 H1) {b : Bool} {d : D} {v : V} (h : RDen K mg b φ H d v) : RDen K mg b φ1 H1 d v := by
  cases b
  · exact Den.keep k.d h
  · exact BDen.keep k h
theorem CellOk.keep (k : Kd φ H φ1 H1) {a : Addr} {c : Cell} (s : H1 a = H a) (h : CellOk K mg φ H a c) : CellOk K mg φ1 H1 a c := by
  cases c with
  | lst ds => obtain ⟨xs, e, q⟩ := h; exact ⟨xs, s.trans e, q.keep k⟩
  | dct ks ds => obtain ⟨ys, e, l, q⟩ := h; exact ⟨ys, s.trans e, l, q.keep k⟩
  | ins C fs => obtain ⟨c, dx, ys, g, e, q⟩ := h; exact ⟨c, dx, ys, g, s.trans e, q.keep k⟩
theorem CellOk.there {a : Addr} {c : Cell} (h : CellOk K mg φ H a c) : ∃ o, H a = some o ∧ ¬ Fz o := by
  cases c with
  | lst ds => obtain ⟨xs, e, q⟩ := h; exact ⟨_, e, id⟩
  | dct ks ds => obtain ⟨ys, e, l, q⟩ := h; exact ⟨_, e, id⟩
  | ins C fs => obtain ⟨c, dx, ys, g, e, q⟩ := h; exact ⟨_, e, id⟩
theorem StoOk.there (h : StoOk K mg φ H st) {a : Addr} (m : a ∈ φ) : ∃ o, H a = some o ∧ ¬ Fz o := by
  obtain ⟨n, hn, e⟩ := List.getElem_of_mem m
  have e2 : φ[n]? = some a := by rw [List.getElem?_eq_getElem hn, e]
  have hs : n < st.length := by rw [← h.len]; exact hn
  obtain ⟨b, hb, c⟩ := h.at' n st[n] (List.getElem?_eq_getElem hs)
  rw [e2] at hb
  cases hb
  exact c.there
/-- nothing of the store has changed -/
theorem StoOk.keep (h : StoOk K mg φ H st) (k : Kp φ H φ H1) (s : ∀ a ∈ φ, H1 a = H a) : StoOk K mg φ H1 st :=
  ⟨h.len, h.nd, fun n c e => by
    obtain ⟨a, ha, q⟩ := h.at' n c e
    exact ⟨a, ha, q.keep k.d (s a (List.mem_of_getElem? ha))⟩⟩
theorem StoOk.new {p : Addr} {o : HO} (h : StoOk K mg φ H st) (hp : H p = none) : StoOk K mg φ (upd H p o) st :=
  h.keep (Kp.new hp) fun a m => by
    obtain ⟨u, e, _⟩ := h.there m
    exact upd_ne (ne_of_none e hp)
theorem Post.new {p : Addr} {o : HO} (h : StoOk K mg φ H st) (hp : H p = none) : Post K mg φ H st φ (upd H p o) := ⟨Kp.new hp, h.new hp⟩
/-- a new cell -/
theorem StoOk.cell {p : Addr} {o : HO} {c : Cell} (h : StoOk K mg φ H st) (hp : H p = none) (hc : CellOk K mg (φ ++ [p]) (upd H p o) p c) : StoOk K mg (φ ++ [p]) (upd H p o) (st ++ [c]) := by
  have np : p ∉ φ := fun m => by
    obtain ⟨u, e, _⟩ := h.there m
    rw [hp] at e
    cases e
  refine ⟨by simp [h.len], ?_, fun n d e => ?_⟩
  · rw [List.nodup_append]
    refine ⟨h.nd, by simp, fun a ha b hb => ?_⟩
    rw [List.mem_singleton.mp hb]
    rintro rfl
    exact np ha
  · by_cases hn : n < st.length
    · rw [List.getElem?_append_left hn] at e
      obtain ⟨a, ha, q⟩ := h.at' n d e
      obtain ⟨u, eu, _⟩ := q.there
      exact ⟨a, by rw [List.getElem?_append_left (by rw [h.len]; exact hn)]; exact ha, q.keep (Kp.cell hp).d (upd_ne (ne_of_none eu hp))⟩
    · rw [List.getElem?_append_right (Nat.le_of_not_lt hn)] at e
      obtain ⟨h0, e0⟩ := List.getElem?_eq_some_iff.mp e
      have hz : n = st.length := by
        have z : n - st.length < 1 := h0
        omega
      subst hz
      rw [Nat.sub_self] at e
      cases e
      exact ⟨p, by rw [← h.len, List.getElem?_append_right (Nat.le_refl _), Nat.sub_self]; rfl, hc⟩
theorem Post.cell {p : Addr} {o : HO} {c : Cell} (h : StoOk K mg φ H st) (hp : H p = none) (hc : CellOk K mg (φ ++ [p]) (upd H p o) p c) : Post K mg φ H (st ++ [c]) (φ ++ [p]) (upd H p o) := ⟨Kp.cell hp, h.cell hp hc⟩
/-- a cell is written -/
theorem Post.write {n : Nat} {p : Addr} {o u : HO} {c : Cell} (h : StoOk K mg φ H st) (hn : φ[n]? = some p) (hp : H p = some u) (nf : ¬ Fz u) (hc : CellOk K mg φ (upd H p o) p c) : Post K mg φ H (st.set n c) φ (upd H p o) := by
  have m : p ∈ φ := List.mem_of_getElem? hn
  have k : Kp φ H φ (upd H p o) := Kp.write m hp nf
  refine ⟨k, by rw [List.length_set]; exact h.len, h.nd, fun j d e => ?_⟩
  by_cases hj : j = n
  · subst hj
    have hl : j < st.length := by rw [← h.len]; exact (List.getElem?_eq_some_iff.mp hn).1
    rw [List.getElem?_set_self hl] at e
    cases e
    exact ⟨p, hn, hc⟩
  · rw [List.getElem?_set_ne (Ne.symm hj)] at e
    obtain ⟨a, ha, q⟩ := h.at' j d e
    refine ⟨a, ha, q.keep k.d (upd_ne ?_)⟩
    rintro rfl
    obtain ⟨hj', ej⟩ := List.getElem?_eq_some_iff.mp ha
    obtain ⟨hn', en⟩ := List.getElem?_eq_some_iff.mp hn
    exact hj ((List.getElem_inj h.nd).mp (ej.trans en.symm))
end

/-! ### a frame -/
/-- where it was entered; the error that is held, its own dict -/
structure Fr where
  φ : List Addr
  H : Hp
  cur : Option (Addr × Value × Option Addr)
section
variable (K : PySem.W.Frag) (mg : Str → Option Value)
def SlotOk (F : Fr) (φ : List Addr) (σ : St) (H : Hp) (i : Nat) : Slot → Prop
  | .un => True
  | .val d => ∃ v, σ[i]? = some (some v) ∧ Den K mg φ H d v
  | .own ds => ∃ a xs, σ[i]? = some (some (.ref a)) ∧ H a = some (.lst xs) ∧ Dens K mg φ H ds xs ∧ a ∉ φ ∧ F.H a = none
  | .exc e => ∃ a c dd, σ[i]? = some (some (.ref a)) ∧ F.cur = some (a, c, dd) ∧ ExDen K mg φ H e c dd
structure Rep (F : Fr) (ρ : Rho) (st : Sto) (φ : List Addr) (σ : St) (H : Hp) : Prop where
  len : σ.length = ρ.length
  slot : ∀ (i : Nat) (s : Slot), ρ[i]? = some s → SlotOk K mg F φ σ H i s
  uniq : ∀ (i j : Nat) (a : Addr) (ds es : List D), ρ[i]? = some (.own ds) → ρ[j]? = some (.own es) → σ[i]? = some (some (.ref a)) → σ[j]? = some (some (.ref a)) → i = j
  post : Post K mg F.φ F.H st φ H
end
section
variable {K : PySem.W.Frag} {mg : Str → Option Value} {F : Fr} {φ φ1 : List Addr} {σ : St} {H H1 : Hp} {st st1 : Sto} {ρ : Rho}
theorem ExDen.keep (k : Kd φ H φ1 H1) {e : Ex} {c : Value} {dd : Option Addr} (h : ExDen K mg φ H e c dd) : ExDen K mg φ1 H1 e c dd := by
  obtain ⟨C, d, ys, h1, h2, h3, h4, h5⟩ := h
  exact ⟨C, d, ys, h1, h2, h3, k.same _ _ h4 trivial, h5.keep k⟩
theorem SlotOk.keep (k : Kp φ H φ1 H1) {i : Nat} {s : Slot} (h : SlotOk K mg F φ σ H i s) : SlotOk K mg F φ1 σ H1 i s := by
  cases s with
  | un => trivial
  | val d => obtain ⟨v, e, q⟩ := h; exact ⟨v, e, q.keep k.d⟩
  | own ds =>
    obtain ⟨a, xs, e, ha, q, hn, h0⟩ := h
    refine ⟨a, xs, e, k.same _ _ ha (.inl hn), q.keep k.d, fun m => ?_, h0⟩
    have z := k.fresh a m hn
    rw [ha] at z
    cases z
  | exc e => obtain ⟨a, c, dd, e1, e2, q⟩ := h; exact ⟨a, c, dd, e1, e2, q.keep k.d⟩
/-- behind an expression -/
theorem Rep.step (r : Rep K mg F ρ st φ σ H) (p : Post K mg φ H st1 φ1 H1) : Rep K mg F ρ st1 φ1 σ H1 :=
  ⟨r.len, fun i s e => (r.slot i s e).keep p.kp, r.uniq, r.post.trans p⟩
theorem Rep.sto (r : Rep K mg F ρ st φ σ H) : StoOk K mg φ H st := r.post.sto
/-- a name is given a value -/
theorem Rep.set {i : Nat} {d : D} {v : V} (r : Rep K mg F ρ st φ σ H) (h : Den K mg φ H d v) : Rep K mg F (ρ.set i (.val d)) st φ (σ.set i (some v)) H := by
  refine ⟨by rw [List.length_set, List.length_set]; exact r.len, fun j s e => ?_, fun j k a ds es e1 e2 e3 e4 => ?_, r.post⟩
  · by_cases hj : j = i
    · subst hj
      by_cases hl : j < ρ.length
      · rw [List.getElem?_set_self hl] at e
        cases e
        exact ⟨v, by rw [List.getElem?_set_self (by rw [r.len]; exact hl)], h⟩
      · rw [List.getElem?_eq_none (by rw [List.length_set]; omega)] at e
        cases e
    · rw [List.getElem?_set_ne (Ne.symm hj)] at e
      have q := r.slot j s e
      have es : (σ.set i (some v))[j]? = σ[j]? := List.getElem?_set_ne (Ne.symm hj)
      cases s with
      | un => trivial
      | val d => obtain ⟨v, e, q⟩ := q; exact ⟨v, es.trans e, q⟩
      | own ds => obtain ⟨a, xs, e, q⟩ := q; exact ⟨a, xs, es.trans e, q⟩
      | exc e => obtain ⟨a, c, dd, e1, q⟩ := q; exact ⟨a, c, dd, es.trans e1, q⟩
  · have other : ∀ {j : Nat} {ds : List D}, (ρ.set i (.val d))[j]? = some (.own ds) → j ≠ i ∧ ρ[j]? = some (.own ds) := fun {j ds} e => by
      by_cases hj : j = i
      · subst hj
        by_cases hl : j < ρ.length
        · rw [List.getElem?_set_self hl] at e
          cases e
        · rw [List.getElem?_eq_none (by rw [List.length_set]; omega)] at e
          cases e
      · rw [List.getElem?_set_ne (Ne.symm hj)] at e
        exact ⟨hj, e⟩
    obtain ⟨n1, o1⟩ := other e1
    obtain ⟨n2, o2⟩ := other e2
    rw [List.getElem?_set_ne (Ne.symm n1)] at e3
    rw [List.getElem?_set_ne (Ne.symm n2)] at e4
    exact r.uniq j k a ds es o1 o2 e3 e4
end
end Sx
/-! Sx2: readings by functions; names, constants, operators, tests, displays, statements -/
namespace Sx
open PySem L2

section
variable (K : PySem.W.Frag) (mg : Str → Option Value)
/-- an outcome and what is wanted of it -/
def fin {α : Type} (φ : List Addr) (H : Hp) (w : XK) (o : Out α) (P : α → Sto → List Addr → Hp → Prop) : Prop :=
  match o with
  | .ok d st' => ∀ φ' H', Post K mg φ H st' φ' H' → P d st' φ' H'
  | .exc e st' => ∀ c dd φ' H', Post K mg φ H st' φ' H' → ExDen K mg φ' H' e c dd → w c dd H'
  | .stuck => False
/-- readings: of an expression (b: it is only read at once), of arguments, of a test, of statements -/
def rE (F : Fr) (W : WX) (b : Bool) (m : EM) : TE := fun σ H Q => ∃ ρ st φ, Rep K mg F ρ st φ σ H ∧ fin K mg φ H (fun c d H' => W c d σ H') (m ρ st) fun d _ φ' H' => ∀ v, RDen K mg b φ' H' d v → Q v H'
def RDens (b : Bool) (φ : List Addr) (H : Hp) (ds : List D) (vs : List V) : Prop := Paired (fun v d => RDen K mg b φ H d v) vs ds
def rA (F : Fr) (W : WX) (b : Bool) (m : AM) : TA := fun σ H Q => ∃ ρ st φ, Rep K mg F ρ st φ σ H ∧ fin K mg φ H (fun c d H' => W c d σ H') (m ρ st) fun ds _ φ' H' => ∀ vs, RDens K mg b φ' H' ds vs → Q vs H'
def rT (F : Fr) (W : WX) (m : BM) : TT := fun σ H Q => ∃ ρ st φ, Rep K mg F ρ st φ σ H ∧ fin K mg φ H (fun c d H' => W c d σ H') (m ρ st) fun k _ _ H' => Q k H'
/-- what is wanted of a statement's outcome, begun at φ, H -/
def finS (F : Fr) (W : WX) (D : Ends) (φ : List Addr) (H : Hp) (o : SOut) : Prop := match o with
  | .nx ρ' st' => ∀ φ' σ' H', Rep K mg F ρ' st' φ' σ' H' → Kd φ H φ' H' → D.nx σ' H'
  | .rt d st' => ∀ φ' H' v, Post K mg F.φ F.H st' φ' H' → Den K mg φ' H' d v → D.rt v H'
  | .bk ρ' st' => ∀ φ' σ' H', Rep K mg F ρ' st' φ' σ' H' → Kd φ H φ' H' → D.bk σ' H'
  | .ct ρ' st' => ∀ φ' σ' H', Rep K mg F ρ' st' φ' σ' H' → Kd φ H φ' H' → D.ct σ' H'
  | .exc e ρ' st' => ∀ c dd φ' σ' H', Rep K mg F ρ' st' φ' σ' H' → Kd φ H φ' H' → ExDen K mg φ' H' e c dd → W c dd σ' H'
  | .stuck => False
def rS (F : Fr) (W : WX) (m : SM) : TS := fun D σ H => ∃ ρ st φ, Rep K mg F ρ st φ σ H ∧ finS K mg F W D φ H (m ρ st)
end
section
variable {K : PySem.W.Frag} {mg : Str → Option Value} {φ φ1 : List Addr} {H H1 : Hp} {w : XK}
theorem fin_imp {α : Type} {o : Out α} {P Q : α → Sto → List Addr → Hp → Prop} (h : fin K mg φ H w o P) (k : ∀ d st' φ' H', Post K mg φ H st' φ' H' → P d st' φ' H' → Q d st' φ' H') : fin K mg φ H w o Q := by
  cases o with
  | ok d st' => exact fun φ' H' p => k d st' φ' H' p (h φ' H' p)
  | exc e st' => exact h
  | stuck => exact h
theorem fin_bind {α β : Type} {o : Out α} {f : α → Sto → Out β} {P : β → Sto → List Addr → Hp → Prop} (h : fin K mg φ H w (o.bind f) P) :
    fin K mg φ H w o fun d st' φ' H' => fin K mg φ' H' w (f d st') P := by
  cases o with
  | ok d st' =>
    intro φ' H' p
    have h : fin K mg φ H w (f d st') P := h
    cases e : f d st' with
    | ok d2 st2 => rw [e] at h; exact fun φ2 H2 p2 => h φ2 H2 (p.trans p2)
    | exc e2 st2 => rw [e] at h; exact fun c dd φ2 H2 p2 => h c dd φ2 H2 (p.trans p2)
    | stuck => rw [e] at h; exact h
  | exc e st' => exact h
  | stuck => exact h
theorem fin_ok {α : Type} {d : α} {st : Sto} {P : α → Sto → List Addr → Hp → Prop} (s : StoOk K mg φ H st) (h : fin K mg φ H w (.ok d st) P) : P d st φ H := h φ H (Post.refl s)
theorem Kd.refl : Kd φ H φ H := ⟨⟨[], (List.append_nil φ).symm⟩, fun _ _ h _ => h⟩
theorem Kd.trans {φ2 : List Addr} {H2 : Hp} (a : Kd φ H φ1 H1) (b : Kd φ1 H1 φ2 H2) : Kd φ H φ2 H2 := by
  obtain ⟨m1, e1⟩ := a.pre
  obtain ⟨m2, e2⟩ := b.pre
  exact ⟨⟨m1 ++ m2, by rw [e2, e1, List.append_assoc]⟩, fun c o h w => b.same c o (a.same c o h w) w⟩
theorem finS_step {F : Fr} {W : WX} {D : Ends} {o : SOut} (k : Kd φ H φ1 H1) (h : finS K mg F W D φ H o) : finS K mg F W D φ1 H1 o := by
  cases o with
  | nx ρ' st' => exact fun φ' σ' H' r d => h φ' σ' H' r (k.trans d)
  | rt d st' => exact h
  | bk ρ' st' => exact fun φ' σ' H' r d => h φ' σ' H' r (k.trans d)
  | ct ρ' st' => exact fun φ' σ' H' r d => h φ' σ' H' r (k.trans d)
  | exc e ρ' st' => exact fun c dd φ' σ' H' r d => h c dd φ' σ' H' r (k.trans d)
  | stuck => exact h
end

/-! ### weaker readings -/
section
variable {X : Cx}
theorem _root_.L2.PE.impS {e : Expr} {t t' : TE} (h : PE X e t) (k : ∀ σ H Q, t' σ H Q → t σ H Q) : PE X e t' := ⟨fun pins s σ H Q I q => h.run pins s σ H Q I (k σ H Q q)⟩
theorem _root_.L2.PT.impS {e : Expr} {t t' : TT} (h : PT X e t) (k : ∀ σ H Q, t' σ H Q → t σ H Q) : PT X e t' := ⟨fun pins s σ H Q I q => h.run pins s σ H Q I (k σ H Q q)⟩
theorem _root_.L2.PW.impS {e : Expr} {t t' : TT} (h : PW X e t) (k : ∀ σ H Q, t' σ H Q → t σ H Q) : PW X e t' := ⟨fun wh pins s σ H Q I q => h.run wh pins s σ H Q I (k σ H Q q)⟩
theorem _root_.L2.PA.impS {es : List Expr} {t t' : TA} (h : PA X es t) (k : ∀ σ H Q, t' σ H Q → t σ H Q) : PA X es t' := ⟨fun pos pins s σ H Q I q => h.run pos pins s σ H Q I (k σ H Q q)⟩
theorem _root_.L2.PS.impS {e : Stmt} {t t' : TS} (h : PS X e t) (k : ∀ D σ H, t' D σ H → t D σ H) : PS X e t' := ⟨fun pins s σ H D I q => h.run pins s σ H D I (k D σ H q)⟩
theorem _root_.L2.PSs.impS {e : List Stmt} {t t' : TS} (h : PSs X e t) (k : ∀ D σ H, t' D σ H → t D σ H) : PSs X e t' := ⟨fun pins s σ H D I q => h.run pins s σ H D I (k D σ H q)⟩
theorem _root_.L2.PI.impS {tg e : Expr} {t t' : TI} (h : PI X tg e t) (k : ∀ σ H R, t' σ H R → t σ H R) : PI X tg e t' := ⟨fun pins s σ H R I q => h.run pins s σ H R I (k σ H R q)⟩
theorem _root_.L2.OpR.impS {f : Value → Value → Sem Value} {r r' : R2} (h : OpR X f r) (k : ∀ x y H Q, r' x y H Q → r x y H Q) : OpR X f r' := fun pins s σ H x y v u Q I r1 r2 q => h pins s σ H x y v u Q I r1 r2 (k x y H Q q)
end

abbrev SE (X : Cx) (F : Fr) (W : WX) (e : Expr) (m : EM) : Prop := PE X e (rE X.K X.mg F W false m)
abbrev SB (X : Cx) (F : Fr) (W : WX) (e : Expr) (m : EM) : Prop := PE X e (rE X.K X.mg F W true m)
abbrev SA (X : Cx) (F : Fr) (W : WX) (b : Bool) (es : List Expr) (m : AM) : Prop := PA X es (rA X.K X.mg F W b m)
abbrev SC (X : Cx) (F : Fr) (W : WX) (e : Expr) (m : BM) : Prop := PT X e (rT X.K X.mg F W m)
abbrev SX (X : Cx) (F : Fr) (W : WX) (e : Stmt) (m : SM) : Prop := PS X e (rS X.K X.mg F W m)
abbrev SXs (X : Cx) (F : Fr) (W : WX) (e : List Stmt) (m : SM) : Prop := PSs X e (rS X.K X.mg F W m)

section
variable {X : Cx} {F : Fr} {W : WX} {b : Bool} {pos : Pos}
/-- a value that stays may be read at once -/
theorem SE.bor {e : Expr} {m : EM} (h : SE X F W e m) : SB X F W e m := h.impS fun σ H Q ⟨ρ, st, φ, r, q⟩ => ⟨ρ, st, φ, r, fin_imp q fun _ _ _ _ _ z v d => z v (.inl d)⟩
theorem rE_ok {ρ : Rho} {st : Sto} {φ : List Addr} {σ : L2.St} {H : Hp} {d : D} {Q : VK} (r : Rep X.K X.mg F ρ st φ σ H) (h : fin X.K X.mg φ H (fun c d H' => W c d σ H') (.ok d st) fun d _ φ' H' => ∀ v, RDen X.K X.mg b φ' H' d v → Q v H') : ∀ v, RDen X.K X.mg b φ H d v → Q v H :=
  fin_ok r.sto h

/-! ### names and constants -/
def eVar (i : Nat) : EM := fun ρ st => match ρ[i]? with
  | some (.val d) => .ok d st
  | _ => .stuck
def eBor (i : Nat) : EM := fun ρ st => match ρ[i]? with
  | some (.val d) => .ok d st
  | some (.own ds) => .ok (.lst ds) st
  | _ => .stuck
def eC (d : D) : EM := fun _ st => .ok d st
theorem se_var {i : Nat} {x : Str} (h : PE X (.Name x pos) (tVar i)) : PE X (.Name x pos) (rE X.K X.mg F W b (eVar i)) := by
  refine PE.impS h fun σ H Q ⟨ρ, st, φ, r, q⟩ => ?_
  cases e : ρ[i]? with
  | none => simp only [eVar, e] at q; exact q.elim
  | some s =>
    have z := r.slot i s e
    cases s with
    | val d =>
      simp only [eVar, e] at q
      obtain ⟨v, ev, dv⟩ := z
      exact ⟨v, ev, rE_ok r q v (RDen.of dv)⟩
    | un => simp only [eVar, e] at q; exact q.elim
    | own ds => simp only [eVar, e] at q; exact q.elim
    | exc x => simp only [eVar, e] at q; exact q.elim
theorem sb_var {i : Nat} {x : Str} (h : PE X (.Name x pos) (tVar i)) : SB X F W (.Name x pos) (eBor i) := by
  refine PE.impS h fun σ H Q ⟨ρ, st, φ, r, q⟩ => ?_
  cases e : ρ[i]? with
  | none => simp only [eBor, e] at q; exact q.elim
  | some s =>
    have z := r.slot i s e
    cases s with
    | val d =>
      simp only [eBor, e] at q
      obtain ⟨v, ev, dv⟩ := z
      exact ⟨v, ev, rE_ok r q v (RDen.of dv)⟩
    | own ds =>
      simp only [eBor, e] at q
      obtain ⟨a, xs, e1, e2, hs, hn, _⟩ := z
      exact ⟨.ref a, e1, rE_ok r q _ (.inr ⟨a, xs, ds, rfl, rfl, e2, hn, hs⟩)⟩
    | un => simp only [eBor, e] at q; exact q.elim
    | exc x => simp only [eBor, e] at q; exact q.elim
theorem se_const {e : Expr} {v : V} {d : D} (h : PE X e (tC v)) (hd : ∀ φ H, Den X.K X.mg φ H d v) : PE X e (rE X.K X.mg F W b (eC d)) :=
  h.impS fun σ H Q ⟨ρ, st, φ, r, q⟩ => rE_ok r q v (RDen.of (hd φ H))
theorem se_int {i : Int} {j : Nat} : PE X (.Constant (.int i) j pos) (rE X.K X.mg F W b (eC (.int i))) := se_const pe_int fun _ _ => .int i
theorem se_bl {k : Bool} {j : Nat} : PE X (.Constant (.bool k) j pos) (rE X.K X.mg F W b (eC (.bl k))) := se_const pe_bl fun _ _ => .bl k
theorem se_non {j : Nat} : PE X (.Constant .none j pos) (rE X.K X.mg F W b (eC .non)) := se_const pe_non fun _ _ => .non
theorem se_str {x : Str} {j : Nat} : PE X (.Constant (.str x) j pos) (rE X.K X.mg F W b (eC (.str x))) := se_const pe_str fun _ _ => .str x
/-- a def or a class of the module; a built-in class; the module's constants -/
theorem se_glb {x : Str} {a : Addr} (hm : X.mg x = some (.ref a)) (hg : Gl X x := by rfl) (hd : (x == ("__debug__" : Str)) = false := by decide) : PE X (.Name x pos) (rE X.K X.mg F W b (eC (.glb x))) :=
  se_const (pe_glob hg hm (show RelV (.ref a) (.ref a) from rfl) hd) fun _ _ => .glb hm
theorem se_ty {x : Str} {n : String} (hm : X.mg x = none) (hv : bootBuiltins x = some (.type n)) (hg : Gl X x := by rfl) (hn : x ≠ "__name__" := by decide) (hd : (x == ("__debug__" : Str)) = false := by decide) : PE X (.Name x pos) (rE X.K X.mg F W b (eC (.ty n))) :=
  se_const (pe_bltn hg hm hv (show RelV (.ty n) (.type n) from rfl) hn hd) fun _ _ => .ty n
theorem se_gint {x : Str} {i : Int} {t : Tok} (hm : X.mg x = some (.int i t)) (hg : Gl X x := by rfl) (hd : (x == ("__debug__" : Str)) = false := by decide) : PE X (.Name x pos) (rE X.K X.mg F W b (eC (.int i))) :=
  se_const (pe_glob hg hm (show RelV (.int i) (.int i t) from ⟨t, rfl⟩) hd) fun _ _ => .int i
theorem se_gstr {x s : Str} {t : Tok} (hm : X.mg x = some (.str s t)) (hg : Gl X x := by rfl) (hd : (x == ("__debug__" : Str)) = false := by decide) : PE X (.Name x pos) (rE X.K X.mg F W b (eC (.str s))) :=
  se_const (pe_glob hg hm (show RelV (.str s) (.str s t) from ⟨t, rfl⟩) hd) fun _ _ => .str s

/-! ### operators by values -/
/-- what an operator makes of two data -/
abbrev O2 := D → D → Sto → Out D
def rOp (K : PySem.W.Frag) (mg : Str → Option Value) (g : O2) : R2 := fun x y H Q => ∃ st φ dx dy, StoOk K mg φ H st ∧ BDen K mg φ H dx x ∧ BDen K mg φ H dy y ∧
  ∃ d st', g dx dy st = .ok d st' ∧ ∀ φ' H', Post K mg φ H st' φ' H' → ∀ v, Den K mg φ' H' d v → Q v H'
def OpS (X : Cx) (f : Value → Value → Sem Value) (g : O2) : Prop := OpR X f (rOp X.K X.mg g)
/-- an operator raises nothing -/
def Calm (g : O2) : Prop := ∀ x y st e st', g x y st ≠ .exc e st'
def eBin (g : O2) (a c : EM) : EM := fun ρ st => (a ρ st).bind fun x st1 => (c ρ st1).bind fun y st2 => match g x y st2 with
  | .ok d st3 => .ok d st3
  | _ => .stuck
theorem rOp_of {x y : V} {H : Hp} {φ : List Addr} {st : Sto} {dx dy : D} {g : O2} {w : XK} {Q : VK} (s : StoOk X.K X.mg φ H st) (hx : BDen X.K X.mg φ H dx x) (hy : BDen X.K X.mg φ H dy y)
    (h : fin X.K X.mg φ H w (match g dx dy st with | .ok d st3 => .ok d st3 | _ => .stuck) fun d _ φ' H' => ∀ v, RDen X.K X.mg b φ' H' d v → Q v H') : rOp X.K X.mg g x y H Q := by
  refine ⟨st, φ, dx, dy, s, hx, hy, ?_⟩
  cases e : g dx dy st with
  | ok d st' => rw [e] at h; exact ⟨d, st', rfl, fun φ' H' p v dv => h φ' H' p v (RDen.of dv)⟩
  | exc e' st' => rw [e] at h; exact h.elim
  | stuck => rw [e] at h; exact h.elim
theorem se_op2 {f : Value → Value → Sem Value} {g : O2} {a c : Expr} {ma mc : EM} {e : Expr} (hop : OpS X f g) (ha : SB X F W a ma) (hc : SB X F W c mc)
    (h : ∀ r, OpR X f r → PE X e (tOp r (rE X.K X.mg F W true ma) (rE X.K X.mg F W true mc))) : PE X e (rE X.K X.mg F W b (eBin g ma mc)) := by
  refine (h _ hop).impS fun σ H Q ⟨ρ, st, φ, r, q⟩ => ?_
  refine ⟨ρ, st, φ, r, fin_imp (fin_bind q) fun dx st1 φ1 H1 p1 q1 x hx => ⟨ρ, st1, φ1, r.step p1, fin_imp (fin_bind q1) fun dy st2 φ2 H2 p2 q2 y hy => ?_⟩⟩
  exact rOp_of (b := b) p2.sto (hx.keep p2.kp) hy q2
theorem se_bin {op : Operator} {g : O2} {a c : Expr} {ma mc : EM} (hop : OpS X (binaryOp op) g) (ha : SB X F W a ma) (hc : SB X F W c mc) : PE X (.BinOp a op c pos) (rE X.K X.mg F W b (eBin g ma mc)) :=
  se_op2 hop ha hc fun _ ho => pe_op ho ha hc
theorem se_cmp {op : CmpOp} {g : O2} {a c : Expr} {ma mc : EM} (hop : OpS X (compareOp op) g) (ha : SB X F W a ma) (hc : SB X F W c mc) (hm : behindInMarks op c = false) : PE X (.Compare a [op] [c] pos) (rE X.K X.mg F W b (eBin g ma mc)) :=
  se_op2 hop ha hc fun _ ho => pe_cmpR ho ha hc hm
/-- one operand -/
def rUn (K : PySem.W.Frag) (mg : Str → Option Value) (g : D → Option D) : V → Hp → VK → Prop := fun x H Q => ∃ st φ dx d, StoOk K mg φ H st ∧ BDen K mg φ H dx x ∧ g dx = some d ∧ ∀ v, Den K mg φ H d v → Q v H
def UnS (X : Cx) (f : Value → Sem Value) (g : D → Option D) : Prop := UnR X f (rUn X.K X.mg g)
def eUn (g : D → Option D) (a : EM) : EM := fun ρ st => (a ρ st).bind fun x st1 => match g x with
  | some d => .ok d st1
  | none => .stuck
theorem se_un {op : UnaryOp} {g : D → Option D} {a : Expr} {ma : EM} (hop : UnS X (unaryOp op) g) (ha : SB X F W a ma) : PE X (.UnaryOp op a pos) (rE X.K X.mg F W b (eUn g ma)) := by
  refine (pe_un hop ha).impS fun σ H Q ⟨ρ, st, φ, r, q⟩ => ⟨ρ, st, φ, r, fin_imp (fin_bind q) fun dx st1 φ1 H1 p1 q1 x hx => ?_⟩
  cases e : g dx with
  | none => rw [e] at q1; exact q1.elim
  | some d =>
    rw [e] at q1
    exact ⟨st1, φ1, dx, d, p1.sto, hx, e, fun v dv => fin_ok p1.sto q1 v (RDen.of dv)⟩

/-! ### tests -/
/-- the value of a test -/
def tB1 (m : EM) : BM := fun ρ st => (m ρ st).bind fun x st1 => match x with
  | .bl k => .ok k st1
  | _ => .stuck
theorem rT_of {ρ : Rho} {st : Sto} {φ : List Addr} {σ : L2.St} {H : Hp} {m : EM} {Q : Bool → Hp → Prop} (r : Rep X.K X.mg F ρ st φ σ H) (q : fin X.K X.mg φ H (fun c d H' => W c d σ H') (tB1 m ρ st) fun k _ _ H' => Q k H') : rE X.K X.mg F W false m σ H fun x H1 => ∃ c, x = .bl c ∧ Q c H1 := by
  refine ⟨ρ, st, φ, r, fin_imp (fin_bind q) fun dx st1 φ1 H1 p1 q1 x hx => ?_⟩
  have hx : Den X.K X.mg φ1 H1 dx x := hx
  cases hx with
  | bl k => exact ⟨k, rfl, fin_ok p1.sto q1⟩
  | _ => exact q1.elim
theorem sc_val {e : Expr} {m : EM} (h : SE X F W e m) (he : ∀ whole, isTrue e X.env whole = (do let v ← whole; standAt e.pos; holding [v] (truthy v)) := by intro _; rfl) : SC X F W e (tB1 m) :=
  (pt_val h he).impS fun _ _ _ ⟨_, _, _, r, q⟩ => rT_of r q
theorem sc_cmp {op : CmpOp} {g : O2} {a c : Expr} {ma mc : EM} (hop : OpS X (compareOp op) g) (ha : SB X F W a ma) (hc : SB X F W c mc) (hm : behindInMarks op c = false) : SC X F W (.Compare a [op] [c] pos) (tB1 (eBin g ma mc)) := by
  refine (pt_cmpR hop ha hc hm).impS fun σ H Q ⟨ρ, st, φ, r, q⟩ => ⟨ρ, st, φ, r, ?_⟩
  refine fin_imp (fin_bind (fin_bind q)) fun dx st1 φ1 H1 p1 q1 x hx => ⟨ρ, st1, φ1, r.step p1, fin_imp (fin_bind q1) fun dy st2 φ2 H2 p2 q2 y hy => ?_⟩
  refine ⟨st2, φ2, dx, dy, p2.sto, hx.keep p2.kp, hy, ?_⟩
  cases e : g dx dy st2 with
  | ok d st' =>
    rw [e] at q2
    refine ⟨d, st', rfl, fun φ' H' p v dv => ?_⟩
    have q3 := q2 φ' H' p
    cases dv with
    | bl k => exact ⟨k, rfl, fin_ok p.sto q3⟩
    | _ => exact q3.elim
  | exc e' st' => rw [e] at q2; exact q2.elim
  | stuck => rw [e] at q2; exact q2.elim
def bAnd (m n : BM) : BM := fun ρ st => (m ρ st).bind fun c st1 => if c = true then n ρ st1 else .ok false st1
def bOr (m n : BM) : BM := fun ρ st => (m ρ st).bind fun c st1 => if c = true then .ok true st1 else n ρ st1
def bNot (m : BM) : BM := fun ρ st => (m ρ st).bind fun c st1 => .ok (!c) st1
abbrev SW (X : Cx) (F : Fr) (W : WX) (e : Expr) (m : BM) : Prop := PW X e (rT X.K X.mg F W m)
theorem sw_and1 {a : Expr} {m : BM} (h : SC X F W a m) : SW X F W (.BoolOp .And [a] pos) m := pw_and1 h
theorem sw_or1 {a : Expr} {m : BM} (h : SC X F W a m) : SW X F W (.BoolOp .Or [a] pos) m := pw_or1 h
theorem sw_and {a c : Expr} {r : List Expr} {m n : BM} (h : SC X F W a m) (k : SW X F W (.BoolOp .And (c :: r) pos) n) : SW X F W (.BoolOp .And (a :: c :: r) pos) (bAnd m n) := by
  refine (pw_and h k).impS fun σ H Q ⟨ρ, st, φ, rp, q⟩ => ⟨ρ, st, φ, rp, fin_imp (fin_bind q) fun d st1 φ1 H1 p1 q1 => ?_⟩
  cases d with
  | true => exact ⟨ρ, st1, φ1, rp.step p1, q1⟩
  | false => exact fin_ok p1.sto q1
theorem sw_or {a c : Expr} {r : List Expr} {m n : BM} (h : SC X F W a m) (k : SW X F W (.BoolOp .Or (c :: r) pos) n) : SW X F W (.BoolOp .Or (a :: c :: r) pos) (bOr m n) := by
  refine (pw_or h k).impS fun σ H Q ⟨ρ, st, φ, rp, q⟩ => ⟨ρ, st, φ, rp, fin_imp (fin_bind q) fun d st1 φ1 H1 p1 q1 => ?_⟩
  cases d with
  | false => exact ⟨ρ, st1, φ1, rp.step p1, q1⟩
  | true => exact fin_ok p1.sto q1
theorem SW.c {e : Expr} {m : BM} (h : SW X F W e m) : SC X F W e m := PW.pt h
theorem sc_not {a : Expr} {m : BM} (h : SC X F W a m) : SC X F W (.UnaryOp .Not a pos) (bNot m) :=
  (pt_not h).impS fun σ H Q ⟨ρ, st, φ, rp, q⟩ => ⟨ρ, st, φ, rp, fin_imp (fin_bind q) fun d st1 φ1 H1 p1 q1 => fin_ok p1.sto q1⟩
/-- .. as values -/
def eAnd (m n : EM) : EM := fun ρ st => (m ρ st).bind fun x st1 => match x with
  | .bl true => n ρ st1
  | .bl false => .ok (.bl false) st1
  | _ => .stuck
def eOr (m n : EM) : EM := fun ρ st => (m ρ st).bind fun x st1 => match x with
  | .bl false => n ρ st1
  | .bl true => .ok (.bl true) st1
  | _ => .stuck
def eNot (m : EM) : EM := fun ρ st => (m ρ st).bind fun x st1 => match x with
  | .bl k => .ok (.bl (!k)) st1
  | _ => .stuck
theorem se_one {op : BoolOp} {a : Expr} {m : EM} (h : PE X a (rE X.K X.mg F W b m)) : PE X (.BoolOp op [a] pos) (rE X.K X.mg F W b m) := pe_one h
theorem se_and {a c : Expr} {r : List Expr} {m n : EM} (h : SE X F W a m) (k : PE X (.BoolOp .And (c :: r) pos) (rE X.K X.mg F W b n)) : PE X (.BoolOp .And (a :: c :: r) pos) (rE X.K X.mg F W b (eAnd m n)) := by
  refine (pe_and h k).impS fun σ H Q ⟨ρ, st, φ, rp, q⟩ => ⟨ρ, st, φ, rp, fin_imp (fin_bind q) fun d st1 φ1 H1 p1 q1 v dv => ?_⟩
  have dv : Den X.K X.mg φ1 H1 d v := dv
  cases dv with
  | bl k =>
    cases k with
    | true => exact ⟨true, rfl, ρ, st1, φ1, rp.step p1, q1⟩
    | false => exact ⟨false, rfl, fin_ok p1.sto q1 _ (RDen.of (.bl false))⟩
  | _ => exact q1.elim
theorem se_or {a c : Expr} {r : List Expr} {m n : EM} (h : SE X F W a m) (k : PE X (.BoolOp .Or (c :: r) pos) (rE X.K X.mg F W b n)) : PE X (.BoolOp .Or (a :: c :: r) pos) (rE X.K X.mg F W b (eOr m n)) := by
  refine (pe_or h k).impS fun σ H Q ⟨ρ, st, φ, rp, q⟩ => ⟨ρ, st, φ, rp, fin_imp (fin_bind q) fun d st1 φ1 H1 p1 q1 v dv => ?_⟩
  have dv : Den X.K X.mg φ1 H1 d v := dv
  cases dv with
  | bl k =>
    cases k with
    | false => exact ⟨false, rfl, ρ, st1, φ1, rp.step p1, q1⟩
    | true => exact ⟨true, rfl, fin_ok p1.sto q1 _ (RDen.of (.bl true))⟩
  | _ => exact q1.elim
theorem se_not {a : Expr} {m : EM} (h : SE X F W a m) : PE X (.UnaryOp .Not a pos) (rE X.K X.mg F W b (eNot m)) := by
  refine (pe_not h).impS fun σ H Q ⟨ρ, st, φ, rp, q⟩ => ⟨ρ, st, φ, rp, fin_imp (fin_bind q) fun d st1 φ1 H1 p1 q1 v dv => ?_⟩
  have dv : Den X.K X.mg φ1 H1 d v := dv
  cases dv with
  | bl k => exact ⟨k, rfl, fin_ok p1.sto q1 _ (RDen.of (.bl (!k)))⟩
  | _ => exact q1.elim
def eIf (c : BM) (m n : EM) : EM := fun ρ st => (c ρ st).bind fun k st1 => if k = true then m ρ st1 else n ρ st1
theorem se_if {c a d : Expr} {mc : BM} {m n : EM} (hc : SC X F W c mc) (h : PE X a (rE X.K X.mg F W b m)) (k : PE X d (rE X.K X.mg F W b n)) : PE X (.IfExp c a d pos) (rE X.K X.mg F W b (eIf mc m n)) := by
  refine (pe_ifExp hc h k).impS fun σ H Q ⟨ρ, st, φ, rp, q⟩ => ⟨ρ, st, φ, rp, fin_imp (fin_bind q) fun d st1 φ1 H1 p1 q1 => ?_⟩
  cases d with
  | true => exact ⟨ρ, st1, φ1, rp.step p1, q1⟩
  | false => exact ⟨ρ, st1, φ1, rp.step p1, q1⟩

/-! ### argument lists, displays -/
def aNil : AM := fun _ st => .ok [] st
def aCons (m : EM) (n : AM) : AM := fun ρ st => (m ρ st).bind fun x st1 => (n ρ st1).bind fun xs st2 => .ok (x :: xs) st2
theorem sa_nil : SA X F W b [] aNil := (pa_nil).impS fun σ H Q ⟨ρ, st, φ, rp, q⟩ => fin_ok rp.sto q [] .nil
theorem sa_cons {e : Expr} {es : List Expr} {m : EM} {n : AM} (h : PE X e (rE X.K X.mg F W b m)) (k : SA X F W b es n)
    (hs : starEach (e :: es) X.env = (false, eval e X.env) :: starEach es X.env := by rfl) : SA X F W b (e :: es) (aCons m n) := by
  refine L2.PA.impS (pa_cons h k hs) fun σ H Q ⟨ρ, st, φ, rp, q⟩ => ⟨ρ, st, φ, rp, fin_imp (fin_bind q) fun d st1 φ1 H1 p1 q1 v dv => ?_⟩
  refine ⟨ρ, st1, φ1, rp.step p1, fin_imp (fin_bind q1) fun ds st2 φ2 H2 p2 q2 vs dvs => fin_ok p2.sto q2 (v :: vs) (.cons (dv.keep p2.kp) dvs)⟩
end
end Sx
/-! Sx3: new lists (frozen, as cells, as one's own), statements, targets -/
namespace Sx
open PySem L2

section
variable {K : PySem.W.Frag} {mg : Str → Option Value} {F : Fr} {φ φ1 φ2 : List Addr} {σ : L2.St} {H H1 H2 : Hp} {st st1 : Sto} {ρ : Rho}
/-- behind a Post what is free was free -/
theorem Post.noneOf (p : Post K mg φ H st1 φ1 H1) (s : StoOk K mg φ H st) {a : Addr} (h : H1 a = none) : H a = none := by
  cases e : H a with
  | none => rfl
  | some o =>
    by_cases m : a ∈ φ
    · obtain ⟨more, em⟩ := p.kp.pre
      obtain ⟨u, eu, _⟩ := p.sto.there (a := a) (by rw [em]; exact List.mem_append_left _ m)
      rw [h] at eu
      cases eu
    · rw [p.kp.same a o e (.inl m)] at h
      cases h
theorem StoOk.free (s : StoOk K mg φ H st) {a : Addr} (h : H a = none) : a ∉ φ := fun m => by
  obtain ⟨u, eu, _⟩ := s.there m
  rw [h] at eu
  cases eu
theorem Rep.free0 (r : Rep K mg F ρ st φ σ H) {a : Addr} (h : H a = none) : F.H a = none := by
  cases e : F.H a with
  | none => rfl
  | some o =>
    by_cases m : a ∈ F.φ
    · obtain ⟨more, em⟩ := r.post.kp.pre
      exact absurd (by rw [em]; exact List.mem_append_left _ m) (r.sto.free h)
    · rw [r.post.kp.same a o e (.inl m)] at h
      cases h
/-- a slot's value: something that stays, or a new list -/
def SVal (K : PySem.W.Frag) (mg : Str → Option Value) (H0 : Hp) (φ : List Addr) (H : Hp) (s : Slot) (v : V) : Prop :=
  match s with
  | .val d => Den K mg φ H d v
  | .own ds => ∃ a xs, v = .ref a ∧ H a = some (.lst xs) ∧ Dens K mg φ H ds xs ∧ a ∉ φ ∧ H0 a = none
  | _ => False
theorem Rep.setS {i : Nat} {s : Slot} {v : V} {H0 : Hp} (r : Rep K mg F ρ st φ σ H) (h : SVal K mg H0 φ H s v) (h0 : ∀ a, H0 a = none → F.H a = none) (hu : ∀ (j : Nat) (a : Addr) (ds : List D), v = .ref a → H0 a = none → ρ[j]? = some (.own ds) → σ[j]? ≠ some (some (.ref a))) :
    Rep K mg F (ρ.set i s) st φ (σ.set i (some v)) H := by
  have own_of : ∀ {j : Nat} {ds : List D}, (ρ.set i s)[j]? = some (.own ds) → (j = i ∧ s = .own ds) ∨ (j ≠ i ∧ ρ[j]? = some (.own ds)) := fun {j ds} e => by
    by_cases hj : j = i
    · subst hj
      by_cases hl : j < ρ.length
      · rw [List.getElem?_set_self hl] at e
        exact .inl ⟨rfl, Option.some.inj e⟩
      · rw [List.getElem?_eq_none (by rw [List.length_set]; omega)] at e
        cases e
    · rw [List.getElem?_set_ne (Ne.symm hj)] at e
      exact .inr ⟨hj, e⟩
  refine ⟨by rw [List.length_set, List.length_set]; exact r.len, fun j t e => ?_, fun j k a ds es e1 e2 e3 e4 => ?_, r.post⟩
  · by_cases hj : j = i
    · subst hj
      by_cases hl : j < ρ.length
      · rw [List.getElem?_set_self hl] at e
        cases e
        have ev : (σ.set j (some v))[j]? = some (some v) := List.getElem?_set_self (by rw [r.len]; exact hl)
        cases s with
        | un => trivial
        | val d => exact ⟨v, ev, h⟩
        | own ds =>
          obtain ⟨a, xs, rfl, e1, e2, e3, e4⟩ := h
          exact ⟨a, xs, ev, e1, e2, e3, h0 a e4⟩
        | exc e => exact h.elim
      · rw [List.getElem?_eq_none (by rw [List.length_set]; omega)] at e
        cases e
    · rw [List.getElem?_set_ne (Ne.symm hj)] at e
      have q := r.slot j t e
      have es : (σ.set i (some v))[j]? = σ[j]? := List.getElem?_set_ne (Ne.symm hj)
      cases t with
      | un => trivial
      | val d => obtain ⟨v, e, q⟩ := q; exact ⟨v, es.trans e, q⟩
      | own ds => obtain ⟨a, xs, e, q⟩ := q; exact ⟨a, xs, es.trans e, q⟩
      | exc e => obtain ⟨a, c, dd, e1, q⟩ := q; exact ⟨a, c, dd, es.trans e1, q⟩
  · have new : ∀ {k : Nat} {es : List D}, k ≠ i → ρ[k]? = some (.own es) → (σ.set i (some v))[k]? = some (some (.ref a)) → (σ.set i (some v))[i]? = some (some (.ref a)) → s = .own ds → False := fun {k es} hk ho ek ei hs => by
      subst hs
      obtain ⟨b, xs, rfl, _, _, _, hb⟩ := h
      rw [List.getElem?_set_ne (Ne.symm hk)] at ek
      by_cases hl : i < σ.length
      · rw [List.getElem?_set_self hl] at ei
        cases ei
        exact hu k _ es rfl hb ho ek
      · rw [List.getElem?_eq_none (by rw [List.length_set]; omega)] at ei
        cases ei
    rcases own_of e1 with ⟨z1, s1⟩ | ⟨n1, o1⟩
    · rcases own_of e2 with ⟨z2, s2⟩ | ⟨n2, o2⟩
      · rw [z1, z2]
      · subst z1
        exact (new n2 o2 e4 e3 s1).elim
    · rcases own_of e2 with ⟨z2, s2⟩ | ⟨n2, o2⟩
      · subst z2
        subst s2
        obtain ⟨b, xs, rfl, _, _, _, hb⟩ := h
        rw [List.getElem?_set_ne (Ne.symm n1)] at e3
        by_cases hl : k < σ.length
        · rw [List.getElem?_set_self hl] at e4
          cases e4
          exact (hu j _ ds rfl hb o1 e3).elim
        · rw [List.getElem?_eq_none (by rw [List.length_set]; omega)] at e4
          cases e4
      · rw [List.getElem?_set_ne (Ne.symm n1)] at e3
        rw [List.getElem?_set_ne (Ne.symm n2)] at e4
        exact r.uniq j k a ds es o1 o2 e3 e4
/-- an own list is written -/
theorem Rep.wrOwn {i : Nat} {a : Addr} {ds es : List D} {xs ys : List V} (r : Rep K mg F ρ st φ σ H) (e : ρ[i]? = some (.own ds)) (es' : σ[i]? = some (some (.ref a))) (ha : H a = some (.lst xs)) (hn : a ∉ φ) (h0 : F.H a = none)
    (h : Dens K mg φ H es ys) : Rep K mg F (ρ.set i (.own es)) st φ σ (upd H a (.lst ys)) := by
  have k : Kd φ H φ (upd H a (.lst ys)) := ⟨⟨[], (List.append_nil φ).symm⟩, fun b o eb f => by
    rw [upd_ne]
    · exact eb
    · rintro rfl
      rw [ha] at eb
      cases eb
      exact f⟩
  have hi : i < ρ.length := (List.getElem?_eq_some_iff.mp e).1
  refine ⟨by rw [List.length_set]; exact r.len, fun j t et => ?_, fun j k b ds' es'' e1 e2 e3 e4 => ?_, ⟨⟨r.post.kp.pre, fun b o eb c => ?_, r.post.kp.fresh⟩, r.sto.len, r.sto.nd, fun n c ec => ?_⟩⟩
  · by_cases hj : j = i
    · subst hj
      rw [List.getElem?_set_self hi] at et
      cases et
      exact ⟨a, ys, es', upd_same, h.keep k, hn, h0⟩
    · rw [List.getElem?_set_ne (Ne.symm hj)] at et
      have q := r.slot j t et
      cases t with
      | un => trivial
      | val d => obtain ⟨v, ev, q⟩ := q; exact ⟨v, ev, q.keep k⟩
      | own ds' =>
        obtain ⟨b, zs, eb, hb, q, hbn, hb0⟩ := q
        refine ⟨b, zs, eb, ?_, q.keep k, hbn, hb0⟩
        rw [upd_ne]
        · exact hb
        · rintro rfl
          exact hj (r.uniq j i b ds' ds et e eb es')
      | exc x => obtain ⟨b, c, dd, e1, e2, q⟩ := q; exact ⟨b, c, dd, e1, e2, q.keep k⟩
  · have old : ∀ {j : Nat} {d : List D}, (ρ.set i (.own es))[j]? = some (.own d) → ∃ d', ρ[j]? = some (.own d') := fun {j d} ej => by
      by_cases hj : j = i
      · subst hj
        exact ⟨ds, e⟩
      · rw [List.getElem?_set_ne (Ne.symm hj)] at ej
        exact ⟨d, ej⟩
    obtain ⟨d1, o1⟩ := old e1
    obtain ⟨d2, o2⟩ := old e2
    exact r.uniq j k b d1 d2 o1 o2 e3 e4
  · rw [upd_ne]
    · exact r.post.kp.same b o eb c
    · rintro rfl
      rw [h0] at eb
      cases eb
  · obtain ⟨b, hb, q⟩ := r.sto.at' n c ec
    refine ⟨b, hb, q.keep k (upd_ne ?_)⟩
    rintro rfl
    exact hn (List.mem_of_getElem? hb)
/-- an own list is written no more -/
theorem Rep.frz {i : Nat} {a : Addr} {ds : List D} {xs : List V} {o : Obj} (r : Rep K mg F ρ st φ σ H) (e : ρ[i]? = some (.own ds)) (es' : σ[i]? = some (some (.ref a))) (ha : H a = some (.lst xs)) (hn : a ∉ φ) (h0 : F.H a = none)
    (h : Dens K mg φ H ds xs) : Rep K mg F (ρ.set i (.val (.lst ds))) st φ σ (upd H a (.frz o (.lst xs))) := by
  have k : Kd φ H φ (upd H a (.frz o (.lst xs))) := ⟨⟨[], (List.append_nil φ).symm⟩, fun b o eb f => by
    rw [upd_ne]
    · exact eb
    · rintro rfl
      rw [ha] at eb
      cases eb
      exact f⟩
  have hi : i < ρ.length := (List.getElem?_eq_some_iff.mp e).1
  refine ⟨by rw [List.length_set]; exact r.len, fun j t et => ?_, fun j k b ds' es'' e1 e2 e3 e4 => ?_, ⟨⟨r.post.kp.pre, fun b o eb c => ?_, r.post.kp.fresh⟩, r.sto.len, r.sto.nd, fun n c ec => ?_⟩⟩
  · by_cases hj : j = i
    · subst hj
      rw [List.getElem?_set_self hi] at et
      cases et
      exact ⟨.ref a, es', .lst (.inl ⟨_, upd_same⟩) (h.keep k)⟩
    · rw [List.getElem?_set_ne (Ne.symm hj)] at et
      have q := r.slot j t et
      cases t with
      | un => trivial
      | val d => obtain ⟨v, ev, q⟩ := q; exact ⟨v, ev, q.keep k⟩
      | own ds' =>
        obtain ⟨b, zs, eb, hb, q, hbn, hb0⟩ := q
        refine ⟨b, zs, eb, ?_, q.keep k, hbn, hb0⟩
        rw [upd_ne]
        · exact hb
        · rintro rfl
          exact hj (r.uniq j i b ds' ds et e eb es')
      | exc x => obtain ⟨b, c, dd, e1, e2, q⟩ := q; exact ⟨b, c, dd, e1, e2, q.keep k⟩
  · have old : ∀ {j : Nat} {d : List D}, (ρ.set i (.val (.lst ds)))[j]? = some (.own d) → ρ[j]? = some (.own d) := fun {j d} ej => by
      by_cases hj : j = i
      · subst hj
        rw [List.getElem?_set_self hi] at ej
        cases ej
      · rw [List.getElem?_set_ne (Ne.symm hj)] at ej
        exact ej
    exact r.uniq j k b ds' es'' (old e1) (old e2) e3 e4
  · rw [upd_ne]
    · exact r.post.kp.same b o eb c
    · rintro rfl
      rw [h0] at eb
      cases eb
  · obtain ⟨b, hb, q⟩ := r.sto.at' n c ec
    refine ⟨b, hb, q.keep k (upd_ne ?_)⟩
    rintro rfl
    exact hn (List.mem_of_getElem? hb)
/-- slots forgotten -/
theorem Rep.un {i : Nat} {o : Option V} (r : Rep K mg F ρ st φ σ H) : Rep K mg F (ρ.set i .un) st φ (σ.set i o) H := by
  refine ⟨by rw [List.length_set, List.length_set]; exact r.len, fun j t e => ?_, fun j k a ds es e1 e2 e3 e4 => ?_, r.post⟩
  · by_cases hj : j = i
    · subst hj
      by_cases hl : j < ρ.length
      · rw [List.getElem?_set_self hl] at e
        cases e
        trivial
      · rw [List.getElem?_eq_none (by rw [List.length_set]; omega)] at e
        cases e
    · rw [List.getElem?_set_ne (Ne.symm hj)] at e
      have q := r.slot j t e
      have es : (σ.set i o)[j]? = σ[j]? := List.getElem?_set_ne (Ne.symm hj)
      cases t with
      | un => trivial
      | val d => obtain ⟨v, e, q⟩ := q; exact ⟨v, es.trans e, q⟩
      | own ds => obtain ⟨a, xs, e, q⟩ := q; exact ⟨a, xs, es.trans e, q⟩
      | exc e => obtain ⟨a, c, dd, e1, q⟩ := q; exact ⟨a, c, dd, es.trans e1, q⟩
  · have old : ∀ {j : Nat} {d : List D}, (ρ.set i .un)[j]? = some (.own d) → j ≠ i ∧ ρ[j]? = some (.own d) := fun {j d} ej => by
      by_cases hj : j = i
      · subst hj
        by_cases hl : j < ρ.length
        · rw [List.getElem?_set_self hl] at ej
          cases ej
        · rw [List.getElem?_eq_none (by rw [List.length_set]; omega)] at ej
          cases ej
      · rw [List.getElem?_set_ne (Ne.symm hj)] at ej
        exact ⟨hj, ej⟩
    obtain ⟨n1, o1⟩ := old e1
    obtain ⟨n2, o2⟩ := old e2
    rw [List.getElem?_set_ne (Ne.symm n1)] at e3
    rw [List.getElem?_set_ne (Ne.symm n2)] at e4
    exact r.uniq j k a ds es o1 o2 e3 e4
end

/-! ### new lists -/
/-- an expression that makes a list anew -/
def rF (K : PySem.W.Frag) (mg : Str → Option Value) (F : Fr) (W : WX) (m : AM) : TE := fun σ H Q => ∃ ρ st φ, Rep K mg F ρ st φ σ H ∧ fin K mg φ H (fun c d H' => W c d σ H') (m ρ st) fun ds _ φ' H' => ∀ v, SVal K mg H φ' H' (.own ds) v → Q v H'
abbrev SF (X : Cx) (F : Fr) (W : WX) (e : Expr) (m : AM) : Prop := PE X e (rF X.K X.mg F W m)
/-- a thing is frozen as soon as it is made -/
def tFz (t : TE) : TE := fun σ H Q => t σ H fun v H1 => ∃ a u, v = .ref a ∧ H1 a = some u ∧ Mut (some u) ∧ ∀ o, Q v (upd H1 a (.frz o u))
section
variable {X : Cx} {F : Fr} {W : WX} {b : Bool} {pos : Pos}
theorem pe_fz {e : Expr} {t : TE} (h : PE X e t) : PE X e (tFz t) := by
  refine ⟨fun pins s σ H Q I q => ?_⟩
  refine thn (h.run pins s σ H _ I q) fun v s1 ⟨x, H1, I1, r, a, u, e1, e2, mu, q1⟩ => ?_
  obtain ⟨o, I2⟩ := I1.lock e2 mu
  exact ⟨x, _, I2, r, q1 o⟩
/-- frozen: it is only read from then on -/
def eFz (m : AM) : EM := fun ρ st => (m ρ st).bind fun ds st1 => .ok (.lst ds) st1
/-- a list that was not there, changed -/
theorem Post.chg {K : PySem.W.Frag} {mg : Str → Option Value} {φ φ1 : List Addr} {H H1 : Hp} {st1 : Sto} {a : Addr} {o u : HO} (p : Post K mg φ H st1 φ1 H1) (h0 : H a = none) (h1 : H1 a = some o) (nf : ¬ Fz o) (hn : a ∉ φ1) : Post K mg φ H st1 φ1 (upd H1 a u) := by
  refine ⟨⟨p.kp.pre, fun c w e f => ?_, p.kp.fresh⟩, p.sto.len, p.sto.nd, fun n c e => ?_⟩
  · rw [upd_ne (ne_of_none e h0)]
    exact p.kp.same c w e f
  · obtain ⟨c', hc, q⟩ := p.sto.at' n c e
    refine ⟨c', hc, q.keep ⟨⟨[], (List.append_nil φ1).symm⟩, fun d w ed f => ?_⟩ (upd_ne ?_)⟩
    · rw [upd_ne]
      · exact ed
      · rintro rfl
        rw [h1] at ed
        cases ed
        exact nf f
    · rintro rfl
      exact hn (List.mem_of_getElem? hc)
theorem Dens.chg {K : PySem.W.Frag} {mg : Str → Option Value} {φ : List Addr} {H : Hp} {a : Addr} {o u : HO} {ds : List D} {xs : List V} (h : Dens K mg φ H ds xs) (h1 : H a = some o) (nf : ¬ Fz o) : Dens K mg φ (upd H a u) ds xs :=
  h.keep ⟨⟨[], (List.append_nil φ).symm⟩, fun d w ed f => by
    rw [upd_ne]
    · exact ed
    · rintro rfl
      rw [h1] at ed
      cases ed
      exact nf f⟩
theorem sf_fz {e : Expr} {m : AM} (h : SF X F W e m) : PE X e (rE X.K X.mg F W b (eFz m)) := by
  refine (pe_fz h).impS fun σ H Q ⟨ρ, st, φ, r, q⟩ => ⟨ρ, st, φ, r, ?_⟩
  unfold eFz at q
  cases em : m ρ st with
  | ok ds st1 =>
    rw [em] at q
    intro φ1 H1 p1 v hv
    obtain ⟨a, xs, rfl, ha, hs, hn, h0⟩ := hv
    exact ⟨a, _, rfl, ha, trivial, fun o => q φ1 _ (p1.chg h0 ha id hn) _ (RDen.of (.lst (.inl ⟨_, upd_same⟩) (hs.chg ha id)))⟩
  | exc e st1 => rw [em] at q; exact q
  | stuck => rw [em] at q; exact q
/-- as a cell of the store -/
def eCl (m : AM) : EM := fun ρ st => (m ρ st).bind fun ds st1 => .ok (.loc st1.length) (st1 ++ [.lst ds])
theorem sf_cell {e : Expr} {m : AM} (h : SF X F W e m) : PE X e (rE X.K X.mg F W b (eCl m)) := by
  refine h.impS fun σ H Q ⟨ρ, st, φ, r, q⟩ => ⟨ρ, st, φ, r, ?_⟩
  unfold eCl at q
  cases em : m ρ st with
  | ok ds st1 =>
    rw [em] at q
    intro φ1 H1 p1 v hv
    obtain ⟨a, xs, rfl, ha, hs, hn, h0⟩ := hv
    have k : Kd φ1 H1 (φ1 ++ [a]) H1 := ⟨⟨[a], rfl⟩, fun _ _ e _ => e⟩
    refine q (φ1 ++ [a]) H1 ⟨⟨?_, p1.kp.same, fun c m n => ?_⟩, ?_⟩ _ (RDen.of (.loc ?_))
    · obtain ⟨more, e⟩ := p1.kp.pre
      exact ⟨more ++ [a], by rw [e, List.append_assoc]⟩
    · rcases List.mem_append.mp m with m | m
      · exact p1.kp.fresh c m n
      · rw [List.mem_singleton.mp m]; exact h0
    · refine ⟨by simp [p1.sto.len], ?_, fun n c e => ?_⟩
      · rw [List.nodup_append]
        refine ⟨p1.sto.nd, by simp, fun x hx y hy => ?_⟩
        rw [List.mem_singleton.mp hy]
        rintro rfl
        exact hn hx
      · by_cases hl : n < st1.length
        · rw [List.getElem?_append_left hl] at e
          obtain ⟨c', hc, z⟩ := p1.sto.at' n c e
          exact ⟨c', by rw [List.getElem?_append_left (by rw [p1.sto.len]; exact hl)]; exact hc, z.keep k rfl⟩
        · rw [List.getElem?_append_right (Nat.le_of_not_lt hl)] at e
          obtain ⟨g0, _⟩ := List.getElem?_eq_some_iff.mp e
          have hz : n = st1.length := by
            have z : n - st1.length < 1 := g0
            omega
          subst hz
          rw [Nat.sub_self] at e
          cases e
          exact ⟨a, by rw [← p1.sto.len, List.getElem?_append_right (Nat.le_refl _), Nat.sub_self]; rfl, xs, ha, hs.keep k⟩
    · rw [← p1.sto.len, List.getElem?_append_right (Nat.le_refl _), Nat.sub_self]
      rfl
  | exc e st1 => rw [em] at q; exact q
  | stuck => rw [em] at q; exact q
/-- read at once -/
theorem sf_bor {e : Expr} {m : AM} (h : SF X F W e m) : SB X F W e (eFz m) := by
  refine h.impS fun σ H Q ⟨ρ, st, φ, r, q⟩ => ⟨ρ, st, φ, r, ?_⟩
  unfold eFz at q
  cases em : m ρ st with
  | ok ds st1 =>
    rw [em] at q
    intro φ1 H1 p1 v hv
    obtain ⟨a, xs, rfl, ha, hs, hn, h0⟩ := hv
    exact q φ1 H1 p1 _ (.inr ⟨a, xs, ds, rfl, rfl, ha, hn, hs⟩)
  | exc e st1 => rw [em] at q; exact q
  | stuck => rw [em] at q; exact q

/-! ### displays -/
def ALen (m : AM) (n : Nat) : Prop := ∀ ρ st ds st', m ρ st = .ok ds st' → ds.length = n
theorem alen_nil : ALen aNil 0 := fun ρ st ds st' e => by
  cases e
  rfl
theorem alen_cons {m : EM} {k : AM} {n : Nat} (h : ALen k n) : ALen (aCons m k) (n + 1) := fun ρ st ds st' e => by
  unfold aCons at e
  cases e1 : m ρ st with
  | ok d st1 =>
    rw [e1] at e
    have e : ((k ρ st1).bind fun xs st2 => .ok (d :: xs) st2) = .ok ds st' := e
    cases e2 : k ρ st1 with
    | ok xs st2 =>
      rw [e2] at e
      cases e
      exact congrArg (· + 1) (h _ _ _ _ e2)
    | exc e' st2 => rw [e2] at e; cases e
    | stuck => rw [e2] at e; cases e
  | exc e' st1 => rw [e1] at e; cases e
  | stuck => rw [e1] at e; cases e
theorem RDens.dens {K : PySem.W.Frag} {mg : Str → Option Value} {φ : List Addr} {H : Hp} : ∀ {ds : List D} {vs : List V}, RDens K mg false φ H ds vs → Dens K mg φ H ds vs
  | _, _, .nil => .nil
  | _, _, .cons h t => .cons h (RDens.dens t)
def eTup (m : AM) : EM := fun ρ st => (m ρ st).bind fun ds st1 => .ok (.tup ds) st1
theorem Dens.lines {K : PySem.W.Frag} {mg : Str → Option Value} {φ : List Addr} {H : Hp} {ds : List D} {vs : List V} {n : Nat} (h : Dens K mg φ H ds vs) (e : ds.length = n) (hn : n ≤ 1000) : vs.length ≤ sizeLine := by
  rw [← h.length, e]
  exact Nat.le_of_lt (small1000 hn)
theorem se_tup {es : List Expr} {m : AM} {j n : Nat} (h : SA X F W false es m) (hl : ALen m n) (hn : n ≤ 1000 := by decide) : PE X (.Tuple es j pos) (rE X.K X.mg F W b (eTup m)) := by
  refine L2.PE.impS (pe_tup h) fun σ H Q ⟨ρ, st, φ, r, q⟩ => ⟨ρ, st, φ, r, ?_⟩
  unfold eTup at q
  cases em : m ρ st with
  | ok ds st1 =>
    rw [em] at q
    intro φ1 H1 p1 vs hv
    have hd := hv.dens
    refine ⟨hd.lines (hl ρ st ds st1 em) hn, fun p hp => ?_⟩
    exact q φ1 _ (p1.trans (Post.new p1.sto hp)) _ (RDen.of (.tup (SqT.of upd_same) (hd.keep (Kp.new hp).d)))
  | exc e st1 => rw [em] at q; exact q
  | stuck => rw [em] at q; exact q
theorem sf_lst {es : List Expr} {m : AM} {n : Nat} (h : SA X F W false es m) (hl : ALen m n) (hn : n ≤ 1000 := by decide) : SF X F W (.List es pos) m := by
  refine L2.PE.impS (pe_lst h) fun σ H Q ⟨ρ, st, φ, r, q⟩ => ⟨ρ, st, φ, r, ?_⟩
  cases em : m ρ st with
  | ok ds st1 =>
    rw [em] at q
    intro φ1 H1 p1 vs hv
    have hd := hv.dens
    refine ⟨hd.lines (hl ρ st ds st1 em) hn, fun p hp => ?_⟩
    exact q φ1 _ (p1.trans (Post.new p1.sto hp)) _ ⟨p, vs, rfl, upd_same, hd.keep (Kp.new hp).d, p1.sto.free hp, p1.noneOf r.sto hp⟩
  | exc e st1 => rw [em] at q; exact q
  | stuck => rw [em] at q; exact q

/-! ### statements -/
def sNil : SM := fun ρ st => .nx ρ st
def sSeq (m n : SM) : SM := fun ρ st => match m ρ st with
  | .nx ρ' st' => n ρ' st'
  | o => o
theorem sx_nil : SXs X F W [] sNil := L2.PSs.impS pss_nil fun D σ H ⟨ρ, st, φ, r, q⟩ => q φ σ H r Kd.refl
theorem sx_one {s : Stmt} {m : SM} (h : SX X F W s m) : SXs X F W [s] m := pss_one h
theorem sx_cons {s : Stmt} {r : List Stmt} {m n : SM} (h : SX X F W s m) (k : SXs X F W r n) : SXs X F W (s :: r) (sSeq m n) := by
  refine L2.PSs.impS (pss_cons h k) fun D σ H ⟨ρ, st, φ, rp, q⟩ => ⟨ρ, st, φ, rp, ?_⟩
  unfold sSeq at q
  cases e : m ρ st with
  | nx ρ' st' => rw [e] at q; exact fun φ' σ' H' r' k => ⟨ρ', st', φ', r', finS_step k q⟩
  | rt d st' => rw [e] at q; exact q
  | bk ρ' st' => rw [e] at q; exact q
  | ct ρ' st' => rw [e] at q; exact q
  | exc x ρ' st' => rw [e] at q; exact q
  | stuck => rw [e] at q; exact q
/-- an own list is frozen between two statements -/
def sFrz (i : Nat) (m : SM) : SM := fun ρ st => match ρ[i]? with
  | some (.own ds) => m (ρ.set i (.val (.lst ds))) st
  | _ => m ρ st
theorem sx_frz {i : Nat} {ss : List Stmt} {m : SM} (h : SXs X F W ss m) : SXs X F W ss (sFrz i m) := by
  refine ⟨fun pins s σ H D I ⟨ρ, st, φ, r, q⟩ => ?_⟩
  unfold sFrz at q
  cases e : ρ[i]? with
  | none => rw [e] at q; exact h.run pins s σ H D I ⟨ρ, st, φ, r, q⟩
  | some t =>
    rw [e] at q
    cases t with
    | own ds =>
      obtain ⟨a, xs, e1, ha, hs, hn, h0⟩ := r.slot i _ e
      obtain ⟨o, I2⟩ := I.lock ha trivial
      refine h.run pins s σ _ D I2 ⟨_, st, φ, r.frz e e1 ha hn h0 hs, finS_step ⟨⟨[], (List.append_nil φ).symm⟩, fun c u ec f => ?_⟩ q⟩
      rw [upd_ne]
      · exact ec
      · rintro rfl
        rw [ha] at ec
        cases ec
        exact f
    | un => exact h.run pins s σ H D I ⟨ρ, st, φ, r, q⟩
    | val d => exact h.run pins s σ H D I ⟨ρ, st, φ, r, q⟩
    | exc x => exact h.run pins s σ H D I ⟨ρ, st, φ, r, q⟩
def sRet (m : EM) : SM := fun ρ st => match m ρ st with
  | .ok d st1 => .rt d st1
  | .exc e st1 => .exc e ρ st1
  | .stuck => .stuck
theorem sx_ret {e : Expr} {m : EM} (h : SE X F W e m) : SX X F W (.Return (some e) pos) (sRet m) := by
  refine L2.PS.impS (ps_ret h) fun D σ H ⟨ρ, st, φ, rp, q⟩ => ⟨ρ, st, φ, rp, ?_⟩
  unfold sRet at q
  cases em : m ρ st with
  | ok d st1 => rw [em] at q; exact fun φ' H' p v dv => q φ' H' v (rp.post.trans p) dv
  | exc x st1 => rw [em] at q; exact fun c dd φ' H' p ed => q c dd φ' σ H' (rp.step p) p.kp.d ed
  | stuck => rw [em] at q; exact q
/-- an expression's outcome and what follows -/
def sThen {α : Type} (ρ : Rho) (o : Out α) (f : α → Sto → SOut) : SOut := match o with
  | .ok d st1 => f d st1
  | .exc e st1 => .exc e ρ st1
  | .stuck => .stuck
theorem finS_then {α : Type} {ρ : Rho} {st : Sto} {φ : List Addr} {σ : L2.St} {H : Hp} {o : Out α} {f : α → Sto → SOut} {D : Ends} (rp : Rep X.K X.mg F ρ st φ σ H) (q : finS X.K X.mg F W D φ H (sThen ρ o f)) :
    fin X.K X.mg φ H (fun c d H' => W c d σ H') o fun d st1 φ1 H1 => finS X.K X.mg F W D φ1 H1 (f d st1) := by
  cases o with
  | ok d st1 => exact fun φ1 H1 p => finS_step p.kp.d q
  | exc x st1 => exact fun c dd φ' H' p ed => q c dd φ' σ H' (rp.step p) p.kp.d ed
  | stuck => exact q
def sExpr (m : EM) : SM := fun ρ st => sThen ρ (m ρ st) fun _ st1 => .nx ρ st1
theorem sx_expr {e : Expr} {m : EM} (h : SE X F W e m) (hs : swapsWith e none pos.line X.env = pure false := by rfl) : SX X F W (.Expr e pos) (sExpr m) :=
  L2.PS.impS (ps_expr h hs) fun D σ H ⟨ρ, st, φ, rp, q⟩ => ⟨ρ, st, φ, rp, fin_imp (finS_then rp q) fun d st1 φ1 H1 p1 q1 _ _ => q1 φ1 σ H1 (rp.step p1) Kd.refl⟩
def sIf (c : BM) (m n : SM) : SM := fun ρ st => sThen ρ (c ρ st) fun k st1 => if k = true then m ρ st1 else n ρ st1
theorem sx_if {c : Expr} {a d : List Stmt} {mc : BM} {m n : SM} (hc : SC X F W c mc) (h : SXs X F W a m) (k : SXs X F W d n) : SX X F W (.If c a d pos) (sIf mc m n) := by
  refine L2.PS.impS (ps_if hc h k) fun D σ H ⟨ρ, st, φ, rp, q⟩ => ⟨ρ, st, φ, rp, fin_imp (finS_then rp q) fun d st1 φ1 H1 p1 q1 => ?_⟩
  cases d with
  | true => exact ⟨ρ, st1, φ1, rp.step p1, q1⟩
  | false => exact ⟨ρ, st1, φ1, rp.step p1, q1⟩
def sBk : SM := fun ρ st => .bk ρ st
def sCt : SM := fun ρ st => .ct ρ st
theorem sx_pass : SX X F W (.Pass pos) sNil := L2.PS.impS ps_pass fun D σ H ⟨ρ, st, φ, r, q⟩ => q φ σ H r Kd.refl
theorem sx_break : SX X F W (.Break pos) sBk := L2.PS.impS ps_break fun D σ H ⟨ρ, st, φ, r, q⟩ => q φ σ H r Kd.refl
theorem sx_continue : SX X F W (.Continue pos) sCt := L2.PS.impS ps_continue fun D σ H ⟨ρ, st, φ, r, q⟩ => q φ σ H r Kd.refl

/-! ### targets -/
abbrev TgM := D → Rho → Option Rho
abbrev TgMs := List D → Rho → Option Rho
/-- σ' is σ but for the slots vs -/
def Off (vs : List Nat) (σ σ' : L2.St) : Prop := σ'.length = σ.length ∧ ∀ j, j ∉ vs → σ'[j]? = σ[j]?
theorem Off.refl {vs : List Nat} {σ : L2.St} : Off vs σ σ := ⟨rfl, fun _ _ => rfl⟩
theorem Off.trans {vs : List Nat} {σ σ1 σ2 : L2.St} (a : Off vs σ σ1) (b : Off vs σ1 σ2) : Off vs σ σ2 := ⟨b.1.trans a.1, fun j h => (b.2 j h).trans (a.2 j h)⟩
def rG (K : PySem.W.Frag) (mg : Str → Option Value) (F : Fr) (vs : List Nat) (t : TgM) : TG := fun v σ H Q => ∃ ρ st φ d, Rep K mg F ρ st φ σ H ∧ Den K mg φ H d v ∧ ∃ ρ', t d ρ = some ρ' ∧ ∀ σ', Rep K mg F ρ' st φ σ' H → Off vs σ σ' → Q σ' H
abbrev SG (X : Cx) (F : Fr) (vs : List Nat) (tg : Expr) (t : TgM) : Prop := PG X tg (rG X.K X.mg F vs t)
def rGs (K : PySem.W.Frag) (mg : Str → Option Value) (F : Fr) (vs : List Nat) (t : TgMs) : TGs := fun ws σ H Q => ∃ ρ st φ ds, Rep K mg F ρ st φ σ H ∧ Dens K mg φ H ds ws ∧ ∃ ρ', t ds ρ = some ρ' ∧ ∀ σ', Rep K mg F ρ' st φ σ' H → Off vs σ σ' → Q σ' H
abbrev SGs (X : Cx) (F : Fr) (vs : List Nat) (tg : List Expr) (t : TgMs) : Prop := PGs X tg (rGs X.K X.mg F vs t)
def tgName (i : Nat) : TgM := fun d ρ => some (ρ.set i (.val d))
def tgNil : TgMs := fun ds ρ => match ds with
  | [] => some ρ
  | _ => none
def tgCons (t : TgM) (u : TgMs) : TgMs := fun ds ρ => match ds with
  | d :: r => (t d ρ).bind (u r)
  | [] => none
def tgTup (n : Nat) (u : TgMs) : TgM := fun d ρ => match d with
  | .tup ds => if ds.length = n then u ds ρ else none
  | _ => none
theorem sg_name {vs : List Nat} {i : Nat} {x : Str} (h : PG X (.Name x pos) (gName i)) (hi : i ∈ vs := by simp) : SG X F vs (.Name x pos) (tgName i) := by
  refine ⟨fun pins s σ H v u Q I r ⟨ρ, st, φ, d, rp, dv, ρ', e, q⟩ => h.run pins s σ H v u Q I r ?_⟩
  cases e
  refine q _ (rp.set dv) ⟨List.length_set .., fun j hj => List.getElem?_set_ne ?_⟩
  rintro rfl
  exact hj hi
theorem sgs_nil {vs : List Nat} : SGs X F vs [] tgNil := by
  refine ⟨fun pins s σ H ws us Q I r ⟨ρ, st, φ, ds, rp, dv, ρ', e, q⟩ => pgs_nil.run pins s σ H ws us Q I r ?_⟩
  cases dv with
  | nil => cases e; exact ⟨rfl, q σ rp Off.refl⟩
  | cons _ _ => cases e
theorem sgs_cons {vs : List Nat} {e : Expr} {es : List Expr} {t : TgM} {u : TgMs} (h : SG X F vs e t) (k : SGs X F vs es u)
    (hs : (assignEach (e :: es) X.env).map (·.2) = assign e X.env :: (assignEach es X.env).map (·.2) := by rfl) : SGs X F vs (e :: es) (tgCons t u) := by
  refine ⟨fun pins s σ H ws us Q I r ⟨ρ, st, φ, ds, rp, dv, ρ', et, q⟩ => (pgs_cons h k hs).run pins s σ H ws us Q I r ?_⟩
  cases dv with
  | nil => cases et
  | @cons d v ds ws hd hds =>
    unfold tgCons at et
    cases e1 : t d ρ with
    | none => simp [e1] at et
    | some ρ1 =>
      have et : u ds ρ1 = some ρ' := by simpa [e1] using et
      exact ⟨v, ws, rfl, ρ, st, φ, d, rp, hd, ρ1, e1, fun σ1 r1 o1 => ⟨ρ1, st, φ, ds, r1, hds, ρ', et, fun σ2 r2 o2 => q σ2 r2 (o1.trans o2)⟩⟩
theorem sg_tup {vs : List Nat} {es : List Expr} {k : Nat} {u : TgMs} {n : Nat} (hc : X.calm = true) (h : SGs X F vs es u) (hn : (assignEach es X.env).length = n := by rfl) (hst : (assignEach es X.env).findIdx? (·.1) = none := by rfl) :
    SG X F vs (.Tuple es k pos) (tgTup n u) := by
  refine ⟨fun pins s σ H v w Q I r ⟨ρ, st, φ, d, rp, dv, ρ', e, q⟩ => (pg_tup hc h hn hst).run pins s σ H v w Q I r ?_⟩
  cases dv with
  | @tup a xs ds hq hds =>
    unfold tgTup at e
    by_cases hl : ds.length = n
    · simp only [hl, if_true] at e
      exact ⟨a, xs, rfl, hq, by rw [← hds.length]; exact hl, ρ, st, φ, ds, rp, hds, ρ', e, q⟩
    · simp [hl] at e
  | _ => cases e
/-- target = value -/
def sAsg (m : EM) (t : TgM) : SM := fun ρ st => sThen ρ (m ρ st) fun d st1 => match t d ρ with
  | some ρ' => .nx ρ' st1
  | none => .stuck
theorem sx_asgP {vs : List Nat} {s : Stmt} {m : EM} {t : TgM} (h : PS X s (tAsg (rE X.K X.mg F W false m) (rG X.K X.mg F vs t))) : SX X F W s (sAsg m t) := by
  refine L2.PS.impS h fun D σ H ⟨ρ, st, φ, rp, q⟩ => ⟨ρ, st, φ, rp, fin_imp (finS_then rp q) fun d st1 φ1 H1 p1 q1 v dv => ?_⟩
  cases e : t d ρ with
  | none => rw [e] at q1; exact q1.elim
  | some ρ' => rw [e] at q1; exact ⟨ρ, st1, φ1, d, rp.step p1, dv, ρ', e, fun σ' r' _ => q1 φ1 σ' H1 r' Kd.refl⟩
theorem sx_asg {vs : List Nat} {tg e : Expr} {m : EM} {t : TgM} (he : SE X F W e m) (hg : SG X F vs tg t) (hs : swapsWithSole [tg] e pos.line X.env = pure false := by rfl) (hw : swappedStores [tg] e X.env = pure none := by rfl)
    (h1 : (assignEach [tg] X.env).map (·.2) = [assign tg X.env] := by rfl) : SX X F W (.Assign [tg] e pos) (sAsg m t) := sx_asgP (ps_asg he hg hs hw h1)
def sSet (i : Nat) (m : EM) : SM := fun ρ st => sThen ρ (m ρ st) fun d st1 => .nx (ρ.set i (.val d)) st1
/-- name = value; te: the reading that the library's rule wants -/
theorem sx_setP {s : Stmt} {i : Nat} {m : EM} {te : TE} (h : PS X s (tAsg te (gName i))) (ht : ∀ σ H Q, rE X.K X.mg F W false m σ H Q → te σ H Q) : SX X F W s (sSet i m) := by
  refine L2.PS.impS h fun D σ H ⟨ρ, st, φ, rp, q⟩ => ht _ _ _ ⟨ρ, st, φ, rp, fin_imp (finS_then rp q) fun d st1 φ1 H1 p1 q1 v dv => ?_⟩
  exact q1 φ1 _ H1 ((rp.step p1).set dv) Kd.refl
theorem sx_set {i : Nat} {x : Str} {e : Expr} {m : EM} {pos' : Pos} (hN : X.N.Nodup) (he : SE X F W e m) (hi : X.N[i]? = some x := by rfl) (hx : Loc X.env.scope x := by first | exact Or.inl rfl | exact Or.inr rfl) (hs : swapsWith e (some (.Name x pos')) pos.line X.env = pure false := by rfl)
    (hf : X.fn x = true ∨ X.env.scope.names.lookup x = some .local := by first | exact .inl rfl | exact .inr rfl) : SX X F W (.Assign [.Name x pos'] e pos) (sSet i m) :=
  sx_setP (ps_set hN hi hx he hs hf) fun _ _ _ q => q
def sSetF (i : Nat) (m : AM) : SM := fun ρ st => sThen ρ (m ρ st) fun ds st1 => .nx (ρ.set i (.own ds)) st1
theorem sx_setFP {s : Stmt} {i : Nat} {m : AM} {te : TE} (h : PS X s (tAsg te (gName i))) (ht : ∀ σ H Q, rF X.K X.mg F W m σ H Q → te σ H Q) : SX X F W s (sSetF i m) := by
  refine L2.PS.impS h fun D σ H ⟨ρ, st, φ, rp, q⟩ => ht _ _ _ ⟨ρ, st, φ, rp, fin_imp (finS_then rp q) fun ds st1 φ1 H1 p1 q1 v hv => ?_⟩
  refine q1 φ1 _ H1 ((rp.step p1).setS (s := .own ds) (v := v) (H0 := H) hv (fun a h => rp.free0 h) fun j a es ev h0 ej es' => ?_) Kd.refl
  obtain ⟨c, xs, e1, hc, _⟩ := rp.slot j _ ej
  rw [e1] at es'
  cases es'
  rw [h0] at hc
  cases hc
theorem sx_setF {i : Nat} {x : Str} {e : Expr} {m : AM} {pos' : Pos} (hN : X.N.Nodup) (he : SF X F W e m) (hi : X.N[i]? = some x := by rfl) (hx : Loc X.env.scope x := by first | exact Or.inl rfl | exact Or.inr rfl) (hs : swapsWith e (some (.Name x pos')) pos.line X.env = pure false := by rfl)
    (hf : X.fn x = true ∨ X.env.scope.names.lookup x = some .local := by first | exact .inl rfl | exact .inr rfl) : SX X F W (.Assign [.Name x pos'] e pos) (sSetF i m) :=
  sx_setFP (ps_set hN hi hx he hs hf) fun _ _ _ q => q
end
end Sx
/-! Sx4: what is walked, for, while, comprehensions -/
namespace Sx
open PySem L2

/-- an iterator over the data ds; b: while nothing but cells is written, else: as long as what never changes stands -/
def ItOk (K : PySem.W.Frag) (mg : Str → Option Value) (b : Bool) (J : It) (ds : List D) (φ : List Addr) (H : Hp) : Prop :=
  ∀ φ' H', (if b = true then Kp φ H φ' H' else Kd φ H φ' H') → ∀ st', StoOk K mg φ' H' st' →
    (∀ i, ds.length ≤ i → J.stop i H') ∧ ∀ (i : Nat) (d : D), ds[i]? = some d → J.go i H' ∧ ∀ x H'', J.yld i H' x H'' → Post K mg φ' H' st' φ' H'' ∧ Den K mg φ' H'' d x
def rI (K : PySem.W.Frag) (mg : Str → Option Value) (F : Fr) (W : WX) (b : Bool) (m : AM) : TI := fun σ H R => ∃ ρ st φ, Rep K mg F ρ st φ σ H ∧
  fin K mg φ H (fun c d H' => W c d σ H') (m ρ st) fun ds _ φ' H' => ∀ J, ItOk K mg b J ds φ' H' → ds.length ≤ sizeLine → R J H'
abbrev SI (X : Cx) (F : Fr) (W : WX) (b : Bool) (tg e : Expr) (m : AM) : Prop := PI X tg e (rI X.K X.mg F W b m)

/-- the items of a thing -/
def itemsOf : D → Option (List D)
  | .lst ds => some ds
  | .tup ds => some ds
  | .str s => some (s.cps.toList.map fun c => .str ⟨#[c]⟩)
  | _ => none
def itS (m : EM) : AM := fun ρ st => (m ρ st).bind fun d st1 => match itemsOf d with
  | some ds => if ds.length ≤ sizeLine then .ok ds st1 else .stuck
  | none => .stuck

section
variable {K : PySem.W.Frag} {mg : Str → Option Value} {φ : List Addr} {H : Hp}
theorem Kd.of {b : Bool} {φ' : List Addr} {H' : Hp} (k : if b = true then Kp φ H φ' H' else Kd φ H φ' H') : Kd φ H φ' H' := by
  cases b
  · exact k
  · exact Kp.d k
theorem itok_list {b : Bool} {a : Addr} {xs : List V} {ds : List D} (hs : Dens K mg φ H ds xs) (h : ∀ φ' H', (if b = true then Kp φ H φ' H' else Kd φ H φ' H') → SqL K H' a xs) : ItOk K mg b (Itl K a) ds φ H := by
  intro φ' H' k st' so
  have q := h φ' H' k
  have l := hs.length
  refine ⟨fun i hi => ⟨xs, q, by rw [← l]; exact hi⟩, fun i d e => ?_⟩
  obtain ⟨v, ev, dv⟩ := hs.get e
  refine ⟨⟨xs, v, q, ev⟩, fun x H'' y => ?_⟩
  obtain ⟨rfl, y⟩ := y
  have z := y xs q
  rw [ev] at z
  cases z
  exact ⟨Post.refl so, dv.keep (Kd.of k)⟩
theorem itok_tup {b : Bool} {a : Addr} {xs : List V} {ds : List D} (hs : Dens K mg φ H ds xs) (h : SqT K H a xs) : ItOk K mg b (Itt K a) ds φ H := by
  intro φ' H' k st' so
  have q := SqT.keep (Kd.of k) h
  have l := hs.length
  refine ⟨fun i hi => ⟨xs, q, by rw [← l]; exact hi⟩, fun i d e => ?_⟩
  obtain ⟨v, ev, dv⟩ := hs.get e
  refine ⟨⟨xs, v, q, ev⟩, fun x H'' y => ?_⟩
  obtain ⟨rfl, y⟩ := y
  have z := y xs q
  rw [ev] at z
  cases z
  exact ⟨Post.refl so, dv.keep (Kd.of k)⟩
theorem itok_str {b : Bool} {s : Str} : ItOk K mg b (Its s) (s.cps.toList.map fun c => .str ⟨#[c]⟩) φ H := by
  intro φ' H' k st' so
  refine ⟨fun i hi => ?_, fun i d e => ?_⟩
  · show s.cps.size ≤ i
    simpa using hi
  · rw [List.getElem?_map] at e
    cases ec : s.cps.toList[i]? with
    | none => rw [ec] at e; cases e
    | some c =>
      rw [ec] at e
      cases e
      have hi : i < s.cps.size := by simpa using (List.getElem?_eq_some_iff.mp ec).1
      refine ⟨hi, fun x H'' y => ?_⟩
      obtain ⟨rfl, c', hc, rfl⟩ := y
      have z : s.cps.toList[i]? = some c' := by simpa using hc
      rw [ec] at z
      cases z
      exact ⟨Post.refl so, .str _⟩
def dints (lo : Int) (n : Nat) : List D := (List.range n).map fun k => .int (lo + (k : Nat))
theorem dints_length (lo : Int) (n : Nat) : (dints lo n).length = n := by simp [dints]
theorem itok_range {b : Bool} {lo : Int} {n : Nat} : ItOk K mg b (Itr lo n) (dints lo n) φ H := by
  intro φ' H' k st' so
  refine ⟨fun i hi => by rw [dints_length] at hi; exact hi, fun i d e => ?_⟩
  have hi : i < n := by
    have z := (List.getElem?_eq_some_iff.mp e).1
    rwa [dints_length] at z
  refine ⟨hi, fun x H'' y => ?_⟩
  obtain ⟨rfl, rfl⟩ := y
  have ed : d = .int (lo + (i : Nat)) := by
    have z : (dints lo n)[i]? = some (.int (lo + (i : Nat))) := by simp [dints, hi]
    rw [z] at e
    cases e
    rfl
  subst ed
  exact ⟨Post.refl so, .int _⟩
end
section
variable {X : Cx} {F : Fr} {W : WX} {b : Bool} {pos : Pos} {tg : Expr}
theorem si_val {e : Expr} {m : EM} (h : PE X e (rE X.K X.mg F W b m)) : SI X F W b tg e (itS m) := by
  refine ⟨fun pins s σ H R I ⟨ρ, st, φ, rp, q⟩ => ?_⟩
  unfold itS at q
  refine thn (h.run pins s σ H (fun v H1 => ∃ d ds st1 φ1, RDen X.K X.mg b φ1 H1 d v ∧ StoOk X.K X.mg φ1 H1 st1 ∧ itemsOf d = some ds ∧ ds.length ≤ sizeLine ∧ ∀ J, ItOk X.K X.mg b J ds φ1 H1 → R J H1) I ⟨ρ, st, φ, rp, fin_imp (fin_bind q) fun d st1 φ1 H1 p1 q1 v dv => ?_⟩) fun v s1 hh => ?_
  · cases e1 : itemsOf d with
    | none => rw [e1] at q1; exact q1.elim
    | some ds =>
      rw [e1] at q1
      by_cases hl : ds.length ≤ sizeLine
      · simp only [hl, if_true] at q1
        exact ⟨d, ds, st1, φ1, dv, p1.sto, e1, hl, fun J o => fin_ok p1.sto q1 J o hl⟩
      · simp only [hl, if_false] at q1
        exact q1.elim
  · obtain ⟨x, H1, I1, rx, d, ds, st1, φ1, dv, so, e1, hl, hR⟩ := hh
    -- a list
    have goL : ∀ {a : Addr} {xs : List V}, x = .ref a → SqL X.K H1 a xs → Dens X.K X.mg φ1 H1 ds xs → (∀ φ' H', (if b = true then Kp φ1 H1 φ' H' else Kd φ1 H1 φ' H') → SqL X.K H' a xs) → wpAny (model X.prog X.w) X.A (pyIter v) (PIE X pins σ tg R) X.xe s1 := fun {a xs} ex hq hs hk => by
      subst ex
      cases rx
      obtain ⟨its, rv, p, hz⟩ := I1.list hq
      refine wpAny_pyIter_list p.isList ⟨s1.heap.objs.size, [s1.heap.objs.size], _, _, H1, rfl, I1.kept (t' := s1.toks) fun b o e => Heap.get?_push_of_some _ e, turn_list a _, ⟨_, Heap.get?_push_size _ rfl, rfl, rfl⟩, fun b hb => ?_, hR _ (itok_list hs hk)⟩
      rw [List.mem_singleton.mp hb]
      exact I1.fpOk (Nat.le_refl _) (I1.hok.fresh (Nat.le_refl _))
    have main : ∀ (dv : Den X.K X.mg φ1 H1 d x), wpAny (model X.prog X.w) X.A (pyIter v) (PIE X pins σ tg R) X.xe s1 := fun dv => by
      cases dv with
      | @lst a xs ds' hf hs =>
        cases e1
        exact goL rfl hf.sq hs fun φ' H' k => (SqF.keep (Kd.of k) hf).sq
      | @tup a xs ds' hq hs =>
        cases e1
        cases rx
        obtain ⟨its, rv, p, hz⟩ := I1.tuple hq
        refine wpAny_pyIter_tuple (show s1.heap.IsTuple a its.toArray from p) ⟨s1.heap.objs.size, [s1.heap.objs.size], _, _, H1, rfl, I1.kept (t' := s1.toks) fun b o e => Heap.get?_push_of_some _ e, turn_tuple a _, ⟨_, Heap.get?_push_size _ rfl, rfl, rfl⟩, fun b hb => ?_, hR _ (itok_tup hs hq)⟩
        rw [List.mem_singleton.mp hb]
        exact I1.fpOk (Nat.le_refl _) (I1.hok.fresh (Nat.le_refl _))
      | str z =>
        cases e1
        obtain ⟨t, rfl⟩ := rx
        cases ha : z.cps.all (· < 128)
        · exact wpAny_pyIter_wide ha (pi_one (tk := s1.toks) I1 _ (turn_str _ z t "str_iterator" (.inr rfl)) ⟨_, Heap.get?_push_size _ rfl, rfl, rfl⟩ (hR _ itok_str))
        · exact wpAny_pyIter_ascii ha (pi_one (tk := s1.toks) I1 _ (turn_str _ z t "str_ascii_iterator" (.inl rfl)) ⟨_, Heap.get?_push_size _ rfl, rfl, rfl⟩ (hR _ itok_str))
      | _ => cases e1
    cases b with
    | false => exact main dv
    | true =>
      rcases (show BDen X.K X.mg φ1 H1 d x from dv) with dv | ⟨a, xs, ds', rfl, rfl, ha, hn, hs⟩
      · exact main dv
      · cases e1
        exact goL rfl (SqL.of ha) hs fun φ' H' k => SqL.of ((show Kp φ1 H1 φ' H' from k).same _ _ ha (.inl hn))
/-- range(n), range(a, b) -/
def rngOf (lo hi : Int) : Option (List D) := if -(2 ^ 62) ≤ lo ∧ lo < 2 ^ 62 ∧ -(2 ^ 62) ≤ hi ∧ hi < 2 ^ 62 ∧ (hi - lo).toNat ≤ sizeLine then some (dints lo (hi - lo).toNat) else none
def rng1 (m : AM) : AM := fun ρ st => (m ρ st).bind fun ds st1 => match ds with
  | [.int n] => match rngOf 0 n with
    | some l => .ok l st1
    | none => .stuck
  | _ => .stuck
def rng2 (m : AM) : AM := fun ρ st => (m ρ st).bind fun ds st1 => match ds with
  | [.int a, .int c] => match rngOf a c with
    | some l => .ok l st1
    | none => .stuck
  | _ => .stuck
theorem rngOf_some {lo hi : Int} {l : List D} (h : rngOf lo hi = some l) : (-(2 ^ 62) ≤ lo ∧ lo < 2 ^ 62 ∧ -(2 ^ 62) ≤ hi ∧ hi < 2 ^ 62) ∧ l = dints lo (hi - lo).toNat ∧ l.length ≤ sizeLine := by
  unfold rngOf at h
  split at h
  · rename_i c
    obtain ⟨c1, c2, c3, c4, c5⟩ := c
    cases h
    exact ⟨⟨c1, c2, c3, c4⟩, rfl, by rw [dints_length]; exact c5⟩
  · cases h
theorem si_range1 {a : Expr} {m : AM} {p : Pos} (ha : SA X F W false [a] m) (hm : X.mg "range" = none) (hg : Gl X "range" := by rfl) (hs : starEach [a] X.env = [(false, eval a X.env)] := by rfl) :
    SI X F W b tg (.Call (.Name "range" p) [a] [] pos) (rng1 m) := by
  refine L2.PI.impS (pi_range1 hg hm ha hs) fun σ H R ⟨ρ, st, φ, rp, q⟩ => ⟨ρ, st, φ, rp, fin_imp (fin_bind q) fun ds st1 φ1 H1 p1 q1 vs hv => ?_⟩
  have hv := RDens.dens hv
  match ds, q1 with
  | [.int n], q1 =>
    cases e : rngOf 0 n with
    | none => simp only [e] at q1; exact q1.elim
    | some l =>
      simp only [e] at q1
      obtain ⟨⟨c1, c2, c3, c4⟩, el, ll⟩ := rngOf_some e
      cases hv with
      | cons h t =>
        cases t
        cases h
        refine ⟨n, rfl, c3, c4, fin_ok p1.sto q1 _ ?_ ll⟩
        rw [el, Int.sub_zero]
        exact itok_range
theorem si_range2 {a c : Expr} {m : AM} {p : Pos} (ha : SA X F W false [a, c] m) (hm : X.mg "range" = none) (hg : Gl X "range" := by rfl) (hs : starEach [a, c] X.env = [(false, eval a X.env), (false, eval c X.env)] := by rfl) (hs2 : starEach [c] X.env = [(false, eval c X.env)] := by rfl) :
    SI X F W b tg (.Call (.Name "range" p) [a, c] [] pos) (rng2 m) := by
  refine L2.PI.impS (pi_range2 hg hm ha hs hs2) fun σ H R ⟨ρ, st, φ, rp, q⟩ => ⟨ρ, st, φ, rp, fin_imp (fin_bind q) fun ds st1 φ1 H1 p1 q1 vs hv => ?_⟩
  have hv := RDens.dens hv
  match ds, q1 with
  | [.int n, .int k], q1 =>
    cases e : rngOf n k with
    | none => simp only [e] at q1; exact q1.elim
    | some l =>
      simp only [e] at q1
      obtain ⟨hc, el, ll⟩ := rngOf_some e
      cases hv with
      | cons h t =>
        cases t with
        | cons h2 t2 =>
          cases t2
          cases h
          cases h2
          refine ⟨n, k, rfl, hc, fin_ok p1.sto q1 _ ?_ ll⟩
          rw [el]
          exact itok_range

/-! ### for -/
def forM (t : TgM) (body : SM) : List D → Rho → Sto → SOut
  | [], ρ, st => .nx ρ st
  | d :: ds, ρ, st => match t d ρ with
    | none => .stuck
    | some ρ1 => match body ρ1 st with
      | .nx ρ2 st2 => forM t body ds ρ2 st2
      | .ct ρ2 st2 => forM t body ds ρ2 st2
      | .bk ρ2 st2 => .nx ρ2 st2
      | o => o
def sFor (m : AM) (t : TgM) (body : SM) : SM := fun ρ st => sThen ρ (m ρ st) fun ds st1 => forM t body ds ρ st1
theorem drop_cons {α : Type} {l : List α} {i : Nat} (h : i < l.length) : l.drop i = l[i] :: l.drop (i + 1) := List.drop_eq_getElem_cons h
theorem sx_for {vs : List Nat} {it : Expr} {body : List Stmt} {m : AM} {t : TgM} {mb : SM} (hp : PassesOwn (model X.prog X.w) X.A X.env X.xe) (hi : SI X F W false tg it m) (hg : SG X F vs tg t) (hb : SXs X F W body mb) (hc : X.calm = true := by rfl) (hs : ∀ x, foldedSetIterable it X.env x = pure x := by intro _; rfl) :
    SX X F W (.For tg it body [] pos) (sFor m t mb) := by
  refine L2.PS.impS (ps_for (hs := hs) hp hc hi hg hb) fun D σ H ⟨ρ, st, φ, rp, q⟩ => ⟨ρ, st, φ, rp, fin_imp (finS_then rp q) fun ds st1 φ1 H1 p1 q1 J hJ hl => ?_⟩
  refine ⟨fun i k σ H => ∃ ρ st φ, Rep X.K X.mg F ρ st φ σ H ∧ Kd φ1 H1 φ H ∧ k = ds.length - i ∧ i ≤ ds.length ∧ finS X.K X.mg F W D φ H (forM t mb (ds.drop i) ρ st), ⟨ds.length, ρ, st1, φ1, rp.step p1, Kd.refl, rfl, Nat.zero_le _, q1⟩, ?_⟩
  rintro i k σ2 H2 ⟨ρ2, st2, φ2, r2, k2, rfl, hi2, q2⟩
  obtain ⟨j1, j2⟩ := hJ φ2 H2 k2 st2 r2.sto
  by_cases hlt : i < ds.length
  · rw [drop_cons hlt] at q2
    obtain ⟨g, y⟩ := j2 i ds[i] (List.getElem?_eq_getElem hlt)
    refine .inr ⟨g, fun σ3 H3 => ∃ ρ3 st3 φ3, Rep X.K X.mg F ρ3 st3 φ3 σ3 H3 ∧ Kd φ1 H1 φ3 H3 ∧ finS X.K X.mg F W D φ3 H3 (forM t mb (ds.drop (i + 1)) ρ3 st3), ?_, fun x H3 hy => ?_⟩
    · rintro σ3 H3 ⟨ρ3, st3, φ3, r3, k3, q3⟩
      exact ⟨ds.length - (i + 1), by omega, ρ3, st3, φ3, r3, k3, rfl, hlt, q3⟩
    · obtain ⟨p3, dx⟩ := y x H3 hy
      unfold forM at q2
      cases et : t ds[i] ρ2 with
      | none => rw [et] at q2; exact q2.elim
      | some ρ3 =>
        rw [et] at q2
        dsimp only at q2
        refine ⟨ρ2, st2, φ2, ds[i], r2.step p3, dx, ρ3, et, fun σ3 r3 _ => ⟨ρ3, st2, φ2, r3, ?_⟩⟩
        have q2 : finS X.K X.mg F W D φ2 H3 _ := finS_step p3.kp.d q2
        have k3 : Kd φ1 H1 φ2 H3 := k2.trans p3.kp.d
        cases eb : mb ρ3 st2 with
        | nx ρ4 st4 => rw [eb] at q2; exact fun φ4 σ4 H4 r4 k4 => ⟨ρ4, st4, φ4, r4, k3.trans k4, finS_step k4 q2⟩
        | ct ρ4 st4 => rw [eb] at q2; exact fun φ4 σ4 H4 r4 k4 => ⟨ρ4, st4, φ4, r4, k3.trans k4, finS_step k4 q2⟩
        | bk ρ4 st4 => rw [eb] at q2; exact q2
        | rt d st4 => rw [eb] at q2; exact q2
        | exc e ρ4 st4 => rw [eb] at q2; exact q2
        | stuck => rw [eb] at q2; exact q2
  · have e : i = ds.length := by omega
    subst e
    refine .inl ⟨j1 _ (Nat.le_refl _), ?_⟩
    rw [List.drop_length] at q2
    exact q2 φ2 σ2 H2 r2 Kd.refl

/-! ### while -/
def whM (c : BM) (body : SM) : Nat → Rho → Sto → SOut
  | 0, _, _ => .stuck
  | n + 1, ρ, st => match c ρ st with
    | .stuck => .stuck
    | .exc e st1 => .exc e ρ st1
    | .ok false st1 => .nx ρ st1
    | .ok true st1 => match body ρ st1 with
      | .nx ρ2 st2 => whM c body n ρ2 st2
      | .ct ρ2 st2 => whM c body n ρ2 st2
      | .bk ρ2 st2 => .nx ρ2 st2
      | o => o
/-- as many turns as are needed, where a number of them is enough -/
noncomputable def sWhile (c : BM) (body : SM) : SM := fun ρ st => open Classical in if h : ∃ n, whM c body n ρ st ≠ .stuck then whM c body (Classical.choose h) ρ st else .stuck
theorem whM_more (c : BM) (body : SM) : ∀ (n k : Nat) (ρ : Rho) (st : Sto), n ≤ k → whM c body n ρ st ≠ .stuck → whM c body k ρ st = whM c body n ρ st := by
  intro n
  induction n with
  | zero => intro k ρ st _ h; exact absurd rfl h
  | succ n ih =>
    intro k ρ st hk h
    cases k with
    | zero => omega
    | succ k =>
      unfold whM at h ⊢
      cases e : c ρ st with
      | stuck => rfl
      | exc x st1 => rfl
      | ok b st1 =>
        rw [e] at h
        cases b with
        | false => rfl
        | true =>
          cases eb : body ρ st1 with
          | nx ρ2 st2 => simp only [eb] at h ⊢; exact ih k ρ2 st2 (by omega) h
          | ct ρ2 st2 => simp only [eb] at h ⊢; exact ih k ρ2 st2 (by omega) h
          | bk ρ2 st2 => simp only [eb]
          | rt d st2 => simp only [eb]
          | exc x ρ2 st2 => simp only [eb]
          | stuck => simp only [eb]
theorem sWhile_of {c : BM} {body : SM} {ρ : Rho} {st : Sto} {o : SOut} (n : Nat) (h : whM c body n ρ st = o) (ho : o ≠ .stuck) : sWhile c body ρ st = o := by
  have hx : ∃ n, whM c body n ρ st ≠ .stuck := ⟨n, by rw [h]; exact ho⟩
  unfold sWhile
  rw [dif_pos hx]
  have hc := Classical.choose_spec hx
  rcases Nat.le_total n (Classical.choose hx) with hl | hl
  · rw [whM_more c body n _ ρ st hl (by rw [h]; exact ho), h]
  · rw [← whM_more c body _ n ρ st hl hc, h]
theorem sx_while {c : Expr} {body : List Stmt} {mc : BM} {mb : SM} (hp : PassesOwn (model X.prog X.w) X.A X.env X.xe) (hc : SC X F W c mc) (hb : SXs X F W body mb) : SX X F W (.While c body [] pos) (sWhile mc mb) := by
  refine L2.PS.impS (ps_while hp hc hb) fun D σ H ⟨ρ, st, φ, rp, q⟩ => ?_
  unfold sWhile at q
  split at q
  · rename_i hx
    refine ⟨fun n σ H => ∃ ρ st φ, Rep X.K X.mg F ρ st φ σ H ∧ finS X.K X.mg F W D φ H (whM mc mb n ρ st), ⟨_, ρ, st, φ, rp, q⟩, ?_⟩
    rintro n σ2 H2 ⟨ρ2, st2, φ2, r2, q2⟩
    cases n with
    | zero => exact q2.elim
    | succ n =>
      refine ⟨ρ2, st2, φ2, r2, ?_⟩
      unfold whM at q2
      cases e : mc ρ2 st2 with
      | stuck => rw [e] at q2; exact q2.elim
      | exc x st3 => rw [e] at q2; exact fun cc dd φ' H' p ed => q2 cc dd φ' σ2 H' (r2.step p) p.kp.d ed
      | ok k st3 =>
        rw [e] at q2
        intro φ3 H3 p3
        cases k with
        | false => exact q2 φ3 σ2 H3 (r2.step p3) p3.kp.d
        | true =>
          rw [if_pos rfl]
          refine ⟨fun σ4 H4 => ∃ ρ4 st4 φ4, Rep X.K X.mg F ρ4 st4 φ4 σ4 H4 ∧ finS X.K X.mg F W D φ4 H4 (whM mc mb n ρ4 st4), fun σ4 H4 ⟨ρ4, st4, φ4, r4, q4⟩ => ⟨n, Nat.lt_succ_self n, ρ4, st4, φ4, r4, q4⟩, ρ2, st3, φ3, r2.step p3, ?_⟩
          have q2 : finS X.K X.mg F W D φ3 H3 _ := finS_step p3.kp.d q2
          dsimp only at q2
          cases eb : mb ρ2 st3 with
          | nx ρ4 st4 => rw [eb] at q2; exact fun φ4 σ4 H4 r4 k4 => ⟨ρ4, st4, φ4, r4, finS_step k4 q2⟩
          | ct ρ4 st4 => rw [eb] at q2; exact fun φ4 σ4 H4 r4 k4 => ⟨ρ4, st4, φ4, r4, finS_step k4 q2⟩
          | bk ρ4 st4 => rw [eb] at q2; exact q2
          | rt d st4 => rw [eb] at q2; exact q2
          | exc e ρ4 st4 => rw [eb] at q2; exact q2
          | stuck => rw [eb] at q2; exact q2
  · exact q.elim
end
end Sx
/-! Sx5: comprehensions, defs and their calls, errors raised -/
namespace Sx
open PySem L2

def wipeR (ρ : Rho) : List Nat → Rho
  | [] => ρ
  | v :: vs => (wipeR ρ vs).set v .un
section
variable {K : PySem.W.Frag} {mg : Str → Option Value} {F : Fr} {φ : List Addr} {σ : L2.St} {H : Hp} {st : Sto} {ρ : Rho}
theorem Rep.wipe (r : Rep K mg F ρ st φ σ H) : ∀ vs : List Nat, Rep K mg F (wipeR ρ vs) st φ (wipe σ vs) H
  | [] => r
  | v :: vs => (Rep.wipe r vs).un
theorem wipe_off {σ σ' : L2.St} {vs : List Nat} (h : Off vs σ σ') : wipe σ' vs = wipe σ vs := by
  have wl : ∀ (σ : L2.St) (vs : List Nat) (i : Nat), i ∈ vs → i < σ.length → (wipe σ vs)[i]? = some none := by
    intro σ vs
    induction vs with
    | nil => intro i hi; cases hi
    | cons v vs ih =>
      intro i hi hl
      unfold wipe
      by_cases e : v = i
      · subst e
        exact List.getElem?_set_self (by rw [wipe_length]; exact hl)
      · rw [List.getElem?_set_ne e]
        exact ih i ((List.mem_cons.mp hi).resolve_left (Ne.symm e)) hl
  refine List.ext_getElem? fun i => ?_
  by_cases hm : i ∈ vs
  · by_cases hl : i < σ.length
    · rw [wl σ vs i hm hl, wl σ' vs i hm (by rw [h.1]; exact hl)]
    · rw [List.getElem?_eq_none (by rw [wipe_length, h.1]; omega), List.getElem?_eq_none (by rw [wipe_length]; omega)]
  · rw [wipe_out hm, wipe_out hm]
    exact h.2 i hm
theorem wipe_wipe (σ : L2.St) (vs : List Nat) : wipe (wipe σ vs) vs = wipe σ vs :=
  wipe_off ⟨wipe_length σ vs, fun j hj => wipe_out hj⟩
end

/-- one clause -/
def compM (t : TgM) (c : BM) (e : EM) (ρ : Rho) : List D → Sto → Out (List D)
  | [], st => .ok [] st
  | d :: ds, st => match t d ρ with
    | none => .stuck
    | some ρ1 => match c ρ1 st with
      | .ok false st1 => compM t c e ρ ds st1
      | .ok true st1 => match e ρ1 st1 with
        | .ok x st2 => (compM t c e ρ ds st2).bind fun xs st3 => .ok (x :: xs) st3
        | _ => .stuck
      | _ => .stuck
def lComp (own : List Nat) (it : AM) (t : TgM) (c : BM) (e : EM) : AM := fun ρ st => (it ρ st).bind fun ds st1 => compM t c e (wipeR ρ own) ds st1
abbrev W0 : WX := fun _ _ _ _ => False
abbrev SPs (X : Cx) (F : Fr) (W : WX) (ifs : List Expr) (c : BM) : Prop := PTs X ifs (rT X.K X.mg F W c)
def bYes : BM := fun _ st => .ok true st
theorem sps_nil {X : Cx} {F : Fr} {W : WX} : SPs X F W [] bYes := ⟨fun pins s σ H Q I ⟨ρ, st, φ, r, q⟩ => pts_nil.run pins s σ H Q I (fin_ok r.sto q)⟩
theorem sps_one {X : Cx} {F : Fr} {W : WX} {e : Expr} {c : BM} (h : SC X F W e c) : SPs X F W [e] c := pts_one h
theorem lc_rd {K : PySem.W.Frag} {mg : Str → Option Value} {F : Fr} {W : WX} {own : List Nat} {it : AM} {t : TgM} {c : BM} {e : EM} {σ : L2.St} {H : Hp} {Q : VK} (h : rF K mg F W (lComp own it t c e) σ H Q) :
    tLc (rI K mg F W true it) (rG K mg F own t) (rT K mg F W0 c) (rE K mg F W0 false e) own σ H Q := by
  obtain ⟨ρ, st, φ, rp, q⟩ := h
  refine ⟨ρ, st, φ, rp, fin_imp (fin_bind q) fun ds st1 φ1 H1 p1 q1 J hJ hl D hD => ?_⟩
  obtain ⟨T, hT⟩ : ∃ T, compM t c e (wipeR ρ own) ds st1 = T := ⟨_, rfl⟩
  rw [hT] at q1
  refine ⟨fun i k H2 => ∃ φ2 st2 acc dacc, k = ds.length - i ∧ i ≤ ds.length ∧ Post K mg φ1 H1 st2 φ2 H2 ∧ H2 D = some (.lst acc) ∧ D ∉ φ2 ∧ Dens K mg φ2 H2 dacc acc ∧ acc.length ≤ i ∧
    T = (compM t c e (wipeR ρ own) (ds.drop i) st2).bind fun xs st3 => .ok (dacc ++ xs) st3, ⟨ds.length, φ1, st1, [], [], rfl, Nat.zero_le _, Post.new p1.sto hD, upd_same, p1.sto.free hD, .nil, Nat.le_refl _, ?_⟩, ?_⟩
  · rw [List.drop_zero, hT]
    cases T with
    | ok _ _ => rfl
    | exc _ _ => rfl
    | stuck => rfl
  · rintro i k H2 ⟨φ2, st2, acc, dacc, rfl, hi, p2, hD2, hn2, hs2, ha2, E⟩
    obtain ⟨j1, j2⟩ := hJ φ2 H2 p2.kp st2 p2.sto
    by_cases hlt : i < ds.length
    · rw [drop_cons hlt] at E
      obtain ⟨g, y⟩ := j2 i ds[i] (List.getElem?_eq_getElem hlt)
      refine .inr ⟨g, fun H3 => ∃ φ3 st3 acc dacc, Post K mg φ1 H1 st3 φ3 H3 ∧ H3 D = some (.lst acc) ∧ D ∉ φ3 ∧ Dens K mg φ3 H3 dacc acc ∧ acc.length ≤ i + 1 ∧
        T = (compM t c e (wipeR ρ own) (ds.drop (i + 1)) st3).bind fun xs st4 => .ok (dacc ++ xs) st4, ?_, fun x H3 hy => ?_⟩
      · rintro H3 ⟨φ3, st3, acc, dacc, h1, h2, h3, h4, h5, h6⟩
        exact ⟨ds.length - (i + 1), by omega, φ3, st3, acc, dacc, rfl, hlt, h1, h2, h3, h4, h5, h6⟩
      · obtain ⟨p3, dx⟩ := y x H3 hy
        unfold compM at E
        cases et : t ds[i] (wipeR ρ own) with
        | none => rw [et] at E; rw [E] at q1; exact q1.elim
        | some ρ1 =>
          rw [et] at E
          dsimp only at E
          have rw1 : Rep K mg F (wipeR ρ own) st2 φ2 (wipe σ own) H3 := ((rp.step (p1.trans (p2.trans p3)))).wipe own
          refine ⟨wipeR ρ own, st2, φ2, ds[i], rw1, dx, ρ1, et, fun σ2 r2 o2 => ⟨(wipe_off o2).trans (wipe_wipe σ own), ρ1, st2, φ2, r2, ?_⟩⟩
          cases ec : c ρ1 st2 with
          | exc _ _ => rw [ec] at E; rw [E] at q1; exact q1.elim
          | stuck => rw [ec] at E; rw [E] at q1; exact q1.elim
          | ok b st3 =>
            rw [ec] at E
            intro φ4 H4 p4
            have pa := p2.trans (p3.trans p4)
            have D4 : H4 D = some (.lst acc) := (p3.trans p4).kp.same _ _ hD2 (.inl hn2)
            have n4 : D ∉ φ4 := fun m => by
              have z := (p3.trans p4).kp.fresh D m hn2
              rw [hD2] at z
              cases z
            have s4 := hs2.keep (p3.trans p4).kp.d
            cases b with
            | false => exact ⟨φ4, st3, acc, dacc, pa, D4, n4, s4, Nat.le_succ_of_le ha2, E⟩
            | true =>
              dsimp only at E
              show rE K mg F W0 false e σ2 H4 _
              refine ⟨ρ1, st3, φ4, r2.step p4, ?_⟩
              cases ee : e ρ1 st3 with
              | exc _ _ => rw [ee] at E; rw [E] at q1; exact q1.elim
              | stuck => rw [ee] at E; rw [E] at q1; exact q1.elim
              | ok z st4 =>
                rw [ee] at E
                dsimp only at E
                intro φ5 H5 p5 v dv
                have D5 : H5 D = some (.lst acc) := p5.kp.same _ _ D4 (.inl n4)
                have n5 : D ∉ φ5 := fun m => by
                  have z := p5.kp.fresh D m n4
                  rw [D4] at z
                  cases z
                have pb := (pa.trans p5).chg (u := .lst (acc ++ [v])) hD D5 id n5
                refine ⟨acc, D5, by omega, φ5, st4, acc ++ [v], dacc ++ [z], pb, upd_same, n5, ((s4.keep p5.kp.d).append (.cons dv .nil)).chg D5 id, by simp; omega, ?_⟩
                rw [E]
                cases compM t c e (wipeR ρ own) (ds.drop (i + 1)) st4 with
                | ok xs st5 => simp [Out.bind]
                | exc _ _ => rfl
                | stuck => rfl
    · have ei : i = ds.length := by omega
      subst ei
      refine .inl ⟨j1 _ (Nat.le_refl _), ?_⟩
      rw [List.drop_length] at E
      simp only [compM, Out.bind, List.append_nil] at E
      rw [E] at q1
      exact q1 φ2 H2 p2 (.ref D) ⟨D, acc, rfl, hD2, hs2, hn2, p1.noneOf rp.sto hD⟩
section
variable {X : Cx} {F : Fr} {W : WX} {b : Bool} {pos : Pos}
theorem sf_lc {elt tg iter : Expr} {ifs : List Expr} {scope : Scope} {own : List (Str × Nat)} {it : AM} {t : TgM} {c : BM} {e : EM} (hN : X.N.Nodup) (hi : SI X F W true tg iter it) (ok : BlkOk X.N X.env.scope scope own)
    (hg : ∀ (s : Shared) (H : Hp) (C : Addr) (cl : List (Str × Addr)) (fp : List Addr), SG (X.blk s H scope (compEnvC scope cl C X.env) fp) F (own.map (·.2)) tg t)
    (ht : ∀ (s : Shared) (H : Hp) (C : Addr) (cl : List (Str × Addr)) (fp : List Addr), SPs (X.blk s H scope (compEnvC scope cl C X.env) fp) F W0 ifs c)
    (he : ∀ (s : Shared) (H : Hp) (C : Addr) (cl : List (Str × Addr)) (fp : List Addr), SE (X.blk s H scope (compEnvC scope cl C X.env) fp) F W0 elt e) (hc : X.calm = true := by rfl) (hs : ∀ x, foldedSetIterable iter X.env x = pure x := by intro _; rfl) :
    SF X F W (.ListComp elt [⟨tg, iter, ifs, 0⟩] scope pos) (lComp (own.map (·.2)) it t c e) :=
  L2.PE.impS (pe_lc (own := own) hc hN hi ok hg ht he hs) fun _ _ _ h => lc_rd h
/-- name = [..]: as one's own -/
theorem sx_setLc {elt tg iter : Expr} {ifs : List Expr} {scope : Scope} {own : List (Str × Nat)} {it : AM} {t : TgM} {c : BM} {e : EM} {i : Nat} {y : Str} {py spos : Pos} (hN : X.N.Nodup) (hi : SI X F W true tg iter it) (ok : BlkOk X.N X.env.scope scope own)
    (hg : ∀ (s : Shared) (H : Hp) (C : Addr) (cl : List (Str × Addr)) (fp : List Addr), SG (X.blk s H scope (compEnvC scope cl C X.env) fp) F (own.map (·.2)) tg t)
    (ht : ∀ (s : Shared) (H : Hp) (C : Addr) (cl : List (Str × Addr)) (fp : List Addr), SPs (X.blk s H scope (compEnvC scope cl C X.env) fp) F W0 ifs c)
    (he : ∀ (s : Shared) (H : Hp) (C : Addr) (cl : List (Str × Addr)) (fp : List Addr), SE (X.blk s H scope (compEnvC scope cl C X.env) fp) F W0 elt e)
    (hsw : swapsWith (.ListComp elt [⟨tg, iter, ifs, 0⟩] scope pos) (some (.Name y py)) spos.line X.env = pure true) (hy : X.N[i]? = some y := by rfl) (hyl : X.env.scope.names.lookup y = some .local := by rfl) (hc : X.calm = true := by rfl) (hs : ∀ x, foldedSetIterable iter X.env x = pure x := by intro _; rfl) :
    SX X F W (.Assign [.Name y py] (.ListComp elt [⟨tg, iter, ifs, 0⟩] scope pos) spos) (sSetF i (lComp (own.map (·.2)) it t c e)) :=
  sx_setFP (ps_setLc (own := own) hc hN hy hyl hsw hi ok hg ht he hs) fun _ _ _ h => lc_rd h

/-! ### defs -/
/-- what a def promises: it makes m of its n arguments -/
def spD (K : PySem.W.Frag) (mg : Str → Option Value) (n : Nat) (m : List D → Sto → Out D) : Sp := fun vs H Q E => ∃ st φ ds, StoOk K mg φ H st ∧ Dens K mg φ H ds vs ∧ ds.length = n ∧
  fin K mg φ H E (m ds st) fun d _ φ' H' => ∀ v, Den K mg φ' H' d v → Q v H'
structure FnD (P : Program) (w : World) (K : PySem.W.Frag) (mg : Str → Option Value) (base : Heap) (k : Nat) (x : Str) (n : Nat) (m : List D → Sto → Out D) : Prop where
  ex : ∃ f fd ps, mg x = some (.ref f) ∧ PySem.W.keepIn K (.ref f) = true ∧ Binds K fd ps [] ∧ ps.length = n ∧ FnOk P w K mg base (L2.CX P w) k f fd ps (spD K mg n m)
def eCall (m : List D → Sto → Out D) (a : AM) : EM := fun ρ st => (a ρ st).bind fun ds st1 => m ds st1
theorem se_call {x : Str} {p : Pos} {e : Expr} {es : List Expr} {k n : Nat} {m : List D → Sto → Out D} {a : AM} (G : FnD X.prog X.w X.K X.mg X.base k x n m) (hr : Room k X.A) (tk : Takes X W) (ha : SA X F W false (e :: es) a) (hl : ALen a n) (hg : Gl X x := by rfl)
    (hd : (x == ("__debug__" : Str)) = false := by decide) (he : starEach (e :: es) X.env = (false, eval e X.env) :: starEach es X.env := by rfl) (hpl : (backTo pos (starEach es X.env)).any (·.1) = false := by rfl) :
    PE X (.Call (.Name x p) (e :: es) [] pos) (rE X.K X.mg F W b (eCall m a)) := by
  obtain ⟨f, fd, ps, hm, hk, hb, hn, G⟩ := G.ex
  refine L2.PE.impS (pe_callS (pos := pos) (p := p) G hr hg hm hk hb (passAt tk) ha hd he hpl) fun σ H Q ⟨ρ, st, φ, rp, q⟩ => ⟨ρ, st, φ, rp, ?_⟩
  cases ea : a ρ st with
  | exc x st1 => rw [eCall, ea] at q; exact q
  | stuck => rw [eCall, ea] at q; exact q
  | ok ds st1 =>
    have q' : fin X.K X.mg φ H (fun c d H' => W c d σ H') (a ρ st) _ := fin_bind q
    rw [ea] at q'
    intro φ1 H1 p1 vs hv
    have hv := RDens.dens hv
    exact ⟨st1, φ1, ds, p1.sto, hv, hl ρ st ds st1 ea, fin_imp (q' φ1 H1 p1) fun d st2 φ2 H2 p2 q2 v dv => q2 v (RDen.of dv)⟩
/-- a body as a function: tot names in all -/
def fnM (tot : Nat) (body : SM) : List D → Sto → Out D := fun ds st => match body (ds.map .val ++ List.replicate (tot - ds.length) .un) st with
  | .nx _ st' => .ok .non st'
  | .rt d st' => .ok d st'
  | .exc e _ st' => .exc e st'
  | _ => .stuck
theorem rep_start {K : PySem.W.Frag} {mg : Str → Option Value} {φ : List Addr} {H : Hp} {st : Sto} {ds : List D} {vs : List V} {N : List Str} (s : StoOk K mg φ H st) (h : Dens K mg φ H ds vs) :
    Rep K mg ⟨φ, H, none⟩ (ds.map .val ++ List.replicate (N.length - ds.length) .un) st φ (start N vs) H := by
  have hl := h.length
  refine ⟨by simp [L2.start, hl], fun i s e => ?_, fun i j a es fs e1 => ?_, Post.refl s⟩
  · by_cases hi : i < ds.length
    · rw [List.getElem?_append_left (by simpa using hi), List.getElem?_map, List.getElem?_eq_getElem hi] at e
      cases e
      obtain ⟨v, ev, dv⟩ := h.get (List.getElem?_eq_getElem hi)
      refine ⟨v, ?_, dv⟩
      unfold L2.start
      rw [List.getElem?_append_left (by rw [List.length_map, ← hl]; exact hi), List.getElem?_map, ev]
      rfl
    · rw [List.getElem?_append_right (by simpa using Nat.le_of_not_lt hi), List.getElem?_replicate] at e
      split at e
      · cases e; trivial
      · cases e
  · by_cases hi : i < ds.length
    · rw [List.getElem?_append_left (by simpa using hi), List.getElem?_map, List.getElem?_eq_getElem hi] at e1
      cases e1
    · rw [List.getElem?_append_right (by simpa using Nat.le_of_not_lt hi), List.getElem?_replicate] at e1
      split at e1 <;> cases e1
end
theorem fnD_of {P : Program} {w : World} {K : PySem.W.Frag} {mg : Str → Option Value} {base : Heap} {x qual : Str} {st : Stmt} {f : Addr} {fd : FuncData} {N ps : List Str} {k : Nat} {body : SM} (Fu : Fun K x qual st f fd) (S : FnScope N ps (defScope st)) (hb : Binds K fd ps []) {y : Str} (hm : mg y = some (.ref f))
    (hbody : ∀ (cdv : Value) (A : Around) (outer : List PySem.Env) (s : Shared) (H : Hp) (E : XK) (φ : List Addr), Room k (A.deeper (PyProof.Rows.envOfC qual (defScope st) s.heap.objs.size f cdv)) →
      SXs (cxOf (L2.CX P w) P w K mg base N qual (defScope st) f cdv A outer s H E) ⟨φ, H, none⟩ (fun c d _ H' => E c d H') (defBody st) body) :
    FnD P w K mg base (k + 1) y ps.length (fnM N.length body) := by
  refine ⟨f, fd, ps, hm, Fu.kp, hb, rfl, ?_⟩
  refine Fu.okX S (fun vs H Q E h => ?_) fun cdv A outer s H vs Q E hr h => ?_
  · obtain ⟨_, _, ds, _, hd, hl, _⟩ := h
    rw [← hd.length, hl]
  · obtain ⟨st0, φ, ds, so, hd, hl, q⟩ := h
    refine ⟨rS K mg ⟨φ, H, none⟩ (fun c d _ H' => E c d H') body, ?_, ?_⟩
    · exact hbody cdv A outer s H E φ hr
    · refine ⟨_, st0, φ, rep_start so hd, ?_⟩
      unfold fnM at q
      cases e : body (ds.map .val ++ List.replicate (N.length - ds.length) .un) st0 with
      | nx ρ' st' => rw [e] at q; exact fun φ' σ' H' r _ => q φ' H' r.post _ .non
      | rt d st' => rw [e] at q; exact fun φ' H' v p dv => q φ' H' p v dv
      | exc x ρ' st' => rw [e] at q; exact fun c dd φ' σ' H' r _ ed => q c dd φ' H' r.post ed
      | bk _ _ => rw [e] at q; exact q.elim
      | ct _ _ => rw [e] at q; exact q.elim
      | stuck => rw [e] at q; exact q
end Sx
/-! Sx6: errors of one's own classes raised, caught, read -/
namespace Sx
open PySem L2

/-! ### __init__ of an error: its arguments are stored under names -/
def spX (C : Addr) (n : Nat) (fs : List Str) : Sp := fun vs H Q _ => ∃ a ws, vs = .ref a :: ws ∧ ws.length = n ∧ H a = some (exo a C none) ∧
  ∀ d H', H d = none → d ≠ a → H' a = some (exo a C (some d)) → H' d = some (exd d (fs.zip ws).reverse) → (∀ b, b ≠ a → b ≠ d → H' b = H b) → Q .non H'
/-- what the module says of an error's class -/
structure ErD (P : Program) (w : World) (K : PySem.W.Frag) (mg : Str → Option Value) (base : Heap) (x : Str) (fs : List Str) : Prop where
  ex : ∃ (C fI : Addr) (fd : FuncData) (ps : List Str), mg x = some (.ref C) ∧ OexC K C ∧ PySem.W.findIn K (.ref C) "__init__" = some (some (.ref fI)) ∧ PySem.W.typeIn K (.ref fI) = some (.type "function") ∧
    Binds K fd ps [] ∧ FnOk P w K mg base CX0 1 fI fd ps (spX C fs.length fs) ∧ XfC K C ∧ ∀ f ∈ fs, PySem.W.findIn K (.ref C) f = some none
def sRaise (x : Str) (fs : List Str) (a : AM) : SM := fun ρ st => sThen ρ (a ρ st) fun ds st1 => .exc ⟨x, (fs.zip ds).reverse⟩ ρ st1
section
variable {K : PySem.W.Frag} {mg : Str → Option Value} {φ : List Addr} {H : Hp}
theorem FDens.append : ∀ {ds es : List (Str × D)} {vs ws : List (Str × V)}, FDens K mg φ H ds vs → FDens K mg φ H es ws → FDens K mg φ H (ds ++ es) (vs ++ ws)
  | _, _, _, _, .nil, h => h
  | _, _, _, _, .cons h t, k => .cons h (FDens.append t k)
theorem fdens_rev : ∀ {fs : List Str} {ds : List D} {vs : List V}, Dens K mg φ H ds vs → FDens K mg φ H (fs.zip ds).reverse (fs.zip vs).reverse
  | [], _, _, _ => .nil
  | _ :: _, _, _, .nil => .nil
  | f :: fs, _, _, .cons h t => by
    rw [List.zip_cons_cons, List.zip_cons_cons, List.reverse_cons, List.reverse_cons]
    exact FDens.append (fdens_rev t) (.cons h .nil)
end
section
variable {X : Cx} {F : Fr} {W : WX} {b : Bool} {pos : Pos}
theorem sx_raise {x : Str} {fs : List Str} {e : Expr} {es : List Expr} {a : AM} {p pos' : Pos} (G : ErD X.prog X.w X.K X.mg X.base x fs) (hr : Room 2 X.A) (tk : Takes X W) (ha : SA X F W false (e :: es) a) (hl : ALen a fs.length) (hf : fs.length ≤ 1000 := by decide) (hg : Gl X x := by rfl) (hc : X.calm = true := by rfl)
    (hdb : (x == ("__debug__" : Str)) = false := by decide) (he : starEach (e :: es) X.env = (false, eval e X.env) :: starEach es X.env := by rfl) (hpl : (backTo pos (starEach es X.env)).any (·.1) = false := by rfl) :
    SX X F W (.Raise (some (.Call (.Name x p) (e :: es) [] pos)) none pos') (sRaise x fs a) := by
  obtain ⟨C, fI, fd, ps, hm, T, iC, tI, hb, G, xf, nf⟩ := G.ex
  refine L2.PS.impS (ps_raise (pos := pos') hc tk (pmk_oex (p := p) (pos := pos) (dvs := []) (ds := []) T iC tI G hr hb .nil pass0 hg hm ha hdb he hpl)) fun D σ H ⟨ρ, st, φ, rp, q⟩ => ⟨ρ, st, φ, rp, ?_⟩
  cases ea : a ρ st with
  | exc y st1 => rw [sRaise, ea] at q; exact fun c dd φ' H' p ed => q c dd φ' σ H' (rp.step p) p.kp.d ed
  | stuck => rw [sRaise, ea] at q; exact q
  | ok ds st1 =>
    rw [sRaise, ea] at q
    intro φ1 H1 p1 vs hv
    have hv := RDens.dens hv
    have el : ds.length = fs.length := hl ρ st ds st1 ea
    refine ⟨by rw [← hv.length, el]; exact hf, fun e0 he0 => ?_⟩
    refine ⟨e0, vs, by rw [List.append_nil], by rw [← hv.length, el], upd_same, fun d H2 hd hde h2a h2d h2o => ⟨rfl, d, _, h2a, h2d, ?_, ?_⟩⟩
    · rw [upd_ne hde] at hd
      exact hd
    · have hd1 : H1 d = none := by rw [upd_ne hde] at hd; exact hd
      have eq : upd (del H2 e0) d (.xd (fs.zip vs).reverse) = upd H1 d (.xd (fs.zip vs).reverse) := by
        funext c
        by_cases c1 : c = d
        · subst c1
          rw [upd_same, upd_same]
        · rw [upd_ne c1, upd_ne c1]
          by_cases c2 : c = e0
          · subst c2
            rw [del_same, he0]
          · rw [del_ne c2, h2o c c2 c1, upd_ne c2]
      rw [eq]
      have pn : Post X.K X.mg φ1 H1 st1 φ1 (upd H1 d (.xd (fs.zip vs).reverse)) := Post.new p1.sto hd1
      exact q _ _ φ1 σ _ (rp.step (p1.trans pn)) (p1.trans pn).kp.d ⟨C, d, _, hm, rfl, rfl, upd_same, (fdens_rev hv).keep pn.kp.d⟩

/-! ### the error that a suite holds -/
def eExc (i : Nat) (f : Str) : EM := fun ρ st => match ρ[i]? with
  | some (.exc e) => match e.fs.lookup f with
    | some d => .ok d st
    | none => .stuck
  | _ => .stuck
end
theorem FDens.look {K : PySem.W.Frag} {mg : Str → Option Value} {φ : List Addr} {H : Hp} {f : Str} : ∀ {ds : List (Str × D)} {vs : List (Str × V)} {d : D}, FDens K mg φ H ds vs → ds.lookup f = some d → ∃ v, vs.lookup f = some v ∧ Den K mg φ H d v
  | _, _, _, .nil, e => by cases e
  | _, _, d, @FDens.cons _ _ _ _ g d0 v0 ds vs h t, e => by
    by_cases c : f == g
    · have c' : f = g := by simpa using c
      simp only [List.lookup, c] at e ⊢
      cases e
      exact ⟨v0, rfl, h⟩
    · simp only [List.lookup, c] at e ⊢
      exact FDens.look t e
section
variable {X : Cx} {F : Fr} {W : WX} {b : Bool} {pos : Pos}
/-- e.f -/
theorem se_exc {a : Addr} {oe : Obj} {cls : Value} {d : Option Addr} {pn : List (Addr × Obj)} {i : Nat} {n f : Str} {pos' : Pos} (hF : F.cur = some (a, cls, d)) (hz : Zc cls d oe) (hf : ∃ vs, oe.data = .fields vs)
    (hcl : ∃ C, cls = .ref C ∧ XfC X.K C ∧ PySem.W.findIn X.K (.ref C) f = some none)
    (h : PE (X.suite a ((a, oe) :: pn)) (.Name n pos') (tVar i)) (hb : attributeBase (.Name n pos') f X.env (eval (.Name n pos') X.env) = eval (.Name n pos') X.env := by rfl) :
    PE (X.suite a ((a, oe) :: pn)) (.Attribute (.Name n pos') f pos) (rE X.K X.mg F W b (eExc i f)) := by
  obtain ⟨C, ec, xf, nf⟩ := hcl
  refine L2.PE.impS (pe_xf xf nf hz hf h hb) fun σ H Q ⟨ρ, st, φ, rp, q⟩ => ?_
  unfold eExc at q
  cases er : ρ[i]? with
  | none => rw [er] at q; exact q.elim
  | some s =>
    rw [er] at q
    cases s with
    | exc e =>
      obtain ⟨a', c', dd', e1, e2, C', d', ys, g1, g2, g3, g4, g5⟩ := rp.slot i _ er
      rw [hF] at e2
      cases e2
      dsimp only at q
      cases el : e.fs.lookup f with
      | none => rw [el] at q; exact q.elim
      | some dv =>
        rw [el] at q
        obtain ⟨v, ev, dv'⟩ := g5.look el
        exact ⟨_, e1, rfl, ec, d', ys, v, g3, g4, ev, rE_ok rp q v (RDen.of dv')⟩
    | un => exact q.elim
    | val _ => exact q.elim
    | own _ => exact q.elim
end
end Sx
/-! Sx7: try with several clauses that name the error -/
namespace Sx
open PySem L2
open PySem.Spec PyProof.Rows
open PySem.HandSPX (FlyingZ)

abbrev Suites := List (Value × (Addr → Value → Option Addr → TS))
/-- behind a suite the error's name is gone -/
def outOf (i : Nat) (D : Ends) : Ends := { nx := fun τ G => D.nx (τ.set i none) G, rt := D.rt, bk := fun τ G => D.bk (τ.set i none) G, ct := fun τ G => D.ct (τ.set i none) G }
/-- clause by clause, what an error of the body must find -/
def wClauses (K : PySem.W.Frag) (i : Nat) (Wout : WX) (D : Ends) : Suites → WX
  | [] => Wout
  | (c, ts) :: r => fun cls d τ G => ∃ b, PySem.W.exmOne K cls c = some b ∧ (b = true → ∀ a, G a = none → ts a cls d (outOf i D) (τ.set i (some (.ref a))) G) ∧ (b = false → wClauses K i Wout D r cls d τ G)
inductive Clauses (X : Cx) (n : Str) : List ExceptHandler → Suites → Prop
  | done : Clauses X n [] []
  | more {x : Str} {c : Value} {ts : Addr → Value → Option Addr → TS} {s0 : Stmt} {ss : List Stmt} {p p' : Pos} {hs : List ExceptHandler} {l : Suites} (nm : Names X x c)
      (run : ∀ (a : Addr) (oe : Obj) (cls : Value) (d : Option Addr) (pn : List (Addr × Obj)), Zc cls d oe → (∃ vs, oe.data = .fields vs) → PSs (X.suite a ((a, oe) :: pn)) (s0 :: ss) (ts a cls d)) (rest : Clauses X n hs l) :
      Clauses X n (.ExceptHandler (some (.Name x p)) (some n) (s0 :: ss) p' :: hs) ((c, ts) :: l)

section
variable {X : Cx} {n : Str} {i : Nat} {pins : List (Addr × Obj)} {τ : L2.St} {G : Hp} {s sI : Shared} {a : Addr} {cls : Value} {d : Option Addr} {B : Heap} {Wout : WX} {D : Ends}
/-- what is known where an error lies caught, over its ground -/
structure Caught (X : Cx) (pins : List (Addr × Obj)) (τ : L2.St) (G : Hp) (sI s : Shared) (B : Heap) (a : Addr) (cls : Value) (d : Option Addr) : Prop where
  inv : Inv X pins τ G sI
  grd : ∀ b o, sI.heap.get? b = some o → b ∉ frs X.stack → B.get? b = some o
  up : sI.heap.UpToSlots s.heap
  fly : FlyingZ B (X.env :: X.outer) a (Zc cls d) s.heap
  no : G a = none
  os : s.os = sI.os
  bare : AllBare s.gens
theorem Caught.here (C : Caught X pins τ G sI s B a cls d) : Inv X pins τ G s := C.inv.landed C.grd C.fly.1 C.up C.os C.bare
theorem Caught.off (C : Caught X pins τ G sI s B a cls d) (hf : X.env.frame = some X.env.locals) : a ≠ X.env.locals ∧ a ∉ X.fs := by
  obtain ⟨oe, vs, he, _, hd⟩ := C.fly.there
  have nf : a ∉ frs (X.env :: X.outer) := fun m => by
    obtain ⟨_, o, e, no⟩ := C.fly.2.2.1.mem m
    rw [he] at e
    cases e
    exact no _ hd
  refine ⟨fun z => nf (List.mem_filterMap.mpr ⟨X.env, List.mem_cons_self, by rw [hf, z]⟩), fun m => ?_⟩
  obtain ⟨e, he, q⟩ := List.mem_filterMap.mp m
  exact nf (List.mem_filterMap.mpr ⟨e, List.mem_cons_of_mem _ he, q⟩)
theorem Caught.handle (hs : X.stack = X.env :: X.outer) (hf : X.env.frame = some X.env.locals) (hN : X.N.Nodup) (hi : X.N[i]? = some n) (hn : X.env.kindOf n = some .local) (tk : Takes X Wout) {hds : List ExceptHandler} {l : Suites} (k : Clauses X n hds l)
    (C : Caught X pins τ G sI s B a cls d) (w : wClauses X.K i Wout D l cls d τ G) : wpAny (model X.prog X.w) X.A (handleBy (.ref a) X.env hds) (SP X pins D) X.xe s := by
  induction k with
  | done =>
    -- no clause is left: the error flies on
    refine wpAny_handleBy_nil ?_
    obtain ⟨_, _, _, oe, vs, T, oT, ts, he, _, hd, h1, _⟩ := C.fly
    unfold PySem.passOn
    refine wpAny_bind (wpAny_field he hd h1 ?_)
    rw [if_neg (show ¬ ((Value.ref T == Value.none) = true) from by simp)]
    have up : wpAny (model X.prog X.w) X.A (setFlight (.ref a) X.env.frame) (fun _ s' => wpAny (model X.prog X.w) X.A (throw (.ref a) : Sem Flow) (SP X pins D) X.xe s') X.xe s := by
      rw [hf]
      refine HandSPX.setFlight_upZ C.fly fun h held k' => wpAny_throw (tk _ _ ⟨a, B, sI, pins, τ, G, cls, d, rfl, C.inv, C.grd, C.up.trans k', .inr (.inr ?_), C.no, C.os, C.bare, w⟩)
      rw [hs]
      exact held
    first
      | exact wpAny_bind (wpAny_pure (wpAny_bind up))
      | exact wpAny_bind up
  | @more x c ts s0 ss p p' hs2 l2 nm run rest ih =>
    obtain ⟨b, e, yes, no⟩ := w
    obtain ⟨oe, vs, he, hz, hd⟩ := C.fly.there
    obtain ⟨o1, o2⟩ := C.off hf
    have S := C.here.suite he hd C.no o1 o2
    refine wpAny_handleBy_cons (codeAny_handlers_test ?_) (by intro q; cases q)
    have known : PySem.W.Looks (model X.prog X.w) s.heap (typeOf (.ref a)) cls := fun A Q E s' k q => wpAny_typeOf_ref (k _ _ he) (by rw [hz.1]; exact q)
    have asked := PySem.W.exm_one (M := model X.prog X.w) S.kIn known e
    have named : ∀ {Q : Value → Shared → Prop} {E : Value → Shared → Prop}, Q c s → wpAny (model X.prog X.w) (X.A.mark (some (.ref a))) (eval (.Name x p) X.env) Q E s := fun {Q E} q => by
      obtain ⟨g, dbg, m | ⟨m, v, nn⟩⟩ := nm
      · exact ld_glob (X := X.suite a ((a, oe) :: (X.pn ++ pins))) S g m q dbg
      · exact ld_blt (X := X.suite a ((a, oe) :: (X.pn ++ pins))) S g m v q nn dbg
    refine named (asked.here ?_)
    cases b with
    | false =>
      show wpAny _ X.A (handleBy (.ref a) X.env hs2) _ _ _
      exact ih (no rfl)
    | true =>
      refine codeAny_handlers_suite_as (HandSPX.lands_againZ C.fly fun h fl k' => ?_)
      have C2 : Caught X pins τ G sI { s with heap := h } B a cls d := ⟨C.inv, C.grd, C.up.trans k', fl, C.no, C.os, C.bare⟩
      obtain ⟨oe2, vs2, he2, hz2, hd2⟩ := fl.there
      have S2 := C2.here.suite he2 hd2 C.no o1 o2
      refine store_ok (X := X.suite a ((a, oe2) :: (X.pn ++ pins))) (v := .ref a) S2 hN hi (.inl hn) rfl (fun s3 S3 => ?_) (.inr hn)
      refine wpAny_mono ((run a oe2 cls d (X.pn ++ pins) hz2 ⟨_, hd2⟩).run [] s3 _ G _ S3 (yes rfl a C.no)) (fun fl s4 q => ?_) fun _ _ z => z.elim
      cases fl with
      | next =>
        obtain ⟨τ4, G4, I4, q4⟩ := q
        exact gone_ok (I4.unsuite C.inv.ok) hN hi hn fun s5 I5 => ⟨_, _, I5, q4⟩
      | brk =>
        obtain ⟨τ4, G4, I4, q4⟩ := q
        exact gone_ok (I4.unsuite C.inv.ok) hN hi hn fun s5 I5 => ⟨_, _, I5, q4⟩
      | cont =>
        obtain ⟨τ4, G4, I4, q4⟩ := q
        exact gone_ok (I4.unsuite C.inv.ok) hN hi hn fun s5 I5 => ⟨_, _, I5, q4⟩
      | ret u =>
        obtain ⟨v4, τ4, G4, I4, r4, q4⟩ := q
        exact gone_ok (I4.unsuite C.inv.ok) hN hi hn fun s5 I5 => ⟨_, _, _, I5, r4, q4⟩
theorem ps_tryAs {body : List Stmt} {h0 : ExceptHandler} {hds : List ExceptHandler} {l : Suites} {pos : Pos} {tb : WX → TS} (hs : X.stack = X.env :: X.outer) (hf : X.env.frame = some X.env.locals) (hN : X.N.Nodup) (hi : X.N[i]? = some n) (hn : X.env.kindOf n = some .local)
    (tk : Takes X Wout) (hb : ∀ (W : WX) (pn : List (Addr × Obj)) (xe : Value → Shared → Prop), Takes (X.tr pn xe) W → PassesOwn (model X.prog X.w) X.A X.env xe → PSs (X.tr pn xe) body (tb W)) (k : Clauses X n (h0 :: hds) l) :
    PS X (.Try body (h0 :: hds) [] [] pos) (fun D τ G => tb (wClauses X.K i Wout D l) D τ G) := by
  refine ⟨fun pins s τ G D I h => wpAny_Try_except ?_⟩
  have ok := I.ok
  refine wpAny_mono ((hb (wClauses X.K i Wout D l) (X.pn ++ pins) (fun e s1 => wpAny (model X.prog X.w) X.A (noteFrame e X.env) (fun _ s2 => wpAny (model X.prog X.w) X.A (setFlight e none) (fun _ s3 =>
    wpAny (model X.prog X.w) X.A (handleBy e X.env (h0 :: hds)) (SP X pins D) X.xe s3) X.xe s2) X.xe s1) (fun u s' x => ?_) PassesOwn.looking).run [] s τ G D (I.toTry _) h) (fun fl s1 q => ?_) fun _ _ z => z
  · obtain ⟨a, B, sI, pins', τ', G', cls, d, rfl, J, grd, up, sky, no, os, bare, w⟩ := x
    have J' : Inv X pins τ' G' sI := J.ofTry ok
    have sky' : Sky B (X.env :: X.outer) a (Zc cls d) X.env.locals s'.heap := by rw [← hs]; exact sky
    refine Sky.land Zc.steady (by rw [ok.frames, hs]) hf sky' fun h3 fl3 up3 => ?_
    exact Caught.handle (s := { s' with heap := h3 }) hs hf hN hi hn tk k ⟨J', grd, up.trans up3, fl3, no, os, bare⟩ w
  · cases fl with
    | next => obtain ⟨τ', G', J, q⟩ := q; exact wpAny_execs_nil ⟨τ', G', J.ofTry ok, q⟩
    | brk => obtain ⟨τ', G', J, q⟩ := q; exact ⟨τ', G', J.ofTry ok, q⟩
    | cont => obtain ⟨τ', G', J, q⟩ := q; exact ⟨τ', G', J.ofTry ok, q⟩
    | ret u => obtain ⟨v, τ', G', J, r, q⟩ := q; exact ⟨v, τ', G', J.ofTry ok, r, q⟩
end

/-! ### by data -/
/-- a suite hands something back -/
def sOut (o : SOut) : SOut := match o with
  | .rt d st => .rt d st
  | _ => .stuck
def hdM (i : Nat) (e : Ex) (ρ : Rho) (st : Sto) : List (Str × SM) → SOut
  | [] => .exc e ρ st
  | (x, m) :: r => if e.cls = x then sOut (m (ρ.set i (.exc e)) st) else hdM i e ρ st r
def sTry (univ : List Str) (i : Nat) (body : SM) (hs : List (Str × SM)) : SM := fun ρ st => match body ρ st with
  | .exc e ρ1 st1 => if e.cls ∈ univ then hdM i e ρ1 st1 hs else .stuck
  | o => o
/-- which errors a clause takes: each its own alone -/
def ExTab (K : PySem.W.Frag) (mg : Str → Option Value) (univ : List Str) : Prop := ∀ x ∈ univ, ∀ y ∈ univ, ∃ a c, mg x = some (.ref a) ∧ mg y = some (.ref c) ∧ PySem.W.exmOne K (.ref a) (.ref c) = some (decide (x = y))
inductive ClS (X : Cx) (F : Fr) (n : Str) (univ : List Str) : List ExceptHandler → List (Str × SM) → Prop
  | done : ClS X F n univ [] []
  | more {x : Str} {m : SM} {s0 : Stmt} {ss : List Stmt} {p p' : Pos} {hs : List ExceptHandler} {l : List (Str × SM)} (hu : x ∈ univ)
      (run : ∀ (a : Addr) (oe : Obj) (C : Addr) (d : Option Addr) (pn : List (Addr × Obj)), X.mg x = some (.ref C) → Zc (.ref C) d oe → (∃ vs, oe.data = .fields vs) → SXs (X.suite a ((a, oe) :: pn)) { F with cur := some (a, .ref C, d) } W0 (s0 :: ss) m) (rest : ClS X F n univ hs l) (hg : Gl X x := by rfl) (hd : (x == ("__debug__" : Str)) = false := by decide) :
      ClS X F n univ (.ExceptHandler (some (.Name x p)) (some n) (s0 :: ss) p' :: hs) ((x, m) :: l)
theorem Rep.setExc {K : PySem.W.Frag} {mg : Str → Option Value} {F : Fr} {ρ : Rho} {st : Sto} {φ : List Addr} {σ : L2.St} {H : Hp} {i : Nat} {e : Ex} {a : Addr} {c : Value} {dd : Option Addr} (r : Rep K mg F ρ st φ σ H) (hF : F.cur = none) (h : ExDen K mg φ H e c dd) :
    Rep K mg { F with cur := some (a, c, dd) } (ρ.set i (.exc e)) st φ (σ.set i (some (.ref a))) H := by
  refine ⟨by rw [List.length_set, List.length_set]; exact r.len, fun j t et => ?_, fun j k b ds es e1 e2 e3 e4 => ?_, r.post⟩
  · by_cases hj : j = i
    · subst hj
      by_cases hl : j < ρ.length
      · rw [List.getElem?_set_self hl] at et
        cases et
        exact ⟨a, c, dd, List.getElem?_set_self (by rw [r.len]; exact hl), rfl, h⟩
      · rw [List.getElem?_eq_none (by rw [List.length_set]; omega)] at et
        cases et
    · rw [List.getElem?_set_ne (Ne.symm hj)] at et
      have q := r.slot j t et
      have es : (σ.set i (some (.ref a)))[j]? = σ[j]? := List.getElem?_set_ne (Ne.symm hj)
      cases t with
      | un => trivial
      | val d => obtain ⟨v, e, q⟩ := q; exact ⟨v, es.trans e, q⟩
      | own ds => obtain ⟨b, xs, e, q⟩ := q; exact ⟨b, xs, es.trans e, q⟩
      | exc x =>
        obtain ⟨_, _, _, _, e2, _⟩ := q
        rw [hF] at e2
        cases e2
  · have old : ∀ {j : Nat} {d : List D}, (ρ.set i (.exc e))[j]? = some (.own d) → j ≠ i ∧ ρ[j]? = some (.own d) := fun {j d} ej => by
      by_cases hj : j = i
      · subst hj
        by_cases hl : j < ρ.length
        · rw [List.getElem?_set_self hl] at ej
          cases ej
        · rw [List.getElem?_eq_none (by rw [List.length_set]; omega)] at ej
          cases ej
      · rw [List.getElem?_set_ne (Ne.symm hj)] at ej
        exact ⟨hj, ej⟩
    obtain ⟨n1, o1⟩ := old e1
    obtain ⟨n2, o2⟩ := old e2
    rw [List.getElem?_set_ne (Ne.symm n1)] at e3
    rw [List.getElem?_set_ne (Ne.symm n2)] at e4
    exact r.uniq j k b ds es o1 o2 e3 e4
section
variable {X : Cx} {F : Fr} {W : WX} {n : Str} {i : Nat} {univ : List Str}
/-- a clause's suite: F with the error held -/
def tSu (K : PySem.W.Frag) (mg : Str → Option Value) (F : Fr) (x : Str) (m : SM) : Addr → Value → Option Addr → TS := fun a cls d D τ G => ∃ C, cls = .ref C ∧ mg x = some (.ref C) ∧ rS K mg { F with cur := some (a, cls, d) } W0 m D τ G
theorem ClS.suites (tab : ExTab X.K X.mg univ) {hds : List ExceptHandler} {l : List (Str × SM)} (k : ClS X F n univ hds l) (hF : F.cur = none) : ∃ l' : Suites, Clauses X n hds l' ∧
    ∀ (D : Ends) (φ : List Addr) (G : Hp) (e : Ex) (ρ1 : Rho) (st1 : Sto), e.cls ∈ univ → finS X.K X.mg F W D φ G (hdM i e ρ1 st1 l) → ∀ c dd φ' σ' H', Rep X.K X.mg F ρ1 st1 φ' σ' H' → Kd φ G φ' H' → ExDen X.K X.mg φ' H' e c dd → wClauses X.K i W D l' c dd σ' H' := by
  induction k with
  | done => exact ⟨[], .done, fun D φ G e ρ1 st1 _ q c dd φ' σ' H' r k ed => q c dd φ' σ' H' r k ed⟩
  | @more x m s0 ss p p' hs l hu run rest hg hd ih =>
    obtain ⟨l', k', h'⟩ := ih
    obtain ⟨ax, _, hx, _, _⟩ := tab x hu x hu
    refine ⟨(.ref ax, tSu X.K X.mg F x m) :: l', .more ⟨hg, hd, .inl hx⟩ (fun a oe cls d pn hz hf => ⟨fun pins s σ H D I ⟨C, ec, hm, q⟩ => ?_⟩) k', fun D φ G e ρ1 st1 he q c dd φ' σ' H' r kd ed => ?_⟩
    · subst ec
      exact (run a oe C d pn hm hz hf).run pins s σ H D I q
    · obtain ⟨Ce, dd', ys, g1, g2, g3⟩ := id ed
      obtain ⟨a1, c1, h1, h2, h3⟩ := tab e.cls he x hu
      rw [g1] at h1
      cases h1
      rw [hx] at h2
      cases h2
      subst g2
      refine ⟨_, h3, fun y a na => ?_, fun y => ?_⟩
      · have ex : e.cls = x := of_decide_eq_true y
        unfold hdM at q
        rw [if_pos ex] at q
        refine ⟨Ce, rfl, by rw [← ex]; exact g1, ρ1.set i (.exc e), st1, φ', r.setExc hF ed, ?_⟩
        unfold sOut at q
        cases em : m (ρ1.set i (.exc e)) st1 with
        | rt d st2 => rw [em] at q; exact fun φ2 H2 v p dv => q φ2 H2 v p dv
        | nx _ _ => rw [em] at q; exact q.elim
        | bk _ _ => rw [em] at q; exact q.elim
        | ct _ _ => rw [em] at q; exact q.elim
        | exc _ _ _ => rw [em] at q; exact q.elim
        | stuck => rw [em] at q; exact q.elim
      · have ex : ¬ e.cls = x := of_decide_eq_false y
        unfold hdM at q
        rw [if_neg ex] at q
        exact h' D φ G e ρ1 st1 he q _ dd φ' σ' H' r kd ed
theorem sx_try {body : List Stmt} {h0 : ExceptHandler} {hds : List ExceptHandler} {l : List (Str × SM)} {pos : Pos} {mb : SM} (tab : ExTab X.K X.mg univ) (hN : X.N.Nodup) (tk : Takes X W)
    (hb : ∀ (W' : WX) (pn : List (Addr × Obj)) (xe : Value → Shared → Prop), Takes (X.tr pn xe) W' → PassesOwn (model X.prog X.w) X.A X.env xe → SXs (X.tr pn xe) F W' body mb) (k : ClS X F n univ (h0 :: hds) l)
    (hF : F.cur = none := by rfl) (hs : X.stack = X.env :: X.outer := by rfl) (hf : X.env.frame = some X.env.locals := by rfl) (hi : X.N[i]? = some n := by rfl) (hn : X.env.kindOf n = some .local := by rfl) :
    SX X F W (.Try body (h0 :: hds) [] [] pos) (sTry univ i mb l) := by
  obtain ⟨l', k', h'⟩ := k.suites (W := W) (i := i) tab hF
  refine L2.PS.impS (ps_tryAs (tb := fun W2 => rS X.K X.mg F W2 mb) hs hf hN hi hn tk hb k') fun D σ H ⟨ρ, st, φ, rp, q⟩ => ⟨ρ, st, φ, rp, ?_⟩
  unfold sTry at q
  cases em : mb ρ st with
  | exc e ρ1 st1 =>
    rw [em] at q
    dsimp only at q
    by_cases hu : e.cls ∈ univ
    · rw [if_pos hu] at q
      exact fun c dd φ' σ' H' r k ed => h' D φ H e ρ1 st1 hu q c dd φ' σ' H' r k ed
    · rw [if_neg hu] at q
      exact q.elim
  | nx _ _ => rw [em] at q; exact q
  | bk _ _ => rw [em] at q; exact q
  | ct _ _ => rw [em] at q; exact q
  | rt _ _ => rw [em] at q; exact q
  | stuck => rw [em] at q; exact q
end
end Sx
/-! Sx8: operators by data: numbers, texts, equality, order, in, items, slices -/
namespace Sx
open PySem L2

section
variable {K : PySem.W.Frag} {mg : Str → Option Value} {φ : List Addr} {H : Hp} {x : V}
theorem BDen.non (h : BDen K mg φ H .non x) : x = .non := by
  rcases h with h | ⟨_, _, _, e, _⟩
  · cases h; rfl
  · cases e
theorem BDen.bl {k : Bool} (h : BDen K mg φ H (.bl k) x) : x = .bl k := by
  rcases h with h | ⟨_, _, _, e, _⟩
  · cases h; rfl
  · cases e
theorem BDen.int {i : Int} (h : BDen K mg φ H (.int i) x) : x = .int i := by
  rcases h with h | ⟨_, _, _, e, _⟩
  · cases h; rfl
  · cases e
theorem BDen.str {s : Str} (h : BDen K mg φ H (.str s) x) : x = .str s := by
  rcases h with h | ⟨_, _, _, e, _⟩
  · cases h; rfl
  · cases e
theorem BDen.ty {n : String} (h : BDen K mg φ H (.ty n) x) : x = .ty n := by
  rcases h with h | ⟨_, _, _, e, _⟩
  · cases h; rfl
  · cases e
theorem BDen.tup {ds : List D} (h : BDen K mg φ H (.tup ds) x) : ∃ a xs, x = .ref a ∧ SqT K H a xs ∧ Dens K mg φ H ds xs := by
  rcases h with h | ⟨_, _, _, e, _⟩
  · cases h with
    | tup h1 h2 => exact ⟨_, _, rfl, h1, h2⟩
  · cases e
theorem BDen.lst {ds : List D} (h : BDen K mg φ H (.lst ds) x) : ∃ a xs, x = .ref a ∧ SqL K H a xs ∧ Dens K mg φ H ds xs := by
  rcases h with h | ⟨a, xs, ds', e, rfl, ha, _, hs⟩
  · cases h with
    | @lst a xs ds h1 h2 => exact ⟨a, xs, rfl, h1.sq, h2⟩
  · cases e
    exact ⟨a, xs, rfl, SqL.of ha, hs⟩
theorem BDen.loc {n : Nat} (h : BDen K mg φ H (.loc n) x) : ∃ a, x = .ref a ∧ φ[n]? = some a := by
  rcases h with h | ⟨_, _, _, e, _⟩
  · cases h with
    | loc h => exact ⟨_, rfl, h⟩
  · cases e
end

/-! ### numbers -/
def small64 (i : Int) : Bool := decide (-(2 ^ 64) < i ∧ i < 2 ^ 64)
/-- int by int -/
def op2 (f : Int → Int → Option Int) : O2 := fun x y st => match x, y with
  | .int i, .int j => match f i j with
    | some z => .ok (.int z) st
    | none => .stuck
  | _, _ => .stuck
def opMulF (i j : Int) : Option Int := if small64 i = true ∨ small64 j = true then some (i * j) else none
def opDivF (i j : Int) : Option Int := if j ≠ 0 ∧ j.natAbs < 1073741824 then some (i.fdiv j) else none
def opModF (i j : Int) : Option Int := if j ≠ 0 then some (i.fmod j) else none
def opPowF (i j : Int) : Option Int := if 0 ≤ j ∧ j ≤ 1000000 ∧ i.natAbs < 2 ^ 64 then some (i ^ j.toNat) else none
def opShlF (i j : Int) : Option Int := if 0 ≤ j ∧ j ≤ 1000000 ∧ i.natAbs < 2 ^ 64 then some (i * 2 ^ j.toNat) else none
def opShrF (i j : Int) : Option Int := if 0 ≤ j then some (i / 2 ^ j.toNat) else none
section
variable {X : Cx}
theorem os_int {f : Value → Value → Sem Value} {g : Int → Int → Option Int} {C : Int → Int → Prop} {h : Int → Int → Int} (r : OpR X f (L2.rI C fun i j => .int (h i j))) (k : ∀ i j z, g i j = some z → C i j ∧ z = h i j) : OpS X f (op2 g) := by
  refine OpR.impS r fun x y H Q ⟨st, φ, dx, dy, so, hx, hy, d, st', e, q⟩ => ?_
  unfold op2 at e
  split at e
  · rename_i i j
    split at e
    · rename_i z ez
      cases e
      obtain ⟨c, rfl⟩ := k i j z ez
      exact ⟨i, j, hx.int, hy.int, c, q φ H (Post.refl so) _ (.int _)⟩
    · cases e
  · cases e
theorem os_int0 {f : Value → Value → Sem Value} {g : Int → Int → Option Int} {h : Int → Int → Int} (r : OpR X f (rI0 fun i j => .int (h i j))) (k : ∀ i j z, g i j = some z → z = h i j) : OpS X f (op2 g) :=
  os_int (C := fun _ _ => True) (h := h) (OpR.impS r fun x y H Q ⟨i, j, e1, e2, _, q⟩ => ⟨i, j, e1, e2, q⟩) fun i j z e => ⟨trivial, k i j z e⟩
theorem os_sub : OpS X (binaryOp .Sub) (op2 fun i j => some (i - j)) := os_int0 op_sub fun i j z e => (Option.some.inj e).symm
theorem os_mulI : OpS X (binaryOp .Mult) (op2 opMulF) := os_int op_mul fun i j z e => by
  unfold opMulF at e
  split at e
  · rename_i c
    cases e
    exact ⟨c.imp (fun q => by simpa [small64] using q) fun q => by simpa [small64] using q, rfl⟩
  · cases e
theorem os_div : OpS X (binaryOp .FloorDiv) (op2 opDivF) := os_int op_fdivN fun i j z e => by
  unfold opDivF at e
  split at e
  · rename_i c
    cases e
    exact ⟨c, rfl⟩
  · cases e
theorem os_modI : OpS X (binaryOp .Mod) (op2 opModF) := os_int op_modN fun i j z e => by
  unfold opModF at e
  split at e
  · rename_i c
    cases e
    exact ⟨c, rfl⟩
  · cases e
theorem os_pow : OpS X (binaryOp .Pow) (op2 opPowF) := os_int op_pow fun i j z e => by
  unfold opPowF at e
  split at e
  · rename_i c
    cases e
    exact ⟨c, rfl⟩
  · cases e
theorem os_shl : OpS X (binaryOp .LShift) (op2 opShlF) := os_int op_shl fun i j z e => by
  unfold opShlF at e
  split at e
  · rename_i c
    cases e
    exact ⟨c, rfl⟩
  · cases e
theorem os_shr : OpS X (binaryOp .RShift) (op2 opShrF) := os_int op_shr fun i j z e => by
  unfold opShrF at e
  split at e
  · rename_i c
    cases e
    exact ⟨c, rfl⟩
  · cases e
theorem os_and : OpS X (binaryOp .BitAnd) (op2 fun i j => some (Builtin.bitAnd i j)) := os_int0 op_and fun i j z e => (Option.some.inj e).symm
theorem os_or : OpS X (binaryOp .BitOr) (op2 fun i j => some (Builtin.bitOr i j)) := os_int0 L2.op_or fun i j z e => (Option.some.inj e).symm
theorem os_xor : OpS X (binaryOp .BitXor) (op2 fun i j => some (Builtin.bitXor i j)) := os_int0 op_xor fun i j z e => (Option.some.inj e).symm
theorem us_neg : UnS X (unaryOp .USub) (fun d => match d with | .int i => some (.int (-i)) | _ => none) := by
  intro pins s σ H x v Q I rx ⟨st, φ, dx, d, so, hx, e, q⟩
  dsimp only at e
  split at e
  · cases e
    exact un_neg pins s σ H x v Q I rx ⟨_, hx.int, q _ (.int _)⟩
  · cases e
/-- + : numbers, texts, tuples -/
def opAdd : O2 := fun x y st => match x, y with
  | .int i, .int j => .ok (.int (i + j)) st
  | .str a, .str b => if a.length + b.length ≤ sizeLine then .ok (.str (a ++ b)) st else .stuck
  | .tup a, .tup b => if a.length + b.length ≤ sizeLine then .ok (.tup (a ++ b)) st else .stuck
  | _, _ => .stuck
theorem os_add : OpS X (binaryOp .Add) opAdd := by
  refine OpR.impS (OpR.or op_add (OpR.or op_add_str op_catA)) fun x y H Q ⟨st, φ, dx, dy, so, hx, hy, d, st', e, q⟩ => ?_
  unfold opAdd at e
  split at e
  · rename_i i j
    cases e
    exact .inl ⟨i, j, hx.int, hy.int, q φ H (Post.refl so) _ (.int _)⟩
  · rename_i a c
    split at e
    · rename_i hl
      cases e
      exact .inr (.inl ⟨a, c, hx.str, hy.str, hl, q φ H (Post.refl so) _ (.str _)⟩)
    · cases e
  · rename_i a c
    split at e
    · rename_i hl
      cases e
      obtain ⟨p, xs, rfl, h1, s1⟩ := hx.tup
      obtain ⟨p', ys, rfl, h2, s2⟩ := hy.tup
      refine .inr (.inr ⟨p, p', xs, ys, rfl, rfl, h1, h2, by rw [← s1.length, ← s2.length]; exact hl, fun z => ?_, fun _ z => ?_, fun _ _ r hr => ?_⟩)
      · subst z
        cases s1
        exact q φ H (Post.refl so) _ (.tup h2 s2)
      · subst z
        cases s2
        rw [List.append_nil] at q
        exact q φ H (Post.refl so) _ (.tup h1 s1)
      · exact q φ _ (Post.new so hr) _ (.tup (SqT.of upd_same) ((s1.append s2).keep (Kp.new hr).d))
    · cases e
  · cases e

/-! ### equality -/
def plainD : Nat → D → Bool
  | _, .non => true
  | _, .bl _ => true
  | _, .int _ => true
  | _, .str s => PyData.strOk s
  | n + 1, .tup ds => ds.all (plainD n)
  | n + 1, .lst ds => ds.all (plainD n)
  | _, _ => false
mutual
def pyOf : D → PyData
  | .non => .none
  | .bl b => .bool b
  | .int i => .int i
  | .str s => .str s
  | .tup ds => .tuple (pyOfs ds)
  | .lst ds => .list (pyOfs ds)
  | _ => .none
def pyOfs : List D → List PyData
  | [] => []
  | d :: ds => pyOf d :: pyOfs ds
end
end
section
variable {X : Cx} {pins : List (Addr × Obj)} {σ : L2.St} {H : Hp} {s : Shared} {mg : Str → Option Value} {φ : List Addr}
theorem plain_dp : ∀ (n : Nat) {d : D} {v : V}, BDen X.K mg φ H d v → plainD n d = true → Dp X.K H v (pyOf d) ∧ (pyOf d).canLay0 = true ∧ (pyOf d).depth ≤ n := by
  intro n
  have deep : ∀ (m : Nat), (∀ {d : D} {v : V}, Den X.K mg φ H d v → plainD m d = true → Dp X.K H v (pyOf d) ∧ (pyOf d).canLay0 = true ∧ (pyOf d).depth ≤ m) →
      ∀ {ds : List D} {vs : List V}, Dens X.K mg φ H ds vs → ds.all (plainD m) = true → DpAll X.K H vs (pyOfs ds) ∧ PyData.canLayAll0 (pyOfs ds) = true ∧ PyData.depthAll (pyOfs ds) ≤ m := by
    intro m hm ds
    induction ds with
    | nil => intro vs h _; cases h; exact ⟨.nil, by simp [pyOfs, PyData.canLayAll0], by simp [pyOfs, PyData.depthAll]⟩
    | cons d ds ih =>
      intro vs h ha
      cases h with
      | cons h1 h2 =>
        rw [List.all_cons, Bool.and_eq_true] at ha
        obtain ⟨a1, a2, a3⟩ := hm h1 ha.1
        obtain ⟨b1, b2, b3⟩ := ih h2 ha.2
        exact ⟨.cons a1 b1, by simp [pyOfs, PyData.canLayAll0, a2, b2], by simp only [pyOfs, PyData.depthAll]; omega⟩
  have den : ∀ (n : Nat) {d : D} {v : V}, Den X.K mg φ H d v → plainD n d = true → Dp X.K H v (pyOf d) ∧ (pyOf d).canLay0 = true ∧ (pyOf d).depth ≤ n := by
    intro n
    induction n with
    | zero =>
      intro d v h hp
      cases h with
      | non => exact ⟨.non, by simp [pyOf, PyData.canLay0], by simp [pyOf, PyData.depth]⟩
      | bl b => exact ⟨.bl b, by simp [pyOf, PyData.canLay0], by simp [pyOf, PyData.depth]⟩
      | int b => exact ⟨.int b, by simp [pyOf, PyData.canLay0], by simp [pyOf, PyData.depth]⟩
      | str b => exact ⟨.str b, by simpa [pyOf, PyData.canLay0, plainD] using hp, by simp [pyOf, PyData.depth]⟩
      | tup _ _ => simp [plainD] at hp
      | lst _ _ => simp [plainD] at hp
      | dct _ _ _ => simp [plainD] at hp
      | loc _ => simp [plainD] at hp
      | glb _ => simp [plainD] at hp
      | ty _ => simp [plainD] at hp
    | succ n ih =>
      intro d v h hp
      cases h with
      | non => exact ⟨.non, by simp [pyOf, PyData.canLay0], by simp [pyOf, PyData.depth]⟩
      | bl b => exact ⟨.bl b, by simp [pyOf, PyData.canLay0], by simp [pyOf, PyData.depth]⟩
      | int b => exact ⟨.int b, by simp [pyOf, PyData.canLay0], by simp [pyOf, PyData.depth]⟩
      | str b => exact ⟨.str b, by simpa [pyOf, PyData.canLay0, plainD] using hp, by simp [pyOf, PyData.depth]⟩
      | tup h1 h2 =>
        obtain ⟨a1, a2, a3⟩ := deep n ih h2 (by simpa [plainD] using hp)
        exact ⟨.tup h1 a1, by simpa [pyOf, PyData.canLay0] using a2, by simp only [pyOf, PyData.depth]; omega⟩
      | @lst a xs ds h1 h2 =>
        obtain ⟨a1, a2, a3⟩ := deep n ih h2 (by simpa [plainD] using hp)
        exact ⟨.lst h1.sq a1, by simpa [pyOf, PyData.canLay0] using a2, by simp only [pyOf, PyData.depth]; omega⟩
      | dct _ _ _ => simp [plainD] at hp
      | loc _ => simp [plainD] at hp
      | glb _ => simp [plainD] at hp
      | ty _ => simp [plainD] at hp
  intro d v h hp
  rcases h with h | ⟨a, xs, ds, rfl, rfl, ha, _, hs⟩
  · exact den n h hp
  · cases n with
    | zero => simp [plainD] at hp
    | succ n =>
      obtain ⟨a1, a2, a3⟩ := deep n (den n) hs (by simpa [plainD] using hp)
      exact ⟨.lst (SqL.of ha) a1, by simpa [pyOf, PyData.canLay0] using a2, by simp only [pyOf, PyData.depth]; omega⟩
end
def eqD (x y : D) : Bool := PyData.eqv (pyOf x) (pyOf y)
def opEq : O2 := fun x y st => match x, y with
  | .str a, .str b => .ok (.bl (decide (a = b))) st
  | x, y => if plainD 50 x = true ∧ plainD 50 y = true then .ok (.bl (eqD x y)) st else .stuck
def opNe : O2 := fun x y st => match x, y with
  | .str a, .str b => .ok (.bl (!decide (a = b))) st
  | x, y => if plainD 50 x = true ∧ plainD 50 y = true then .ok (.bl (!eqD x y)) st else .stuck
section
variable {X : Cx}
theorem V.str_iff {a b : Str} : decide (V.str a = V.str b) = decide (a = b) := by
  by_cases h : a = b
  · subst h; simp
  · simp [h]
theorem shaped_of {d : PyData} {n : Nat} (h1 : d.canLay0 = true) (h2 : d.depth ≤ n) (hn : n ≤ 64) : SeqAt.shaped d = true := by
  simp [SeqAt.shaped, h1]
  omega
theorem os_eq (hu : X.A.units + 64 < cLine) : OpS X (compareOp .Eq) opEq := by
  refine OpR.impS (OpR.or op_eq (op_eqD hu)) fun x y H Q ⟨st, φ, dx, dy, so, hx, hy, d, st', e, q⟩ => ?_
  unfold opEq at e
  split at e
  · cases e
    refine .inl ?_
    rw [hx.str, hy.str]
    refine ⟨rfl, ?_⟩
    rw [V.str_iff]
    exact q φ H (Post.refl so) _ (.bl _)
  · split at e
    · rename_i c
      cases e
      obtain ⟨a1, a2, a3⟩ := plain_dp 50 hx c.1
      obtain ⟨b1, b2, b3⟩ := plain_dp 50 hy c.2
      exact .inr ⟨_, _, a1, b1, shaped_of a2 a3 (by decide), shaped_of b2 b3 (by decide), q φ H (Post.refl so) _ (.bl _)⟩
    · cases e
theorem os_ne (hu : X.A.units + 64 < cLine) : OpS X (compareOp .NotEq) opNe := by
  refine OpR.impS (OpR.or op_ne (op_neD hu)) fun x y H Q ⟨st, φ, dx, dy, so, hx, hy, d, st', e, q⟩ => ?_
  unfold opNe at e
  split at e
  · cases e
    refine .inl ?_
    rw [hx.str, hy.str]
    refine ⟨rfl, ?_⟩
    rw [V.str_iff]
    exact q φ H (Post.refl so) _ (.bl _)
  · split at e
    · rename_i c
      cases e
      obtain ⟨a1, a2, a3⟩ := plain_dp 50 hx c.1
      obtain ⟨b1, b2, b3⟩ := plain_dp 50 hy c.2
      exact .inr ⟨_, _, a1, b1, shaped_of a2 a3 (by decide), shaped_of b2 b3 (by decide), q φ H (Post.refl so) _ (.bl _)⟩
    · cases e

/-! ### order -/
def cmpO (fi : Int → Int → Bool) (fs : List Nat → List Nat → Bool) : O2 := fun x y st => match x, y with
  | .int i, .int j => .ok (.bl (fi i j)) st
  | .str a, .str b => .ok (.bl (fs a.cps.toList b.cps.toList)) st
  | _, _ => .stuck
theorem os_cmp {op : CmpOp} {fi : Int → Int → Bool} {fs : List Nat → List Nat → Bool} (h1 : OpR X (compareOp op) (rI0 fun i j => .bl (fi i j))) (h2 : OpR X (compareOp op) (fun x y H Q => ∃ i j, x = .str i ∧ y = .str j ∧ Q (.bl (fs i.cps.toList j.cps.toList)) H)) :
    OpS X (compareOp op) (cmpO fi fs) := by
  refine OpR.impS (OpR.or h1 h2) fun x y H Q ⟨st, φ, dx, dy, so, hx, hy, d, st', e, q⟩ => ?_
  unfold cmpO at e
  split at e
  · rename_i i j
    cases e
    exact .inl ⟨i, j, hx.int, hy.int, q φ H (Post.refl so) _ (.bl _)⟩
  · rename_i a c
    cases e
    exact .inr ⟨a, c, hx.str, hy.str, q φ H (Post.refl so) _ (.bl _)⟩
  · cases e
def opLt : O2 := cmpO (fun i j => decide (i < j)) fun a b => decide (a < b)
def opLe : O2 := cmpO (fun i j => decide (i ≤ j)) fun a b => !decide (b < a)
def opGt : O2 := cmpO (fun i j => decide (j < i)) fun a b => decide (b < a)
def opGe : O2 := cmpO (fun i j => decide (j ≤ i)) fun a b => !decide (a < b)
theorem os_lt : OpS X (compareOp .Lt) opLt := os_cmp op_lt op_lt_str
theorem os_le : OpS X (compareOp .LtE) opLe := os_cmp op_le op_le_str
theorem os_gt : OpS X (compareOp .Gt) opGt := os_cmp op_gt op_gt_str
theorem os_ge : OpS X (compareOp .GtE) opGe := os_cmp op_ge op_ge_str

/-! ### is: None, True, False -/
def opIs : O2 := fun x y st => match x, y with
  | .non, .non => .ok (.bl true) st
  | _, .non => .ok (.bl false) st
  | .bl a, .bl b => .ok (.bl (decide (a = b))) st
  | _, _ => .stuck
def opIsNot : O2 := fun x y st => match x, y with
  | .non, .non => .ok (.bl false) st
  | _, .non => .ok (.bl true) st
  | .bl a, .bl b => .ok (.bl (!decide (a = b))) st
  | _, _ => .stuck
theorem BDen.isNon {K : PySem.W.Frag} {mg : Str → Option Value} {φ : List Addr} {H : Hp} {d : D} {x : V} (h : BDen K mg φ H d x) (n : d ≠ .non) : x ≠ .non := by
  rintro rfl
  rcases h with h | ⟨_, _, _, _, e, _⟩
  · cases h
    exact n rfl
  · cases e
theorem os_is : OpS X (compareOp .Is) opIs := by
  refine OpR.impS (OpR.or op_isN op_isBl) fun x y H Q ⟨st, φ, dx, dy, so, hx, hy, d, st', e, q⟩ => ?_
  unfold opIs at e
  split at e
  · cases e
    have ex := hx.non
    subst ex
    exact .inl ⟨hy.non, q φ H (Post.refl so) _ (.bl _)⟩
  · rename_i hn
    cases e
    refine .inl ⟨hy.non, ?_⟩
    rw [decide_eq_false (hx.isNon (fun z => hn z))]
    exact q φ H (Post.refl so) _ (.bl _)
  · rename_i a b
    cases e
    exact .inr ⟨a, b, hx.bl, hy.bl, q φ H (Post.refl so) _ (.bl _)⟩
  · cases e
theorem os_isNot : OpS X (compareOp .IsNot) opIsNot := by
  refine OpR.impS (OpR.or op_notN op_notBl) fun x y H Q ⟨st, φ, dx, dy, so, hx, hy, d, st', e, q⟩ => ?_
  unfold opIsNot at e
  split at e
  · cases e
    have ex := hx.non
    subst ex
    exact .inl ⟨hy.non, q φ H (Post.refl so) _ (.bl _)⟩
  · rename_i hn
    cases e
    refine .inl ⟨hy.non, ?_⟩
    rw [decide_eq_false (hx.isNon (fun z => hn z))]
    exact q φ H (Post.refl so) _ (.bl _)
  · rename_i a b
    cases e
    exact .inr ⟨a, b, hx.bl, hy.bl, q φ H (Post.refl so) _ (.bl _)⟩
  · cases e
end
end Sx
/-! Sx9: items, slices, in; built-in functions by data -/
namespace Sx
open PySem L2

/-! ### the items of a list, a tuple, a cell -/
/-- a list or tuple that stands where x points -/
def seqOf (st : Sto) : D → Option (List D)
  | .lst ds => some ds
  | .tup ds => some ds
  | .loc n => match st[n]? with
    | some (.lst ds) => some ds
    | _ => none
  | _ => none
def lstOf (st : Sto) : D → Option (List D)
  | .lst ds => some ds
  | .loc n => match st[n]? with
    | some (.lst ds) => some ds
    | _ => none
  | _ => none
section
variable {K : PySem.W.Frag} {mg : Str → Option Value} {φ : List Addr} {H : Hp} {x : V} {st : Sto}
theorem lstOf_at {d : D} {ds : List D} (so : StoOk K mg φ H st) (h : BDen K mg φ H d x) (e : lstOf st d = some ds) : ∃ a xs, x = .ref a ∧ SqL K H a xs ∧ Dens K mg φ H ds xs := by
  unfold lstOf at e
  split at e
  · cases e
    exact h.lst
  · rename_i n
    obtain ⟨a, rfl, ha⟩ := h.loc
    cases es : st[n]? with
    | none => rw [es] at e; cases e
    | some c =>
      rw [es] at e
      obtain ⟨a', ha', hc⟩ := so.at' n c es
      rw [ha] at ha'
      cases ha'
      cases c with
      | lst ds' =>
        cases e
        obtain ⟨xs, h1, h2⟩ := hc
        exact ⟨a, xs, rfl, SqL.of h1, h2⟩
      | dct _ _ => cases e
      | ins _ _ => cases e
  · cases e
theorem seqOf_at {d : D} {ds : List D} (so : StoOk K mg φ H st) (h : BDen K mg φ H d x) (e : seqOf st d = some ds) : ∃ a xs, x = .ref a ∧ (SqL K H a xs ∨ SqT K H a xs) ∧ Dens K mg φ H ds xs := by
  cases d with
  | lst ds' =>
    obtain ⟨a, xs, h1, h2, h3⟩ := lstOf_at (ds := ds) so h e
    exact ⟨a, xs, h1, .inl h2, h3⟩
  | loc n =>
    obtain ⟨a, xs, h1, h2, h3⟩ := lstOf_at (ds := ds) so h e
    exact ⟨a, xs, h1, .inl h2, h3⟩
  | tup ds' =>
    cases e
    obtain ⟨a, xs, h1, h2, h3⟩ := h.tup
    exact ⟨a, xs, h1, .inr h2, h3⟩
  | non => cases e
  | bl _ => cases e
  | int _ => cases e
  | str _ => cases e
  | dct _ _ => cases e
  | glb _ => cases e
  | ty _ => cases e
theorem atI_dens {ds : List D} {xs : List V} {i : Int} {d : D} (hs : Dens K mg φ H ds xs) (e : atI ds i = some d) : ∃ v, atI xs i = some v ∧ Den K mg φ H d v := by
  unfold atI at e ⊢
  rw [← hs.length]
  cases ej : ixN ds.length i with
  | none => rw [ej] at e; cases e
  | some j =>
    rw [ej] at e
    exact hs.get (by simpa using e)
end

/-! ### x[i] -/
def opIx : O2 := fun x y st => match y with
  | .int i => match x with
    | .str s => if s.length ≤ sizeLine then match atI s.cps.toList i with
      | some c => .ok (.str ⟨#[c]⟩) st
      | none => .stuck
      else .stuck
    | x => match (seqOf st x).bind fun ds => atI ds i with
      | some d => .ok d st
      | none => .stuck
  | _ => .stuck
section
variable {X : Cx} {F : Fr} {W : WX} {b : Bool} {pos : Pos}
theorem ixS : IxR X (rOp X.K X.mg opIx) := by
  have h0 : IxR X (rIx X.K) := ix_seq
  intro a b pins s σ H x y v u Q I rx ry ⟨st, φ, dx, dy, so, hx, hy, d, st', e, q⟩ hp
  refine h0 a b pins s σ H x y v u Q I rx ry ?_ hp
  unfold opIx at e
  split at e
  · rename_i i
    split at e
    · rename_i z
      split at e
      · rename_i hl
        split at e
        · rename_i c ec
          cases e
          exact .inr (.inr ⟨z, i, c, hx.str, hy.int, hl, ec, q φ H (Post.refl so) _ (.str _)⟩)
        · cases e
      · cases e
    · split at e
      · rename_i d' ed
        cases e
        obtain ⟨ds, e1, e2⟩ := Option.bind_eq_some_iff.mp ed
        obtain ⟨a, xs, rfl, h1, h2⟩ := seqOf_at so hx e1
        obtain ⟨v', ev, dv⟩ := atI_dens h2 e2
        rcases h1 with h1 | h1
        · exact .inl ⟨a, xs, i, v', rfl, hy.int, h1, ev, q φ H (Post.refl so) _ dv⟩
        · exact .inr (.inl ⟨a, xs, i, v', rfl, hy.int, h1, ev, q φ H (Post.refl so) _ dv⟩)
      · cases e
  · cases e
theorem se_ix {a c : Expr} {ma mc : EM} (ha : SB X F W a ma) (hc : SB X F W c mc) (hs : PlainIx c := by exact fun _ _ => rfl) : PE X (.Subscript a c pos) (rE X.K X.mg F W b (eBin opIx ma mc)) := by
  refine L2.PE.impS (pe_ix ixS ha hc hs) fun σ H Q ⟨ρ, st, φ, r, q⟩ => ?_
  refine ⟨ρ, st, φ, r, fin_imp (fin_bind q) fun dx st1 φ1 H1 p1 q1 x hx => ⟨ρ, st1, φ1, r.step p1, fin_imp (fin_bind q1) fun dy st2 φ2 H2 p2 q2 y hy => ?_⟩⟩
  exact rOp_of (b := b) p2.sto (hx.keep p2.kp) hy q2

/-! ### slices -/
def cutD {α : Type} (xs : List α) (lo hi : Option Int) : List α := (xs.drop (HT.sIx xs.length 0 lo)).take (HT.sIx xs.length xs.length hi - HT.sIx xs.length 0 lo)
def slD (st : Sto) (x : D) (lo hi : Option Int) : Option D := match x with
  | .str s => if s.length ≤ sizeLine then some (.str (cutS s lo hi)) else none
  | .tup ds => some (.tup (cutD ds lo hi))
  | x => (lstOf st x).map fun ds => .lst (cutD ds lo hi)
/-- a bound -/
abbrev OM := Rho → Sto → Out (Option Int)
def oNo : OM := fun _ st => .ok none st
def oSo (m : EM) : OM := fun ρ st => (m ρ st).bind fun x st1 => match x with
  | .int i => .ok (some i) st1
  | _ => .stuck
def rO (K : PySem.W.Frag) (mg : Str → Option Value) (F : Fr) (W : WX) (m : OM) : TO := fun σ H Q => ∃ ρ st φ, Rep K mg F ρ st φ σ H ∧ fin K mg φ H (fun c d H' => W c d σ H') (m ρ st) fun o _ _ H' => Q o H'
abbrev SO (X : Cx) (F : Fr) (W : WX) (e : Option Expr) (m : OM) : Prop := PO X e (rO X.K X.mg F W m)
theorem so_no : SO X F W none oNo := ⟨fun pins s σ H Q I ⟨ρ, st, φ, r, q⟩ => po_none.run pins s σ H Q I (fin_ok r.sto q)⟩
theorem so_so {e : Expr} {m : EM} (h : SB X F W e m) : SO X F W (some e) (oSo m) := by
  refine ⟨fun pins s σ H Q I ⟨ρ, st, φ, r, q⟩ => (po_some h).run pins s σ H Q I ⟨ρ, st, φ, r, fin_imp (fin_bind q) fun dx st1 φ1 H1 p1 q1 x hx => ?_⟩⟩
  cases dx with
  | int i => exact ⟨i, BDen.int hx, fin_ok p1.sto q1⟩
  | _ => exact q1.elim
def eSl (m : EM) (lo hi : OM) : EM := fun ρ st => (m ρ st).bind fun x st1 => (lo ρ st1).bind fun l st2 => (hi ρ st2).bind fun h st3 => match slD st3 x l h with
  | some d => .ok d st3
  | none => .stuck
/-- what is made is frozen where it is a list -/
def tFz2 (t : TE) : TE := fun σ H Q => t σ H fun v H1 => Q v H1 ∨ ∃ a u, v = .ref a ∧ H1 a = some u ∧ Mut (some u) ∧ ∀ o, Q v (upd H1 a (.frz o u))
theorem pe_fz2 {e : Expr} {t : TE} (h : PE X e t) : PE X e (tFz2 t) := by
  refine ⟨fun pins s σ H Q I q => ?_⟩
  refine thn (h.run pins s σ H _ I q) fun v s1 ⟨x, H1, I1, r, q1⟩ => ?_
  rcases q1 with q1 | ⟨a, u, e1, e2, mu, q1⟩
  · exact ⟨x, _, I1, r, q1⟩
  · obtain ⟨o, I2⟩ := I1.lock e2 mu
    exact ⟨x, _, I2, r, q1 o⟩
theorem cutD_dens {K : PySem.W.Frag} {mg : Str → Option Value} {φ : List Addr} {H : Hp} {ds : List D} {xs : List V} (h : Dens K mg φ H ds xs) (lo hi : Option Int) : Dens K mg φ H (cutD ds lo hi) (cutV xs lo hi) := by
  unfold cutD cutV
  rw [h.length]
  exact (h.drop _).take _
theorem se_sl {e : Expr} {lo hi : Option Expr} {m : EM} {ml mh : OM} {p2 : Pos} (he : SB X F W e m) (hl : SO X F W lo ml) (hh : SO X F W hi mh) : PE X (.Subscript e (.Slice lo hi none p2) pos) (rE X.K X.mg F W b (eSl m ml mh)) := by
  refine L2.PE.impS (pe_fz2 (pe_slice (SlR.or sl_str (SlR.or sl_tupA sl_list)) he hl hh)) fun σ H Q ⟨ρ, st, φ, r, q⟩ => ⟨ρ, st, φ, r, fin_imp (fin_bind q) fun dx st1 φ1 H1 p1 q1 x hx0 => ?_⟩
  refine ⟨ρ, st1, φ1, r.step p1, fin_imp (fin_bind q1) fun l st2 φ2 H2 p2 q2 => ⟨ρ, st2, φ2, (r.step p1).step p2, fin_imp (fin_bind q2) fun h st3 φ3 H3 p3 q3 => ?_⟩⟩
  have hx : BDen X.K X.mg φ3 H3 dx x := BDen.keep (p2.trans p3).kp hx0
  clear hx0
  cases es : slD st3 dx l h with
  | none => rw [es] at q3; exact q3.elim
  | some d =>
    rw [es] at q3
    have fz : ∀ {ds : List D}, lstOf st3 dx = some ds → d = .lst (cutD ds l h) → ∃ a xs, x = .ref a ∧ SqL X.K H3 a xs ∧ ∀ p, H3 p = none → (fun v H1 => Q v H1 ∨ ∃ a u, v = .ref a ∧ H1 a = some u ∧ Mut (some u) ∧ ∀ o, Q v (upd H1 a (.frz o u))) (.ref p) (upd H3 p (.lst (cutV xs l h))) := fun {ds} e1 e2 => by
      obtain ⟨a, xs, ex, h1, h2⟩ := lstOf_at p3.sto hx e1
      refine ⟨a, xs, ex, h1, fun p hp => .inr ⟨p, _, rfl, upd_same, trivial, fun o => ?_⟩⟩
      rw [upd_upd]
      subst e2
      have pn : Post X.K X.mg φ3 H3 st3 φ3 (upd H3 p (.frz o (.lst (cutV xs l h)))) := Post.new p3.sto hp
      exact q3 φ3 _ pn _ (RDen.of (.lst (.inl ⟨_, upd_same⟩) ((cutD_dens h2 l h).keep pn.kp.d)))
    unfold slD at es
    split at es
    · rename_i z
      split at es
      · rename_i hz
        cases es
        exact .inl ⟨z, hx.str, hz, .inl (fin_ok p3.sto q3 _ (RDen.of (.str _)))⟩
      · cases es
    · rename_i ds
      cases es
      obtain ⟨a, xs, rfl, h1, h2⟩ := hx.tup
      refine .inr (.inl ⟨a, xs, rfl, h1, fun hw => .inl ?_, fun _ p hp => .inl ?_⟩)
      · have e0 : cutD ds l h = ds := by
          unfold cutD
          rw [h2.length, hw.1, hw.2, List.drop_zero, Nat.sub_zero, ← h2.length, List.take_length]
        rw [e0] at q3
        exact fin_ok p3.sto q3 _ (RDen.of (.tup h1 h2))
      · have pn : Post X.K X.mg φ3 H3 st3 φ3 (upd H3 p (.tup (cutV xs l h))) := Post.new p3.sto hp
        exact q3 φ3 _ pn _ (RDen.of (.tup (SqT.of upd_same) ((cutD_dens h2 l h).keep pn.kp.d)))
    · cases e1 : lstOf st3 dx with
      | none => rw [e1] at es; cases es
      | some ds =>
        rw [e1] at es
        exact .inr (.inr (fz e1 (Option.some.inj es).symm))

/-! ### in -/
def isFlat : D → Bool
  | .non => true
  | .bl _ => true
  | .int _ => true
  | .str _ => true
  | _ => false
def eqFlat : D → D → Bool
  | .non, .non => true
  | .bl a, .bl b => a == b
  | .bl a, .int b => (if a then 1 else 0) == b
  | .int a, .bl b => a == (if b then 1 else 0)
  | .int a, .int b => a == b
  | .str a, .str b => a == b
  | _, _ => false
def inD (x y : D) (st : Sto) : Option Bool := match y with
  | .str s => match x with
    | .str a => if a.cps.size = 1 then some (decide (a.cps.getD 0 0 ∈ s.cps.toList)) else none
    | _ => none
  | y => (seqOf st y).bind fun ds => if isFlat x = true ∧ ds.all isFlat = true then some (ds.any fun z => eqFlat z x) else if plainD 50 x = true ∧ plainD 49 (.lst ds) = true ∧ (lstOf st y).isSome = true then some (ds.any fun z => eqD z x) else none
def opIn : O2 := fun x y st => match inD x y st with
  | some k => .ok (.bl k) st
  | none => .stuck
def opNotIn : O2 := fun x y st => match inD x y st with
  | some k => .ok (.bl (!k)) st
  | none => .stuck
theorem flat_v {K : PySem.W.Frag} {mg : Str → Option Value} {φ : List Addr} {H : Hp} {d : D} {v : V} (h : BDen K mg φ H d v) (f : isFlat d = true) : flatV v = true ∧ ∀ {e : D} {u : V}, BDen K mg φ H e u → isFlat e = true → eqV u v = eqFlat e d := by
  cases d with
  | non => rw [h.non]; exact ⟨rfl, fun {e u} k g => by cases e with | non => rw [k.non]; rfl | bl _ => rw [k.bl]; rfl | int _ => rw [k.int]; rfl | str _ => rw [k.str]; rfl | _ => cases g⟩
  | bl _ => rw [h.bl]; exact ⟨rfl, fun {e u} k g => by cases e with | non => rw [k.non]; rfl | bl _ => rw [k.bl]; rfl | int _ => rw [k.int]; rfl | str _ => rw [k.str]; rfl | _ => cases g⟩
  | int _ => rw [h.int]; exact ⟨rfl, fun {e u} k g => by cases e with | non => rw [k.non]; rfl | bl _ => rw [k.bl]; rfl | int _ => rw [k.int]; rfl | str _ => rw [k.str]; rfl | _ => cases g⟩
  | str _ => rw [h.str]; exact ⟨rfl, fun {e u} k g => by cases e with | non => rw [k.non]; rfl | bl _ => rw [k.bl]; rfl | int _ => rw [k.int]; rfl | str _ => rw [k.str]; rfl | _ => cases g⟩
  | _ => cases f
theorem flat_in {K : PySem.W.Frag} {mg : Str → Option Value} {φ : List Addr} {H : Hp} {d : D} {v : V} (h : BDen K mg φ H d v) (f : isFlat d = true) : ∀ {ds : List D} {vs : List V}, Dens K mg φ H ds vs → ds.all isFlat = true → vs.all flatV = true ∧ inV v vs = ds.any fun z => eqFlat z d
  | _, _, .nil, _ => ⟨rfl, rfl⟩
  | _, _, .cons h1 h2, g => by
    rw [List.all_cons, Bool.and_eq_true] at g
    obtain ⟨a1, a2⟩ := flat_in h f h2 g.2
    obtain ⟨b1, _⟩ := flat_v (.inl h1) g.1
    refine ⟨by rw [List.all_cons, b1, a1]; rfl, ?_⟩
    unfold inV at a2 ⊢
    rw [List.any_cons, List.any_cons, a2, (flat_v h f).2 (.inl h1) g.1]
theorem pyOfs_map : ∀ ds : List D, pyOfs ds = ds.map pyOf
  | [] => rfl
  | d :: ds => by simp [pyOfs, pyOfs_map ds]
theorem plain_dps {X : Cx} {φ : List Addr} {H : Hp} (n : Nat) : ∀ {ds : List D} {xs : List V}, Dens X.K X.mg φ H ds xs → ds.all (plainD n) = true → DpAll X.K H xs (pyOfs ds) ∧ PyData.canLayAll0 (pyOfs ds) = true ∧ PyData.depthAll (pyOfs ds) ≤ n
  | _, _, .nil, _ => ⟨.nil, by simp [pyOfs, PyData.canLayAll0], by simp [pyOfs, PyData.depthAll]⟩
  | _, _, .cons d1 d2, g => by
    rw [List.all_cons, Bool.and_eq_true] at g
    obtain ⟨b1, b2, b3⟩ := plain_dp n (.inl d1) g.1
    obtain ⟨c1, c2, c3⟩ := plain_dps n d2 g.2
    exact ⟨.cons b1 c1, by simp [pyOfs, PyData.canLayAll0, b2, c2], by simp only [pyOfs, PyData.depthAll]; omega⟩
/-- the reading that in and not in share; neg: its answer is turned -/
theorem in_rd {neg : Bool} {x y : V} {H : Hp} {Q : VK} {st : Sto} {φ : List Addr} {dx dy : D} {k : Bool} (so : StoOk X.K X.mg φ H st) (hx : BDen X.K X.mg φ H dx x) (hy : BDen X.K X.mg φ H dy y) (e : inD dx dy st = some k) (q : Q (.bl (if neg then !k else k)) H) :
    (∃ (c : Nat) (z : Str), x = .str ⟨#[c]⟩ ∧ y = .str z ∧ Q (.bl (if neg then !decide (c ∈ z.cps.toList) else decide (c ∈ z.cps.toList))) H) ∨ rIn X.K neg x y H Q ∨
      (∃ d ds, Dp X.K H x d ∧ Dp X.K H y (.list ds) ∧ SeqAt.shaped d = true ∧ SeqAt.shaped (.list ds) = true ∧ Q (.bl (if neg then !(ds.any fun z => PyData.eqv z d) else ds.any fun z => PyData.eqv z d)) H) := by
  unfold inD at e
  split at e
  · rename_i z
    split at e
    · rename_i a
      split at e
      · rename_i hz
        cases e
        refine .inl ⟨a.cps.getD 0 0, z, ?_, hy.str, q⟩
        rw [hx.str]
        obtain ⟨⟨l⟩⟩ := a
        match l, hz with
        | [c], _ => rfl
      · cases e
    · cases e
  · obtain ⟨ds, e1, e2⟩ := Option.bind_eq_some_iff.mp e
    split at e2
    · rename_i g
      cases e2
      obtain ⟨a, xs, rfl, h1, h2⟩ := seqOf_at so hy e1
      obtain ⟨f1, f2⟩ := flat_in hx g.1 h2 g.2
      refine .inr (.inl ⟨a, xs, rfl, h1, (flat_v hx g.1).1, f1, ?_⟩)
      rw [f2]
      exact q
    · split at e2
      · rename_i g
        cases e2
        obtain ⟨g1, g2, g3⟩ := g
        obtain ⟨ds', e3⟩ := Option.isSome_iff_exists.mp g3
        have e4 : ds' = ds := by
          cases dy with
          | lst _ => rw [lstOf] at e3; rw [seqOf] at e1; exact (Option.some.inj e3).symm.trans (Option.some.inj e1)
          | loc n => exact Option.some.inj (e3.symm.trans e1)
          | _ => cases e3
        subst e4
        obtain ⟨a, xs, rfl, h1, h2⟩ := lstOf_at so hy e3
        obtain ⟨a1, a2, a3⟩ := plain_dp 50 hx g1
        obtain ⟨b1, b2, b3⟩ := plain_dps 48 h2 (by simpa [plainD] using g2)
        refine .inr (.inr ⟨_, _, a1, .lst h1 b1, shaped_of a2 a3 (by decide), ?_, ?_⟩)
        · refine shaped_of (n := 50) (by simpa [PyData.canLay0] using b2) ?_ (by decide)
          simp only [PyData.depth]
          omega
        · rw [pyOfs_map, List.any_map]
          exact q
      · cases e2
theorem os_in (hu : X.A.units + 64 < cLine) (hu' : X.A.units + 65 < cLine) : OpS X (compareOp .In) opIn := by
  refine OpR.impS (OpR.or op_in_sign (OpR.or op_in_seq (op_inD hu'))) fun x y H Q ⟨st, φ, dx, dy, so, hx, hy, d, st', e, q⟩ => ?_
  unfold opIn at e
  split at e
  · rename_i k ek
    cases e
    exact in_rd (neg := false) so hx hy ek (q φ H (Post.refl so) _ (.bl _))
  · cases e
theorem os_notIn (hu : X.A.units + 64 < cLine) (hu' : X.A.units + 65 < cLine) : OpS X (compareOp .NotIn) opNotIn := by
  refine OpR.impS (OpR.or op_notIn_sign (OpR.or op_notIn_seq (op_notInD hu'))) fun x y H Q ⟨st, φ, dx, dy, so, hx, hy, d, st', e, q⟩ => ?_
  unfold opNotIn at e
  split at e
  · rename_i k ek
    cases e
    exact in_rd (neg := true) so hx hy ek (q φ H (Post.refl so) _ (.bl _))
  · cases e
end
end Sx
/-! Sx10: built-in functions, methods, stores, by data -/
namespace Sx
open PySem L2

/-! ### calls of built-in functions -/
def rCl (K : PySem.W.Frag) (mg : Str → Option Value) (g : List D → Sto → Out D) : List V → Hp → VK → Prop := fun xs H Q => ∃ st φ ds, StoOk K mg φ H st ∧ RDens K mg true φ H ds xs ∧
  ∃ d st', g ds st = .ok d st' ∧ ∀ φ' H', Post K mg φ H st' φ' H' → ∀ v, Den K mg φ' H' d v → Q v H'
/-- .. that make a list anew -/
def rClF (K : PySem.W.Frag) (mg : Str → Option Value) (g : List D → Sto → Option (List D)) : List V → Hp → VK → Prop := fun xs H Q => ∃ st φ ds, StoOk K mg φ H st ∧ RDens K mg true φ H ds xs ∧
  ∃ ds', g ds st = some ds' ∧ ∀ φ' H', Post K mg φ H st φ' H' → ∀ v, SVal K mg H φ' H' (.own ds') v → Q v H'
def CallS (X : Cx) (f : Value) (g : List D → Sto → Out D) : Prop := CallR X f (rCl X.K X.mg g)
def CallF (X : Cx) (f : Value) (g : List D → Sto → Option (List D)) : Prop := CallR X f (rClF X.K X.mg g)
def eBu (g : List D → Sto → Out D) (a : AM) : EM := fun ρ st => (a ρ st).bind fun ds st1 => match g ds st1 with
  | .ok d st2 => .ok d st2
  | _ => .stuck
def lBu (g : List D → Sto → Option (List D)) (a : AM) : AM := fun ρ st => (a ρ st).bind fun ds st1 => match g ds st1 with
  | some d => .ok d st1
  | none => .stuck
theorem _root_.L2.CallR.impS {X : Cx} {f : Value} {r r' : List V → Hp → VK → Prop} (h : CallR X f r) (k : ∀ xs H Q, r' xs H Q → r xs H Q) : CallR X f r' := fun pins s σ H xs us Q I rs q => h pins s σ H xs us Q I rs (k xs H Q q)
theorem RDens.one {K : PySem.W.Frag} {mg : Str → Option Value} {φ : List Addr} {H : Hp} {d : D} {xs : List V} (h : RDens K mg true φ H [d] xs) : ∃ x, xs = [x] ∧ BDen K mg φ H d x := by
  cases h with
  | cons a t => cases t; exact ⟨_, rfl, a⟩
theorem RDens.two {K : PySem.W.Frag} {mg : Str → Option Value} {φ : List Addr} {H : Hp} {d e : D} {xs : List V} (h : RDens K mg true φ H [d, e] xs) : ∃ x y, xs = [x, y] ∧ BDen K mg φ H d x ∧ BDen K mg φ H e y := by
  cases h with
  | cons a t =>
    obtain ⟨y, rfl, b⟩ := RDens.one t
    exact ⟨_, y, rfl, a, b⟩
section
variable {X : Cx} {F : Fr} {W : WX} {b : Bool} {pos : Pos}
theorem se_cl {e : Expr} {g : List D → Sto → Out D} {m : AM} (h : PE X e (tCB (rCl X.K X.mg g) (rA X.K X.mg F W true m))) : PE X e (rE X.K X.mg F W b (eBu g m)) := by
  refine L2.PE.impS h fun σ H Q ⟨ρ, st, φ, r, q⟩ => ⟨ρ, st, φ, r, fin_imp (fin_bind q) fun ds st1 φ1 H1 p1 q1 xs hx => ?_⟩
  refine ⟨st1, φ1, ds, p1.sto, hx, ?_⟩
  cases e : g ds st1 with
  | ok d st2 => rw [e] at q1; exact ⟨d, st2, rfl, fun φ' H' p v dv => q1 φ' H' p v (RDen.of dv)⟩
  | exc _ _ => rw [e] at q1; exact q1.elim
  | stuck => rw [e] at q1; exact q1.elim
theorem sf_cl {e : Expr} {g : List D → Sto → Option (List D)} {m : AM} (h : PE X e (tCB (rClF X.K X.mg g) (rA X.K X.mg F W true m))) : SF X F W e (lBu g m) := by
  refine L2.PE.impS h fun σ H Q ⟨ρ, st, φ, r, q⟩ => ⟨ρ, st, φ, r, fin_imp (fin_bind q) fun ds st1 φ1 H1 p1 q1 xs hx => ?_⟩
  refine ⟨st1, φ1, ds, p1.sto, hx, ?_⟩
  cases e : g ds st1 with
  | some d =>
    rw [e] at q1
    refine ⟨d, rfl, fun φ' H' p v hv => q1 φ' H' p v ?_⟩
    obtain ⟨a, ys, h1, h2, h3, h4, h5⟩ := hv
    exact ⟨a, ys, h1, h2, h3, h4, p1.noneOf r.sto h5⟩
  | none => rw [e] at q1; exact q1.elim
def fn1 (g : D → Option D) : List D → Sto → Out D := fun ds st => match ds with
  | [d] => match g d with
    | some r => .ok r st
    | none => .stuck
  | _ => .stuck
theorem fn1_ok {g : D → Option D} {ds : List D} {st st' : Sto} {d : D} (e : fn1 g ds st = .ok d st') : ∃ c, ds = [c] ∧ g c = some d ∧ st' = st := by
  match ds with
  | [] => cases e
  | [c] =>
    unfold fn1 at e
    cases ec : g c with
    | none => simp [ec] at e
    | some r =>
      simp only [ec] at e
      cases e
      exact ⟨c, rfl, ec, rfl⟩
  | _ :: _ :: _ => cases e
def absD : D → Option D
  | .int i => some (.int (if i < 0 then -i else i))
  | _ => none
theorem cs_abs : CallS X (.builtin "abs") (fn1 absD) := by
  refine L2.CallR.impS call_abs fun xs H Q ⟨st, φ, ds, so, hx, d, st', e, q⟩ => ?_
  obtain ⟨c, rfl, er, rfl⟩ := fn1_ok e
  obtain ⟨x, rfl, h⟩ := hx.one
  cases c with
  | int i => cases er; exact ⟨i, by rw [h.int], q φ H (Post.refl so) _ (.int _)⟩
  | _ => cases er
def intD : D → Option D
  | .int i => some (.int i)
  | .bl k => some (.int (if k then 1 else 0))
  | _ => none
theorem cs_int : CallS X (.type "int") (fn1 intD) := by
  refine L2.CallR.impS call_int1 fun xs H Q ⟨st, φ, ds, so, hx, d, st', e, q⟩ => ?_
  obtain ⟨c, rfl, er, rfl⟩ := fn1_ok e
  obtain ⟨x, rfl, h⟩ := hx.one
  cases c with
  | int i => cases er; exact .inl ⟨i, by rw [h.int], q φ H (Post.refl so) _ (.int _)⟩
  | bl k => cases er; exact .inr ⟨k, by rw [h.bl], q φ H (Post.refl so) _ (.int _)⟩
  | _ => cases er
def maxD2 : List D → Sto → Out D := fun ds st => match ds with
  | [.int i, .int j] => .ok (.int (if j > i then j else i)) st
  | _ => .stuck
def minD2 : List D → Sto → Out D := fun ds st => match ds with
  | [.int i, .int j] => .ok (.int (if j < i then j else i)) st
  | _ => .stuck
theorem cs_max2 (hc : X.calm = true) : CallS X (.builtin "max") maxD2 := by
  refine L2.CallR.impS (call_max2 hc) fun xs H Q ⟨st, φ, ds, so, hx, d, st', e, q⟩ => ?_
  unfold maxD2 at e
  split at e
  · cases e
    obtain ⟨x, y, rfl, h1, h2⟩ := hx.two
    exact ⟨_, _, by rw [h1.int, h2.int], q φ H (Post.refl so) _ (.int _)⟩
  · cases e
theorem cs_min2 (hc : X.calm = true) : CallS X (.builtin "min") minD2 := by
  refine L2.CallR.impS (call_min2 hc) fun xs H Q ⟨st, φ, ds, so, hx, d, st', e, q⟩ => ?_
  unfold minD2 at e
  split at e
  · cases e
    obtain ⟨x, y, rfl, h1, h2⟩ := hx.two
    exact ⟨_, _, by rw [h1.int, h2.int], q φ H (Post.refl so) _ (.int _)⟩
  · cases e
def lenD : List D → Sto → Out D := fun ds st => match ds with
  | [.str s] => if s.length ≤ sizeLine then .ok (.int s.length) st else .stuck
  | [d] => match seqOf st d with
    | some ds => .ok (.int ds.length) st
    | none => .stuck
  | _ => .stuck
theorem cs_len : CallS X (.builtin "len") lenD := by
  refine L2.CallR.impS call_len fun xs H Q ⟨st, φ, ds, so, hx, d, st', e, q⟩ => ?_
  unfold lenD at e
  split at e
  · rename_i z
    split at e
    · rename_i hz
      cases e
      obtain ⟨x, rfl, h⟩ := hx.one
      exact ⟨_, z.length, rfl, by rw [h.str]; exact ⟨hz, rfl⟩, q φ H (Post.refl so) _ (.int _)⟩
    · cases e
  · split at e
    · rename_i d0 _ es ee
      cases e
      obtain ⟨x, rfl, h⟩ := hx.one
      obtain ⟨a, ys, rfl, h1, h2⟩ := seqOf_at so h ee
      refine ⟨_, es.length, rfl, ?_, q φ H (Post.refl so) _ (.int _)⟩
      rcases h1 with h1 | h1
      · exact .inl ⟨ys, h1, h2.length⟩
      · exact .inr ⟨ys, h1, h2.length⟩
    · cases e
  · cases e
/-- tuple(x) -/
def tupleD : List D → Sto → Out D := fun ds st => match ds with
  | [d] => match seqOf st d with
    | some ds => .ok (.tup ds) st
    | none => .stuck
  | _ => .stuck
theorem cs_tuple : CallS X (.type "tuple") tupleD := by
  refine L2.CallR.impS call_tuple_of fun xs H Q ⟨st, φ, ds, so, hx, d, st', e, q⟩ => ?_
  unfold tupleD at e
  split at e
  · split at e
    · rename_i d0 es ee
      cases e
      obtain ⟨x, rfl, h⟩ := hx.one
      obtain ⟨a, ys, rfl, h1, h2⟩ := seqOf_at so h ee
      refine ⟨a, ys, rfl, ?_⟩
      rcases h1 with h1 | h1
      · exact .inl ⟨h1, fun p hp => q φ _ (Post.new so hp) _ (.tup (SqT.of upd_same) (h2.keep (Kp.new hp).d))⟩
      · exact .inr ⟨h1, q φ H (Post.refl so) _ (.tup h1 h2)⟩
    · cases e
  · cases e
/-- list(x) -/
def listD : List D → Sto → Option (List D) := fun ds st => match ds with
  | [d] => seqOf st d
  | _ => none
theorem cf_list : CallF X (.type "list") listD := by
  refine L2.CallR.impS call_list_of fun xs H Q ⟨st, φ, ds, so, hx, es, e, q⟩ => ?_
  unfold listD at e
  split at e
  · obtain ⟨x, rfl, h⟩ := hx.one
    obtain ⟨a, ys, rfl, h1, h2⟩ := seqOf_at so h e
    exact ⟨a, ys, rfl, h1, fun p hp => q φ _ (Post.new so hp) _ ⟨p, ys, rfl, upd_same, h2.keep (Kp.new hp).d, so.free hp, hp⟩⟩
  · cases e

/-! ### lists of numbers, of truth values -/
def intsOf : List D → Option (List Int)
  | [] => some []
  | .int i :: r => (intsOf r).map (i :: ·)
  | _ => none
def boolsOf : List D → Option (List Bool)
  | [] => some []
  | .bl i :: r => (boolsOf r).map (i :: ·)
  | _ => none
end
theorem intsOf_vals {K : PySem.W.Frag} {mg : Str → Option Value} {φ : List Addr} {H : Hp} : ∀ {ds : List D} {xs : List V} {ns : List Int}, Dens K mg φ H ds xs → intsOf ds = some ns → xs = ns.map V.int ∧ ds = ns.map D.int
  | _, _, _, .nil, e => by cases e; exact ⟨rfl, rfl⟩
  | _, _, ns, .cons (d := d) h t, e => by
    cases d with
    | int i =>
      unfold intsOf at e
      obtain ⟨ms, e1, e2⟩ := Option.map_eq_some_iff.mp e
      subst e2
      obtain ⟨a1, a2⟩ := intsOf_vals t e1
      cases h
      subst a1 a2
      exact ⟨rfl, rfl⟩
    | _ => cases e
theorem boolsOf_vals {K : PySem.W.Frag} {mg : Str → Option Value} {φ : List Addr} {H : Hp} : ∀ {ds : List D} {xs : List V} {ns : List Bool}, Dens K mg φ H ds xs → boolsOf ds = some ns → xs = ns.map V.bl
  | _, _, _, .nil, e => by cases e; rfl
  | _, _, ns, .cons (d := d) h t, e => by
    cases d with
    | bl i =>
      unfold boolsOf at e
      obtain ⟨ms, e1, e2⟩ := Option.map_eq_some_iff.mp e
      subst e2
      have a1 := boolsOf_vals t e1
      cases h
      subst a1
      rfl
    | _ => cases e
theorem intsOf_map (ns : List Int) : intsOf (ns.map D.int) = some ns := by
  induction ns with
  | nil => rfl
  | cons n ns ih => simp [intsOf, ih]
theorem boolsOf_map (ns : List Bool) : boolsOf (ns.map D.bl) = some ns := by
  induction ns with
  | nil => rfl
  | cons n ns ih => simp [boolsOf, ih]
def intsAt (ds : List D) (st : Sto) : Option (List Int) := match ds with
  | [d] => (lstOf st d).bind intsOf
  | _ => none
def boolsAt (ds : List D) (st : Sto) : Option (List Bool) := match ds with
  | [d] => (lstOf st d).bind boolsOf
  | _ => none
theorem intsAt_at {K : PySem.W.Frag} {mg : Str → Option Value} {φ : List Addr} {H : Hp} {st : Sto} {ds : List D} {xs : List V} {ns : List Int} (so : StoOk K mg φ H st) (hx : RDens K mg true φ H ds xs) (e : intsAt ds st = some ns) : ∃ a, xs = [.ref a] ∧ SqL K H a (ns.map V.int) := by
  unfold intsAt at e
  split at e
  · obtain ⟨x, rfl, h⟩ := hx.one
    obtain ⟨es, e1, e2⟩ := Option.bind_eq_some_iff.mp e
    obtain ⟨a, ys, rfl, h1, h2⟩ := lstOf_at so h e1
    obtain ⟨rfl, _⟩ := intsOf_vals h2 e2
    exact ⟨a, rfl, h1⟩
  · cases e
theorem boolsAt_at {K : PySem.W.Frag} {mg : Str → Option Value} {φ : List Addr} {H : Hp} {st : Sto} {ds : List D} {xs : List V} {ns : List Bool} (so : StoOk K mg φ H st) (hx : RDens K mg true φ H ds xs) (e : boolsAt ds st = some ns) : ∃ a, xs = [.ref a] ∧ SqL K H a (ns.map V.bl) := by
  unfold boolsAt at e
  split at e
  · obtain ⟨x, rfl, h⟩ := hx.one
    obtain ⟨es, e1, e2⟩ := Option.bind_eq_some_iff.mp e
    obtain ⟨a, ys, rfl, h1, h2⟩ := lstOf_at so h e1
    have := boolsOf_vals h2 e2
    subst this
    exact ⟨a, rfl, h1⟩
  · cases e
/-- the greatest, the least -/
def maxI : List Int → Int
  | [] => 0
  | [a] => a
  | a :: r => max a (maxI r)
def minI : List Int → Int
  | [] => 0
  | [a] => a
  | a :: r => min a (minI r)
theorem maxI_spec : ∀ {ns : List Int}, ns ≠ [] → maxI ns ∈ ns ∧ ∀ y ∈ ns, y ≤ maxI ns
  | [], h => absurd rfl h
  | [a], _ => ⟨by simp [maxI], fun y hy => by simp [maxI] at *; omega⟩
  | a :: c :: r, _ => by
    obtain ⟨h1, h2⟩ := maxI_spec (ns := c :: r) (by simp)
    have e : maxI (a :: c :: r) = max a (maxI (c :: r)) := rfl
    rw [e]
    refine ⟨?_, fun y hy => ?_⟩
    · by_cases q : a ≤ maxI (c :: r)
      · rw [Int.max_eq_right q]; exact List.mem_cons_of_mem _ h1
      · rw [Int.max_eq_left (by omega)]; exact List.mem_cons_self
    · rcases List.mem_cons.mp hy with rfl | hy
      · exact Int.le_max_left _ _
      · exact Int.le_trans (h2 y hy) (Int.le_max_right _ _)
theorem minI_spec : ∀ {ns : List Int}, ns ≠ [] → minI ns ∈ ns ∧ ∀ y ∈ ns, minI ns ≤ y
  | [], h => absurd rfl h
  | [a], _ => ⟨by simp [minI], fun y hy => by simp [minI] at *; omega⟩
  | a :: c :: r, _ => by
    obtain ⟨h1, h2⟩ := minI_spec (ns := c :: r) (by simp)
    have e : minI (a :: c :: r) = min a (minI (c :: r)) := rfl
    rw [e]
    refine ⟨?_, fun y hy => ?_⟩
    · by_cases q : a ≤ minI (c :: r)
      · rw [Int.min_eq_left q]; exact List.mem_cons_self
      · rw [Int.min_eq_right (by omega)]; exact List.mem_cons_of_mem _ h1
    · rcases List.mem_cons.mp hy with rfl | hy
      · exact Int.min_le_left _ _
      · exact Int.le_trans (Int.min_le_right _ _) (h2 y hy)
def sumD : List D → Sto → Out D := fun ds st => match intsAt ds st with
  | some ns => .ok (.int ns.sum) st
  | none => .stuck
def maxLD : List D → Sto → Out D := fun ds st => match intsAt ds st with
  | some (n :: ns) => .ok (.int (maxI (n :: ns))) st
  | _ => .stuck
def minLD : List D → Sto → Out D := fun ds st => match intsAt ds st with
  | some (n :: ns) => .ok (.int (minI (n :: ns))) st
  | _ => .stuck
def allD : List D → Sto → Out D := fun ds st => match boolsAt ds st with
  | some ns => .ok (.bl (ns.all id)) st
  | none => .stuck
def anyD : List D → Sto → Out D := fun ds st => match boolsAt ds st with
  | some ns => .ok (.bl (ns.any id)) st
  | none => .stuck
section
variable {X : Cx} {F : Fr} {W : WX} {b : Bool} {pos : Pos}
theorem cs_sum (hc : X.calm = true) : CallS X (.builtin "sum") sumD := by
  refine L2.CallR.impS (cr_sum hc) fun xs H Q ⟨st, φ, ds, so, hx, d, st', e, q⟩ => ?_
  unfold sumD at e
  split at e
  · rename_i ns en
    cases e
    obtain ⟨a, rfl, h⟩ := intsAt_at so hx en
    exact ⟨a, ns, rfl, h, q φ H (Post.refl so) _ (.int _)⟩
  · cases e
theorem cs_maxL (hc : X.calm = true) : CallS X (.builtin "max") maxLD := by
  refine L2.CallR.impS (cr_max hc) fun xs H Q ⟨st, φ, ds, so, hx, d, st', e, q⟩ => ?_
  unfold maxLD at e
  split at e
  · rename_i n ns en
    cases e
    obtain ⟨a, rfl, h⟩ := intsAt_at so hx en
    refine ⟨a, n :: ns, rfl, h, by simp, fun m hm hle => ?_⟩
    obtain ⟨k1, k2⟩ := maxI_spec (ns := n :: ns) (by simp)
    have em : m = maxI (n :: ns) := Int.le_antisymm (k2 m hm) (hle _ k1)
    rw [em]
    exact q φ H (Post.refl so) _ (.int _)
  · cases e
theorem cs_minL (hc : X.calm = true) : CallS X (.builtin "min") minLD := by
  refine L2.CallR.impS (cr_min hc) fun xs H Q ⟨st, φ, ds, so, hx, d, st', e, q⟩ => ?_
  unfold minLD at e
  split at e
  · rename_i n ns en
    cases e
    obtain ⟨a, rfl, h⟩ := intsAt_at so hx en
    refine ⟨a, n :: ns, rfl, h, by simp, fun m hm hle => ?_⟩
    obtain ⟨k1, k2⟩ := minI_spec (ns := n :: ns) (by simp)
    have em : m = minI (n :: ns) := Int.le_antisymm (hle _ k1) (k2 m hm)
    rw [em]
    exact q φ H (Post.refl so) _ (.int _)
  · cases e
theorem cs_all (hc : X.calm = true) : CallS X (.builtin "all") allD := by
  refine L2.CallR.impS (cr_all hc) fun xs H Q ⟨st, φ, ds, so, hx, d, st', e, q⟩ => ?_
  unfold allD at e
  split at e
  · rename_i ns en
    cases e
    obtain ⟨a, rfl, h⟩ := boolsAt_at so hx en
    exact ⟨a, ns, rfl, h, q φ H (Post.refl so) _ (.bl _)⟩
  · cases e
theorem cs_any (hc : X.calm = true) : CallS X (.builtin "any") anyD := by
  refine L2.CallR.impS (cr_any hc) fun xs H Q ⟨st, φ, ds, so, hx, d, st', e, q⟩ => ?_
  unfold anyD at e
  split at e
  · rename_i ns en
    cases e
    obtain ⟨a, rfl, h⟩ := boolsAt_at so hx en
    exact ⟨a, ns, rfl, h, q φ H (Post.refl so) _ (.bl _)⟩
  · cases e

/-! ### sorted of numbers -/
def insI (a : Int) : List Int → List Int
  | [] => [a]
  | c :: r => if a ≤ c then a :: c :: r else c :: insI a r
def sortI : List Int → List Int
  | [] => []
  | a :: r => insI a (sortI r)
end
theorem insI_perm (a : Int) : ∀ l : List Int, (insI a l).Perm (a :: l)
  | [] => .refl _
  | c :: r => by
    unfold insI
    split
    · exact .refl _
    · exact ((insI_perm a r).cons c).trans (.swap a c r)
theorem sortI_perm : ∀ l : List Int, (sortI l).Perm l
  | [] => .refl _
  | a :: r => (insI_perm a (sortI r)).trans ((sortI_perm r).cons a)
theorem insI_sorted (a : Int) : ∀ l : List Int, l.Pairwise (· ≤ ·) → (insI a l).Pairwise (· ≤ ·)
  | [], _ => by simp [insI]
  | c :: r, h => by
    unfold insI
    have hc : ∀ y ∈ r, c ≤ y := fun y hy => List.rel_of_pairwise_cons h hy
    have hr := List.Pairwise.of_cons h
    split
    · rename_i hac
      refine .cons (fun y hy => ?_) h
      rcases List.mem_cons.mp hy with rfl | hy
      · exact hac
      · exact Int.le_trans hac (hc y hy)
    · rename_i hac
      refine .cons (fun y hy => ?_) (insI_sorted a r hr)
      rcases List.mem_cons.mp ((insI_perm a r).mem_iff.mp hy) with rfl | hy
      · omega
      · exact hc y hy
theorem sortI_sorted : ∀ l : List Int, (sortI l).Pairwise (· ≤ ·)
  | [] => .nil
  | a :: r => insI_sorted a _ (sortI_sorted r)
theorem sortI_uniq {l m : List Int} (hp : m.Perm l) (hs : m.Pairwise (· ≤ ·)) : m = sortI l := PySem.W.ksm_same (hp.trans (sortI_perm l).symm) hs (sortI_sorted l)
def sortedD : List D → Sto → Option (List D) := fun ds st => (intsAt ds st).map fun ns => (sortI ns).map D.int
theorem dens_ints {K : PySem.W.Frag} {mg : Str → Option Value} {φ : List Addr} {H : Hp} (ns : List Int) : Dens K mg φ H (ns.map D.int) (ns.map V.int) := by
  induction ns with
  | nil => exact .nil
  | cons n ns ih => exact .cons (.int n) ih
section
variable {X : Cx} {F : Fr} {W : WX} {b : Bool} {pos : Pos}
theorem cf_sorted : CallF X (.builtin "sorted") sortedD := by
  refine L2.CallR.impS cr_sortedI fun xs H Q ⟨st, φ, ds, so, hx, es, e, q⟩ => ?_
  obtain ⟨ns, e1, e2⟩ := Option.map_eq_some_iff.mp e
  obtain ⟨a, rfl, h⟩ := intsAt_at so hx e1
  refine ⟨a, ns, rfl, h, fun ns' p hp hs hn => ?_⟩
  rw [sortI_uniq hp hs]
  subst e2
  exact q φ _ (Post.new so hn) _ ⟨p, _, rfl, upd_same, dens_ints _, so.free hn, hn⟩
end
end Sx
/-! Sx11: isinstance, calls by keywords and by a local name, methods, stores into lists, several targets -/
namespace Sx
open PySem L2

/-! ### isinstance -/
def tyN (st : Sto) : D → Option String
  | .non => some "NoneType"
  | .bl _ => some "bool"
  | .int _ => some "int"
  | .str _ => some "str"
  | .tup _ => some "tuple"
  | .lst _ => some "list"
  | .dct _ _ => some "dict"
  | .loc n => match st[n]? with
    | some (.lst _) => some "list"
    | some (.dct _ _) => some "dict"
    | _ => none
  | _ => none
def isaT (a b : String) : Bool := a == b || (a == "bool" && b == "int")
abbrev tyNames : List String := ["NoneType", "bool", "int", "str", "tuple", "list", "dict"]
abbrev tyAsked : List String := ["bool", "int", "str", "tuple", "list", "dict"]
theorem isa_tab : ∀ a ∈ tyNames, ∀ b ∈ tyAsked, kitB a b = some (isaT a b) := by decide +kernel
theorem tyN_mem {st : Sto} {d : D} {t : String} (h : tyN st d = some t) : t ∈ tyNames := by
  unfold tyN at h
  split at h <;> first | (cases h; decide) | cases h | (split at h <;> first | (cases h; decide) | cases h)
/-- the names of a tuple of built-in classes -/
def tysOf : List D → Option (List String)
  | [] => some []
  | .ty n :: r => if n ∈ tyAsked then (tysOf r).map (n :: ·) else none
  | _ => none
def isiD : List D → Sto → Out D := fun ds st => match ds with
  | [x, .ty n] => match tyN st x with
    | some t => if n ∈ tyAsked then .ok (.bl (isaT t n)) st else .stuck
    | none => .stuck
  | [x, .tup ts] => match tyN st x, tysOf ts with
    | some t, some ns => .ok (.bl (ns.any (isaT t))) st
    | _, _ => .stuck
  | _ => .stuck
section
variable {K : PySem.W.Frag} {mg : Str → Option Value} {φ : List Addr} {H : Hp} {st : Sto}
theorem tyx_of {d : D} {x : V} {t : String} (so : StoOk K mg φ H st) (h : BDen K mg φ H d x) (e : tyN st d = some t) : TyX K H x (.type t) := by
  have sqT : ∀ {a : Addr} {xs : List V}, SqT K H a xs → TyX K H (.ref a) (.type "tuple") := fun {a xs} h => by
    rcases h with (h | ⟨o, h⟩) | ⟨o, its, n, h1, h2, _⟩
    · exact .base (.tup h)
    · exact .fTuple h
    · exact .kTuple h1 h2
  have sqL : ∀ {a : Addr} {xs : List V}, SqL K H a xs → TyX K H (.ref a) (.type "list") := fun {a xs} h => by
    rcases h with (h | ⟨o, h⟩) | ⟨o, its, n, h1, h2, _⟩
    · exact .base (.lst h)
    · exact .base (.frz h)
    · exact .kList h1 h2
  cases d with
  | non => cases e; rw [h.non]; exact .base .non
  | bl _ => cases e; rw [h.bl]; exact .base (.bl _)
  | int _ => cases e; rw [h.int]; exact .base (.int _)
  | str _ => cases e; rw [h.str]; exact .base (.str _)
  | tup _ =>
    cases e
    obtain ⟨a, xs, rfl, h1, _⟩ := h.tup
    exact sqT h1
  | lst _ =>
    cases e
    obtain ⟨a, xs, rfl, h1, _⟩ := h.lst
    exact sqL h1
  | dct _ _ =>
    cases e
    rcases h with h | ⟨_, _, _, e, _⟩
    · cases h with
      | dct h1 _ _ => exact .fDict h1
    · cases e
  | loc n =>
    obtain ⟨a, rfl, ha⟩ := h.loc
    unfold tyN at e
    cases es : st[n]? with
    | none => simp [es] at e
    | some c =>
      obtain ⟨a', ha', hc⟩ := so.at' n c es
      rw [ha] at ha'
      cases ha'
      cases c with
      | lst _ => simp only [es] at e; cases e; obtain ⟨xs, h1, _⟩ := hc; exact .base (.lst h1)
      | dct _ _ => simp only [es] at e; cases e; obtain ⟨ys, h1, _⟩ := hc; exact .base (.dK h1)
      | ins _ _ => simp only [es] at e; cases e
  | glb _ => cases e
  | ty _ => cases e
theorem tysOf_cls : ∀ {ts : List D} {cs : List V} {ns : List String}, Dens K mg φ H ts cs → tysOf ts = some ns → Paired ClsV cs (ns.map Value.type) ∧ ∀ n ∈ ns, n ∈ tyAsked
  | _, _, _, .nil, e => by cases e; exact ⟨.nil, fun _ h => nomatch h⟩
  | _, _, ns, .cons (d := d) h t, e => by
    cases d with
    | ty n =>
      unfold tysOf at e
      split at e
      · rename_i hn
        obtain ⟨ms, e1, rfl⟩ := Option.map_eq_some_iff.mp e
        obtain ⟨a1, a2⟩ := tysOf_cls t e1
        cases h
        refine ⟨.cons (.ty n) a1, fun m hm => ?_⟩
        rcases List.mem_cons.mp hm with rfl | hm
        · exact hn
        · exact a2 m hm
      · cases e
    | _ => cases e
theorem kitAny_of {t : String} (ht : t ∈ tyNames) : ∀ ns : List String, (∀ n ∈ ns, n ∈ tyAsked) → PySem.W.kitAny K (.type t) (ns.map Value.type) = some (ns.any (isaT t))
  | [], _ => rfl
  | n :: ns, h => by
    have h1 := kit_ty (K := K) (isa_tab t ht n (h n List.mem_cons_self))
    have h2 := kitAny_of ht ns fun m hm => h m (List.mem_cons_of_mem _ hm)
    rw [List.map_cons, List.any_cons]
    refine kitAny_cons h1 (fun e => ?_) fun e => by rw [e]; rfl
    rw [h2, e]
    rfl
end
section
variable {X : Cx} {F : Fr} {W : WX} {b : Bool} {pos : Pos}
theorem cs_isi : CallS X (.builtin "isinstance") isiD := by
  intro pins s σ H xs us Q I rs ⟨st, φ, ds, so, hx, d, st', e, q⟩
  unfold isiD at e
  split at e
  · rename_i x n
    cases et : tyN st x with
    | none => simp [et] at e
    | some t =>
      simp only [et] at e
      split at e
      · rename_i hn
        cases e
        obtain ⟨v, c, rfl, h1, h2⟩ := hx.two
        rw [h2.ty] at rs
        exact call_isi pins s σ H _ us Q I rs ⟨v, .ty n, .type t, .type n, _, rfl, .ty n, tyx_of so h1 et, kit_ty (isa_tab t (tyN_mem et) n hn), q φ H (Post.refl so) _ (.bl _)⟩
      · cases e
  · rename_i x ts
    cases et : tyN st x with
    | none => simp [et] at e
    | some t =>
      cases en : tysOf ts with
      | none => simp [et, en] at e
      | some ns =>
        simp only [et, en] at e
        cases e
        obtain ⟨v, c, rfl, h1, h2⟩ := hx.two
        obtain ⟨tp, cs, rfl, h3, h4⟩ := h2.tup
        obtain ⟨k1, k2⟩ := tysOf_cls h4 en
        obtain ⟨u1, u2, rfl, r1, r2⟩ := vals2 rs
        cases (show u2 = Value.ref tp from r2)
        obtain ⟨P, Z, p, hne⟩ := kit_of I r1 (tyx_of so h1 et)
        obtain ⟨its, rv, ⟨o, g1, g2, m, g3⟩, _⟩ := I.tuple h3
        have e3 := ClsV.all k1 rv
        subst e3
        obtain ⟨oc, od, dt, sl⟩ := o
        simp only at g2 g3
        subst g2 g3
        exact PySem.W.kia_tup Z I.kIn p g1 (kitAny_of (tyN_mem et) ns k2) hne fun tk => ⟨.bl _, H, I.tok tk, rfl, q φ H (Post.refl so) _ (.bl _)⟩
  · cases e

/-! ### calls by keywords -/
abbrev SK (X : Cx) (F : Fr) (W : WX) (kws : List Keyword) (m : AM) : Prop := PK X kws (rA X.K X.mg F W false m)
theorem _root_.L2.PK.impS {X : Cx} {kws : List Keyword} {t t' : TA} (h : PK X kws t) (k : ∀ σ H Q, t' σ H Q → t σ H Q) : PK X kws t' := ⟨fun pos pins s σ H Q I q => h.run pos pins s σ H Q I (k σ H Q q)⟩
theorem sk_nil : SK X F W [] aNil := L2.PK.impS pk_nil fun σ H Q ⟨ρ, st, φ, rp, q⟩ => fin_ok rp.sto q [] .nil
theorem sk_cons {e : Expr} {nm : Option Str} {kpos : Pos} {kws : List Keyword} {m : EM} {n : AM} (h : SE X F W e m) (k : SK X F W kws n) : SK X F W (⟨nm, e, kpos⟩ :: kws) (aCons m n) := by
  refine L2.PK.impS (pk_cons h k) fun σ H Q ⟨ρ, st, φ, rp, q⟩ => ⟨ρ, st, φ, rp, fin_imp (fin_bind q) fun d st1 φ1 H1 p1 q1 v dv => ?_⟩
  refine ⟨ρ, st1, φ1, rp.step p1, fin_imp (fin_bind q1) fun ds st2 φ2 H2 p2 q2 vs dvs => fin_ok p2.sto q2 (v :: vs) (.cons (dv.keep p2.kp) dvs)⟩
/-- keywords in the parameters' order -/
def arr {α : Type} (z : α) (π : List Nat) (ws : List α) : List α := π.map fun j => ws.getD j z
structure FnK (P : Program) (w : World) (K : PySem.W.Frag) (mg : Str → Option Value) (base : Heap) (k : Nat) (x : Str) (ks : List Str) (π : List Nat) (m : List D → Sto → Out D) : Prop where
  ex : ∃ f fd ps, mg x = some (.ref f) ∧ PySem.W.keepIn K (.ref f) = true ∧ (∀ (s : Shared) (ws : List Value), K.In s.heap → ws.length = ks.length → BindsTo s fd ⟨[], ks.zip ws⟩ (ps.zip (arr .none π ws))) ∧ ps.length = ks.length ∧ π.length = ks.length ∧ (∀ j ∈ π, j < ks.length) ∧
    FnOk P w K mg base (L2.CX P w) k f fd ps (spD K mg ks.length m)
end
section
variable {K : PySem.W.Frag} {mg : Str → Option Value} {φ : List Addr} {H : Hp}
theorem arr_dens {π : List Nat} {ds : List D} {vs : List V} (h : Dens K mg φ H ds vs) (hp : ∀ j ∈ π, j < ds.length) : Dens K mg φ H (arr .non π ds) (arr .non π vs) := by
  unfold arr
  induction π with
  | nil => exact .nil
  | cons j π ih =>
    have hj := hp j List.mem_cons_self
    obtain ⟨v, e1, dv⟩ := h.get (List.getElem?_eq_getElem hj)
    refine .cons ?_ (ih fun k hk => hp k (List.mem_cons_of_mem _ hk))
    dsimp only
    rw [List.getD_eq_getElem?_getD, List.getD_eq_getElem?_getD, e1, List.getElem?_eq_getElem hj]
    exact dv
theorem arr_vals {π : List Nat} {vs : List V} {us : List Value} (h : Vals vs us) (hp : ∀ j ∈ π, j < vs.length) : Vals (arr .non π vs) (arr .none π us) := by
  unfold arr
  induction π with
  | nil => exact .nil
  | cons j π ih =>
    have hj := hp j List.mem_cons_self
    obtain ⟨u, e1, r⟩ := h.get (List.getElem?_eq_getElem hj)
    refine .cons ?_ (ih fun k hk => hp k (List.mem_cons_of_mem _ hk))
    dsimp only
    rw [List.getD_eq_getElem?_getD, List.getD_eq_getElem?_getD, e1, List.getElem?_eq_getElem hj]
    exact r
end
section
variable {X : Cx} {F : Fr} {W : WX} {b : Bool} {pos : Pos}
def eCallK (m : List D → Sto → Out D) (π : List Nat) (a : AM) : EM := fun ρ st => (a ρ st).bind fun ds st1 => m (arr .non π ds) st1
/-- the callee runs -/
theorem runK {k : Nat} {f : Addr} {fd : FuncData} {ps ks : List Str} {π : List Nat} {m : List D → Sto → Out D} {pins : List (Addr × Obj)} {σ : L2.St} {H : Hp} {s : Shared} {Q : VK} {ws : List Value} {zs : List V} {ds : List D} {st : Sto} {φ : List Addr}
    (hb : ∀ (s : Shared) (ws : List Value), X.K.In s.heap → ws.length = ks.length → BindsTo s fd ⟨[], ks.zip ws⟩ (ps.zip (arr .none π ws))) (hp : ∀ j ∈ π, j < ks.length) (hl : π.length = ks.length) (G : FnOk X.prog X.w X.K X.mg X.base (L2.CX X.prog X.w) k f fd ps (spD X.K X.mg ks.length m)) (hr : Room k X.A) (tk : Takes X W)
    (I : L2.Inv X pins σ H s) (r : Vals zs ws) (so : StoOk X.K X.mg φ H st) (hd : Dens X.K X.mg φ H ds zs) (el : ds.length = ks.length) (q : fin X.K X.mg φ H (fun c d H' => W c d σ H') (m (arr .non π ds) st) fun d _ φ' H' => ∀ v, RDen X.K X.mg b φ' H' d v → Q v H') :
    wpAny (model X.prog X.w) X.A (call (.ref f) [] (ks.zip ws)) (EP X pins σ Q) X.xe s := by
  have lz : zs.length = ks.length := by rw [← hd.length, el]
  have r2 := arr_vals r (π := π) fun j hj => by rw [lz]; exact hp j hj
  refine wpAny_call (PySem.codeAny_mono (G.run X.A X.stack s H ⟨[], ks.zip ws⟩ (arr .none π ws) (arr .non π zs) Q (WE W σ) hr I.env0 (hb s ws I.kIn (by rw [← r.length, lz])) r2 ?_) fun rr s' hq => ?_)
  · exact ⟨st, φ, arr .non π ds, so, arr_dens hd (fun j hj => by rw [el]; exact hp j hj), by unfold arr; rw [List.length_map, hl], fin_imp q fun d st2 φ2 H2 p2 q2 v dv => q2 v (RDen.of dv)⟩
  · cases rr with
    | error e => exact passAt tk σ pins H s e s' I hq
    | ok fl =>
      cases fl with
      | ret u => exact I.after hq
      | next => exact hq.elim
      | brk => exact hq.elim
      | cont => exact hq.elim
/-- f(k = e, ..) -/
theorem se_callK {x : Str} {p : Pos} {kws : List Keyword} {k : Nat} {ks : List Str} {π : List Nat} {m : List D → Sto → Out D} {a : AM} (G : FnK X.prog X.w X.K X.mg X.base k x ks π m) (hr : Room k X.A) (tk : Takes X W) (ha : SK X F W kws a) (hl : ALen a ks.length) (hg : Gl X x := by rfl)
    (hall : (backToKw pos (keywordEach kws X.env)).all (·.1.isSome) = true := by rfl) (hks : (backToKw pos (keywordEach kws X.env)).filterMap (·.1) = ks := by rfl) (hd : (x == ("__debug__" : Str)) = false := by decide)
    (hpl : ((backTo pos (starEach [] X.env)).any (·.1) || (backToKw pos (keywordEach kws X.env)).any (·.1.isNone)) = false := by rfl) :
    PE X (.Call (.Name x p) [] kws pos) (rE X.K X.mg F W b (eCallK m π a)) := by
  obtain ⟨f, fd, ps, hm, hk, hb, hn, hn2, hp, G⟩ := G.ex
  refine ⟨fun pins s σ H Q I ⟨ρ, st, φ, rp, q⟩ => PySem.wpAny_Call_Name_kw (ld_glob I hg hm ?_ hd)⟩
  refine PySem.W.callWith_KW0 (h₀ := X.base) I.ok.mod.kin hk hall (thn (ha.run pos pins s σ H (fun zs H1 => ∃ st1 φ1 ds, StoOk X.K X.mg φ1 H1 st1 ∧ Dens X.K X.mg φ1 H1 ds zs ∧ ds.length = ks.length ∧ fin X.K X.mg φ1 H1 (fun c d H' => W c d σ H') (m (arr .non π ds) st1) fun d _ φ' H' => ∀ v, RDen X.K X.mg b φ' H' d v → Q v H') I ⟨ρ, st, φ, rp, ?_⟩) fun ws s1 ⟨zs, H1, I1, rz, st1, φ1, ds, so, hds, el, q1⟩ => ⟨I1.kIn, ?_⟩) hpl
  · cases ea : a ρ st with
    | exc y st1 => rw [eCallK, ea] at q; exact q
    | stuck => rw [eCallK, ea] at q; exact q
    | ok ds st1 =>
      have q' := fin_bind q
      rw [ea] at q'
      exact fun φ1 H1 p1 vs hv => ⟨st1, φ1, ds, p1.sto, RDens.dens hv, hl ρ st ds st1 ea, q' φ1 H1 p1⟩
  · rw [hks]
    exact runK (b := b) hb hp hn2 G hr tk I1 rz so hds el q1

/-! ### a local name that holds a def -/
abbrev Tab := List (Str × (List D → Sto → Out D))
def eCallV (i : Nat) (T : Tab) (a : AM) : EM := fun ρ st => match ρ[i]? with
  | some (.val (.glb x)) => match T.lookup x with
    | some m => (a ρ st).bind fun ds st1 => m ds st1
    | none => .stuck
  | _ => .stuck
theorem eCallV_inv {X : Cx} {F : Fr} {w : XK} {φ : List Addr} {H : Hp} {i : Nat} {T : Tab} {ρ : Rho} {st : Sto} {σ : L2.St} {f : Tab → (List D → Sto → Out D) → Out D} {P : D → Sto → List Addr → Hp → Prop} (rp : Rep X.K X.mg F ρ st φ σ H)
    (q : fin X.K X.mg φ H w (match ρ[i]? with
      | some (.val (.glb x)) => (match T.lookup x with
        | some m => f T m
        | none => .stuck)
      | _ => .stuck) P) :
    ∃ x m a, T.lookup x = some m ∧ X.mg x = some (.ref a) ∧ σ[i]? = some (some (.ref a)) ∧ fin X.K X.mg φ H w (f T m) P := by
  cases e : ρ[i]? with
  | none => simp only [e] at q; exact q.elim
  | some t =>
    cases t with
    | val d =>
      cases d with
      | glb x =>
        simp only [e] at q
        cases el : T.lookup x with
        | none => simp only [el] at q; exact q.elim
        | some m =>
          simp only [el] at q
          obtain ⟨v, ev, dv⟩ := rp.slot i _ e
          cases dv with
          | glb hm => exact ⟨x, m, _, el, hm, ev, q⟩
      | _ => simp only [e] at q; exact q.elim
    | un => simp only [e] at q; exact q.elim
    | own _ => simp only [e] at q; exact q.elim
    | exc _ => simp only [e] at q; exact q.elim
theorem se_callV {x : Str} {p : Pos} {e : Expr} {es : List Expr} {i k n : Nat} {T : Tab} {a : AM} (G : ∀ y m, T.lookup y = some m → FnD X.prog X.w X.K X.mg X.base k y n m) (hr : Room k X.A) (tk : Takes X W) (ha : SA X F W false (e :: es) a) (hl : ALen a n)
    (hN : X.N[i]? = some x := by rfl) (hv : Vis X.env.scope x := by first | exact Or.inl rfl | exact Or.inr (Or.inl rfl) | exact Or.inr (Or.inr rfl)) (hd : (x == ("__debug__" : Str)) = false := by decide) (hcd : (x == ("__classdict__" : Str)) = false := by decide) (he : starEach (e :: es) X.env = (false, eval e X.env) :: starEach es X.env := by rfl) (hpl : (backTo pos (starEach es X.env)).any (·.1) = false := by rfl) :
    PE X (.Call (.Name x p) (e :: es) [] pos) (rE X.K X.mg F W b (eCallV i T a)) := by
  refine ⟨fun pins s σ H Q I ⟨ρ, st, φ, rp, q⟩ => ?_⟩
  obtain ⟨y, m, f, el, hm, hs, q⟩ := eCallV_inv (f := fun _ m => (a ρ st).bind fun ds st1 => m ds st1) rp q
  obtain ⟨f', fd, ps, hm', hk, hb, hn, G⟩ := (G y m el).ex
  rw [hm] at hm'
  cases hm'
  refine PySem.wpAny_Call_Name_kw (thn ((pe_var (pos := p) hN hv hd hcd).run pins s σ H (fun v H1 => v = .ref f ∧ H1 = H) I ⟨.ref f, hs, rfl, rfl⟩) fun u s1 ⟨v, H1, I1, r1, q1⟩ => ?_)
  obtain ⟨rfl, rfl⟩ := q1
  cases r1
  refine PySem.W.callWith_K (h₀ := X.base) I.ok.mod.kin hk (thn (ha.run pos pins s1 σ H1 (fun vs H2 => spD X.K X.mg n m vs H2 Q (WE W σ)) I1 ⟨ρ, st, φ, rp, ?_⟩) fun us s2 ⟨vs, H2, I2, r, q2⟩ => ⟨I2.kIn, ?_⟩) he hpl
  · cases ea : a ρ st with
    | exc y st1 => rw [ea] at q; exact q
    | stuck => rw [ea] at q; exact q
    | ok ds st1 =>
      have q' := fin_bind q
      rw [ea] at q'
      exact fun φ1 H2 p1 vs hv => ⟨st1, φ1, ds, p1.sto, RDens.dens hv, hl ρ st ds st1 ea, fin_imp (q' φ1 H2 p1) fun d st2 φ2 H3 p2 q2 v dv => q2 v (RDen.of dv)⟩
  · exact run_fnS G hr hb (passAt tk σ) I2 r q2
def eCallVK (i : Nat) (T : Tab) (π : List Nat) (a : AM) : EM := fun ρ st => match ρ[i]? with
  | some (.val (.glb x)) => match T.lookup x with
    | some m => (a ρ st).bind fun ds st1 => m (arr .non π ds) st1
    | none => .stuck
  | _ => .stuck
theorem se_callVK {x : Str} {p : Pos} {kws : List Keyword} {i k : Nat} {ks : List Str} {π : List Nat} {T : Tab} {a : AM} (G : ∀ y m, T.lookup y = some m → FnK X.prog X.w X.K X.mg X.base k y ks π m) (hr : Room k X.A) (tk : Takes X W) (ha : SK X F W kws a) (hl : ALen a ks.length)
    (hN : X.N[i]? = some x := by rfl) (hv : Vis X.env.scope x := by first | exact Or.inl rfl | exact Or.inr (Or.inl rfl) | exact Or.inr (Or.inr rfl)) (hd : (x == ("__debug__" : Str)) = false := by decide) (hcd : (x == ("__classdict__" : Str)) = false := by decide)
    (hall : (backToKw pos (keywordEach kws X.env)).all (·.1.isSome) = true := by rfl) (hks : (backToKw pos (keywordEach kws X.env)).filterMap (·.1) = ks := by rfl)
    (hpl : ((backTo pos (starEach [] X.env)).any (·.1) || (backToKw pos (keywordEach kws X.env)).any (·.1.isNone)) = false := by rfl) :
    PE X (.Call (.Name x p) [] kws pos) (rE X.K X.mg F W b (eCallVK i T π a)) := by
  refine ⟨fun pins s σ H Q I ⟨ρ, st, φ, rp, q⟩ => ?_⟩
  obtain ⟨y, m, f, el, hm, hs, q⟩ := eCallV_inv (f := fun _ m => (a ρ st).bind fun ds st1 => m (arr .non π ds) st1) rp q
  obtain ⟨f', fd, ps, hm', hk, hb, hn, hn2, hp, G⟩ := (G y m el).ex
  rw [hm] at hm'
  cases hm'
  refine PySem.wpAny_Call_Name_kw (thn ((pe_var (pos := p) hN hv hd hcd).run pins s σ H (fun v H1 => v = .ref f ∧ H1 = H) I ⟨.ref f, hs, rfl, rfl⟩) fun u s1 ⟨v, H1, I1, r1, q1⟩ => ?_)
  obtain ⟨rfl, rfl⟩ := q1
  cases r1
  refine PySem.W.callWith_KW0 (h₀ := X.base) I.ok.mod.kin hk hall (thn (ha.run pos pins s1 σ H1 (fun zs H1 => ∃ st1 φ1 ds, StoOk X.K X.mg φ1 H1 st1 ∧ Dens X.K X.mg φ1 H1 ds zs ∧ ds.length = ks.length ∧ fin X.K X.mg φ1 H1 (fun c d H' => W c d σ H') (m (arr .non π ds) st1) fun d _ φ' H' => ∀ v, RDen X.K X.mg b φ' H' d v → Q v H') I1 ⟨ρ, st, φ, rp, ?_⟩) fun ws s1 ⟨zs, H1, I1, rz, st1, φ1, ds, so, hds, el, q1⟩ => ⟨I1.kIn, ?_⟩) hpl
  · cases ea : a ρ st with
    | exc y st1 => rw [ea] at q; exact q
    | stuck => rw [ea] at q; exact q
    | ok ds st1 =>
      have q' := fin_bind q
      rw [ea] at q'
      exact fun φ1 H1 p1 vs hv => ⟨st1, φ1, ds, p1.sto, RDens.dens hv, hl ρ st ds st1 ea, q' φ1 H1 p1⟩
  · rw [hks]
    exact runK (b := b) hb hp hn2 G hr tk I1 rz so hds el q1
end
end Sx
/-! Sx12: methods, stores into lists, several targets at once, chains -/
namespace Sx
open PySem L2

/-! ### methods of lists (cells) and texts -/
def rMt (K : PySem.W.Frag) (mg : Str → Option Value) (b : Bool) (g : D → List D → Sto → Out D) : V → List V → Hp → VK → Prop := fun x xs H Q => ∃ st φ d ds, StoOk K mg φ H st ∧ BDen K mg φ H d x ∧ RDens K mg b φ H ds xs ∧
  ∃ r st', g d ds st = .ok r st' ∧ ∀ φ' H', Post K mg φ H st' φ' H' → ∀ v, Den K mg φ' H' r v → Q v H'
def MtS (X : Cx) (id : String) (b : Bool) (g : D → List D → Sto → Out D) : Prop := MtR X id (rMt X.K X.mg b g)
theorem _root_.L2.MtR.impS {X : Cx} {id : String} {r r' : V → List V → Hp → VK → Prop} (h : MtR X id r) (k : ∀ x xs H Q, r' x xs H Q → r x xs H Q) : MtR X id r' := fun pins s σ H x xs v us Q I r1 r2 q => h pins s σ H x xs v us Q I r1 r2 (k x xs H Q q)
/-- an object of a built-in type with methods -/
def tyM (st : Sto) (T : String) : D → Bool
  | .str _ => T == "str"
  | .loc n => T == "list" && (lstOf st (.loc n)).isSome
  | .lst _ => T == "list"
  | _ => false
theorem tyM_is {K : PySem.W.Frag} {mg : Str → Option Value} {φ : List Addr} {H : Hp} {st : Sto} {T : String} {d : D} {x : V} (so : StoOk K mg φ H st) (h : BDen K mg φ H d x) (e : tyM st T d = true) : tyV K T x H := by
  have lst : ∀ {ds : List D}, T = "list" → lstOf st d = some ds → tyV K T x H := fun {ds} hT el => by
    obtain ⟨a, xs, rfl, h1, _⟩ := lstOf_at so h el
    exact .inl ⟨hT, xs, h1⟩
  cases d with
  | str s =>
    rw [h.str]
    show T = "str"
    simpa [tyM] using e
  | loc n =>
    simp only [tyM, Bool.and_eq_true, beq_iff_eq] at e
    obtain ⟨ds, ed⟩ := Option.isSome_iff_exists.mp e.2
    exact lst e.1 ed
  | lst ds =>
    simp only [tyM, beq_iff_eq] at e
    exact lst e rfl
  | _ => cases e
def eMt (T : String) (g : D → List D → Sto → Out D) (mo : EM) (ma : AM) : EM := fun ρ st => (mo ρ st).bind fun o st1 => if tyM st1 T o = true then (ma ρ st1).bind fun ds st2 => match g o ds st2 with
  | .ok r st3 => .ok r st3
  | _ => .stuck
  else .stuck
theorem RDens.keep {K : PySem.W.Frag} {mg : Str → Option Value} {φ φ1 : List Addr} {H H1 : Hp} {b : Bool} (k : Kp φ H φ1 H1) : ∀ {ds : List D} {vs : List V}, RDens K mg b φ H ds vs → RDens K mg b φ1 H1 ds vs
  | _, _, .nil => .nil
  | _, _, .cons h t => .cons (h.keep k) (RDens.keep k t)
section
variable {X : Cx} {F : Fr} {W : WX} {b : Bool} {pos : Pos}
theorem se_mt {c : Bool} {T id : String} {name : Str} {apos cpos : Pos} {o e : Expr} {es : List Expr} {g : D → List D → Sto → Out D} {mo : EM} {ma : AM} (pa : PlainAttrs T) (slot : PySem.Slot T name id) (hty : typeOf (.builtin id) = pure (.type "method_descriptor")) (hm : MtS X id c g) (ho : SB X F W o mo) (ha : SA X F W c (e :: es) ma)
    (hbase : attributeBase o name X.env (eval o X.env) = eval o X.env := by rfl)
    (hfew : ((backTo cpos (starEach (e :: es) X.env)).all (fun x => !x.1) && (backToKw cpos (keywordEach [] X.env)).all (fun x => x.1.isSome)
      && decide ((e :: es).length + ([] : List Keyword).length + (if ([] : List Keyword).isEmpty then 0 else 1) < 30)) = true := by rfl)
    (hline : (apos.endLine == cpos.line) = true := by rfl) (hs : starEach (e :: es) X.env = (false, eval e X.env) :: starEach es X.env := by rfl) (hplain : (backTo cpos (starEach es X.env)).any (·.1) = false := by rfl) :
    PE X (.Call (.Attribute o name apos) (e :: es) [] cpos) (rE X.K X.mg F W b (eMt T g mo ma)) := by
  refine L2.PE.impS (pe_bm pa slot hty hm ho ha hbase hfew hline hs hplain) fun σ H Q ⟨ρ, st, φ, rp, q⟩ => ⟨ρ, st, φ, rp, fin_imp (fin_bind q) fun d st1 φ1 H1 p1 q1 x hx => ?_⟩
  by_cases ht : tyM st1 T d = true
  · rw [if_pos ht] at q1
    refine ⟨tyM_is p1.sto hx ht, ρ, st1, φ1, rp.step p1, fin_imp (fin_bind q1) fun ds st2 φ2 H2 p2 q2 xs hxs => ⟨st2, φ2, d, ds, p2.sto, BDen.keep p2.kp hx, hxs, ?_⟩⟩
    cases e : g d ds st2 with
    | ok r st3 => rw [e] at q2; exact ⟨r, st3, rfl, fun φ' H' p v dv => q2 φ' H' p v (RDen.of dv)⟩
    | exc _ _ => rw [e] at q2; exact q2.elim
    | stuck => rw [e] at q2; exact q2.elim
  · rw [if_neg ht] at q1
    exact q1.elim
theorem se_mt0 {T id : String} {name : Str} {apos cpos : Pos} {o : Expr} {g : D → List D → Sto → Out D} {mo : EM} (pa : PlainAttrs T) (slot : PySem.Slot T name id) (hty : typeOf (.builtin id) = pure (.type "method_descriptor")) (hm : MtS X id false g) (ho : SB X F W o mo)
    (hbase : attributeBase o name X.env (eval o X.env) = eval o X.env := by rfl) (hline : (apos.endLine == cpos.line) = true := by rfl) :
    PE X (.Call (.Attribute o name apos) [] [] cpos) (rE X.K X.mg F W b (eMt T g mo aNil)) := by
  refine L2.PE.impS (pe_bm0 pa slot hty hm ho hbase hline) fun σ H Q ⟨ρ, st, φ, rp, q⟩ => ⟨ρ, st, φ, rp, fin_imp (fin_bind q) fun d st1 φ1 H1 p1 q1 x hx => ?_⟩
  by_cases ht : tyM st1 T d = true
  · rw [if_pos ht] at q1
    refine ⟨tyM_is p1.sto hx ht, st1, φ1, d, [], p1.sto, hx, .nil, ?_⟩
    simp only [aNil, Out.bind] at q1
    cases e : g d [] st1 with
    | ok r st3 => simp only [e] at q1; exact ⟨r, st3, rfl, fun φ' H' p v dv => q1 φ' H' p v (RDen.of dv)⟩
    | exc _ _ => simp only [e] at q1; exact q1.elim
    | stuck => simp only [e] at q1; exact q1.elim
  · rw [if_neg ht] at q1
    exact q1.elim
end
section
variable {X : Cx}
theorem RDens.oneF {K : PySem.W.Frag} {mg : Str → Option Value} {b : Bool} {φ : List Addr} {H : Hp} {d : D} {xs : List V} (h : RDens K mg b φ H [d] xs) : ∃ x, xs = [x] ∧ RDen K mg b φ H d x := by
  cases h with
  | cons a t => cases t; exact ⟨_, rfl, a⟩
theorem StoOk.cellL {K : PySem.W.Frag} {mg : Str → Option Value} {φ : List Addr} {H : Hp} {st : Sto} {n : Nat} {ds : List D} {x : V} (so : StoOk K mg φ H st) (h : BDen K mg φ H (.loc n) x) (e : st[n]? = some (.lst ds)) : ∃ a xs, x = .ref a ∧ φ[n]? = some a ∧ H a = some (.lst xs) ∧ Dens K mg φ H ds xs := by
  obtain ⟨a, rfl, ha⟩ := h.loc
  obtain ⟨a', ha', xs, h1, h2⟩ := so.at' n _ e
  rw [ha] at ha'
  cases ha'
  exact ⟨a, xs, rfl, ha, h1, h2⟩
/-- the cell's list is changed -/
theorem Post.wrL {K : PySem.W.Frag} {mg : Str → Option Value} {φ : List Addr} {H : Hp} {st : Sto} {n : Nat} {a : Addr} {xs ys : List V} {ds' : List D} (so : StoOk K mg φ H st) (ha : φ[n]? = some a) (h1 : H a = some (.lst xs)) (h2 : Dens K mg φ H ds' ys) : Post K mg φ H (st.set n (.lst ds')) φ (upd H a (.lst ys)) :=
  Post.write so ha h1 id ⟨ys, upd_same, h2.chg h1 id⟩
def apG : D → List D → Sto → Out D := fun o ds st => match o, ds with
  | .loc n, [d] => match st[n]? with
    | some (.lst es) => if es.length < sizeLine then .ok .non (st.set n (.lst (es ++ [d]))) else .stuck
    | _ => .stuck
  | _, _ => .stuck
theorem mt_apS : MtS X "list.append" false apG := by
  refine L2.MtR.impS mt_append fun x xs H Q ⟨st, φ, d, ds, so, hx, hs, r, st', e, q⟩ => ?_
  unfold apG at e
  split at e
  · rename_i n d1
    split at e
    · rename_i es ee
      split at e
      · rename_i hl
        cases e
        obtain ⟨a, ys, rfl, ha, h1, h2⟩ := so.cellL hx ee
        obtain ⟨y, rfl, hy⟩ := hs.oneF
        refine ⟨a, ys, y, rfl, rfl, h1, by rw [← h2.length]; exact hl, q φ _ (Post.wrL so ha h1 (h2.append (.cons hy .nil))) _ .non⟩
      · cases e
    · cases e
  · cases e
def popG : D → List D → Sto → Out D := fun o ds st => match o, ds with
  | .loc n, [.int i] => match st[n]? with
    | some (.lst es) => if -(2 ^ 63) ≤ i ∧ i < 2 ^ 63 then match seqIndex? i es.length with
      | some k => match es[k]? with
        | some d => .ok d (st.set n (.lst (es.eraseIdx k)))
        | none => .stuck
      | none => .stuck
      else .stuck
    | _ => .stuck
  | .loc n, [] => match st[n]? with
    | some (.lst es) => match es[es.length - 1]? with
      | some d => .ok d (st.set n (.lst es.dropLast))
      | none => .stuck
    | _ => .stuck
  | _, _ => .stuck
theorem Dens.dropLast {K : PySem.W.Frag} {mg : Str → Option Value} {φ : List Addr} {H : Hp} {ds : List D} {vs : List V} (h : Dens K mg φ H ds vs) : Dens K mg φ H ds.dropLast vs.dropLast := by
  rw [List.dropLast_eq_take, List.dropLast_eq_take, h.length]
  exact h.take _
theorem mt_popS : MtS X "list.pop" false popG := by
  refine MtR.impS (MtR.or mt_popAt mt_pop) fun x xs H Q ⟨st, φ, d, ds, so, hx, hs, r, st', e, q⟩ => ?_
  unfold popG at e
  split at e
  · rename_i n i
    split at e
    · rename_i es ee
      split at e
      · rename_i hi
        split at e
        · rename_i k ek
          split at e
          · rename_i d1 ed
            cases e
            obtain ⟨a, ys, rfl, ha, h1, h2⟩ := so.cellL hx ee
            obtain ⟨y, rfl, hy⟩ := hs.oneF
            obtain ⟨v, ev, dv⟩ := h2.get ed
            have hy : Den X.K X.mg φ H (.int i) y := hy
            cases hy
            have pw : Post X.K X.mg φ H (st.set n (.lst (es.eraseIdx k))) φ (upd H a (.lst (ys.eraseIdx k))) := Post.wrL so ha h1 (h2.erase k)
            exact .inl ⟨a, ys, i, k, v, rfl, rfl, h1, hi.1, hi.2, by rw [← h2.length]; exact ek, ev, q φ _ pw _ (dv.keep pw.kp.d)⟩
          · cases e
        · cases e
      · cases e
    · cases e
  · rename_i n
    split at e
    · rename_i es ee
      split at e
      · rename_i d1 ed
        cases e
        obtain ⟨a, ys, rfl, ha, h1, h2⟩ := so.cellL hx ee
        cases hs
        obtain ⟨v, ev, dv⟩ := h2.get ed
        have pw : Post X.K X.mg φ H (st.set n (.lst es.dropLast)) φ (upd H a (.lst ys.dropLast)) := Post.wrL so ha h1 h2.dropLast
        exact .inr ⟨a, ys, v, rfl, rfl, h1, by rw [← h2.length]; exact ev, q φ _ pw _ (dv.keep pw.kp.d)⟩
      · cases e
    · cases e
  · cases e
/-- texts -/
def cntG : D → List D → Sto → Out D := fun o ds st => match o, ds with
  | .str a, [.str b] => .ok (.int (Txt.count a b)) st
  | _, _ => .stuck
theorem mt_cntS : MtS X "str.count" true cntG := by
  refine L2.MtR.impS mt_count fun x xs H Q ⟨st, φ, d, ds, so, hx, hs, r, st', e, q⟩ => ?_
  unfold cntG at e
  split at e
  · cases e
    obtain ⟨y, rfl, hy⟩ := hs.oneF
    have hy : BDen X.K X.mg φ H _ y := hy
    exact ⟨_, _, hx.str, by rw [hy.str], q φ H (Post.refl so) _ (.int _)⟩
  · cases e
end
def strsOf : List D → Option (List Str)
  | [] => some []
  | .str i :: r => (strsOf r).map (i :: ·)
  | _ => none
theorem strsOf_vals {K : PySem.W.Frag} {mg : Str → Option Value} {φ : List Addr} {H : Hp} : ∀ {ds : List D} {xs : List V} {ns : List Str}, Dens K mg φ H ds xs → strsOf ds = some ns → xs = ns.map V.str ∧ ds = ns.map D.str
  | _, _, _, .nil, e => by cases e; exact ⟨rfl, rfl⟩
  | _, _, ns, .cons (d := d) h t, e => by
    cases d with
    | str i =>
      unfold strsOf at e
      obtain ⟨ms, e1, e2⟩ := Option.map_eq_some_iff.mp e
      subst e2
      obtain ⟨a1, a2⟩ := strsOf_vals t e1
      cases h
      subst a1 a2
      exact ⟨rfl, rfl⟩
    | _ => cases e
theorem strsOf_map (ns : List Str) : strsOf (ns.map D.str) = some ns := by
  induction ns with
  | nil => rfl
  | cons n ns ih => simp [strsOf, ih]
section
variable {X : Cx}
def joinG : D → List D → Sto → Out D := fun o ds st => match o, ds with
  | .str a, [d] => match (seqOf st d).bind strsOf with
    | some ys => if (ys.map (·.length)).sum + ys.length * a.length ≤ 16777216 then .ok (.str (Txt.join a ys)) st else .stuck
    | none => .stuck
  | _, _ => .stuck
theorem mt_joinS : MtS X "str.join" true joinG := by
  refine L2.MtR.impS mt_join fun x xs H Q ⟨st, φ, d, ds, so, hx, hs, r, st', e, q⟩ => ?_
  unfold joinG at e
  split at e
  · rename_i a d1
    split at e
    · rename_i ys ey
      split at e
      · rename_i hl
        cases e
        obtain ⟨y, rfl, hy⟩ := hs.oneF
        obtain ⟨es, e1, e2⟩ := Option.bind_eq_some_iff.mp ey
        obtain ⟨p, zs, rfl, h1, h2⟩ := seqOf_at so hy e1
        obtain ⟨rfl, _⟩ := strsOf_vals h2 e2
        exact ⟨a, p, ys, hx.str, rfl, h1, hl, q φ H (Post.refl so) _ (.str _)⟩
      · cases e
    · cases e
  · cases e
end

/-! ### o[i] = e, o a cell -/
def sSetI (me mo mi : EM) : SM := fun ρ st => sThen ρ (me ρ st) fun d st1 => sThen ρ (mo ρ st1) fun o st2 => sThen ρ (mi ρ st2) fun k st3 => match o, k with
  | .loc n, .int i => match st3[n]? with
    | some (.lst es) => match ixN es.length i with
      | some j => .nx ρ (st3.set n (.lst (es.set j d)))
      | none => .stuck
    | _ => .stuck
  | _, _ => .stuck
section
variable {X : Cx} {F : Fr} {W : WX} {b : Bool} {pos : Pos}
theorem sx_setI {e o i : Expr} {me mo mi : EM} {p2 : Pos} (he : SE X F W e me) (ho : SE X F W o mo) (hi : SE X F W i mi) (hs : swapsWithSole [.Subscript o i p2] e pos.line X.env = pure false := by rfl) (hw : swappedStores [.Subscript o i p2] e X.env = pure none := by rfl)
    (h1 : (assignEach [.Subscript o i p2] X.env).map (·.2) = [assign (.Subscript o i p2) X.env] := by rfl)
    (ha : ∀ v, assign (.Subscript o i p2) X.env v = (do
      let ov ← holding [v] (eval o X.env)
      let iv ← holding [v, ov] (eval i X.env)
      standAt p2
      holding [v, ov, iv] (setItem ov iv v)
      release [v, ov, iv] []) := by intro _; rfl) : SX X F W (.Assign [.Subscript o i p2] e pos) (sSetI me mo mi) := by
  refine L2.PS.impS (ps_asg he (pg_sub ho hi set_list ha) hs hw h1) fun D σ H ⟨ρ, st, φ, rp, q⟩ => ⟨ρ, st, φ, rp, fin_imp (finS_then rp q) fun d st1 φ1 H1 p1 q1 v dv => ?_⟩
  refine ⟨ρ, st1, φ1, rp.step p1, fin_imp (finS_then (rp.step p1) q1) fun od st2 φ2 H2 p2 q2 ov dov => ?_⟩
  refine ⟨ρ, st2, φ2, (rp.step p1).step p2, fin_imp (finS_then ((rp.step p1).step p2) q2) fun kd st3 φ3 H3 p3 q3 kv dkv => ?_⟩
  have r3 := ((rp.step p1).step p2).step p3
  have dov : Den X.K X.mg φ2 H2 od ov := dov
  have dkv : Den X.K X.mg φ3 H3 kd kv := dkv
  have dv : Den X.K X.mg φ1 H1 d v := dv
  split at q3
  · rename_i n k _ _
    cases es : st3[n]? with
    | none => simp only [es] at q3; exact q3.elim
    | some c =>
      cases c with
      | lst ds =>
        simp only [es] at q3
        cases ej : ixN ds.length k with
        | none => simp only [ej] at q3; exact q3.elim
        | some j =>
          simp only [ej] at q3
          obtain ⟨a, xs, rfl, ha, h1, h2⟩ := p3.sto.cellL (BDen.keep p3.kp (.inl dov)) es
          cases dkv
          refine ⟨a, xs, k, j, rfl, rfl, h1, by rw [← h2.length]; exact ej, ?_⟩
          have pw : Post X.K X.mg φ3 H3 (st3.set n (.lst (ds.set j d))) φ3 (upd H3 a (.lst (xs.set j v))) := Post.wrL p3.sto ha h1 (h2.set (dv.keep (p2.trans p3).kp.d) j)
          exact q3 φ3 σ _ (r3.step pw) pw.kp.d
      | dct _ _ => simp only [es] at q3; exact q3.elim
      | ins _ _ => simp only [es] at q3; exact q3.elim
  · exact q3.elim

/-! ### one's own list: append, item -/
def sAppO (i : Nat) (m : EM) : SM := fun ρ st => match ρ[i]? with
  | some (.own ds) => sThen ρ (m ρ st) fun d st1 => if ds.length < sizeLine then .nx (ρ.set i (.own (ds ++ [d]))) st1 else .stuck
  | _ => .stuck
theorem sx_appO {x : Str} {i : Nat} {e : Expr} {m : EM} {p apos cpos : Pos} (hv : PE X (.Name x p) (tVar i)) (he : SE X F W e m) (hsw : swapsWith (.Call (.Attribute (.Name x p) "append" apos) [e] [] cpos) none pos.line X.env = pure false := by rfl)
    (hbase : attributeBase (.Name x p) "append" X.env (eval (.Name x p) X.env) = eval (.Name x p) X.env := by rfl)
    (hfew : ((backTo cpos (starEach [e] X.env)).all (fun x => !x.1) && (backToKw cpos (keywordEach [] X.env)).all (fun x => x.1.isSome)
      && decide ([e].length + ([] : List Keyword).length + (if ([] : List Keyword).isEmpty then 0 else 1) < 30)) = true := by rfl)
    (hline : (apos.endLine == cpos.line) = true := by rfl) (hs : starEach [e] X.env = (false, eval e X.env) :: starEach [] X.env := by rfl) (hplain : (backTo cpos (starEach [] X.env)).any (·.1) = false := by rfl) :
    SX X F W (.Expr (.Call (.Attribute (.Name x p) "append" apos) [e] [] cpos) pos) (sAppO i m) := by
  refine L2.PS.impS (ps_expr (pe_bm PySem.F.plainAttrs_list PySem.F.slot_list_append PySem.F.type_list_append mt_append hv (pa_cons he pa_nil hs) hbase hfew hline hs hplain) hsw) fun D σ H ⟨ρ, st, φ, rp, q⟩ => ?_
  unfold sAppO at q
  cases er : ρ[i]? with
  | none => rw [er] at q; exact q.elim
  | some t =>
    rw [er] at q
    cases t with
    | own ds =>
      obtain ⟨a, xs, e1, ha, hs, hn, h0⟩ := rp.slot i _ er
      refine ⟨.ref a, e1, .inl ⟨rfl, xs, SqL.of ha⟩, ρ, st, φ, rp, fin_imp (finS_then rp q) fun d st1 φ1 H1 p1 q1 v dv => ?_⟩
      have dv : Den X.K X.mg φ1 H1 d v := dv
      have r1 := rp.step p1
      obtain ⟨a', xs', e1', ha', hs', hn', h0'⟩ := r1.slot i _ er
      rw [e1] at e1'
      cases e1'
      by_cases hl : ds.length < sizeLine
      · rw [if_pos hl] at q1
        refine ⟨a, xs', v, rfl, rfl, ha', by rw [← hs'.length]; exact hl, ?_⟩
        refine q1 φ1 σ _ (r1.wrOwn er e1 ha' hn' h0' (hs'.append (.cons dv .nil))) ⟨⟨[], (List.append_nil φ1).symm⟩, fun c u ec f => ?_⟩
        rw [upd_ne]
        · exact ec
        · rintro rfl
          rw [ha'] at ec
          cases ec
          exact f
      · rw [if_neg hl] at q1
        exact q1.elim
    | un => exact q.elim
    | val d => exact q.elim
    | exc x => exact q.elim
end
end Sx
/-! Sx13: frozen dicts; texts and tuples repeated; chains -/
namespace Sx
open PySem L2

def kD : Key → D
  | .inl i => .int i
  | .inr s => .str s
def keyOf : D → Option Key
  | .int i => some (.inl i)
  | .str s => some (.inr s)
  | _ => none
/-- the value under a key -/
def getKD : List Key → List D → Key → Option D
  | k :: ks, d :: ds, x => if k = x then some d else getKD ks ds x
  | _, _, _ => none
section
variable {K : PySem.W.Frag} {mg : Str → Option Value} {φ : List Addr} {H : Hp} {x : V} {st : Sto}
theorem key_v {d : D} {k : Key} (h : BDen K mg φ H d x) (e : keyOf d = some k) : x = kV k := by
  cases d with
  | int i => cases e; exact h.int
  | str s => cases e; exact h.str
  | _ => cases e
theorem BDen.dct {ks : List Key} {ds : List D} (h : BDen K mg φ H (.dct ks ds) x) : ∃ a o ys, x = .ref a ∧ H a = some (.frz o (.dK (ks.zip ys))) ∧ ks.length = ys.length ∧ Dens K mg φ H ds ys := by
  rcases h with h | ⟨_, _, _, e, _⟩
  · cases h with
    | dct h1 h2 h3 => exact ⟨_, _, _, rfl, h1, h2, h3⟩
  · cases e
theorem valV_zip {k : Key} : ∀ {ks : List Key} {ds : List D} {ys : List V}, Dens K mg φ H ds ys → ks.length = ys.length → (∀ d, getKD ks ds k = some d → ∃ v, valV (ks.zip ys) k = some v ∧ Den K mg φ H d v) ∧ (getKD ks ds k = none → valV (ks.zip ys) k = none)
  | [], _, _, _, _ => ⟨fun d e => by simp [getKD] at e, fun _ => rfl⟩
  | q :: ks, _, _, .nil, l => by simp at l
  | q :: ks, _, _, .cons (d := d) (v := v) h t, l => by
    by_cases hq : q = k
    · subst hq
      refine ⟨fun d' e => ⟨v, by simp [valV], ?_⟩, fun e => ?_⟩
      · simp [getKD] at e
        subst e
        exact h
      · simp [getKD] at e
    · have ih := valV_zip (k := k) (ks := ks) t (by simpa using l)
      have e1 : ∀ ys : List V, valV ((q :: ks).zip (v :: ys)) k = valV (ks.zip ys) k := fun ys => by simp [valV, hq]
      refine ⟨fun d' e => ?_, fun e => ?_⟩
      · rw [e1]; exact ih.1 d' (by simpa [getKD, hq] using e)
      · rw [e1]; exact ih.2 (by simpa [getKD, hq] using e)
theorem dct_get {ks : List Key} {ds : List D} {k : Key} (h : BDen K mg φ H (.dct ks ds) x) : ∃ a, x = .ref a ∧ (∀ d, getKD ks ds k = some d → ∃ v, DGet H a (kV k) (some v) ∧ Den K mg φ H d v) ∧ (getKD ks ds k = none → DGet H a (kV k) none) := by
  obtain ⟨a, o, ys, rfl, h1, h2, h3⟩ := h.dct
  obtain ⟨g1, g2⟩ := valV_zip (k := k) h3 h2
  refine ⟨a, rfl, fun d e => ?_, fun e => .inl ⟨_, k, .inr ⟨o, h1⟩, rfl, (g2 e).symm⟩⟩
  obtain ⟨v, e1, e2⟩ := g1 d e
  exact ⟨v, .inl ⟨_, k, .inr ⟨o, h1⟩, rfl, e1.symm⟩, e2⟩
end

section
variable {X : Cx} {F : Fr} {W : WX} {b : Bool} {pos : Pos}
/-- d[k] -/
def opDg : O2 := fun x y st => match x, keyOf y with
  | .dct ks ds, some k => match getKD ks ds k with
    | some d => .ok d st
    | none => .stuck
  | _, _ => .stuck
theorem se_dg {a c : Expr} {ma mc : EM} (hu : X.A.units + 1 < cLine) (ha : SB X F W a ma) (hc : SB X F W c mc) (hs : NoSl c := by exact fun _ _ => rfl) : PE X (.Subscript a c pos) (rE X.K X.mg F W b (eBin opDg ma mc)) := by
  refine L2.PE.impS (pe_dget hu ha hc hs) fun σ H Q ⟨ρ, st, φ, r, q⟩ => ?_
  refine ⟨ρ, st, φ, r, fin_imp (fin_bind q) fun dx st1 φ1 H1 p1 q1 x hx => ⟨ρ, st1, φ1, r.step p1, fin_imp (fin_bind q1) fun dy st2 φ2 H2 p2 q2 y hy => ?_⟩⟩
  unfold opDg at q2
  split at q2
  · rename_i d st3 e
    split at e
    · rename_i ks ds k ek
      cases eg : getKD ks ds k with
      | none => simp only [eg] at e; cases e
      | some d' =>
        simp only [eg] at e
        cases e
        have hx2 : BDen X.K X.mg φ2 H2 (.dct ks ds) x := BDen.keep p2.kp hx
        obtain ⟨a, rfl, g, _⟩ := dct_get (k := k) hx2
        obtain ⟨v, g1, g2⟩ := g _ eg
        have ey := key_v hy ek
        subst ey
        exact ⟨a, v, rfl, g1, fin_ok p2.sto q2 _ (RDen.of g2)⟩
    · cases e
  · exact q2.elim
/-- k in d, k not in d -/
def opDi (neg : Bool) : O2 := fun x y st => match y, keyOf x with
  | .dct ks ds, some k => .ok (.bl (if neg then (getKD ks ds k).isNone else (getKD ks ds k).isSome)) st
  | _, _ => .stuck
theorem dct_has {K : PySem.W.Frag} {mg : Str → Option Value} {φ : List Addr} {H : Hp} {x y : V} {dx : D} {ks : List Key} {ds : List D} {k : Key} (h : BDen K mg φ H (.dct ks ds) y) (hx : BDen K mg φ H dx x) (e : keyOf dx = some k) : ∃ a o, y = .ref a ∧ DGet H a x o ∧ o.isSome = (getKD ks ds k).isSome := by
  obtain ⟨a, rfl, g1, g2⟩ := dct_get (k := k) h
  have ex := key_v hx e
  subst ex
  cases eg : getKD ks ds k with
  | none => exact ⟨a, none, rfl, g2 eg, rfl⟩
  | some d =>
    obtain ⟨v, h1, _⟩ := g1 d eg
    exact ⟨a, some v, rfl, h1, rfl⟩
theorem sc_dnotin {a c : Expr} {ma mc : EM} (hu : X.A.units + 1 < cLine) (ha : SB X F W a ma) (hc : SB X F W c mc) (h1 : behindInMarks .NotIn c = false := by first | exact nobehind _ (by decide) (by decide) | rfl) : SC X F W (.Compare a [.NotIn] [c] pos) (tB1 (eBin (opDi true) ma mc)) := by
  refine (pt_cmp (pc_dnotin hu ha hc) h1).impS fun σ H Q ⟨ρ, st, φ, r, q⟩ => ?_
  refine ⟨ρ, st, φ, r, fin_imp (fin_bind (fin_bind q)) fun dx st1 φ1 H1 p1 q1 x hx => ⟨ρ, st1, φ1, r.step p1, fin_imp (fin_bind q1) fun dy st2 φ2 H2 p2 q2 y hy => ?_⟩⟩
  have hx2 : BDen X.K X.mg φ2 H2 dx x := BDen.keep p2.kp hx
  unfold opDi at q2
  cases dy with
  | dct ks ds =>
    cases ek : keyOf dx with
    | none => simp only [ek] at q2; exact q2.elim
    | some k =>
      simp only [ek] at q2
      obtain ⟨a, o, rfl, g, eo⟩ := dct_has hy hx2 ek
      refine ⟨a, o, rfl, g, _, rfl, ?_⟩
      have q4 := fin_ok p2.sto q2
      have q3 : Q (getKD ks ds k).isNone H2 := fin_ok p2.sto q4
      rw [eo, Option.not_isSome]
      exact q3
  | _ => exact q2.elim
theorem sc_din {a c : Expr} {ma mc : EM} (hu : X.A.units + 1 < cLine) (ha : SB X F W a ma) (hc : SB X F W c mc) (h1 : behindInMarks .In c = false := by first | exact nobehind _ (by decide) (by decide) | rfl) : SC X F W (.Compare a [.In] [c] pos) (tB1 (eBin (opDi false) ma mc)) := by
  refine (pt_cmp (pc_din hu ha hc) h1).impS fun σ H Q ⟨ρ, st, φ, r, q⟩ => ?_
  refine ⟨ρ, st, φ, r, fin_imp (fin_bind (fin_bind q)) fun dx st1 φ1 H1 p1 q1 x hx => ⟨ρ, st1, φ1, r.step p1, fin_imp (fin_bind q1) fun dy st2 φ2 H2 p2 q2 y hy => ?_⟩⟩
  have hx2 : BDen X.K X.mg φ2 H2 dx x := BDen.keep p2.kp hx
  unfold opDi at q2
  cases dy with
  | dct ks ds =>
    cases ek : keyOf dx with
    | none => simp only [ek] at q2; exact q2.elim
    | some k =>
      simp only [ek] at q2
      obtain ⟨a, o, rfl, g, eo⟩ := dct_has hy hx2 ek
      refine ⟨a, o, rfl, g, _, rfl, ?_⟩
      have q4 := fin_ok p2.sto q2
      have q3 : Q (getKD ks ds k).isSome H2 := fin_ok p2.sto q4
      rw [eo]
      exact q3
  | _ => exact q2.elim
/-- len of a dict -/
def lenDD : List D → Sto → Out D := fun ds st => match ds with
  | [.dct ks _] => .ok (.int ks.length) st
  | _ => .stuck
theorem cs_lenD : CallS X (.builtin "len") lenDD := by
  intro pins s σ H xs us Q I rs ⟨st, φ, ds, so, hx, d, st', e, q⟩
  unfold lenDD at e
  split at e
  · rename_i ks ds'
    cases e
    obtain ⟨x, rfl, h⟩ := hx.one
    obtain ⟨a, o, ys, rfl, h1, h2, h3⟩ := BDen.dct h
    rw [Vals.ref1 rs]
    refine d_len I (.inr ⟨o, h1⟩) fun t s' I' => ⟨.int ks.length, H, I', ⟨t, ?_⟩, q φ H (Post.refl so) _ (.int _)⟩
    rw [List.length_zip, ← h2, Nat.min_self]
  · cases e
/-- for k in d -/
def itKeys (m : EM) : AM := fun ρ st => (m ρ st).bind fun d st1 => match d with
  | .dct ks _ => if ks.length ≤ sizeLine then .ok (ks.map kD) st1 else .stuck
  | _ => .stuck
theorem itok_keys {K : PySem.W.Frag} {mg : Str → Option Value} {φ : List Addr} {H : Hp} {b : Bool} {a : Addr} {o : Obj} {ks : List Key} {ys : List V} (h : H a = some (.frz o (.dK (ks.zip ys)))) (hl : ks.length = ys.length) : ItOk K mg b (Itk a o (ks.zip ys)) (ks.map kD) φ H := by
  intro φ' H' k st' so
  have h' := (Kd.of k).same _ _ h trivial
  have lz : (ks.zip ys).length = ks.length := by rw [List.length_zip, ← hl, Nat.min_self]
  refine ⟨fun i hi => ⟨h', by rw [lz]; simpa using hi⟩, fun i d e => ?_⟩
  have hi : i < ks.length := by simpa using (List.getElem?_eq_some_iff.mp e).1
  refine ⟨⟨h', by rw [lz]; exact hi⟩, fun x H'' y => ?_⟩
  obtain ⟨rfl, kk, v, e1, rfl⟩ := y
  refine ⟨Post.refl so, ?_⟩
  have e2 : ks[i]? = some kk := by
    rw [List.getElem?_zip_eq_some] at e1
    exact e1.1
  rw [List.getElem?_map, e2] at e
  cases e
  cases kk with
  | inl i => exact .int i
  | inr s => exact .str s
theorem si_keys {tg e : Expr} {m : EM} (h : SE X F W e m) : SI X F W b tg e (itKeys m) := by
  refine L2.PI.impS (pi_keys h) fun σ H R ⟨ρ, st, φ, rp, q⟩ => ⟨ρ, st, φ, rp, fin_imp (fin_bind q) fun d st1 φ1 H1 p1 q1 x hx => ?_⟩
  cases d with
  | dct ks ds =>
    dsimp only at q1
    by_cases hl : ks.length ≤ sizeLine
    · rw [if_pos hl] at q1
      obtain ⟨a, o, ys, rfl, h1, h2, h3⟩ := BDen.dct (.inl hx)
      exact ⟨a, o, rfl, .inl ⟨_, h1, fin_ok p1.sto q1 _ (itok_keys h1 h2) (by simpa using hl)⟩⟩
    · rw [if_neg hl] at q1
      exact q1.elim
  | _ => exact q1.elim
/-- {"k": v} with one constant key, frozen -/
def eDct1 (s : Str) (m : EM) : EM := fun ρ st => (m ρ st).bind fun d st1 => .ok (.dct [.inr s] [d]) st1
theorem se_dct1 {v : Expr} {m : EM} {s : Str} {j : Nat} {p : Pos} (h : SE X F W v m) : PE X (.Dict [some (.Constant (.str s) j p)] [v] pos) (rE X.K X.mg F W b (eDct1 s m)) := by
  refine L2.PE.impS (pe_fz (pe_disp (pps_cons pe_str h pps_nil) rfl rfl (by simp) (by show 1 ≤ 15; decide))) fun σ H Q ⟨ρ, st, φ, rp, q⟩ => ?_
  intro p hp
  have pn : Post X.K X.mg φ H st φ (upd H p (.dK [])) := Post.new rp.sto hp
  have hpn : p ∉ φ := rp.sto.free hp
  refine ⟨ρ, st, φ, rp.step pn, ?_⟩
  unfold eDct1 at q
  cases em : m ρ st with
  | ok d st1 =>
    rw [em] at q
    intro φ1 H1 p1 y dy
    have dy : Den X.K X.mg φ1 H1 d y := dy
    have h1 : H1 p = some (.dK []) := p1.kp.same p _ upd_same (.inl hpn)
    have n1 : p ∉ φ1 := fun z => by
      have w := p1.kp.fresh p z hpn
      rw [upd_same] at w
      cases w
    refine ⟨h1, [(.inr s, y)], rfl, by show 1 ≤ 15; decide, p, _, rfl, upd_same, trivial, fun o => ?_⟩
    rw [upd_upd]
    have pz : Post X.K X.mg φ H st1 φ1 (upd H1 p (.frz o (.dK (mergeK [] [(.inr s, y)])))) := (pn.trans p1).chg hp h1 id n1
    refine q φ1 _ pz _ (RDen.of (.dct (o := o) (ys := [y]) upd_same rfl (.cons (dy.keep ⟨⟨[], (List.append_nil φ1).symm⟩, fun c u ec f => ?_⟩) .nil)))
    rw [upd_ne]
    · exact ec
    · rintro rfl
      rw [h1] at ec
      cases ec
      exact f
  | exc e st1 => rw [em] at q; exact fun c dd φ' H' pp => q c dd φ' H' (pn.trans pp)
  | stuck => rw [em] at q; exact q
end
end Sx
/-! Sx14: repeated texts and tuples, chains, several names at once -/
namespace Sx
open PySem L2

/-! ### * -/
def strRep (s : Str) (n : Nat) : Str := ⟨(List.replicate n s.cps).foldl (· ++ ·) #[]⟩
def opMul : O2 := fun x y st => match x, y with
  | .int i, .int j => match opMulF i j with
    | some z => .ok (.int z) st
    | none => .stuck
  | .str s, .int n => if 0 ≤ n ∧ n ≤ 1000 ∧ s.length ≤ 1000 then .ok (.str (strRep s n.toNat)) st else .stuck
  | .tup ds, .int n => if ds ≠ [] ∧ 2 ≤ n ∧ n ≤ 1000 ∧ ds.length ≤ 1000 then .ok (.tup (List.replicate n.toNat ds).flatten) st else .stuck
  | _, _ => .stuck
theorem strRep_zero (s : Str) : strRep s 0 = Str.empty := rfl
theorem strRep_one (s : Str) : strRep s 1 = s := by
  obtain ⟨c⟩ := s
  simp [strRep]
theorem strRep_nil (s : Str) (h : s.length = 0) (n : Nat) : strRep s n = s := by
  obtain ⟨⟨c⟩⟩ := s
  have hc : c = [] := by simpa [Str.length] using h
  subst hc
  unfold strRep
  congr 1
  induction n with
  | zero => rfl
  | succ n ih => simpa [List.replicate_succ] using ih
theorem fold_rep {α : Type} (a : Array α) : ∀ (n : Nat) (b : Array α), ((List.replicate n a).foldl (· ++ ·) b).size = b.size + n * a.size
  | 0, b => by simp
  | n + 1, b => by
    rw [List.replicate_succ, List.foldl_cons, fold_rep a n (b ++ a), Array.size_append, Nat.succ_mul]
    omega
theorem strRep_length (s : Str) (n : Nat) : (strRep s n).length = n * s.length := by
  show ((List.replicate n s.cps).foldl (· ++ ·) #[]).size = n * s.cps.size
  rw [fold_rep]
  simp
section
variable {X : Cx}
theorem op_mulStr : OpR X (binaryOp .Mult) (fun x y H Q => ∃ s n, x = .str s ∧ y = .int n ∧ 0 ≤ n ∧ n ≤ 1000 ∧ s.length ≤ 1000 ∧ Q (.str (strRep s n.toNat)) H) := by
  intro pins s σ H x y v u Q I rx ry ⟨z, n, ex, ey, h0, h1, hl, q⟩
  subst ex ey
  obtain ⟨t, rfl⟩ := rx
  obtain ⟨t2, rfl⟩ := ry
  refine P.mul_str ?_ (fun _ _ hh => ?_) (fun _ _ => ?_) ?_
  · have a1 : ¬ n < -(2 ^ 63 : Int) := by omega
    have a2 : ¬ n ≥ 2 ^ 63 := by omega
    rw [decide_eq_false a1, decide_eq_false a2] <;> rfl
  · have hn : 1 ≤ n := by omega
    have h3 : (1000 : Int) ≤ (2 ^ 63 - 1) / n := by
      refine (Int.le_ediv_iff_mul_le (by omega)).mpr ?_
      omega
    omega
  · have : z.length * n.toNat ≤ 1000 * 1000 := Nat.mul_le_mul hl (by omega)
    show decide (z.length * n.toNat > sizeLine) = false
    refine decide_eq_false ?_
    rw [sizeLine_eq]
    omega
  · by_cases hn : n < 1
    · rw [if_pos hn]
      have en : n = 0 := by omega
      subst en
      exact ⟨by decide, ⟨.str _, H, I.tok _, ⟨_, rfl⟩, q⟩⟩
    · rw [if_neg hn]
      by_cases c : (n == 1 || z.length == 0) = true
      · rw [if_pos c]
        have es : strRep z n.toNat = z := by
          rw [Bool.or_eq_true] at c
          rcases c with c | c
          · have : n = 1 := by simpa using c
            subst this
            exact strRep_one z
          · exact strRep_nil z (by simpa using c) _
        rw [es] at q
        exact ⟨.str z, H, I, ⟨t, rfl⟩, q⟩
      · rw [if_neg c]
        refine ⟨?_, ⟨.str _, H, I.tok _, ⟨_, rfl⟩, q⟩⟩
        show (strRep z n.toNat).length ≤ sizeLine
        have : n.toNat * z.length ≤ 1000 * 1000 := Nat.mul_le_mul (by omega) hl
        rw [strRep_length, sizeLine_eq]
        omega
theorem os_mul : OpS X (binaryOp .Mult) opMul := by
  have h := OpR.or (os_mulI (X := X)) (OpR.or op_mulStr op_repT)
  refine OpR.impS h fun x y H Q ⟨st, φ, dx, dy, so, hx, hy, d, st', e, q⟩ => ?_
  unfold opMul at e
  split at e
  · rename_i i j
    refine .inl ⟨st, φ, .int i, .int j, so, hx, hy, d, st', ?_, q⟩
    exact e
  · rename_i s n
    split at e
    · rename_i c
      cases e
      exact .inr (.inl ⟨s, n, hx.str, hy.int, c.1, c.2.1, c.2.2, q φ H (Post.refl so) _ (.str _)⟩)
    · cases e
  · rename_i ds n
    split at e
    · rename_i c
      cases e
      obtain ⟨a, xs, rfl, h1, h2⟩ := hx.tup
      refine .inr (.inr ⟨a, n, xs, rfl, hy.int, h1, ?_, c.2.1, c.2.2.1, by rw [← h2.length]; exact c.2.2.2, fun p hp => ?_⟩)
      · rintro rfl
        cases h2
        exact c.1 rfl
      · refine q φ _ (Post.new so hp) _ (.tup (SqT.of upd_same) (Dens.keep (Kp.new hp).d ?_))
        generalize n.toNat = k
        induction k with
        | zero => exact .nil
        | succ k ih =>
          rw [List.replicate_succ, List.flatten_cons, List.replicate_succ, List.flatten_cons]
          exact h2.append ih
    · cases e
  · cases e
end
end Sx
/-! Sx15: chains, several names at once, comprehensions with two clauses -/
namespace Sx
open PySem L2

/-- a op1 b op2 c -/
def eChain (g g' : O2) (a b c : EM) : EM := fun ρ st => (a ρ st).bind fun x st1 => (b ρ st1).bind fun y st2 => match g x y st2 with
  | .ok (.bl true) st3 => (c ρ st3).bind fun z st4 => match g' y z st4 with
    | .ok (.bl k) st5 => .ok (.bl k) st5
    | _ => .stuck
  | .ok (.bl false) st3 => .ok (.bl false) st3
  | _ => .stuck
theorem fin_mono {K : PySem.W.Frag} {mg : Str → Option Value} {α : Type} {φ φ1 : List Addr} {H H1 : Hp} {st1 : Sto} {w : XK} {o : Out α} {P : α → Sto → List Addr → Hp → Prop} (p : Post K mg φ H st1 φ1 H1) (h : fin K mg φ H w o P) : fin K mg φ1 H1 w o P := by
  cases o with
  | ok d st' => exact fun φ' H' p' => h φ' H' (p.trans p')
  | exc e st' => exact fun c dd φ' H' p' => h c dd φ' H' (p.trans p')
  | stuck => exact h
section
variable {X : Cx} {F : Fr} {W : WX} {b : Bool} {pos : Pos}
theorem chain_rd {g g' : O2} {ma mb mc : EM} {b : Bool} {σ : L2.St} {H : Hp} {Q : VK} (h : rE X.K X.mg F W b (eChain g g' ma mb mc) σ H Q) :
    tChain (rOp X.K X.mg g) (rOp X.K X.mg g') (rE X.K X.mg F W true ma) (rE X.K X.mg F W true mb) (rE X.K X.mg F W true mc) σ H Q := by
  obtain ⟨ρ, st, φ, r, q⟩ := h
  refine ⟨ρ, st, φ, r, fin_imp (fin_bind q) fun dx st1 φ1 H1 p1 q1 x hx => ⟨ρ, st1, φ1, r.step p1, fin_imp (fin_bind q1) fun dy st2 φ2 H2 p2 q2 y hy => ?_⟩⟩
  refine ⟨st2, φ2, dx, dy, p2.sto, BDen.keep p2.kp hx, hy, ?_⟩
  cases e : g dx dy st2 with
  | exc _ _ => simp only [e] at q2; exact q2.elim
  | stuck => simp only [e] at q2; exact q2.elim
  | ok d st3 =>
    cases d with
    | bl k =>
      refine ⟨.bl k, st3, rfl, fun φ3 H3 p3 z hz => ?_⟩
      cases hz
      refine ⟨k, rfl, ?_⟩
      have r3 := ((r.step p1).step p2).step p3
      cases k with
      | false =>
        simp only [e] at q2
        exact q2 φ3 H3 p3 _ (RDen.of (.bl false))
      | true =>
        simp only [e] at q2
        rw [if_pos rfl]
        have q3 := fin_bind (fin_mono p3 q2)
        refine ⟨ρ, st3, φ3, r3, fin_imp q3 fun dz st4 φ4 H4 p4 q4 w hw => ?_⟩
        refine ⟨st4, φ4, dy, dz, p4.sto, BDen.keep (p3.trans p4).kp hy, hw, ?_⟩
        cases e' : g' dy dz st4 with
        | exc _ _ => simp only [e'] at q4; exact q4.elim
        | stuck => simp only [e'] at q4; exact q4.elim
        | ok d' st5 =>
          cases d' with
          | bl k => simp only [e'] at q4; exact ⟨_, _, rfl, fun φ' H' p v dv => q4 φ' H' p v (RDen.of dv)⟩
          | _ => simp only [e'] at q4; exact q4.elim
    | _ => simp only [e] at q2; exact q2.elim
theorem se_chain {op op' : CmpOp} {g g' : O2} {a c d : Expr} {ma mb mc : EM} (h : OpS X (compareOp op) g) (h' : OpS X (compareOp op') g') (ha : SB X F W a ma) (hb : SB X F W c mb) (hc : SB X F W d mc)
    (hm : lastMarks [op, op'] [c, d] = false := by with_unfolding_all rfl) : PE X (.Compare a [op, op'] [c, d] pos) (rE X.K X.mg F W b (eChain g g' ma mb mc)) :=
  L2.PE.impS (pe_chain h h' ha hb hc hm) fun _ _ _ q => chain_rd q
theorem sc_chain {op op' : CmpOp} {g g' : O2} {a c d : Expr} {ma mb mc : EM} (h : OpS X (compareOp op) g) (h' : OpS X (compareOp op') g') (ha : SB X F W a ma) (hb : SB X F W c mb) (hc : SB X F W d mc)
    (hm : lastMarks [op, op'] [c, d] = false := by with_unfolding_all rfl) : SC X F W (.Compare a [op, op'] [c, d] pos) (tB1 (eChain g g' ma mb mc)) :=
  L2.PT.impS (pt_chain h h' ha hb hc hm) fun σ H Q ⟨ρ, st, φ, r, q⟩ => chain_rd (rT_of r q)

/-! ### a, b = e1, e2 -/
abbrev ASM := Rho → Sto → Out (List Slot)
/-- new lists among the values differ from each other -/
inductive SVals (K : PySem.W.Frag) (mg : Str → Option Value) (H0 : Hp) (φ : List Addr) (H : Hp) : List Slot → List V → Prop
  | nil : SVals K mg H0 φ H [] []
  | cons {s : Slot} {v : V} {ss : List Slot} {vs : List V} : SVal K mg H0 φ H s v → (∀ ds a, s = .own ds → v = .ref a → ∀ (j : Nat) (es : List D), ss[j]? = some (.own es) → vs[j]? ≠ some (.ref a)) → SVals K mg H0 φ H ss vs → SVals K mg H0 φ H (s :: ss) (v :: vs)
def rAS (K : PySem.W.Frag) (mg : Str → Option Value) (F : Fr) (W : WX) (m : ASM) : TA := fun σ H Q => ∃ ρ st φ, Rep K mg F ρ st φ σ H ∧ fin K mg φ H (fun c d H' => W c d σ H') (m ρ st) fun ss _ φ' H' => ∀ vs, SVals K mg H φ' H' ss vs → Q vs H'
abbrev SAS (X : Cx) (F : Fr) (W : WX) (es : List Expr) (m : ASM) : Prop := PA X es (rAS X.K X.mg F W m)
def pNil : ASM := fun _ st => .ok [] st
def pVal (m : EM) (n : ASM) : ASM := fun ρ st => (m ρ st).bind fun x st1 => (n ρ st1).bind fun xs st2 => .ok (.val x :: xs) st2
def pOwn (m : AM) (n : ASM) : ASM := fun ρ st => (m ρ st).bind fun x st1 => (n ρ st1).bind fun xs st2 => .ok (.own x :: xs) st2
theorem spa_nil : SAS X F W [] pNil := (pa_nil).impS fun σ H Q ⟨ρ, st, φ, rp, q⟩ => fin_ok rp.sto q [] .nil
theorem SVal.old {K : PySem.W.Frag} {mg : Str → Option Value} {H0 H1 : Hp} {φ : List Addr} {H : Hp} {s : Slot} {v : V} (k : ∀ a, H1 a = none → H0 a = none) (h : SVal K mg H1 φ H s v) : SVal K mg H0 φ H s v := by
  cases s with
  | own ds => obtain ⟨a, xs, h1, h2, h3, h4, h5⟩ := h; exact ⟨a, xs, h1, h2, h3, h4, k a h5⟩
  | val d => exact h
  | un => exact h
  | exc e => exact h
theorem SVals.old {K : PySem.W.Frag} {mg : Str → Option Value} {H0 H1 : Hp} {φ : List Addr} {H : Hp} (k : ∀ a, H1 a = none → H0 a = none) : ∀ {ss : List Slot} {vs : List V}, SVals K mg H1 φ H ss vs → SVals K mg H0 φ H ss vs
  | _, _, .nil => .nil
  | _, _, .cons h n t => .cons (h.old k) n (SVals.old k t)
theorem SVals.fresh {K : PySem.W.Frag} {mg : Str → Option Value} {H0 : Hp} {φ : List Addr} {H : Hp} : ∀ {ss : List Slot} {vs : List V} {j : Nat} {es : List D} {a : Addr}, SVals K mg H0 φ H ss vs → ss[j]? = some (.own es) → vs[j]? = some (.ref a) → H0 a = none
  | _, _, 0, es, a, .cons h n t, e1, e2 => by
    simp at e1 e2
    subst e1 e2
    obtain ⟨b, xs, h1, h2, h3, h4, h5⟩ := h
    cases h1
    exact h5
  | _, _, j + 1, es, a, .cons h n t, e1, e2 => SVals.fresh (j := j) t (by simpa using e1) (by simpa using e2)
theorem spa_val {e : Expr} {es : List Expr} {m : EM} {n : ASM} (h : SE X F W e m) (k : SAS X F W es n)
    (hs : starEach (e :: es) X.env = (false, eval e X.env) :: starEach es X.env := by rfl) : SAS X F W (e :: es) (pVal m n) := by
  refine L2.PA.impS (pa_cons h k hs) fun σ H Q ⟨ρ, st, φ, rp, q⟩ => ⟨ρ, st, φ, rp, fin_imp (fin_bind q) fun d st1 φ1 H1 p1 q1 v dv => ?_⟩
  have dv : Den X.K X.mg φ1 H1 d v := dv
  exact ⟨ρ, st1, φ1, rp.step p1, fin_imp (fin_bind q1) fun ds st2 φ2 H2 p2 q2 vs dvs => fin_ok p2.sto q2 (v :: vs) (.cons (dv.keep p2.kp.d) (fun _ _ z => by cases z) (dvs.old fun a ha => p1.noneOf rp.sto ha))⟩
theorem spa_own {e : Expr} {es : List Expr} {m : AM} {n : ASM} (h : SF X F W e m) (k : SAS X F W es n)
    (hs : starEach (e :: es) X.env = (false, eval e X.env) :: starEach es X.env := by rfl) : SAS X F W (e :: es) (pOwn m n) := by
  refine L2.PA.impS (pa_cons h k hs) fun σ H Q ⟨ρ, st, φ, rp, q⟩ => ⟨ρ, st, φ, rp, fin_imp (fin_bind q) fun d st1 φ1 H1 p1 q1 v dv => ?_⟩
  refine ⟨ρ, st1, φ1, rp.step p1, fin_imp (fin_bind q1) fun ds st2 φ2 H2 p2 q2 vs dvs => fin_ok p2.sto q2 (v :: vs) ?_⟩
  obtain ⟨a, xs, rfl, ha, hs, hn, h0⟩ := dv
  refine .cons ⟨a, xs, rfl, p2.kp.same _ _ ha (.inl hn), hs.keep p2.kp.d, fun z => ?_, h0⟩ (fun ds' a' e1 e2 j es ej ev => ?_) (dvs.old fun a ha => p1.noneOf rp.sto ha)
  · have w := p2.kp.fresh a z hn
    rw [ha] at w
    cases w
  · cases e2
    have w := dvs.fresh ej ev
    rw [ha] at w
    cases w
def setsR : Rho → List Nat → List Slot → Rho
  | ρ, i :: is, s :: ss => setsR (ρ.set i s) is ss
  | ρ, _, _ => ρ
def setsV : L2.St → List Nat → List V → L2.St
  | σ, i :: is, v :: vs => setsV (σ.set i (some v)) is vs
  | σ, _, _ => σ
/-- what stands in the slots of one's own is old, or one of the new ones -/
theorem Rep.sets {K : PySem.W.Frag} {mg : Str → Option Value} {H0 : Hp} {st : Sto} {φ : List Addr} {H : Hp} : ∀ {is : List Nat} {ss : List Slot} {vs : List V} {ρ : Rho} {σ : L2.St}, Rep K mg F ρ st φ σ H → SVals K mg H0 φ H ss vs → (∀ a, H0 a = none → F.H a = none) →
    (∀ (j k : Nat) (a : Addr) (ds es : List D), vs[k]? = some (.ref a) → ss[k]? = some (.own es) → ρ[j]? = some (.own ds) → σ[j]? ≠ some (some (.ref a))) → Rep K mg F (setsR ρ is ss) st φ (setsV σ is vs) H
  | [], _, _, _, _, r, _, _, _ => by simpa [setsR, setsV] using r
  | _ :: _, _, _, _, _, r, .nil, _, _ => by simpa [setsR, setsV] using r
  | i :: is, _, _, ρ, σ, r, .cons (s := s) (v := v) (ss := ss) (vs := vs) h n t, h0, hu => by
    have go : Rep K mg F (ρ.set i s) st φ (σ.set i (some v)) H := by
      cases s with
      | own es' => exact r.setS h h0 fun j a ds ev ha ej => hu j 0 a ds es' (by simp [ev]) rfl ej
      | val d => exact r.set h
      | un => exact h.elim
      | exc e => exact h.elim
    have := Rep.sets (is := is) go t h0 fun j k a ds es ek esk ej => ?_
    · simpa [setsR, setsV] using this
    · by_cases hj : j = i
      · subst hj
        intro ev
        by_cases hl : j < ρ.length
        · rw [List.getElem?_set_self hl] at ej
          rw [List.getElem?_set_self (by rw [r.len]; exact hl)] at ev
          cases ej
          cases ev
          exact n ds a rfl rfl k es esk ek
        · rw [List.getElem?_eq_none (by rw [List.length_set]; omega)] at ej
          cases ej
      · rw [List.getElem?_set_ne (Ne.symm hj)] at ej ⊢
        exact hu j (k + 1) a ds es (by simpa using ek) (by simpa using esk) ej
/-- a, b = .. ; a, b, c = .. -/
def sPar (is : List Nat) (m : ASM) : SM := fun ρ st => sThen ρ (m ρ st) fun ss st1 => .nx (setsR ρ is ss) st1
theorem par_rd {D : Ends} {is : List Nat} {m : ASM} {σ : L2.St} {H : Hp} (h : rS X.K X.mg F W (sPar is m) D σ H) : rAS X.K X.mg F W m σ H fun vs H1 => D.nx (setsV σ is vs) H1 := by
  obtain ⟨ρ, st, φ, rp, q⟩ := h
  refine ⟨ρ, st, φ, rp, fin_imp (finS_then rp q) fun ss st1 φ1 H1 p1 q1 vs hv => q1 φ1 _ H1 ((rp.step p1).sets hv (fun a h => rp.free0 h) fun j k a ds es ek es' ej ev => ?_) Kd.refl⟩
  obtain ⟨c, xs, e1, hc, _⟩ := rp.slot j _ ej
  rw [e1] at ev
  cases ev
  have w := hv.fresh es' ek
  rw [hc] at w
  cases w
theorem SVals.two {K : PySem.W.Frag} {mg : Str → Option Value} {H0 : Hp} {φ : List Addr} {H : Hp} {ss : List Slot} {vs : List V} (h : SVals K mg H0 φ H ss vs) : ss.length = vs.length := by
  induction h with
  | nil => rfl
  | cons _ _ _ ih => rw [List.length_cons, List.length_cons, ih]
def PLen (m : ASM) (n : Nat) : Prop := ∀ ρ st ds st', m ρ st = .ok ds st' → ds.length = n
theorem plen_nil : PLen pNil 0 := fun ρ st ds st' e => by cases e; rfl
theorem plen_val {m : EM} {k : ASM} {n : Nat} (h : PLen k n) : PLen (pVal m k) (n + 1) := fun ρ st ds st' e => by
  unfold pVal at e
  cases e1 : m ρ st with
  | ok d st1 =>
    simp only [e1, Out.bind] at e
    cases e2 : k ρ st1 with
    | ok xs st2 => simp only [e2] at e; cases e; exact congrArg (· + 1) (h _ _ _ _ e2)
    | exc e' st2 => simp only [e2] at e; cases e
    | stuck => simp only [e2] at e; cases e
  | exc e' st1 => simp only [e1, Out.bind] at e; cases e
  | stuck => simp only [e1, Out.bind] at e; cases e
theorem plen_own {m : AM} {k : ASM} {n : Nat} (h : PLen k n) : PLen (pOwn m k) (n + 1) := fun ρ st ds st' e => by
  unfold pOwn at e
  cases e1 : m ρ st with
  | ok d st1 =>
    simp only [e1, Out.bind] at e
    cases e2 : k ρ st1 with
    | ok xs st2 => simp only [e2] at e; cases e; exact congrArg (· + 1) (h _ _ _ _ e2)
    | exc e' st2 => simp only [e2] at e; cases e
    | stuck => simp only [e2] at e; cases e
  | exc e' st1 => simp only [e1, Out.bind] at e; cases e
  | stuck => simp only [e1, Out.bind] at e; cases e
theorem rAS_len {m : ASM} {n : Nat} {σ : L2.St} {H : Hp} {Q : List V → Hp → Prop} (hl : PLen m n) (h : rAS X.K X.mg F W m σ H Q) : rAS X.K X.mg F W m σ H fun vs H1 => vs.length = n ∧ Q vs H1 := by
  obtain ⟨ρ, st, φ, rp, q⟩ := h
  refine ⟨ρ, st, φ, rp, ?_⟩
  cases em : m ρ st with
  | ok ds st1 => rw [em] at q; exact fun φ1 H1 p vs hv => ⟨by rw [← hv.two]; exact hl ρ st ds st1 em, q φ1 H1 p vs hv⟩
  | exc e st1 => rw [em] at q; exact q
  | stuck => rw [em] at q; exact q
theorem sx_par2 {i j : Nat} {x y : Str} {a c : Expr} {m : ASM} {px py pt : Pos} {kt k2 pt2} (hc : X.calm = true) (hN : X.N.Nodup) (ha : SAS X F W [a, c] m) (hl : PLen m 2) (hij : i ≠ j := by decide) (hi : X.N[i]? = some x := by rfl) (hj : X.N[j]? = some y := by rfl)
    (hx : X.env.scope.names.lookup x = some .local := by rfl) (hy : X.env.scope.names.lookup y = some .local := by rfl)
    (hw : swappedStores [.Tuple [.Name x px, .Name y py] kt pt] (.Tuple [a, c] k2 pt2) X.env = pure (some [x, y]) := by rfl)
    (hs : swapsWithSole [.Tuple [.Name x px, .Name y py] kt pt] (.Tuple [a, c] k2 pt2) pos.line X.env = pure false := by rfl) :
    SX X F W (.Assign [.Tuple [.Name x px, .Name y py] kt pt] (.Tuple [a, c] k2 pt2) pos) (sPar [i, j] m) := by
  refine L2.PS.impS (ps_par (i := i) (j := j) hc hN hi hj hij hx hy ha hw hs) fun D σ H h => ?_
  obtain ⟨ρ, st, φ, rp, q⟩ := rAS_len hl (par_rd h)
  refine ⟨ρ, st, φ, rp, fin_imp q fun ss st1 φ1 H1 p1 q1 vs hv => ?_⟩
  obtain ⟨e, q2⟩ := q1 vs hv
  match vs, e with
  | [v, w], _ => exact ⟨v, w, rfl, q2⟩
theorem sx_par3 {i j l : Nat} {x y z : Str} {a c d : Expr} {m : ASM} {px py pz pt : Pos} {kt k2 pt2} (hc : X.calm = true) (hN : X.N.Nodup) (ha : SAS X F W [a, c, d] m) (hl : PLen m 3) (hij : i ≠ j := by decide) (hil : i ≠ l := by decide) (hjl : j ≠ l := by decide) (hi : X.N[i]? = some x := by rfl) (hj : X.N[j]? = some y := by rfl) (hk : X.N[l]? = some z := by rfl)
    (hx : X.env.scope.names.lookup x = some .local := by rfl) (hy : X.env.scope.names.lookup y = some .local := by rfl) (hz : X.env.scope.names.lookup z = some .local := by rfl)
    (hw : swappedStores [.Tuple [.Name x px, .Name y py, .Name z pz] kt pt] (.Tuple [a, c, d] k2 pt2) X.env = pure (some [x, y, z]) := by rfl)
    (hs : swapsWithSole [.Tuple [.Name x px, .Name y py, .Name z pz] kt pt] (.Tuple [a, c, d] k2 pt2) pos.line X.env = pure false := by rfl) :
    SX X F W (.Assign [.Tuple [.Name x px, .Name y py, .Name z pz] kt pt] (.Tuple [a, c, d] k2 pt2) pos) (sPar [i, j, l] m) := by
  refine L2.PS.impS (ps_par3 (i := i) (j := j) (l := l) hc hN hi hj hk hij hil hjl hx hy hz ha hw hs) fun D σ H h => ?_
  obtain ⟨ρ, st, φ, rp, q⟩ := rAS_len hl (par_rd h)
  refine ⟨ρ, st, φ, rp, fin_imp q fun ss st1 φ1 H1 p1 q1 vs hv => ?_⟩
  obtain ⟨e, q2⟩ := q1 vs hv
  match vs, e with
  | [v, w, u], _ => exact ⟨v, w, u, rfl, q2⟩
end
end Sx
/-! Sx16: comprehensions with two clauses -/
namespace Sx
open PySem L2

def noOwn (ρ : Rho) : Rho := ρ.map fun s => match s with
  | .own _ => .un
  | s => s
theorem noOwn_at {ρ : Rho} {i : Nat} {s : Slot} (h : (noOwn ρ)[i]? = some s) : (∀ ds, s ≠ .own ds) ∧ (s = .un ∨ ρ[i]? = some s) := by
  unfold noOwn at h
  rw [List.getElem?_map] at h
  cases e : ρ[i]? with
  | none => rw [e] at h; cases h
  | some u =>
    rw [e] at h
    cases u with
    | own ds => cases h; exact ⟨fun _ z => (nomatch z), .inl rfl⟩
    | un => cases h; exact ⟨fun _ z => (nomatch z), .inl rfl⟩
    | val d => cases h; exact ⟨fun _ z => (nomatch z), .inr rfl⟩
    | exc x => cases h; exact ⟨fun _ z => (nomatch z), .inr rfl⟩
theorem Rep.noOwn {K : PySem.W.Frag} {mg : Str → Option Value} {F : Fr} {ρ : Rho} {st st' : Sto} {φ φ' : List Addr} {σ : L2.St} {H H' : Hp} (r : Rep K mg F ρ st φ σ H) (p : Post K mg F.φ F.H st' φ' H') (k : Kd φ H φ' H') : Rep K mg F (noOwn ρ) st' φ' σ H' := by
  refine ⟨by rw [r.len]; simp [Sx.noOwn], fun i s e => ?_, fun i j a ds es e1 => absurd rfl ((noOwn_at e1).1 ds), p⟩
  obtain ⟨h1, h2⟩ := noOwn_at e
  rcases h2 with rfl | h2
  · trivial
  · have q := r.slot i s h2
    cases s with
    | un => trivial
    | val d => obtain ⟨v, e, q⟩ := q; exact ⟨v, e, q.keep k⟩
    | own ds => exact absurd rfl (h1 ds)
    | exc x => obtain ⟨a, c, dd, e1, e2, q⟩ := q; exact ⟨a, c, dd, e1, e2, q.keep k⟩
def compM2 (t : TgM) (c : BM) (it1 : AM) (vs1 : List Nat) (t1 : TgM) (c1 : BM) (e : EM) (ρ : Rho) : List D → Sto → Out (List D)
  | [], st => .ok [] st
  | d :: ds, st => match t d ρ with
    | none => .stuck
    | some ρ1 => match c ρ1 st with
      | .ok false st1 => compM2 t c it1 vs1 t1 c1 e ρ ds st1
      | .ok true st1 => match it1 ρ1 st1 with
        | .ok ds1 st2 => (compM t1 c1 e (wipeR (noOwn ρ1) vs1) ds1 st2).bind fun xs st3 => (compM2 t c it1 vs1 t1 c1 e ρ ds st3).bind fun ys st4 => .ok (xs ++ ys) st4
        | _ => .stuck
      | _ => .stuck
def lComp2 (own : List Nat) (it : AM) (t : TgM) (c : BM) (it1 : AM) (vs1 : List Nat) (t1 : TgM) (c1 : BM) (e : EM) : AM := fun ρ st => (it ρ st).bind fun ds st1 => match compM2 t c it1 vs1 t1 c1 e (wipeR ρ own) ds st1 with
  | .ok xs st2 => if xs.length ≤ sizeLine then .ok xs st2 else .stuck
  | _ => .stuck
theorem bind_ok {α β : Type} {o : Out α} {f : α → Sto → Out β} {y : β} {st : Sto} (h : Out.ok y st = o.bind f) : ∃ x st1, o = .ok x st1 ∧ .ok y st = f x st1 := by
  cases o with
  | ok x st1 => exact ⟨x, st1, rfl, h⟩
  | exc _ _ => cases h
  | stuck => cases h
theorem lc2_rd {K : PySem.W.Frag} {mg : Str → Option Value} {F : Fr} {W : WX} {own vs1 : List Nat} {it it1 : AM} {t t1 : TgM} {c c1 : BM} {e : EM} {σ : L2.St} {H : Hp} {Q : VK} (h : rF K mg F W (lComp2 own it t c it1 vs1 t1 c1 e) σ H Q) :
    tLc2 (rI K mg F W true it) (rG K mg F own t) (rT K mg F W0 c) (rI K mg F W0 false it1) (rG K mg F vs1 t1) (rT K mg F W0 c1) (rE K mg F W0 false e) own vs1 σ H Q := by
  obtain ⟨ρ, st, φ, rp, q⟩ := h
  refine ⟨ρ, st, φ, rp, fin_imp (fin_bind q) fun ds st1 φ1 H1 p1 q1 J hJ hl A hA => ?_⟩
  obtain ⟨xs0, st0, hT, hz, q1⟩ : ∃ xs0 st0, .ok xs0 st0 = compM2 t c it1 vs1 t1 c1 e (wipeR ρ own) ds st1 ∧ xs0.length ≤ sizeLine ∧ fin K mg φ1 H1 (fun c d H' => W c d σ H') (.ok xs0 st0) fun ds _ φ' H' => ∀ v, SVal K mg H φ' H' (.own ds) v → Q v H' := by
    cases e : compM2 t c it1 vs1 t1 c1 e (wipeR ρ own) ds st1 with
    | ok xs0 st0 =>
      rw [e] at q1
      dsimp only at q1
      by_cases hz : xs0.length ≤ sizeLine
      · rw [if_pos hz] at q1
        exact ⟨xs0, st0, rfl, hz, q1⟩
      · rw [if_neg hz] at q1
        exact q1.elim
    | exc _ _ => rw [e] at q1; exact q1.elim
    | stuck => rw [e] at q1; exact q1.elim
  refine ⟨fun i k H2 => ∃ φ2 st2 acc dacc, k = ds.length - i ∧ i ≤ ds.length ∧ Post K mg φ1 H1 st2 φ2 H2 ∧ H2 A = some (.lst acc) ∧ A ∉ φ2 ∧ Dens K mg φ2 H2 dacc acc ∧
    .ok xs0 st0 = (compM2 t c it1 vs1 t1 c1 e (wipeR ρ own) (ds.drop i) st2).bind fun xs st3 => .ok (dacc ++ xs) st3, ⟨ds.length, φ1, st1, [], [], rfl, Nat.zero_le _, Post.new p1.sto hA, upd_same, p1.sto.free hA, .nil, ?_⟩, ?_⟩
  · rw [List.drop_zero, ← hT]
    rfl
  · rintro i k H2 ⟨φ2, st2, acc, dacc, rfl, hi, p2, hD2, hn2, hs2, E⟩
    obtain ⟨j1, j2⟩ := hJ φ2 H2 p2.kp st2 p2.sto
    by_cases hlt : i < ds.length
    · rw [drop_cons hlt] at E
      obtain ⟨g, y⟩ := j2 i ds[i] (List.getElem?_eq_getElem hlt)
      refine .inr ⟨g, fun H3 => ∃ φ3 st3 acc dacc, Post K mg φ1 H1 st3 φ3 H3 ∧ H3 A = some (.lst acc) ∧ A ∉ φ3 ∧ Dens K mg φ3 H3 dacc acc ∧
        .ok xs0 st0 = (compM2 t c it1 vs1 t1 c1 e (wipeR ρ own) (ds.drop (i + 1)) st3).bind fun xs st4 => .ok (dacc ++ xs) st4, ?_, fun x H3 hy => ?_⟩
      · rintro H3 ⟨φ3, st3, acc, dacc, h1, h2, h3, h4, h6⟩
        exact ⟨ds.length - (i + 1), by omega, φ3, st3, acc, dacc, rfl, hlt, h1, h2, h3, h4, h6⟩
      · obtain ⟨p3, dx⟩ := y x H3 hy
        unfold compM2 at E
        cases et : t ds[i] (wipeR ρ own) with
        | none => rw [et] at E; cases E
        | some ρ1 =>
          rw [et] at E
          dsimp only at E
          have rw1 : Rep K mg F (wipeR ρ own) st2 φ2 (wipe σ own) H3 := ((rp.step (p1.trans (p2.trans p3)))).wipe own
          refine ⟨wipeR ρ own, st2, φ2, ds[i], rw1, dx, ρ1, et, fun σ2 r2 o2 => ⟨(wipe_off o2).trans (wipe_wipe σ own), ρ1, st2, φ2, r2, ?_⟩⟩
          cases ec : c ρ1 st2 with
          | exc _ _ => rw [ec] at E; cases E
          | stuck => rw [ec] at E; cases E
          | ok b st3 =>
            rw [ec] at E
            intro φ4 H4 p4
            have pa := p2.trans (p3.trans p4)
            have D4 : H4 A = some (.lst acc) := (p3.trans p4).kp.same _ _ hD2 (.inl hn2)
            have n4 : A ∉ φ4 := fun m => by
              have z := (p3.trans p4).kp.fresh A m hn2
              rw [hD2] at z
              cases z
            have s4 := hs2.keep (p3.trans p4).kp.d
            cases b with
            | false => exact ⟨φ4, st3, acc, dacc, pa, D4, n4, s4, E⟩
            | true =>
              dsimp only at E
              refine iteT ?_
              refine ⟨ρ1, st3, φ4, r2.step p4, ?_⟩
              cases ei : it1 ρ1 st3 with
              | exc _ _ => rw [ei] at E; cases E
              | stuck => rw [ei] at E; cases E
              | ok ds1 st4 =>
                rw [ei] at E
                dsimp only at E
                intro φ5 H5 p5 J1 hJ1 hl1
                have D5 : H5 A = some (.lst acc) := p5.kp.same _ _ D4 (.inl n4)
                have n5 : A ∉ φ5 := fun m => by
                  have z := p5.kp.fresh A m n4
                  rw [D4] at z
                  cases z
                have s5 := s4.keep p5.kp.d
                have r5 := (r2.step p4).step p5
                have h5 : H5 A = some (.lst acc) := D5
                -- the inner loop: what is left gives the whole
                let Rest := fun (j : Nat) (st : Sto) (dacc : List D) => (compM t1 c1 e (wipeR (noOwn ρ1) vs1) (ds1.drop j) st).bind fun xs st3 => (compM2 t c it1 vs1 t1 c1 e (wipeR ρ own) (ds.drop (i + 1)) st3).bind fun ys st4 => .ok (dacc ++ (xs ++ ys)) st4
                have R0 : .ok xs0 st0 = Rest 0 st4 dacc := by
                  rw [E]
                  show _ = (compM t1 c1 e (wipeR (noOwn ρ1) vs1) (ds1.drop 0) st4).bind _
                  rw [List.drop_zero]
                  cases compM t1 c1 e (wipeR (noOwn ρ1) vs1) ds1 st4 with
                  | ok xs s3 =>
                    simp only [Out.bind]
                    cases compM2 t c it1 vs1 t1 c1 e (wipeR ρ own) (ds.drop (i + 1)) s3 <;> rfl
                  | exc _ _ => rfl
                  | stuck => rfl
                refine ⟨fun j k H6 => ∃ φ6 st6 acc dacc, k = ds1.length - j ∧ j ≤ ds1.length ∧ Post K mg φ1 H1 st6 φ6 H6 ∧ Kd φ5 H5 φ6 H6 ∧ H6 A = some (.lst acc) ∧ A ∉ φ6 ∧ Dens K mg φ6 H6 dacc acc ∧ .ok xs0 st0 = Rest j st6 dacc,
                  ⟨ds1.length, φ5, st4, acc, dacc, rfl, Nat.zero_le _, pa.trans p5, Kd.refl, D5, n5, s5, R0⟩, ?_⟩
                rintro j k H6 ⟨φ6, st6, acc6, dacc6, rfl, hj, p6, k6, D6, n6, s6, R6⟩
                obtain ⟨i1, i2⟩ := hJ1 φ6 H6 k6 st6 p6.sto
                by_cases hlj : j < ds1.length
                · obtain ⟨g1, y1⟩ := i2 j ds1[j] (List.getElem?_eq_getElem hlj)
                  refine .inr ⟨g1, fun H7 => ∃ φ7 st7 acc dacc, Post K mg φ1 H1 st7 φ7 H7 ∧ Kd φ5 H5 φ7 H7 ∧ H7 A = some (.lst acc) ∧ A ∉ φ7 ∧ Dens K mg φ7 H7 dacc acc ∧ .ok xs0 st0 = Rest (j + 1) st7 dacc, ?_, fun x H7 hy => ?_⟩
                  · rintro H7 ⟨φ7, st7, acc, dacc, h1, h2, h3, h4, h5, h6⟩
                    exact ⟨ds1.length - (j + 1), by omega, φ7, st7, acc, dacc, rfl, hlj, h1, h2, h3, h4, h5, h6⟩
                  · obtain ⟨p7, dx7⟩ := y1 x H7 hy
                    have R6 : .ok xs0 st0 = (compM t1 c1 e (wipeR (noOwn ρ1) vs1) (ds1.drop j) st6).bind fun xs st3 => (compM2 t c it1 vs1 t1 c1 e (wipeR ρ own) (ds.drop (i + 1)) st3).bind fun ys st4 => .ok (dacc6 ++ (xs ++ ys)) st4 := R6
                    rw [drop_cons hlj] at R6
                    unfold compM at R6
                    have r7 : Rep K mg F (wipeR (noOwn ρ1) vs1) st6 φ6 (wipe σ2 vs1) H7 := by
                      have q6 : Post K mg φ1 H1 st6 φ6 H7 := p6.trans p7
                      have rr : Rep K mg F (noOwn ρ1) st6 φ6 σ2 H7 := r5.noOwn (rp.post.trans (p1.trans q6)) (k6.trans p7.kp.d)
                      exact rr.wipe vs1
                    cases et1 : t1 ds1[j] (wipeR (noOwn ρ1) vs1) with
                    | none => rw [et1] at R6; cases R6
                    | some ρ2 =>
                      rw [et1] at R6
                      dsimp only at R6
                      refine ⟨wipeR (noOwn ρ1) vs1, st6, φ6, ds1[j], r7, dx7, ρ2, et1, fun σ3 r3 o3 => ⟨(wipe_off o3).trans (wipe_wipe σ2 vs1), ρ2, st6, φ6, r3, ?_⟩⟩
                      cases ec1 : c1 ρ2 st6 with
                      | exc _ _ => rw [ec1] at R6; cases R6
                      | stuck => rw [ec1] at R6; cases R6
                      | ok b1 st7 =>
                        rw [ec1] at R6
                        intro φ8 H8 p8
                        have p78 := p7.trans p8
                        have D8 : H8 A = some (.lst acc6) := p78.kp.same _ _ D6 (.inl n6)
                        have n8 : A ∉ φ8 := fun m => by
                          have z := p78.kp.fresh A m n6
                          rw [D6] at z
                          cases z
                        have s8 := s6.keep p78.kp.d
                        have k8 := k6.trans p78.kp.d
                        cases b1 with
                        | false => exact ⟨φ8, st7, acc6, dacc6, p6.trans p78, k8, D8, n8, s8, R6⟩
                        | true =>
                          dsimp only at R6
                          refine iteT ?_
                          refine ⟨ρ2, st7, φ8, r3.step p8, ?_⟩
                          cases ee : e ρ2 st7 with
                          | exc _ _ => rw [ee] at R6; cases R6
                          | stuck => rw [ee] at R6; cases R6
                          | ok z st8 =>
                            rw [ee] at R6
                            dsimp only at R6
                            intro φ9 H9 p9 v dv
                            have dv : Den K mg φ9 H9 z v := dv
                            have D9 : H9 A = some (.lst acc6) := p9.kp.same _ _ D8 (.inl n8)
                            have n9 : A ∉ φ9 := fun m => by
                              have w := p9.kp.fresh A m n8
                              rw [D8] at w
                              cases w
                            have s9 := s8.keep p9.kp.d
                            have R9 : .ok xs0 st0 = (compM t1 c1 e (wipeR (noOwn ρ1) vs1) (ds1.drop (j + 1)) st8).bind fun xs st3 => (compM2 t c it1 vs1 t1 c1 e (wipeR ρ own) (ds.drop (i + 1)) st3).bind fun ys st4 => .ok ((dacc6 ++ [z]) ++ (xs ++ ys)) st4 := by
                              rw [R6]
                              cases compM t1 c1 e (wipeR (noOwn ρ1) vs1) (ds1.drop (j + 1)) st8 with
                              | ok xs s3 => simp [Out.bind]
                              | exc _ _ => rfl
                              | stuck => rfl
                            have lz : acc6.length < sizeLine := by
                              obtain ⟨xs, s3, _, e2⟩ := bind_ok R9
                              obtain ⟨ys, s4, _, e3⟩ := bind_ok e2
                              cases e3
                              have := s6.length
                              simp at hz
                              omega
                            have pb := ((p6.trans p78).trans p9).chg (u := .lst (acc6 ++ [v])) hA D9 id n9
                            have kb : Kd φ9 H9 φ9 (upd H9 A (.lst (acc6 ++ [v]))) := ⟨⟨[], (List.append_nil φ9).symm⟩, fun b o eb f => by
                              rw [upd_ne]
                              · exact eb
                              · rintro rfl
                                rw [D9] at eb
                                cases eb
                                exact f⟩
                            exact ⟨acc6, D9, lz, φ9, st8, acc6 ++ [v], dacc6 ++ [z], pb, (k8.trans p9.kp.d).trans kb, upd_same, n9, ((s9.append (.cons dv .nil))).chg D9 id, R9⟩
                · have ej : j = ds1.length := by omega
                  subst ej
                  refine .inl ⟨i1 _ (Nat.le_refl _), φ6, st6, acc6, dacc6, p6, D6, n6, s6, ?_⟩
                  have R6 : .ok xs0 st0 = (compM t1 c1 e (wipeR (noOwn ρ1) vs1) (ds1.drop ds1.length) st6).bind fun xs st3 => (compM2 t c it1 vs1 t1 c1 e (wipeR ρ own) (ds.drop (i + 1)) st3).bind fun ys st4 => .ok (dacc6 ++ (xs ++ ys)) st4 := R6
                  rw [List.drop_length] at R6
                  exact R6
    · have ei : i = ds.length := by omega
      subst ei
      refine .inl ⟨j1 _ (Nat.le_refl _), ?_⟩
      rw [List.drop_length] at E
      simp only [compM2, Out.bind, List.append_nil] at E
      cases E
      exact q1 φ2 H2 p2 (.ref A) ⟨A, acc, rfl, hD2, hs2, hn2, p1.noneOf rp.sto hA⟩
section
variable {X : Cx} {F : Fr} {W : WX} {b : Bool} {pos : Pos}
theorem sf_lc2 {elt tg iter tg1 iter1 : Expr} {ifs ifs1 : List Expr} {scope : Scope} {own : List (Str × Nat)} {vs1 : List Nat} {it it1 : AM} {t t1 : TgM} {c c1 : BM} {e : EM} (hN : X.N.Nodup) (hi : SI X F W true tg iter it) (ok : BlkOk X.N X.env.scope scope own) (hv : ∀ i ∈ vs1, i ∈ own.map (·.2))
    (hg : ∀ (s : Shared) (H : Hp) (C : Addr) (cl : List (Str × Addr)) (fp : List Addr), SG (X.blk s H scope (compEnvC scope cl C X.env) fp) F (own.map (·.2)) tg t)
    (ht : ∀ (s : Shared) (H : Hp) (C : Addr) (cl : List (Str × Addr)) (fp : List Addr), SPs (X.blk s H scope (compEnvC scope cl C X.env) fp) F W0 ifs c)
    (hi1 : ∀ (s : Shared) (H : Hp) (C : Addr) (cl : List (Str × Addr)) (fp : List Addr), SI (X.blk s H scope (compEnvC scope cl C X.env) fp) F W0 false tg1 iter1 it1)
    (hg1 : ∀ (s : Shared) (H : Hp) (C : Addr) (cl : List (Str × Addr)) (fp : List Addr), SG (X.blk s H scope (compEnvC scope cl C X.env) fp) F vs1 tg1 t1)
    (ht1 : ∀ (s : Shared) (H : Hp) (C : Addr) (cl : List (Str × Addr)) (fp : List Addr), SPs (X.blk s H scope (compEnvC scope cl C X.env) fp) F W0 ifs1 c1)
    (he : ∀ (s : Shared) (H : Hp) (C : Addr) (cl : List (Str × Addr)) (fp : List Addr), SE (X.blk s H scope (compEnvC scope cl C X.env) fp) F W0 elt e) (hc : X.calm = true := by rfl) (hs : ∀ x, foldedSetIterable iter X.env x = pure x := by intro _; rfl) (hs1 : ∀ env x, foldedSetIterable iter1 env x = pure x := by intro _ _; rfl) :
    SF X F W (.ListComp elt [⟨tg, iter, ifs, 0⟩, ⟨tg1, iter1, ifs1, 0⟩] scope pos) (lComp2 (own.map (·.2)) it t c it1 vs1 t1 c1 e) :=
  L2.PE.impS (pe_lc2 (own := own) hc hN hi ok hv hg ht hi1 hg1 ht1 he hs hs1) fun _ _ _ h => lc2_rd h
theorem sx_setLc2 {elt tg iter tg1 iter1 : Expr} {ifs ifs1 : List Expr} {scope : Scope} {own : List (Str × Nat)} {vs1 : List Nat} {it it1 : AM} {t t1 : TgM} {c c1 : BM} {e : EM} {i : Nat} {y : Str} {py spos : Pos} (hN : X.N.Nodup) (hi : SI X F W true tg iter it) (ok : BlkOk X.N X.env.scope scope own) (hv : ∀ i ∈ vs1, i ∈ own.map (·.2))
    (hg : ∀ (s : Shared) (H : Hp) (C : Addr) (cl : List (Str × Addr)) (fp : List Addr), SG (X.blk s H scope (compEnvC scope cl C X.env) fp) F (own.map (·.2)) tg t)
    (ht : ∀ (s : Shared) (H : Hp) (C : Addr) (cl : List (Str × Addr)) (fp : List Addr), SPs (X.blk s H scope (compEnvC scope cl C X.env) fp) F W0 ifs c)
    (hi1 : ∀ (s : Shared) (H : Hp) (C : Addr) (cl : List (Str × Addr)) (fp : List Addr), SI (X.blk s H scope (compEnvC scope cl C X.env) fp) F W0 false tg1 iter1 it1)
    (hg1 : ∀ (s : Shared) (H : Hp) (C : Addr) (cl : List (Str × Addr)) (fp : List Addr), SG (X.blk s H scope (compEnvC scope cl C X.env) fp) F vs1 tg1 t1)
    (ht1 : ∀ (s : Shared) (H : Hp) (C : Addr) (cl : List (Str × Addr)) (fp : List Addr), SPs (X.blk s H scope (compEnvC scope cl C X.env) fp) F W0 ifs1 c1)
    (he : ∀ (s : Shared) (H : Hp) (C : Addr) (cl : List (Str × Addr)) (fp : List Addr), SE (X.blk s H scope (compEnvC scope cl C X.env) fp) F W0 elt e) (hsw : swapsWith (.ListComp elt [⟨tg, iter, ifs, 0⟩, ⟨tg1, iter1, ifs1, 0⟩] scope pos) (some (.Name y py)) spos.line X.env = pure true) (hy : X.N[i]? = some y := by rfl) (hyl : X.env.scope.names.lookup y = some .local := by rfl) (hc : X.calm = true := by rfl) (hs : ∀ x, foldedSetIterable iter X.env x = pure x := by intro _; rfl) (hs1 : ∀ env x, foldedSetIterable iter1 env x = pure x := by intro _ _; rfl) :
    SX X F W (.Assign [.Name y py] (.ListComp elt [⟨tg, iter, ifs, 0⟩, ⟨tg1, iter1, ifs1, 0⟩] scope pos) spos) (sSetF i (lComp2 (own.map (·.2)) it t c it1 vs1 t1 c1 e)) :=
  sx_setFP (ps_setLc2 (own := own) hc hN hy hyl hsw hi ok hv hg ht hi1 hg1 ht1 he hs hs1) fun _ _ _ h => lc2_rd h
end
end Sx
/-! Sx17: isinstance of the error that is held; least, greatest, order of tuples of numbers -/
namespace Sx
open PySem L2

/-- an error of the class x is one of the class B -/
structure IsB (K : PySem.W.Frag) (mg : Str → Option Value) (x B : Str) : Prop where
  ex : ∃ C b, mg x = some (.ref C) ∧ mg B = some (.ref b) ∧ ExcC K C ∧ PySem.W.kitOne K (.ref C) (.ref b) = some true
def eIsE (i : Nat) : EM := fun ρ st => match ρ[i]? with
  | some (.exc _) => .ok (.bl true) st
  | _ => .stuck
def rIsE2 (C a : Addr) (B : Addr) (d : Option Addr) : List V → Hp → VK → Prop := fun xs H Q => xs = [.ref a, .ref B] ∧ (∃ dd ys, d = some dd ∧ H dd = some (.xd ys)) ∧ Q (.bl true) H
theorem call_isE2 {X : Cx} {a D B : Addr} {d : Option Addr} {oe : Obj} {pn : List (Addr × Obj)} (C : ExcC X.K D) (e : PySem.W.kitOne X.K (.ref D) (.ref B) = some true) (hz : Zc (.ref D) d oe) (hf : ∃ vs, oe.data = .fields vs) : CallR (X.suite a ((a, oe) :: pn)) (.builtin "isinstance") (rIsE2 D a B d) := by
  intro pins s σ H xs us Q I r h
  obtain ⟨rfl, ⟨dd, ys, rfl, hd⟩, q⟩ := h
  obtain ⟨u1, u2, rfl, rx, rt⟩ := vals2 r
  cases rx
  cases rt
  obtain ⟨hget, _⟩ := I.pin (a, oe) (List.mem_append.mpr (.inl List.mem_cons_self))
  obtain ⟨vs, hv⟩ := hf
  have hx : ObjOk X.prog X.w H s.heap dd (.xd ys) := I.hok dd _ hd
  obtain ⟨mA, hns, hr⟩ := hx
  obtain ⟨od, ho, hl⟩ := lookIn_ns hns
  have J : PySem.W.InstAt s.heap a oe D (some od) := by
    obtain ⟨oc, odd, oda, osl⟩ := oe
    obtain ⟨h1, h2⟩ := hz
    dsimp only at h1 h2 hv
    subst h1 h2 hv
    exact ⟨hget, rfl, rfl, ho⟩
  obtain ⟨cd, hc, _⟩ := PySem.W.any_some C.hd
  have ic : (PySem.W.clsIn X.K D).isSome = true := by rw [hc]; rfl
  exact PySem.W.kia_one (PySem.W.kitx_exc ic C.hg C.hk C.hs C.ha C.hn C.ht C.hm) I.kIn J e (fun z => nomatch z) fun tk => ⟨.bl true, H, I.kept (t' := tk) fun _ _ z => z, rfl, q⟩
section
variable {X : Cx} {F : Fr} {W : WX} {b : Bool} {pos : Pos}
/-- isinstance(e, B) -/
theorem se_isE {a C : Addr} {oe : Obj} {d : Option Addr} {pn : List (Addr × Obj)} {i : Nat} {n x B : Str} {p1 p2 p3 : Pos} (G : IsB X.K X.mg x B) (hm : X.mg x = some (.ref C)) (hF : F.cur = some (a, .ref C, d)) (hz : Zc (.ref C) d oe) (hf : ∃ vs, oe.data = .fields vs) (hi : X.mg "isinstance" = none)
    (h : PE (X.suite a ((a, oe) :: pn)) (.Name n p2) (tVar i)) (hg : Gl X "isinstance" := by rfl) (hgB : Gl X B := by rfl) (hdB : (B == ("__debug__" : Str)) = false := by decide)
    (he : starEach [.Name n p2, .Name B p3] X.env = (false, eval (.Name n p2) X.env) :: starEach [.Name B p3] X.env := by rfl) (he2 : starEach [.Name B p3] X.env = (false, eval (.Name B p3) X.env) :: starEach [] X.env := by rfl) (hpl : (backTo pos (starEach [.Name B p3] X.env)).any (·.1) = false := by rfl) :
    PE (X.suite a ((a, oe) :: pn)) (.Call (.Name "isinstance" p1) [.Name n p2, .Name B p3] [] pos) (rE X.K X.mg F W b (eIsE i)) := by
  obtain ⟨C', bb, g1, g2, g3, g4⟩ := G.ex
  rw [hm] at g1
  cases g1
  have hB : PE (X.suite a ((a, oe) :: pn)) (.Name B p3) (tC (.ref bb)) := pe_glob (X := X.suite a ((a, oe) :: pn)) hgB g2 (show RelV (.ref bb) (.ref bb) from rfl) hdB
  refine L2.PE.impS (pe_callB (X := X.suite a ((a, oe) :: pn)) (call_isE2 g3 g4 hz hf) hg hi (by decide +kernel) (pa_cons h (pa_cons hB pa_nil he2) he) (by decide) (by decide) he hpl) fun σ H Q ⟨ρ, st, φ, rp, q⟩ => ?_
  unfold eIsE at q
  cases er : ρ[i]? with
  | none => rw [er] at q; exact q.elim
  | some s =>
    rw [er] at q
    cases s with
    | exc e =>
      obtain ⟨a', c', dd', e1, e2, C', d', ys, k1, k2, k3, k4, k5⟩ := rp.slot i _ er
      rw [hF] at e2
      cases e2
      exact ⟨.ref a, e1, rfl, ⟨d', ys, k3, k4⟩, fin_ok rp.sto q _ (RDen.of (.bl true))⟩
    | un => exact q.elim
    | val _ => exact q.elim
    | own _ => exact q.elim
end
end Sx
/-! Sx18: least, greatest, sorted of plain data -/
namespace Sx
open PySem L2

mutual
def unPy : PyData → D
  | .none => .non
  | .bool b => .bl b
  | .int i => .int i
  | .str s => .str s
  | .tuple xs => .tup (unPys xs)
  | .list xs => .lst (unPys xs)
  | _ => .non
def unPys : List PyData → List D
  | [] => []
  | x :: xs => unPy x :: unPys xs
end
theorem unPy_of : ∀ (n : Nat) (d : D), plainD n d = true → unPy (pyOf d) = d := by
  intro n
  have all : ∀ (m : Nat), (∀ d : D, plainD m d = true → unPy (pyOf d) = d) → ∀ ds : List D, ds.all (plainD m) = true → unPys (pyOfs ds) = ds := by
    intro m hm ds
    induction ds with
    | nil => intro _; rfl
    | cons d ds ih =>
      intro h1
      rw [List.all_cons, Bool.and_eq_true] at h1
      simp only [pyOfs, unPys]
      rw [hm d h1.1, ih h1.2]
  induction n with
  | zero =>
    intro d h1
    cases d with
    | non => simp only [pyOf, unPy]
    | bl b => simp only [pyOf, unPy]
    | int b => simp only [pyOf, unPy]
    | str b => simp only [pyOf, unPy]
    | _ => simp [plainD] at h1
  | succ n ih =>
    intro d h1
    cases d with
    | non => simp only [pyOf, unPy]
    | bl b => simp only [pyOf, unPy]
    | int b => simp only [pyOf, unPy]
    | str b => simp only [pyOf, unPy]
    | tup ds => simp only [pyOf, unPy]; rw [all n ih ds (by simpa [plainD] using h1)]
    | lst ds => simp only [pyOf, unPy]; rw [all n ih ds (by simpa [plainD] using h1)]
    | _ => simp [plainD] at h1
theorem pyOf_inj (n : Nat) (d e : D) (h1 : plainD n d = true) (h2 : plainD n e = true) (h : pyOf d = pyOf e) : d = e := by
  rw [← unPy_of n d h1, ← unPy_of n e h2, h]
theorem plain_can (n : Nat) : ∀ (d : D), plainD n d = true → (pyOf d).canLay0 = true := by
  induction n with
  | zero => intro d h; cases d <;> simp_all [plainD, pyOf, PyData.canLay0]
  | succ n ih =>
    have all : ∀ ds : List D, ds.all (plainD n) = true → PyData.canLayAll0 (pyOfs ds) = true := by
      intro ds
      induction ds with
      | nil => intro _; simp [pyOfs, PyData.canLayAll0]
      | cons d ds ih2 =>
        intro h
        rw [List.all_cons, Bool.and_eq_true] at h
        simp [pyOfs, PyData.canLayAll0, ih d h.1, ih2 h.2]
    intro d h
    cases d <;> simp_all [plainD, pyOf, PyData.canLay0]
theorem plain_depth (n : Nat) : ∀ (d : D), plainD n d = true → (pyOf d).depth ≤ n := by
  induction n with
  | zero => intro d h; cases d <;> simp_all [plainD, pyOf, PyData.depth]
  | succ n ih =>
    have all : ∀ ds : List D, ds.all (plainD n) = true → PyData.depthAll (pyOfs ds) ≤ n := by
      intro ds
      induction ds with
      | nil => intro _; simp [pyOfs, PyData.depthAll]
      | cons d ds ih2 =>
        intro h
        rw [List.all_cons, Bool.and_eq_true] at h
        have h1 := ih d h.1
        have h2 := ih2 h.2
        simp only [pyOfs, PyData.depthAll]
        omega
    intro d h
    cases d with
    | tup ds => have := all ds (by simpa [plainD] using h); simp only [pyOf, PyData.depth]; omega
    | lst ds => have := all ds (by simpa [plainD] using h); simp only [pyOf, PyData.depth]; omega
    | _ => simp [pyOf, PyData.depth]
/-- the first of the least -/
def leastD (d : D) (ds : List D) : D := ds.foldl (fun a y => if PySem.W.dataLt (pyOf y) (pyOf a) then y else a) d
def mostD (d : D) (ds : List D) : D := ds.foldl (fun a y => if PySem.W.dataLt (pyOf a) (pyOf y) then y else a) d
theorem leastD_py : ∀ (ds : List D) (d : D), pyOf (leastD d ds) = PySem.W.minD (pyOf d) (pyOfs ds)
  | [], _ => rfl
  | y :: ds, d => by
    show pyOf (leastD (if PySem.W.dataLt (pyOf y) (pyOf d) then y else d) ds) = PySem.W.minD (if PySem.W.dataLt (pyOf y) (pyOf d) then pyOf y else pyOf d) (pyOfs ds)
    rw [leastD_py ds]
    congr 1
    split <;> rfl
theorem mostD_py : ∀ (ds : List D) (d : D), pyOf (mostD d ds) = PySem.W.maxD (pyOf d) (pyOfs ds)
  | [], _ => rfl
  | y :: ds, d => by
    show pyOf (mostD (if PySem.W.dataLt (pyOf d) (pyOf y) then y else d) ds) = PySem.W.maxD (if PySem.W.dataLt (pyOf d) (pyOf y) then pyOf y else pyOf d) (pyOfs ds)
    rw [mostD_py ds]
    congr 1
    split <;> rfl
theorem leastD_mem : ∀ (ds : List D) (d : D), leastD d ds ∈ d :: ds
  | [], d => by simp [leastD]
  | y :: ds, d => by
    have h := leastD_mem ds (if PySem.W.dataLt (pyOf y) (pyOf d) then y else d)
    have e : leastD d (y :: ds) = leastD (if PySem.W.dataLt (pyOf y) (pyOf d) then y else d) ds := rfl
    rw [e]
    rcases List.mem_cons.mp h with h | h
    · rw [h]; split <;> simp
    · simp [h]
theorem mostD_mem : ∀ (ds : List D) (d : D), mostD d ds ∈ d :: ds
  | [], d => by simp [mostD]
  | y :: ds, d => by
    have h := mostD_mem ds (if PySem.W.dataLt (pyOf d) (pyOf y) then y else d)
    have e : mostD d (y :: ds) = mostD (if PySem.W.dataLt (pyOf d) (pyOf y) then y else d) ds := rfl
    rw [e]
    rcases List.mem_cons.mp h with h | h
    · rw [h]; split <;> simp
    · simp [h]
/-- all can be compared with each other -/
def likeD (ds : List D) : Bool := ds.all (plainD 40) && ds.all (fun d => ds.all fun e => PySem.W.alike (pyOf d) (pyOf e)) && ds.all fun d => match d with | .non => false | _ => true
def minDD : List D → Sto → Out D := fun xs st => match xs with
  | [x] => match lstOf st x with
    | some (d :: ds) => if likeD (d :: ds) = true then .ok (leastD d ds) st else .stuck
    | _ => .stuck
  | _ => .stuck
def maxDD : List D → Sto → Out D := fun xs st => match xs with
  | [x] => match lstOf st x with
    | some (d :: ds) => if likeD (d :: ds) = true then .ok (mostD d ds) st else .stuck
    | _ => .stuck
  | _ => .stuck
theorem likeD_all {ds : List D} (h : likeD ds = true) : ds.all (plainD 40) = true ∧ PySem.W.AlikeAll (pyOfs ds) := by
  unfold likeD at h
  rw [Bool.and_eq_true, Bool.and_eq_true] at h
  obtain ⟨⟨h1, h2⟩, h3⟩ := h
  refine ⟨h1, ?_, ?_⟩
  · intro x hx y hy
    rw [pyOfs_map] at hx hy
    obtain ⟨d, hd, rfl⟩ := List.mem_map.mp hx
    obtain ⟨e, he, rfl⟩ := List.mem_map.mp hy
    exact List.all_eq_true.mp (List.all_eq_true.mp h2 d hd) e he
  · intro x hx
    rw [pyOfs_map] at hx
    obtain ⟨d, hd, rfl⟩ := List.mem_map.mp hx
    have p := List.all_eq_true.mp h1 d hd
    have q := List.all_eq_true.mp h3 d hd
    cases d <;> simp_all [pyOf, plainD]
theorem Dens.getV {K : PySem.W.Frag} {mg : Str → Option Value} {φ : List Addr} {H : Hp} : ∀ {ds : List D} {vs : List V} {i : Nat} {v : V}, Dens K mg φ H ds vs → vs[i]? = some v → ∃ d, ds[i]? = some d ∧ Den K mg φ H d v
  | _, _, _, _, .nil, e => by simp at e
  | _, _, 0, _, .cons h _, e => by simp at e; subst e; exact ⟨_, rfl, h⟩
  | _, _, i + 1, d, .cons _ hs, e => by
    obtain ⟨v, h1, h2⟩ := Dens.getV (i := i) hs (by simpa using e)
    exact ⟨v, by simpa using h1, h2⟩
theorem paired_getV {α β : Type} {R : α → β → Prop} : ∀ {xs : List α} {ys : List β} {i : Nat} {y : β}, Paired R xs ys → ys[i]? = some y → ∃ x, xs[i]? = some x ∧ R x y
  | _, _, _, _, .nil, e => by simp at e
  | _, _, 0, _, .cons h _, e => by simp at e; subst e; exact ⟨_, rfl, h⟩
  | _, _, i + 1, d, .cons _ hs, e => by
    obtain ⟨v, h1, h2⟩ := paired_getV (i := i) hs (by simpa using e)
    exact ⟨v, by simpa using h1, h2⟩
section
variable {X : Cx} {pins : List (Addr × Obj)} {σ : L2.St} {H : Hp} {s : Shared}
/-- a value of the list that reads as e stands for e -/
theorem item_is {mg : Str → Option Value} {φ : List Addr} {ds : List D} {ys : List V} {its : List Value} {i : Nat} {v : Value} {h' : Heap} {e : D} {bs : List Addr} (I : L2.Inv X pins σ H s) (h2 : Dens X.K mg φ H ds ys) (rv : Vals ys its) (k1 : ds.all (plainD 40) = true) (hi : its[i]? = some v)
    (he : e ∈ ds) (r : PySem.Reads h' v (pyOf e) bs) (hk : ∀ b o, s.heap.get? b = some o → h'.get? b = some o) : ∃ x, RelV x v ∧ Den X.K mg φ H e x := by
  obtain ⟨y, hy, ry⟩ := paired_getV rv hi
  obtain ⟨d, hd, dy⟩ := h2.getV hy
  have pd := List.all_eq_true.mp k1 d (List.mem_of_getElem? hd)
  have pe := List.all_eq_true.mp k1 e he
  obtain ⟨a1, a2, a3⟩ := plain_dp 40 (BDen.of dy) pd
  obtain ⟨as, hr⟩ := Dp.reads I _ _ _ a1 ry
  have hr' := PyProof.Rows.Reads.keeps (h' := h') hk hr
  have e1 := SeqAt.readOf_eq a2 hr'
  have e2 := SeqAt.readOf_eq (plain_can 40 e pe) r
  have : d = e := pyOf_inj 40 d e pd pe (e1.symm.trans e2)
  subst this
  exact ⟨y, ry, dy⟩
theorem cs_minD (hc : X.calm = true) (hu : X.A.units + 64 < cLine) : CallS X (.builtin "min") minDD := by
  intro pins s σ H xs us Q I rs ⟨st, φ, ds, so, hx, d, st', e, q⟩
  unfold minDD at e
  split at e
  · rename_i x
    split at e
    · rename_i d0 ds0 el
      split at e
      · rename_i hk
        cases e
        obtain ⟨v, rfl, hb⟩ := hx.one
        obtain ⟨a, ys, rfl, h1, h2⟩ := lstOf_at so hb el
        obtain ⟨its, rv, hl, hz⟩ := I.list h1
        rw [Vals.ref1 rs]
        obtain ⟨k1, k2⟩ := likeD_all hk
        obtain ⟨a1, a2, a3⟩ := plain_dps 40 h2 k1
        obtain ⟨as, hr⟩ := Dp.readsAll I _ _ _ a1 rv
        have hr' : PySem.ReadsAll s.heap its.toArray.toList (pyOf d0 :: pyOfs ds0) as := hr
        refine PySem.W.min_list_data (I.ok.hd hc) hl.isList hr' k2 ?_ fun i v h' tk bs hi r hk => ?_
        · have : PyData.depthAll (pyOf d0 :: pyOfs ds0) ≤ 40 := a3
          omega
        · rw [← leastD_py] at r
          obtain ⟨x, rx, dx⟩ := item_is I h2 rv k1 (by simpa using hi) (leastD_mem ds0 d0) r hk
          exact ⟨x, H, I.kept hk, rx, q φ H (Post.refl so) _ dx⟩
      · cases e
    · cases e
  · cases e
theorem cs_maxD (hc : X.calm = true) (hu : X.A.units + 64 < cLine) : CallS X (.builtin "max") maxDD := by
  intro pins s σ H xs us Q I rs ⟨st, φ, ds, so, hx, d, st', e, q⟩
  unfold maxDD at e
  split at e
  · rename_i x
    split at e
    · rename_i d0 ds0 el
      split at e
      · rename_i hk
        cases e
        obtain ⟨v, rfl, hb⟩ := hx.one
        obtain ⟨a, ys, rfl, h1, h2⟩ := lstOf_at so hb el
        obtain ⟨its, rv, hl, hz⟩ := I.list h1
        rw [Vals.ref1 rs]
        obtain ⟨k1, k2⟩ := likeD_all hk
        obtain ⟨a1, a2, a3⟩ := plain_dps 40 h2 k1
        obtain ⟨as, hr⟩ := Dp.readsAll I _ _ _ a1 rv
        have hr' : PySem.ReadsAll s.heap its.toArray.toList (pyOf d0 :: pyOfs ds0) as := hr
        refine PySem.W.max_list_data (I.ok.hd hc) hl.isList hr' k2 ?_ fun i v h' tk bs hi r hk => ?_
        · have : PyData.depthAll (pyOf d0 :: pyOfs ds0) ≤ 40 := a3
          omega
        · rw [← mostD_py] at r
          obtain ⟨x, rx, dx⟩ := item_is I h2 rv k1 (by simpa using hi) (mostD_mem ds0 d0) r hk
          exact ⟨x, H, I.kept hk, rx, q φ H (Post.refl so) _ dx⟩
      · cases e
    · cases e
  · cases e
end
/-! ### sorted -/
def leD (d e : D) : Bool := PySem.W.dataLe false pyOf d e
def isTupD : D → Bool
  | .tup (_ :: _) => true
  | _ => false
def noTupD : D → Bool
  | .tup _ => false
  | .non => false
  | _ => true
def sortedDD : List D → Sto → Option (List D) := fun xs st => match xs with
  | [x] => match lstOf st x with
    | some ds => if ds.all (plainD 40) = true ∧ (ds.all fun d => ds.all fun e => PySem.W.alike (pyOf d) (pyOf e)) = true ∧ (ds.all isTupD = true ∨ ds.all noTupD = true) then some (ds.mergeSort leD) else none
    | _ => none
  | _ => none
section
variable {X : Cx}
theorem each_of {K : PySem.W.Frag} {mg : Str → Option Value} {φ : List Addr} {H : Hp} {R : Value → D → Prop} : ∀ {ds : List D} {ys : List V} {its : List Value}, Dens K mg φ H ds ys → Vals ys its → (∀ d ∈ ds, ∀ y u, Den K mg φ H d y → RelV y u → R u d) → PySem.W.EachIs R its ds
  | _, _, _, .nil, .nil, _ => .nil
  | _, _, _, .cons h t, .cons r rs, f => .cons (f _ List.mem_cons_self _ _ h r) (each_of t rs fun d hd => f d (List.mem_cons_of_mem _ hd))
theorem each_back {K : PySem.W.Frag} {mg : Str → Option Value} {φ : List Addr} {H : Hp} : ∀ {ds : List D} {out : List Value}, PySem.W.EachIs (fun u d => ∃ y, RelV y u ∧ Den K mg φ H d y) out ds → ∃ ys, Vals ys out ∧ Dens K mg φ H ds ys
  | _, _, .nil => ⟨[], .nil, .nil⟩
  | _, _, .cons h t => by
    obtain ⟨y, r, d⟩ := h
    obtain ⟨ys, rs, ds⟩ := each_back t
    exact ⟨y :: ys, .cons r rs, .cons d ds⟩
theorem cf_sortedD (hu : X.A.units + 64 < cLine) : CallF X (.builtin "sorted") sortedDD := by
  intro pins s σ H xs us Q I rs ⟨st, φ, ds, so, hx, es, e, q⟩
  unfold sortedDD at e
  split at e
  · rename_i x
    split at e
    · rename_i ds0 el
      split at e
      · rename_i hk
        cases e
        obtain ⟨v, rfl, hb⟩ := hx.one
        obtain ⟨a, ys, rfl, h1, h2⟩ := lstOf_at so hb el
        obtain ⟨its, rv, hl, hz⟩ := I.list h1
        rw [Vals.ref1 rs]
        obtain ⟨k1, k2, k3⟩ := hk
        have pl : ∀ d ∈ ds0, plainD 40 d = true := fun d hd => List.all_eq_true.mp k1 d hd
        refine PySem.W.sorted_data (enc := pyOf) (bs := ds0) (R := fun u d => ∃ y, RelV y u ∧ Den X.K X.mg φ H d y) hl.isList (each_of h2 rv fun d hd y u dy ry => ⟨y, ry, dy⟩) (each_of h2 rv fun d hd y u dy ry => ?_) ?_ ?_ (by rw [h2.length]; exact hz) (fun d hd => ?_) fun out hlen ho => ?_
        · obtain ⟨a1, _, _⟩ := plain_dp 40 (BDen.of dy) (pl d hd)
          exact Dp.reads I _ _ _ a1 ry
        · intro x hx y hy
          obtain ⟨d, hd, rfl⟩ := List.mem_map.mp hx
          obtain ⟨e, he, rfl⟩ := List.mem_map.mp hy
          exact List.all_eq_true.mp (List.all_eq_true.mp k2 d hd) e he
        · rcases k3 with k3 | k3
          · refine .inl fun x hx => ?_
            obtain ⟨d, hd, rfl⟩ := List.mem_map.mp hx
            have := List.all_eq_true.mp k3 d hd
            cases d with
            | tup ds => cases ds with
              | nil => cases this
              | cons d ds => exact ⟨_, _, rfl⟩
            | _ => cases this
          · refine .inr fun x hx => ?_
            obtain ⟨d, hd, rfl⟩ := List.mem_map.mp hx
            have z := List.all_eq_true.mp k3 d hd
            have p := pl d hd
            cases d <;> first | (simp [pyOf]; done) | (simp [noTupD] at z; done) | (simp [plainD] at p; done)
        · have : (pyOf d).depth ≤ 40 := plain_depth 40 d (pl d hd)
          omega
        · obtain ⟨zs, rz, dz⟩ := each_back ho
          obtain ⟨ep, he'⟩ := PyProof.Rows.sortedAll_at s.heap its out.toArray
          have hn := I.hok.fresh (Nat.le_succ s.heap.objs.size)
          have hlz : zs.length ≤ sizeLine := by
            rw [rz.length, hlen, h2.length]
            exact hz
          exact ⟨.ref (s.heap.objs.size + 1), upd H (s.heap.objs.size + 1) (.lst zs), I.laid (t' := s.toks) (fun _ _ => PyProof.Rows.sortedAll_old) (Nat.le_succ _) ⟨hlz, out, ep, rz, he'⟩, rfl,
            q φ _ (Post.new so hn) _ ⟨_, zs, rfl, upd_same, dz.keep (Kp.new hn).d, so.free hn, hn⟩⟩
      · cases e
    · cases e
  · cases e
end
end Sx
/-! Sx19: what the head tells: defs, errors, the end -/
namespace Sx
open PySem L2

/-! ### defs -/
/-- the def x: its object, and that it makes m of its n arguments -/
structure DefOk (P : Program) (w : World) (K : PySem.W.Frag) (mg : Str → Option Value) (base : Heap) (k : Nat) (x : Str) (st : Stmt) (ps : List Str) (m : List D → Sto → Out D) : Prop where
  ex : ∃ f fd, mg x = some (.ref f) ∧ Fun K x x st f fd ∧ FnOk P w K mg base (L2.CX P w) k f fd ps (spD K mg ps.length m)
section
variable {P : Program} {w : World} {K : PySem.W.Frag} {mg : Str → Option Value} {base : Heap} {x : Str} {st : Stmt} {k : Nat} {ps : List Str} {m : List D → Sto → Out D}
theorem fnOk_of {f : Addr} {fd : FuncData} {N : List Str} {body : SM} (Fu : Fun K x x st f fd) (S : FnScope N ps (defScope st))
    (hbody : ∀ (cdv : Value) (A : Around) (outer : List PySem.Env) (s : Shared) (H : Hp) (E : XK) (φ : List Addr), Room k (A.deeper (PyProof.Rows.envOfC x (defScope st) s.heap.objs.size f cdv)) →
      SXs (cxOf (L2.CX P w) P w K mg base N x (defScope st) f cdv A outer s H E) ⟨φ, H, none⟩ (fun c d _ H' => E c d H') (defBody st) body) :
    FnOk P w K mg base (L2.CX P w) (k + 1) f fd ps (spD K mg ps.length (fnM N.length body)) := by
  refine Fu.okX S (fun vs H Q E h => ?_) fun cdv A outer s H vs Q E hr h => ?_
  · obtain ⟨_, _, ds, _, hd, hl, _⟩ := h
    rw [← hd.length, hl]
  · obtain ⟨st0, φ, ds, so, hd, hl, q⟩ := h
    refine ⟨rS K mg ⟨φ, H, none⟩ (fun c d _ H' => E c d H') body, ?_, ?_⟩
    · exact hbody cdv A outer s H E φ hr
    · refine ⟨_, st0, φ, rep_start so hd, ?_⟩
      unfold fnM at q
      cases e : body (ds.map .val ++ List.replicate (N.length - ds.length) .un) st0 with
      | nx ρ' st' => rw [e] at q; exact fun φ' σ' H' r _ => q φ' H' r.post _ .non
      | rt d st' => rw [e] at q; exact fun φ' H' v p dv => q φ' H' p v dv
      | exc x ρ' st' => rw [e] at q; exact fun c dd φ' σ' H' r _ ed => q c dd φ' H' r.post ed
      | bk _ _ => rw [e] at q; exact q.elim
      | ct _ _ => rw [e] at q; exact q.elim
      | stuck => rw [e] at q; exact q
/-- what is said of a function that makes nothing -/
def fnBot : List D → Sto → Out D := fun _ _ => .stuck
theorem fnOk_bot {f : Addr} {fd : FuncData} {n : Nat} (hn : ps.length = n) : FnOk P w K mg base (L2.CX P w) 1 f fd ps (spD K mg n fnBot) := by
  refine ⟨fun vs H Q E h => ?_, fun A outer s H args us vs Q E hr he hb hv h => ?_⟩
  · obtain ⟨_, _, _, _, _, _, q⟩ := h
    exact q.elim
  · obtain ⟨_, _, _, _, _, _, q⟩ := h
    exact q.elim
theorem DefOk.fnD (h : DefOk P w K mg base k x st ps m) (hb : ∀ (kV doc pm : Value) (an : Option Addr) (cdv ct : Value) (us : List Value), us.length = ps.length → bindArgs (PySem.W.fnOf x x (defArgs st) (defBody st) (defScope st) .none kV doc pm an cdv ct) ⟨us, []⟩ = pure (ps.zip us)) :
    FnD P w K mg base k x ps.length m := by
  obtain ⟨f, fd, hm, F, ok⟩ := h.ex
  exact ⟨f, fd, ps, hm, F.kp, F.binds hb, rfl, ok⟩
theorem DefOk.fnK (h : DefOk P w K mg base k x st ps m) (ks : List Str) (π : List Nat) (hks : ks.length = ps.length) (hp : π.length = ks.length) (hj : ∀ j ∈ π, j < ks.length)
    (hb : ∀ (kV doc pm : Value) (an : Option Addr) (cdv ct : Value) (ws : List Value), ws.length = ks.length → bindArgs (PySem.W.fnOf x x (defArgs st) (defBody st) (defScope st) .none kV doc pm an cdv ct) ⟨[], ks.zip ws⟩ = pure (ps.zip (arr .none π ws))) :
    FnK P w K mg base k x ks π m := by
  obtain ⟨f, fd, hm, F, ok⟩ := h.ex
  obtain ⟨oc, od, kV, doc, pm, an, cdv, ct, osl, rfl, lk, hcd⟩ := F.ex
  exact ⟨f, _, ps, hm, F.kp, fun s ws _ hl => .of_eq (hb kV doc pm an cdv ct ws hl), hks.symm, hp, hj, by rw [hks]; exact ok⟩
/-- the head's datum of a def of the module -/
def dOf (x : Str) (st : Stmt) : He.DefD := ⟨(x, none), x, x, defArgs st, defBody st, defScope st, [], []⟩
theorem fun_of {f : Addr} {fd : FuncData} (F : FunD K x x (defArgs st) (defBody st) (defScope st) [] [] f fd) : Fun K x x st f fd := by
  obtain ⟨oc, od, dV, kV, doc, pm, an, cdv, ct, osl, rfl, lk, hcd, hD, hK⟩ := F.ex
  rcases hD with ⟨_, rfl⟩ | ⟨e, _⟩
  · exact ⟨⟨oc, od, kV, doc, pm, an, cdv, ct, osl, rfl, lk, hcd⟩, F.kp⟩
  · exact absurd rfl e
end

/-! ### errors -/
def oexB (K : PySem.W.Frag) (C : Addr) : Bool := match K.lookup C with
  | some ⟨.type "type", _, .cls cd, sl⟩ => (match cd.mro, sl.toList with
    | .ref C' :: bm, [_, _, _, _, some (.builtin n), _] => C' == C && n == "ValueError.__new__" && !cd.hasDel && cd.hasDict && PySem.HandSPX.refsVE bm
    | _, _ => false)
  | _ => false
theorem oexB_ok {K : PySem.W.Frag} {C : Addr} (h : oexB K C = true) : ∃ nm q N bs bm sn sub ab col dd k0 k1 k2 k3 k5, K.lookup C = some (excClassObj nm q C N bs bm true sn sub ab col dd k0 k1 k2 k3 k5 "ValueError.__new__") ∧ PySem.HandSPX.refsVE bm = true := by
  unfold oexB at h
  split at h
  · rename_i dd cd sl hl
    split at h
    · rename_i C' bm k0 k1 k2 k3 n k5 hm hs
      obtain ⟨nm, bs, mro, N, q, hd, sn, sub, ab, col, del⟩ := cd
      simp only [Bool.and_eq_true, beq_iff_eq, Bool.not_eq_true'] at h
      obtain ⟨⟨⟨⟨h1, h2⟩, h3⟩, h4⟩, h5⟩ := h
      dsimp only at hm h3 h4
      subst h1 h2 h3 h4 hm
      refine ⟨nm, q, N, bs, bm, sn, sub, ab, col, dd, k0, k1, k2, k3, k5, ?_, h5⟩
      rw [hl]
      obtain ⟨l⟩ := sl
      simp only at hs
      subst hs
      rfl
    · cases h
  · cases h
/-- what is asked of a class of errors: C, with fields fs -/
def errB (K : PySem.W.Frag) (B x : Str) (fs : List Str) : Bool :=
  He.eqO (PySem.W.nsIn K mainGlobals x) (some (some (.ref (He.ga K x)))) && (oexB K (He.ga K x) && (He.eqO (PySem.W.findIn K (.ref (He.ga K x)) "__setattr__") (some (some (.builtin "object.__setattr__"))) &&
  (decide (PySem.W.subIn K (.ref (He.ga K x)) (.type "BaseException") = some true) && (decide (PySem.W.typeIn K (.ref (He.ga K x)) = some (.type "type")) && (PySem.W.keepIn K (.ref (He.ga K x)) &&
  (He.eqO (PySem.W.findIn K (.ref (He.ga K x)) "__init__") (some (some (.ref (He.ma K (He.ga K x) "__init__")))) && (decide (PySem.W.typeIn K (.ref (He.ma K (He.ga K x) "__init__")) = some (.type "function")) && (xfB K (He.ga K x) &&
  ((fs.all fun f => He.eqO (PySem.W.findIn K (.ref (He.ga K x)) f) (some none)) && (He.eqO (PySem.W.findIn K (.ref (He.ga K x)) "__class__") (some (some (.builtin "object.__class__"))) &&
  (decide (PySem.W.specialIn K (.builtin "object.__class__") "__get__" = some (some (.builtin "getset_descriptor.__get__"))) && (decide (PySem.W.takesIn K (.builtin "object.__class__") = some true) && (decide (PySem.W.mroIn K (He.ga K x) (.type "object") = some true) &&
  (decide (PySem.W.kitOne K (.ref (He.ga K x)) (.ref (He.ga K B)) = some true) && He.eqO (PySem.W.nsIn K mainGlobals B) (some (some (.ref (He.ga K B))))))))))))))))))
structure ErrOk (K : PySem.W.Frag) (mg : Str → Option Value) (B x : Str) (fs : List Str) : Prop where
  g : mg x = some (.ref (He.ga K x))
  o : OexC K (He.ga K x)
  i : PySem.W.findIn K (.ref (He.ga K x)) "__init__" = some (some (.ref (He.ma K (He.ga K x) "__init__")))
  t : PySem.W.typeIn K (.ref (He.ma K (He.ga K x) "__init__")) = some (.type "function")
  xf : XfC K (He.ga K x)
  no : ∀ f ∈ fs, PySem.W.findIn K (.ref (He.ga K x)) f = some none
  b : IsB K mg x B
theorem errB_ok {K : PySem.W.Frag} {h : Heap} {mg : Str → Option Value} {B x : Str} {fs : List Str} (X : K.In h) (G : h.Ns mainGlobals mg) (e : errB K B x fs = true) : ErrOk K mg B x fs := by
  unfold errB at e
  simp only [Bool.and_eq_true] at e
  obtain ⟨e1, e2, e3, e4, e5, e6, e7, e8, e9, e10, e11, e12, e13, e14, e15, e16⟩ := e
  have sub := of_decide_eq_true e4
  have xf := xfB_ok e9
  have g := PySem.W.mg_of X G (He.eqO_ok e1)
  exact ⟨g, ⟨oexB_ok e2, He.eqO_ok e3, sub, of_decide_eq_true e5, e6⟩, He.eqO_ok e7, of_decide_eq_true e8, xf, fun f hf => He.eqO_ok (List.all_eq_true.mp e10 f hf),
    ⟨He.ga K x, He.ga K B, g, PySem.W.mg_of X G (He.eqO_ok e16), ⟨xf.ga, xf.gg, sub, xf.hdC, He.eqO_ok e11, of_decide_eq_true e12, of_decide_eq_true e13, of_decide_eq_true e14⟩, of_decide_eq_true e15⟩⟩
section
variable {P : Program} {w : World} {K : PySem.W.Frag} {mg : Str → Option Value} {base : Heap}
theorem erD_one {B x f q : Str} {st : Stmt} {fd : FuncData} {p1 p2 p3 p4 : Pos} (E : ErrOk K mg B x [f]) (F : FunD K "__init__" q (defArgs st) (defBody st) (defScope st) [] [] (He.fAd K (x, some "__init__")) fd) (S : FnScope ["self", f] ["self", f] (defScope st))
    (hb : defBody st = [.Assign [.Attribute (.Name "self" p1) f p2] (.Name f p3) p4]) (h0 : (defScope st).names.lookup ("self" : Str) = some .local) (h1 : (defScope st).names.lookup f = some .local) (hd : (f == ("__debug__" : Str)) = false) (hcd : (f == ("__classdict__" : Str)) = false)
    (hbi : ∀ (kV doc pm : Value) (an : Option Addr) (cdv ct : Value) (us : List Value), us.length = (["self", f] : List Str).length → bindArgs (PySem.W.fnOf "__init__" q (defArgs st) (defBody st) (defScope st) .none kV doc pm an cdv ct) ⟨us, []⟩ = pure ((["self", f] : List Str).zip us)) : ErD P w K mg base x [f] := by
  refine ⟨He.ga K x, _, fd, ["self", f], E.g, E.o, E.i, E.t, F.bindsN hbi, ?_, E.xf, E.no⟩
  refine F.ok S (fun vs H Q E' h => ?_) fun cdv A outer s H vs Q E' hr h => ?_
  · obtain ⟨a, ws, rfl, hl, _⟩ := h
    show ws.length + 1 = 2
    rw [hl]
    rfl
  · obtain ⟨a, ws, rfl, hl, ha, k⟩ := h
    match ws, hl with
    | [v], _ =>
      rw [hb]
      refine ⟨_, pss_one (ps_ost (pe_var (i := 0) rfl (Or.inl h0) (by decide) (by decide)) (pe_var (i := 1) rfl (Or.inl h1) hd hcd)), ?_⟩
      refine ⟨v, rfl, .ref a, rfl, a, He.ga K x, rfl, E.o, E.no f (by simp), .inl ⟨ha, fun d hdn hne => ?_⟩⟩
      refine k d _ hdn hne upd_same ?_ fun b h1 h2 => ?_
      · rw [upd_ne hne, upd_same]
        rfl
      · rw [upd_ne h1, upd_ne h2]
end
end Sx
/-! Sx20: the law's own def, the end; facts in short -/
namespace Sx
open PySem L2

def spLaw (K : PySem.W.Frag) (m : List D → Sto → Out D) : Sp := fun vs H Q _ => ∃ (a : Addr) (ns : List Int), vs = [.ref a] ∧ SqL K H a (ns.map V.int) ∧ (∃ st', m [.lst (ns.map D.int)] [] = .ok (.bl true) st') ∧ ∀ H', Q (.bl true) H'
theorem sto_nil {K : PySem.W.Frag} {mg : Str → Option Value} {H : Hp} : StoOk K mg [] H [] := ⟨rfl, List.nodup_nil, fun n c e => by simp at e⟩
section
variable {P : Program} {w : World} {K : PySem.W.Frag} {mg : Str → Option Value} {base : Heap} {x : Str} {st : Stmt} {k : Nat} {p : Str}
theorem fnOk_law {f : Addr} {fd : FuncData} {N : List Str} {body : SM} (Fu : Fun K x x st f fd) (S : FnScope N [p] (defScope st))
    (hbody : ∀ (F : Fr) (cdv : Value) (A : Around) (outer : List PySem.Env) (s : Shared) (H : Hp) (E : XK), F.cur = none → Room k (A.deeper (PyProof.Rows.envOfC x (defScope st) s.heap.objs.size f cdv)) →
      SXs (cxOf CX0 P w K mg base N x (defScope st) f cdv A outer s H E).nox F W0 (defBody st) body) :
    FnOk P w K mg base CX0 (k + 1) f fd [p] (spLaw K (fnM N.length body)) := by
  refine Fu.ok S (fun vs H Q E h => ?_) fun cdv A outer s H vs Q E hr h => ?_
  · obtain ⟨a, ns, rfl, _⟩ := h
    rfl
  · obtain ⟨a, ns, rfl, hS, ⟨st', hm⟩, hQ⟩ := h
    have fin : ∀ (F : Fr) (φ : List Addr), finS K mg F W0 { nx := fun _ H' => Q .non H', rt := Q } φ H (body ([D.lst (ns.map D.int)].map .val ++ List.replicate (N.length - 1) .un) []) := fun F φ => by
      unfold fnM at hm
      have hm : (match body ([D.lst (ns.map D.int)].map .val ++ List.replicate (N.length - 1) .un) [] with
        | .nx _ st' => .ok .non st'
        | .rt d st' => .ok d st'
        | .exc e _ st' => .exc e st'
        | _ => .stuck) = Out.ok (.bl true) st' := hm
      cases e : body ([D.lst (ns.map D.int)].map .val ++ List.replicate (N.length - 1) .un) [] with
      | rt d st2 =>
        rw [e] at hm
        cases hm
        intro φ' H' v _ dv
        cases dv
        exact hQ H'
      | nx _ _ => rw [e] at hm; cases hm
      | bk _ _ => rw [e] at hm; cases hm
      | ct _ _ => rw [e] at hm; cases hm
      | exc _ _ _ => rw [e] at hm; cases hm
      | stuck => rw [e] at hm; cases hm
    by_cases hl : H a = some (.lst (ns.map V.int))
    · -- a list of its own: it is written no more
      refine ⟨rS K mg ⟨[], fun b => if b = a then none else H b, none⟩ W0 (sFrz 0 body), sx_frz (hbody _ cdv A outer s H E rfl hr), ?_⟩
      refine ⟨.own (ns.map D.int) :: List.replicate (N.length - 1) .un, [], [], ?_, ?_⟩
      · refine ⟨by simp [L2.start], fun i s e => ?_, fun i j b ds es e1 e2 e3 e4 => ?_, ⟨⟨⟨[], rfl⟩, fun b o e _ => ?_, fun b m _ => by simp at m⟩, sto_nil⟩⟩
        · cases i with
          | zero =>
            simp at e
            subst e
            exact ⟨a, ns.map V.int, by simp [L2.start], hl, dens_ints ns, by simp, by simp⟩
          | succ i =>
            rw [List.getElem?_cons_succ, List.getElem?_replicate] at e
            split at e
            · cases e; trivial
            · cases e
        · have z : ∀ {i : Nat} {ds : List D}, (Slot.own (ns.map D.int) :: List.replicate (N.length - 1) Slot.un)[i]? = some (.own ds) → i = 0 := fun {i ds} e => by
            cases i with
            | zero => rfl
            | succ i =>
              rw [List.getElem?_cons_succ, List.getElem?_replicate] at e
              split at e <;> cases e
          rw [z e1, z e2]
        · dsimp only at e
          split at e
          · cases e
          · exact e
      · show finS K mg _ W0 _ [] H (sFrz 0 body (.own (ns.map D.int) :: List.replicate (N.length - 1) .un) [])
        unfold sFrz
        exact fin _ _
    · have hF : SqF K H a (ns.map V.int) := by
        rcases hS with (h | ⟨o, h⟩) | h
        · exact absurd h hl
        · exact .inl ⟨o, h⟩
        · exact .inr h
      refine ⟨rS K mg ⟨[], H, none⟩ W0 body, hbody _ cdv A outer s H E rfl hr, ?_⟩
      refine ⟨_, [], [], rep_start sto_nil (ds := [.lst (ns.map D.int)]) (.cons (.lst hF (dens_ints ns)) .nil), fin _ _⟩
end

/-! ### facts in short -/
section
variable {X : Cx} {F : Fr} {W : WX} {b : Bool} {pos : Pos}
theorem se_glb1 {x : Str} (hm : ∃ a, X.mg x = some (.ref a)) (hg : Gl X x := by rfl) (hd : (x == ("__debug__" : Str)) = false := by decide) : PE X (.Name x pos) (rE X.K X.mg F W b (eC (.glb x))) := by
  obtain ⟨a, h⟩ := hm
  exact se_glb h hg hd
theorem se_gint1 {x : Str} {i : Int} (hm : ∃ t, X.mg x = some (.int i t)) (hg : Gl X x := by rfl) (hd : (x == ("__debug__" : Str)) = false := by decide) : PE X (.Name x pos) (rE X.K X.mg F W b (eC (.int i))) := by
  obtain ⟨t, h⟩ := hm
  exact se_gint h hg hd
theorem se_gstr1 {x s : Str} (hm : ∃ t, X.mg x = some (.str s t)) (hg : Gl X x := by rfl) (hd : (x == ("__debug__" : Str)) = false := by decide) : PE X (.Name x pos) (rE X.K X.mg F W b (eC (.str s))) := by
  obtain ⟨t, h⟩ := hm
  exact se_gstr h hg hd
end
theorem bt_len : bootBuiltins "len" = some (.builtin "len") := by decide +kernel
theorem bt_abs : bootBuiltins "abs" = some (.builtin "abs") := by decide +kernel
theorem bt_isinstance : bootBuiltins "isinstance" = some (.builtin "isinstance") := by decide +kernel
theorem bt_max : bootBuiltins "max" = some (.builtin "max") := by decide +kernel
theorem bt_min : bootBuiltins "min" = some (.builtin "min") := by decide +kernel
theorem bt_sum : bootBuiltins "sum" = some (.builtin "sum") := by decide +kernel
theorem bt_all : bootBuiltins "all" = some (.builtin "all") := by decide +kernel
theorem bt_any : bootBuiltins "any" = some (.builtin "any") := by decide +kernel
theorem bt_sorted : bootBuiltins "sorted" = some (.builtin "sorted") := by decide +kernel
theorem bt_int : bootBuiltins "int" = some (.type "int") := by decide +kernel
theorem bt_str : bootBuiltins "str" = some (.type "str") := by decide +kernel
theorem bt_bool : bootBuiltins "bool" = some (.type "bool") := by decide +kernel
theorem bt_list : bootBuiltins "list" = some (.type "list") := by decide +kernel
theorem bt_tuple : bootBuiltins "tuple" = some (.type "tuple") := by decide +kernel
theorem bt_dict : bootBuiltins "dict" = some (.type "dict") := by decide +kernel
theorem bt_set : bootBuiltins "set" = some (.type "set") := by decide +kernel
theorem mtd_pop : typeOf (.builtin "list.pop") = pure (.type "method_descriptor") := PySem.F.type_list_pop
theorem hu64 {k : Nat} {A : Around} (hr : Room k A) : A.units + 64 < cLine := by have := hr.un; omega
theorem hu65 {k : Nat} {A : Around} (hr : Room k A) : A.units + 65 < cLine := by have := hr.un; omega
end Sx
/-! Sx21: names for the printed derivations -/
namespace Sx
open PySem L2
def opSub : O2 := op2 fun i j => some (i - j)
def opDiv : O2 := op2 opDivF
def opMod : O2 := op2 opModF
def opPow : O2 := op2 opPowF
def opShl : O2 := op2 opShlF
def opShr : O2 := op2 opShrF
def opBand : O2 := op2 fun i j => some (Builtin.bitAnd i j)
def opBor : O2 := op2 fun i j => some (Builtin.bitOr i j)
def opXor : O2 := op2 fun i j => some (Builtin.bitXor i j)
def negD (d : D) : Option D := match d with | .int i => some (.int (-i)) | _ => none
section
variable {X : Cx}
theorem os_sub1 : OpS X (binaryOp .Sub) opSub := os_sub
theorem os_div1 : OpS X (binaryOp .FloorDiv) opDiv := os_div
theorem os_mod1 : OpS X (binaryOp .Mod) opMod := os_modI
theorem os_pow1 : OpS X (binaryOp .Pow) opPow := os_pow
theorem os_shl1 : OpS X (binaryOp .LShift) opShl := os_shl
theorem os_shr1 : OpS X (binaryOp .RShift) opShr := os_shr
theorem os_and1 : OpS X (binaryOp .BitAnd) opBand := os_and
theorem os_or1 : OpS X (binaryOp .BitOr) opBor := os_or
theorem os_xor1 : OpS X (binaryOp .BitXor) opXor := os_xor
theorem us_neg1 : UnS X (unaryOp .USub) negD := us_neg
end
section
variable {P : Program} {w : World} {K : PySem.W.Frag} {mg : Str → Option Value} {base : Heap} {j k n : Nat} {x : Str} {m : List D → Sto → Out D}
theorem FnD.mono (h : FnD P w K mg base j x n m) (hk : j ≤ k) : FnD P w K mg base k x n m := by
  obtain ⟨f, fd, ps, a, b, c, d, e⟩ := h.ex
  exact ⟨f, fd, ps, a, b, c, d, e.mono hk⟩
theorem FnK.mono {ks : List Str} {π : List Nat} (h : FnK P w K mg base j x ks π m) (hk : j ≤ k) : FnK P w K mg base k x ks π m := by
  obtain ⟨f, fd, ps, a, b, c, d, e, e2, g⟩ := h.ex
  exact ⟨f, fd, ps, a, b, c, d, e, e2, g.mono hk⟩
theorem tab_nil : ∀ y m, ([] : Tab).lookup y = some m → FnD P w K mg base k y n m := by
  intro _ _ h
  cases h
theorem tab_cons {T : Tab} (G : FnD P w K mg base j x n m) (hk : j ≤ k) (r : ∀ y m, T.lookup y = some m → FnD P w K mg base k y n m) : ∀ y m', ((x, m) :: T).lookup y = some m' → FnD P w K mg base k y n m' := by
  intro y m' h
  by_cases e : y = x
  · subst e
    simp [List.lookup] at h
    subst h
    exact G.mono hk
  · have e2 : (y == x) = false := by simpa using e
    simp only [List.lookup, e2] at h
    exact r y m' h
theorem tabk_nil {ks : List Str} {π : List Nat} : ∀ y m, ([] : Tab).lookup y = some m → FnK P w K mg base k y ks π m := by
  intro _ _ h
  cases h
theorem tabk_cons {ks : List Str} {π : List Nat} {T : Tab} (G : FnK P w K mg base j x ks π m) (hk : j ≤ k) (r : ∀ y m, T.lookup y = some m → FnK P w K mg base k y ks π m) : ∀ y m', ((x, m) :: T).lookup y = some m' → FnK P w K mg base k y ks π m' := by
  intro y m' h
  by_cases e : y = x
  · subst e
    simp [List.lookup] at h
    subst h
    exact G.mono hk
  · have e2 : (y == x) = false := by simpa using e
    simp only [List.lookup, e2] at h
    exact r y m' h
end
theorem ErrOk.xf_at {K : PySem.W.Frag} {mg : Str → Option Value} {B x : Str} {fs : List Str} {C : Addr} (h : ErrOk K mg B x fs) (hC : mg x = some (.ref C)) : XfC K C := by
  have e := h.g
  rw [hC] at e
  cases e
  exact h.xf
theorem ErrOk.no_at {K : PySem.W.Frag} {mg : Str → Option Value} {B x : Str} {fs : List Str} {C : Addr} (h : ErrOk K mg B x fs) (hC : mg x = some (.ref C)) (f : Str) (hf : f ∈ fs := by decide) : PySem.W.findIn K (.ref C) f = some none := by
  have e := h.g
  rw [hC] at e
  cases e
  exact h.no f hf
/-- len of anything -/
def lenA : List D → Sto → Out D := fun ds st => match ds with
  | [.dct ks _] => .ok (.int ks.length) st
  | ds => lenD ds st
theorem cs_lenA {X : Cx} : CallS X (.builtin "len") lenA := by
  intro pins s σ H xs us Q I rs ⟨st, φ, ds, so, hx, d, st', e, q⟩
  unfold lenA at e
  split at e
  · exact cs_lenD pins s σ H xs us Q I rs ⟨st, φ, _, so, hx, d, st', e, q⟩
  · exact cs_len pins s σ H xs us Q I rs ⟨st, φ, _, so, hx, d, st', e, q⟩
end Sx
/-! Sx22: list of a text -/
namespace Sx
open PySem L2
def listDA : List D → Sto → Option (List D) := fun ds st => match ds with
  | [.str s] => if s.length ≤ sizeLine then some (s.cps.toList.map fun c => .str ⟨#[c]⟩) else none
  | [d] => seqOf st d
  | _ => none
theorem chars_vals {x : Str} : ∀ {l : List Nat} {acc : List Value}, acc.length = l.length → (∀ (j : Nat) (v : Value), acc[j]? = some v → ∃ c u, l[j]? = some c ∧ v = .str ⟨#[c]⟩ u) → Vals (l.map fun c => V.str ⟨#[c]⟩) acc
  | [], [], _, _ => .nil
  | [], _ :: _, h, _ => by simp at h
  | _ :: _, [], h, _ => by simp at h
  | c :: l, v :: acc, h, f => by
    obtain ⟨c', u, e1, e2⟩ := f 0 v rfl
    cases e1
    subst e2
    exact .cons ⟨u, rfl⟩ (chars_vals (x := x) (by simpa using h) fun j v e => by simpa using f (j + 1) v (by simpa using e))
theorem dens_chars {K : PySem.W.Frag} {mg : Str → Option Value} {φ : List Addr} {H : Hp} (l : List Nat) : Dens K mg φ H (l.map fun c => D.str ⟨#[c]⟩) (l.map fun c => V.str ⟨#[c]⟩) := by
  induction l with
  | nil => exact .nil
  | cons c l ih => exact .cons (.str _) ih
theorem cf_listA {X : Cx} (hc : X.calm = true) : CallF X (.type "list") listDA := by
  intro pins s σ H xs us Q I rs ⟨st, φ, ds, so, hx, es, e, q⟩
  unfold listDA at e
  split at e
  · rename_i z
    split at e
    · rename_i hz
      cases e
      obtain ⟨x, rfl, h⟩ := hx.one
      have ex := h.str
      subst ex
      obtain ⟨u, rfl, ru⟩ := vals1 rs
      obtain ⟨t, rfl⟩ := ru
      refine call_list_str (I.ok.hd hc) z t (hn := hz) fun h' tk acc' c' hk hS' hacc => ?_
      have hn := I.hok.fresh (Nat.le_refl s.heap.objs.size)
      have hv : Vals (z.cps.toList.map fun c => V.str ⟨#[c]⟩) acc'.toList := chars_vals (x := z) (by simpa using hacc.1) fun j v hv => by
        obtain ⟨c, u, h1, h2⟩ := hacc.2 j v (by simpa using hv)
        exact ⟨c, u, by simpa using h1, h2⟩
      have hz2 : (z.cps.toList.map fun c => V.str ⟨#[c]⟩).length ≤ sizeLine := by simpa [Str.length] using hz
      have he : h'.get? s.heap.objs.size = some { cls := .type "list", data := .seq acc'.toList.toArray c' } := by simpa using hS'
      exact ⟨.ref s.heap.objs.size, upd H s.heap.objs.size (.lst (z.cps.toList.map fun c => V.str ⟨#[c]⟩)), I.laid (t' := tk) hk (Nat.le_refl _) ⟨hz2, acc'.toList, c', hv, he⟩, rfl, q φ _ (Post.new so hn) _ ⟨_, _, rfl, upd_same, dens_chars _, so.free hn, hn⟩⟩
    · cases e
  · exact cf_list pins s σ H xs us Q I rs ⟨st, φ, _, so, hx, es, e, q⟩
  · cases e
end Sx
/-! Px1: the printed bodies are worked out: what follows a known outcome -/
namespace Sx
open PySem L2
def okOnly (o : Out D) : Out D := match o with | .ok d st => .ok d st | _ => .stuck
def andD (x : D) (o : Out D) (st : Sto) : Out D := match x with | .bl true => o | .bl false => .ok (.bl false) st | _ => .stuck
def orD (x : D) (o : Out D) (st : Sto) : Out D := match x with | .bl false => o | .bl true => .ok (.bl true) st | _ => .stuck
def notD (x : D) (st : Sto) : Out D := match x with | .bl k => .ok (.bl (!k)) st | _ => .stuck
def tstD (x : D) (st : Sto) : Out Bool := match x with | .bl k => .ok k st | _ => .stuck
def seqO (o : SOut) (n : SM) : SOut := match o with | .nx ρ st => n ρ st | o => o
def retO (ρ : Rho) (o : Out D) : SOut := match o with | .ok d st => .rt d st | .exc e st => .exc e ρ st | .stuck => .stuck
def fnO (o : SOut) : Out D := match o with | .nx _ st => .ok .non st | .rt d st => .ok d st | .exc e _ st => .exc e st | _ => .stuck
section
variable {α β : Type} {ρ : Rho} {st st1 : Sto} {a c : EM} {m n : EM} {p q : BM} {x y d : D} {k : Bool} {P : Prop} [Decidable P]
theorem x_bok {a : α} {f : α → Sto → Out β} : (Out.ok a st).bind f = f a st := rfl
theorem x_bexc {e : Ex} {f : α → Sto → Out β} : (Out.exc e st).bind f = .exc e st := rfl
theorem x_bst {f : α → Sto → Out β} : (Out.stuck : Out α).bind f = .stuck := rfl
theorem x_bite {o o' : Out α} {f : α → Sto → Out β} : (if P then o else o').bind f = if P then o.bind f else o'.bind f := by split <;> rfl
theorem x_bb {γ : Type} {o : Out α} {f : α → Sto → Out β} {g : β → Sto → Out γ} : (o.bind f).bind g = o.bind fun a st => (f a st).bind g := by cases o <;> rfl
theorem x_oo : okOnly (.ok d st) = .ok d st := rfl
theorem x_ooite {o o' : Out D} : okOnly (if P then o else o') = if P then okOnly o else okOnly o' := by split <;> rfl
theorem x_bin {g : O2} : eBin g a c ρ st = (a ρ st).bind fun x st1 => (c ρ st1).bind fun y st2 => okOnly (g x y st2) := rfl
theorem x_bu {g : List D → Sto → Out D} {a : AM} : eBu g a ρ st = (a ρ st).bind fun ds st1 => okOnly (g ds st1) := rfl
theorem x_and : eAnd m n ρ st = (m ρ st).bind fun x st1 => andD x (n ρ st1) st1 := by
  unfold eAnd andD
  rfl
theorem x_or : eOr m n ρ st = (m ρ st).bind fun x st1 => orD x (n ρ st1) st1 := by
  unfold eOr
  congr 1
theorem x_not : eNot m ρ st = (m ρ st).bind fun x st1 => notD x st1 := rfl
theorem x_tb : tB1 m ρ st = (m ρ st).bind fun x st1 => tstD x st1 := rfl
theorem x_andD {o : Out D} : andD (.bl k) o st = if k = true then o else .ok (.bl false) st := by cases k <;> rfl
theorem x_orD {o : Out D} : orD (.bl k) o st = if k = true then .ok (.bl true) st else o := by cases k <;> rfl
theorem x_notD : notD (.bl k) st = .ok (.bl (!k)) st := rfl
theorem x_tst : tstD (.bl k) st = .ok k st := rfl
theorem x_band : bAnd p q ρ st = (p ρ st).bind fun c st1 => if c = true then q ρ st1 else .ok false st1 := rfl
theorem x_bor : bOr p q ρ st = (p ρ st).bind fun c st1 => if c = true then .ok true st1 else q ρ st1 := rfl
theorem x_bnot : bNot p ρ st = (p ρ st).bind fun c st1 => .ok (!c) st1 := rfl
theorem x_if : eIf p m n ρ st = (p ρ st).bind fun k st1 => if k = true then m ρ st1 else n ρ st1 := rfl
theorem x_then {f : α → Sto → SOut} {a : α} : sThen ρ (.ok a st) f = f a st := rfl
theorem x_thenx {f : α → Sto → SOut} {e : Ex} : sThen ρ (.exc e st) f = .exc e ρ st := rfl
theorem x_thenite {o o' : Out α} {f : α → Sto → SOut} : sThen ρ (if P then o else o') f = if P then sThen ρ o f else sThen ρ o' f := by split <;> rfl
theorem x_seq {m n : SM} : sSeq m n ρ st = seqO (m ρ st) n := rfl
theorem x_seqn {n : SM} : seqO (.nx ρ st) n = n ρ st := rfl
theorem x_seqr {n : SM} : seqO (.rt d st) n = .rt d st := rfl
theorem x_seqe {n : SM} {e : Ex} : seqO (.exc e ρ st) n = .exc e ρ st := rfl
theorem x_seqb {n : SM} : seqO (.bk ρ st) n = .bk ρ st := rfl
theorem x_seqc {n : SM} : seqO (.ct ρ st) n = .ct ρ st := rfl
theorem x_seqite {o o' : SOut} {n : SM} : seqO (if P then o else o') n = if P then seqO o n else seqO o' n := by split <;> rfl
theorem x_ret : sRet m ρ st = retO ρ (m ρ st) := rfl
theorem x_reto : retO ρ (.ok d st) = .rt d st := rfl
theorem x_rete {e : Ex} : retO ρ (.exc e st) = .exc e ρ st := rfl
theorem x_retite {o o' : Out D} : retO ρ (if P then o else o') = if P then retO ρ o else retO ρ o' := by split <;> rfl
theorem x_fn {tot : Nat} {body : SM} {ds : List D} : fnM tot body ds st = fnO (body (ds.map .val ++ List.replicate (tot - ds.length) .un) st) := rfl
theorem x_fnn : fnO (.nx ρ st) = .ok .non st := rfl
theorem x_fnr : fnO (.rt d st) = .ok d st := rfl
theorem x_fne {e : Ex} : fnO (.exc e ρ st) = .exc e st := rfl
theorem x_fnite {o o' : SOut} : fnO (if P then o else o') = if P then fnO o else fnO o' := by split <;> rfl
theorem x_var {i : Nat} (h : ρ[i]? = some (.val d)) : eVar i ρ st = .ok d st := by unfold eVar; rw [h]
end
theorem compM_pure {t : TgM} {c : BM} {e : EM} {ρ : Rho} {st : Sto} (p : D → Bool) (g : D → D) : ∀ (ds : List D), (∀ d ∈ ds, ∃ ρ1, t d ρ = some ρ1 ∧ c ρ1 st = .ok (p d) st ∧ (p d = true → e ρ1 st = .ok (g d) st)) → compM t c e ρ ds st = .ok ((ds.filter p).map g) st
  | [], _ => rfl
  | d :: ds, h => by
    obtain ⟨ρ1, h1, h2, h3⟩ := h d List.mem_cons_self
    have ih := compM_pure p g ds fun d hd => h d (List.mem_cons_of_mem _ hd)
    unfold compM
    rw [h1]
    dsimp only
    rw [h2]
    cases hp : p d with
    | false => simp [hp, ih]
    | true => simp [hp, h3 hp, ih, Out.bind]
theorem compM_map {β : Type} {t : TgM} {c : BM} {e : EM} {ρ : Rho} {st : Sto} (f g : β → D) (p : β → Bool) : ∀ (l : List β), (∀ b ∈ l, ∃ ρ1, t (f b) ρ = some ρ1 ∧ c ρ1 st = .ok (p b) st ∧ (p b = true → e ρ1 st = .ok (g b) st)) → compM t c e ρ (l.map f) st = .ok ((l.filter p).map g) st
  | [], _ => rfl
  | d :: ds, h => by
    obtain ⟨ρ1, h1, h2, h3⟩ := h d List.mem_cons_self
    have ih := compM_map f g p ds fun d hd => h d (List.mem_cons_of_mem _ hd)
    rw [List.map_cons]
    unfold compM
    rw [h1]
    dsimp only
    rw [h2]
    cases hp : p d with
    | false => simp [hp, ih]
    | true => simp [hp, h3 hp, ih, Out.bind]
/-- .. without a test, one name -/
theorem compM_all {β : Type} {e : EM} {ρ : Rho} {st : Sto} {i : Nat} (f g : β → D) (l : List β) (h : ∀ b ∈ l, e (ρ.set i (.val (f b))) st = .ok (g b) st) : compM (tgName i) bYes e ρ (l.map f) st = .ok (l.map g) st := by
  rw [compM_map f g (fun _ => true) l fun b hb => ⟨_, rfl, rfl, fun _ => h b hb⟩, List.filter_eq_self.mpr (fun _ _ => rfl)]
theorem compM_if {β : Type} {c : BM} {e : EM} {ρ : Rho} {st : Sto} {i : Nat} (f g : β → D) (p : β → Bool) (l : List β) (hc : ∀ b ∈ l, c (ρ.set i (.val (f b))) st = .ok (p b) st) (h : ∀ b ∈ l, p b = true → e (ρ.set i (.val (f b))) st = .ok (g b) st) : compM (tgName i) c e ρ (l.map f) st = .ok ((l.filter p).map g) st :=
  compM_map f g p l fun b hb => ⟨_, rfl, hc b hb, h b hb⟩
theorem dints_map (lo : Int) (n : Nat) : dints lo n = (List.range n).map fun (k : Nat) => D.int (lo + k) := rfl
theorem rngOf_ok {lo hi : Int} (h1 : -1000000 ≤ lo) (h2 : lo ≤ 1000000) (h3 : -1000000 ≤ hi) (h4 : hi ≤ 1000000) : rngOf lo hi = some (dints lo (hi - lo).toNat) := by
  unfold rngOf
  rw [if_pos]
  refine ⟨by omega, by omega, by omega, by omega, ?_⟩
  rw [sizeLine_eq]
  omega
def rngO (lo hi : Int) (st : Sto) : Out (List D) := match rngOf lo hi with
  | some l => .ok l st
  | none => .stuck
theorem rngO_ok {lo hi : Int} {st : Sto} (h1 : -1000000 ≤ lo) (h2 : lo ≤ 1000000) (h3 : -1000000 ≤ hi) (h4 : hi ≤ 1000000) : rngO lo hi st = .ok (dints lo (hi - lo).toNat) st := by
  unfold rngO
  rw [rngOf_ok h1 h2 h3 h4]
theorem x_rng1 {m : EM} {ρ : Rho} {st st1 : Sto} {n : Int} (h : m ρ st = .ok (.int n) st1) : rng1 (aCons m aNil) ρ st = rngO 0 n st1 := by
  unfold rng1 aCons aNil
  rw [h]
  rfl
theorem x_rng2 {m k : EM} {ρ : Rho} {st st1 st2 : Sto} {a n : Int} (h : m ρ st = .ok (.int a) st1) (h2 : k ρ st1 = .ok (.int n) st2) : rng2 (aCons m (aCons k aNil)) ρ st = rngO a n st2 := by
  unfold rng2 aCons aNil
  rw [h]
  simp only [Out.bind]
  rw [h2]
  rfl
theorem tq_str : ("str" ∈ tyAsked) = True := eq_true (by decide)
theorem tq_int : ("int" ∈ tyAsked) = True := eq_true (by decide)
theorem tq_bool : ("bool" ∈ tyAsked) = True := eq_true (by decide)
theorem tq_tuple : ("tuple" ∈ tyAsked) = True := eq_true (by decide)
theorem tq_list : ("list" ∈ tyAsked) = True := eq_true (by decide)
theorem tq_dict : ("dict" ∈ tyAsked) = True := eq_true (by decide)
theorem isa_is (a b : String) : isaT a b = (a == b || (a == "bool" && b == "int")) := rfl
/-- the list under a rng's display in one term -/
def rngA (ds : List D) (st : Sto) : Out (List D) := match ds with
  | [.int n] => rngO 0 n st
  | _ => .stuck
def rngB (ds : List D) (st : Sto) : Out (List D) := match ds with
  | [.int a, .int n] => rngO a n st
  | _ => .stuck
theorem x_rng1b {m : AM} {ρ : Rho} {st : Sto} : rng1 m ρ st = (m ρ st).bind fun ds st1 => rngA ds st1 := rfl
theorem x_rng2b {m : AM} {ρ : Rho} {st : Sto} : rng2 m ρ st = (m ρ st).bind fun ds st1 => rngB ds st1 := rfl
theorem x_rngA {n : Int} {st : Sto} : rngA [.int n] st = rngO 0 n st := rfl
theorem x_rngB {a n : Int} {st : Sto} : rngB [.int a, .int n] st = rngO a n st := rfl
/-- a loop that is never left ahead of its end -/
theorem forM_inv {t : TgM} {body : SM} (I : Nat → Rho → Sto → Prop) : ∀ (ds : List D) (k : Nat) (ρ : Rho) (st : Sto), I k ρ st → (∀ i d ρ st, ds[i]? = some d → I (k + i) ρ st → ∃ ρ1, t d ρ = some ρ1 ∧ ∃ ρ2 st2, (body ρ1 st = .nx ρ2 st2 ∨ body ρ1 st = .ct ρ2 st2) ∧ I (k + i + 1) ρ2 st2) →
    ∃ ρ' st', forM t body ds ρ st = .nx ρ' st' ∧ I (k + ds.length) ρ' st'
  | [], k, ρ, st, h0, _ => ⟨ρ, st, rfl, h0⟩
  | d :: ds, k, ρ, st, h0, hs => by
    obtain ⟨ρ1, h1, ρ2, st2, h2, h3⟩ := hs 0 d ρ st (by simp) h0
    obtain ⟨ρ', st', h4, h5⟩ := forM_inv I ds (k + 1) ρ2 st2 h3 fun i d' ρ st e hi => by
      have := hs (i + 1) d' ρ st (by simpa using e) (by rw [show k + (i + 1) = k + 1 + i by omega]; exact hi)
      rw [show k + (i + 1) + 1 = k + 1 + i + 1 by omega] at this
      exact this
    refine ⟨ρ', st', ?_, by rw [List.length_cons, show k + (ds.length + 1) = k + 1 + ds.length by omega]; exact h5⟩
    unfold forM
    rw [h1]
    dsimp only
    rcases h2 with h2 | h2 <;> rw [h2] <;> exact h4
theorem x_if_t {α : Sort _} {a b : α} : (if (True : Prop) then a else b) = a := if_pos trivial
theorem x_comp {own : List Nat} {it : AM} {t : TgM} {c : BM} {e : EM} {ρ : Rho} {st : Sto} : lComp own it t c e ρ st = (it ρ st).bind fun ds st1 => compM t c e (wipeR ρ own) ds st1 := rfl
theorem x_for {m : AM} {t : TgM} {body : SM} {ρ : Rho} {st : Sto} : sFor m t body ρ st = sThen ρ (m ρ st) fun ds st1 => forM t body ds ρ st1 := rfl
def itO (d : D) (st1 : Sto) : Out (List D) := match itemsOf d with
  | some ds => if ds.length ≤ sizeLine then .ok ds st1 else .stuck
  | none => .stuck
theorem x_its {m : EM} {ρ : Rho} {st : Sto} : itS m ρ st = (m ρ st).bind fun d st1 => itO d st1 := rfl
theorem itO_lst {ds : List D} {st : Sto} (h : ds.length ≤ sizeLine) : itO (.lst ds) st = .ok ds st := if_pos h
theorem itO_tup {ds : List D} {st : Sto} (h : ds.length ≤ sizeLine) : itO (.tup ds) st = .ok ds st := if_pos h
theorem itO_str {s : Str} {st : Sto} (h : s.length ≤ sizeLine) : itO (.str s) st = .ok (s.cps.toList.map fun c => .str ⟨#[c]⟩) st := if_pos (by simpa [Str.length] using h)
theorem allD_bools (bs : List Bool) (st : Sto) : allD [.lst (bs.map .bl)] st = .ok (.bl (bs.all id)) st := by
  unfold allD boolsAt
  simp [lstOf, boolsOf_map]
theorem eqD_int (i j : Int) : eqD (.int i) (.int j) = decide (i = j) := by simp [eqD, pyOf, PyData.eqv, Bool.beq_eq_decide_eq]
theorem eqD_str (i j : Str) : eqD (.str i) (.str j) = decide (i = j) := by simp [eqD, pyOf, PyData.eqv, Bool.beq_eq_decide_eq]
theorem eqD_bl (i j : Bool) : eqD (.bl i) (.bl j) = decide (i = j) := by simp [eqD, pyOf, PyData.eqv, Bool.beq_eq_decide_eq]
theorem eqD_nil_l (ds : List D) : eqD (.lst ds) (.lst []) = ds.isEmpty := by
  cases ds <;> simp [eqD, pyOf, pyOfs, PyData.eqv, PyData.eqvAll]
theorem x_eq {x y : D} {st : Sto} (hx : plainD 50 x = true) (hy : plainD 50 y = true) : opEq x y st = .ok (.bl (eqD x y)) st := by
  unfold opEq
  split
  · rename_i a b
    rw [eqD_str]
  · rw [if_pos ⟨hx, hy⟩]
theorem x_ne {x y : D} {st : Sto} (hx : plainD 50 x = true) (hy : plainD 50 y = true) : opNe x y st = .ok (.bl (!eqD x y)) st := by
  unfold opNe
  split
  · rename_i a b
    rw [eqD_str]
  · rw [if_pos ⟨hx, hy⟩]
theorem x_int_eq {i j : Int} {st : Sto} : opEq (.int i) (.int j) st = .ok (.bl (decide (i = j))) st := by rw [x_eq rfl rfl, eqD_int]
theorem x_int_ne {i j : Int} {st : Sto} : opNe (.int i) (.int j) st = .ok (.bl (!decide (i = j))) st := by rw [x_ne rfl rfl, eqD_int]
theorem x_str_eq {i j : Str} {st : Sto} : opEq (.str i) (.str j) st = .ok (.bl (decide (i = j))) st := rfl
theorem x_str_ne {i j : Str} {st : Sto} : opNe (.str i) (.str j) st = .ok (.bl (!decide (i = j))) st := rfl
theorem x_bl_eq {i j : Bool} {st : Sto} : opEq (.bl i) (.bl j) st = .ok (.bl (decide (i = j))) st := by rw [x_eq rfl rfl, eqD_bl]
theorem x_lt {i j : Int} {st : Sto} : opLt (.int i) (.int j) st = .ok (.bl (decide (i < j))) st := rfl
theorem x_le {i j : Int} {st : Sto} : opLe (.int i) (.int j) st = .ok (.bl (decide (i ≤ j))) st := rfl
theorem x_gt {i j : Int} {st : Sto} : opGt (.int i) (.int j) st = .ok (.bl (decide (j < i))) st := rfl
theorem x_ge {i j : Int} {st : Sto} : opGe (.int i) (.int j) st = .ok (.bl (decide (j ≤ i))) st := rfl
theorem x_add {i j : Int} {st : Sto} : opAdd (.int i) (.int j) st = .ok (.int (i + j)) st := rfl
theorem x_sub {i j : Int} {st : Sto} : opSub (.int i) (.int j) st = .ok (.int (i - j)) st := rfl
theorem x_adds {a b : Str} {st : Sto} (h : a.length + b.length ≤ sizeLine) : opAdd (.str a) (.str b) st = .ok (.str (a ++ b)) st := if_pos h
theorem x_mul {i j : Int} {st : Sto} (h : small64 i = true ∨ small64 j = true) : opMul (.int i) (.int j) st = .ok (.int (i * j)) st := by
  unfold opMul
  simp only [op2, opMulF, if_pos h]
theorem x_mod {i j : Int} {st : Sto} (h : j ≠ 0) : opMod (.int i) (.int j) st = .ok (.int (i.fmod j)) st := by
  unfold opMod
  simp only [op2, opModF, if_pos h]
theorem x_div {i j : Int} {st : Sto} (h : j ≠ 0 ∧ j.natAbs < 1073741824) : opDiv (.int i) (.int j) st = .ok (.int (i.fdiv j)) st := by
  unfold opDiv
  simp only [op2, opDivF, if_pos h]
theorem x_pow {i j : Int} {st : Sto} (h : 0 ≤ j ∧ j ≤ 1000000 ∧ i.natAbs < 2 ^ 64) : opPow (.int i) (.int j) st = .ok (.int (i ^ j.toNat)) st := by
  unfold opPow
  simp only [op2, opPowF, if_pos h]
theorem x_len_str {s : Str} {st : Sto} (h : s.length ≤ sizeLine) : lenD [.str s] st = .ok (.int s.length) st := if_pos h
theorem x_len_lst {ds : List D} {st : Sto} : lenD [.lst ds] st = .ok (.int ds.length) st := rfl
theorem x_len_tup {ds : List D} {st : Sto} : lenD [.tup ds] st = .ok (.int ds.length) st := rfl
theorem x_ix {d e : D} {i : Int} {ds : List D} {st : Sto} (hs : seqOf st d = some ds) (h : atI ds i = some e) : opIx d (.int i) st = .ok e st := by
  unfold opIx
  dsimp only
  split
  · rename_i s
    cases hs
  · rw [hs, Option.bind_some, h]
theorem x_ixs {s : Str} {c : Nat} {i : Int} {st : Sto} (hl : s.length ≤ sizeLine) (h : atI s.cps.toList i = some c) : opIx (.str s) (.int i) st = .ok (.str ⟨#[c]⟩) st := by
  unfold opIx
  dsimp only
  rw [if_pos hl, h]

end Sx
/-! Px2: what all laws share: their draws, their comparing -/
namespace Sx
open PySem L2
def cellB : SM :=
  (sRet (eIf (tB1 (eBin opLt (eVar 1) (eBu lenD (aCons (eVar 0) aNil)))) (eBin opIx (eVar 0) (eVar 1)) (eBin opAdd (eBin opMul (eC (.int 7487)) (eVar 1)) (eBin opMod (eBu (fn1 intD) (aCons (eBu sumD (aCons (eSl (eVar 0) oNo (oSo (eC (.int 1)))) aNil)) aNil)) (eC (.int 1000003))))))
def boxB : SM :=
  (sRet (eCl (aCons (eBu (fn1 absD) (aCons (eVar 0) aNil)) (aCons (eBin opGe (eBu (fn1 absD) (aCons (eVar 0) aNil)) (eBin opPow (eC (.int 10)) (eC (.int 18)))) (aCons (eBin opMod (eBu (fn1 intD) (aCons (eBu (fn1 absD) (aCons (eVar 0) aNil)) aNil)) (eC (.int 2147483629))) (aCons (eC (.int 0)) aNil))))))
noncomputable def takeB (c1 c2 c3 : Int) : SM :=
  (sSeq (sIf (bAnd (tB1 (eBin opIx (eVar 0) (eC (.int 1)))) (tB1 (eBin opGt (eBin opIx (eVar 0) (eC (.int 0))) (eC (.int 0))))) (sSeq (sSet 3 (eBin opMod (eBu (fn1 intD) (aCons (eBin opIx (eVar 0) (eC (.int 0))) aNil)) (eVar 1)))
    (sSeq (sSetI (eBin opDiv (eBin opIx (eVar 0) (eC (.int 0))) (eVar 1)) (eVar 0) (eC (.int 0)))
    (sRet (eVar 3)))) sNil)
    (sSeq (sSetI (eBin opAdd (eBin opIx (eVar 0) (eC (.int 3))) (eC (.int 1))) (eVar 0) (eC (.int 3)))
    (sSeq (sSet 2 (eBin opMod (eBu (fn1 intD) (aCons (eBin opPow (eBin opAdd (eBin opAdd (eBin opIx (eVar 0) (eC (.int 2))) (eBin opMul (eC (.int c1)) (eBin opIx (eVar 0) (eC (.int 3))))) (eC (.int c2))) (eC (.int 5))) aNil)) (eC (.int 2147483647))))
    (sRet (eBin opMod (eBu (fn1 intD) (aCons (eBin opDiv (eBin opMod (eBu (fn1 intD) (aCons (eBin opPow (eBin opAdd (eBin opMul (eVar 2) (eC (.int 48271))) (eBin opMul (eC (.int c3)) (eBin opIx (eVar 0) (eC (.int 3))))) (eC (.int 3))) aNil)) (eC (.int 2147483587))) (eC (.int 64))) aNil)) (eVar 1))))))
noncomputable def sameB (rec : List D → Sto → Out D) : SM :=
  (sSeq (sIf (tB1 (eBin opIs (eVar 1) (eC .non))) (sRet (eBin opIs (eVar 0) (eC .non))) sNil)
    (sSeq (sIf (tB1 (eBu isiD (aCons (eVar 1) (aCons (eC (.ty "bool")) aNil)))) (sRet (eAnd (eBu isiD (aCons (eVar 0) (aCons (eC (.ty "bool")) aNil))) (eBin opEq (eBin opIs (eVar 0) (eC (.bl true))) (eBin opIs (eVar 1) (eC (.bl true)))))) sNil)
    (sSeq (sIf (tB1 (eBu isiD (aCons (eVar 1) (aCons (eC (.ty "int")) aNil)))) (sRet (eAnd (eBu isiD (aCons (eVar 0) (aCons (eC (.ty "int")) aNil))) (eAnd (eNot (eBu isiD (aCons (eVar 0) (aCons (eC (.ty "bool")) aNil)))) (eBin opEq (eBin opSub (eBu (fn1 intD) (aCons (eVar 0) aNil)) (eVar 1)) (eC (.int 0)))))) sNil)
    (sSeq (sIf (tB1 (eBu isiD (aCons (eVar 1) (aCons (eC (.ty "str")) aNil)))) (sRet (eAnd (eBu isiD (aCons (eVar 0) (aCons (eC (.ty "str")) aNil))) (eAnd (eBin opEq (eBu lenA (aCons (eVar 0) aNil)) (eBu lenA (aCons (eVar 1) aNil))) (eBin opEq (eFz (lComp [2] (rng1 (aCons (eBu lenA (aCons (eVar 1) aNil)) aNil)) (tgName 2) (tB1 (eBin opNe (eSl (eVar 0) (oSo (eVar 2)) (oSo (eBin opAdd (eVar 2) (eC (.int 1))))) (eBin opIx (eVar 1) (eVar 2)))) (eVar 2))) (eFz aNil))))) sNil)
    (sSeq (sIf (tB1 (eBu isiD (aCons (eVar 1) (aCons (eC (.ty "dict")) aNil)))) (sRet (eAnd (eBu isiD (aCons (eVar 0) (aCons (eC (.ty "dict")) aNil))) (eAnd (eBin opEq (eBu lenA (aCons (eVar 0) aNil)) (eBu lenA (aCons (eVar 1) aNil))) (eBin opEq (eFz (lComp [3] (itKeys (eVar 1)) (tgName 3) (bOr (tB1 (eBin (opDi true) (eVar 3) (eVar 0))) (bNot (tB1 (eCall rec (aCons (eBin opDg (eVar 0) (eVar 3)) (aCons (eBin opDg (eVar 1) (eVar 3)) aNil)))))) (eVar 3))) (eFz aNil))))) sNil)
    (sSeq (sIf (bOr (bNot (tB1 (eBu isiD (aCons (eVar 1) (aCons (eTup (aCons (eC (.ty "list")) (aCons (eC (.ty "tuple")) aNil))) aNil))))) (bNot (tB1 (eBu isiD (aCons (eVar 0) (aCons (eTup (aCons (eC (.ty "list")) (aCons (eC (.ty "tuple")) aNil))) aNil)))))) (sRet (eC (.bl false))) sNil)
    (sSeq (sIf (bOr (tB1 (eBin opNe (eBu isiD (aCons (eVar 0) (aCons (eC (.ty "list")) aNil))) (eBu isiD (aCons (eVar 1) (aCons (eC (.ty "list")) aNil))))) (tB1 (eBin opNe (eBu lenA (aCons (eVar 0) aNil)) (eBu lenA (aCons (eVar 1) aNil))))) (sRet (eC (.bl false))) sNil)
    (sRet (eBin opEq (eFz (lComp [2] (rng1 (aCons (eBu lenA (aCons (eVar 1) aNil)) aNil)) (tgName 2) (bNot (tB1 (eCall rec (aCons (eBin opIx (eVar 0) (eVar 2)) (aCons (eBin opIx (eVar 1) (eVar 2)) aNil))))) (eVar 2))) (eFz aNil))))))))))
noncomputable def sameM : Nat → List D → Sto → Out D
  | 0 => fnBot
  | n + 1 => fnM 4 (sameB (sameM n))
def copyB : SM :=
  (sRet (eIf (tB1 (eBu isiD (aCons (eVar 0) (aCons (eC (.ty "list")) aNil)))) (eCl (lBu listDA (aCons (eVar 0) aNil))) (eVar 0)))
noncomputable def blamedB (same : List D → Sto → Out D) : SM :=
  (sSeq (sIf (bNot (tB1 (eCall same (aCons (eVar 0) (aCons (eVar 1) aNil))))) (sRet (eC (.bl false))) sNil)
    (sSeq (sIf (tB1 (eBu isiD (aCons (eVar 1) (aCons (eC (.ty "list")) aNil)))) (sExpr (eMt "list" apG (eVar 1) (aCons (eC (.int 7)) aNil))) sNil)
    (sRet (eCall same (aCons (eVar 0) (aCons (eVar 1) aNil))))))

/-! ### the same -/
def SimL (R : D → D → Prop) (xs ys : List D) : Prop := xs.length = ys.length ∧ ys.length ≤ 1000000 ∧ ∀ (i : Nat) (x y : D), xs[i]? = some x → ys[i]? = some y → R x y
def Sim (st : Sto) : Nat → D → D → Prop
  | 0, _, _ => False
  | n + 1, d, e => (d = .non ∧ e = .non) ∨ (∃ b, d = .bl b ∧ e = .bl b) ∨ (∃ i, d = .int i ∧ e = .int i) ∨ (∃ s, d = .str s ∧ e = .str s ∧ s.length ≤ 1000000) ∨ (∃ xs ys, d = .tup xs ∧ e = .tup ys ∧ SimL (Sim st n) xs ys) ∨
    (∃ xs ys, lstOf st d = some xs ∧ lstOf st e = some ys ∧ SimL (Sim st n) xs ys) ∨ ∃ ks xs ys, d = .dct ks xs ∧ e = .dct ks ys ∧ ks.length ≤ 1000000 ∧ ∀ k ∈ ks, ∃ x y, getKD ks xs k = some x ∧ getKD ks ys k = some y ∧ Sim st n x y
theorem x_slice1 {s : Str} {k : Nat} (h : k < s.length) : cutS s (some (k : Int)) (some ((k : Int) + 1)) = ⟨#[s.cps.toList[k]'(by simpa [Str.length] using h)]⟩ := by
  have hk : k < s.cps.toList.length := by simpa [Str.length] using h
  unfold cutS
  rw [show ((k : Int) + 1) = ((k + 1 : Nat) : Int) by omega, HT.sIx_nat, HT.sIx_nat, Nat.min_eq_left (by omega), Nat.min_eq_left (by omega), show k + 1 - k = 1 by omega, List.drop_eq_getElem_cons hk]
  rfl
theorem atI_nat {α : Type} {l : List α} {k : Nat} (h : k < l.length) : atI l (k : Int) = some l[k] := by
  unfold atI ixN
  rw [if_pos (by omega : (0 : Int) ≤ (k : Int)), Int.toNat_natCast, if_pos (by omega), Option.bind_some, List.getElem?_eq_getElem h]
theorem line1M {n : Nat} (h : n ≤ 1000000) : n ≤ sizeLine := by rw [sizeLine_eq]; omega
theorem same_str1 (st : Sto) (s : Str) (hs : s.length ≤ 1000000) (k : Nat) (hk : k < s.cps.toList.length) : eSl (eVar 0) (oSo (eVar 2)) (oSo (eBin opAdd (eVar 2) (eC (D.int 1)))) [.val (.str s), .val (.str s), .val (.int (0 + (k : Nat))), .un] st = .ok (.str ⟨#[s.cps.toList[k]]⟩) st := by
  have hz := line1M hs
  have hk' : k < s.length := by simpa [Str.length] using hk
  unfold eSl oSo
  simp -implicitDefEqProofs only [x_bok, x_bexc, x_bst, x_bite, x_bb, x_oo, x_ooite, x_bin, x_bu, x_and, x_or, x_not, x_tb, x_andD, x_orD, x_notD, x_tst, x_band, x_bor, x_bnot, x_if, x_then, x_thenx, x_thenite, x_seq, x_seqn, x_seqr, x_seqe, x_seqb, x_seqc, x_seqite, x_ret, x_reto, x_rete, x_retite, x_fn, x_fnn, x_fnr, x_fne, x_fnite, x_comp, x_for, x_its, x_rng1b, x_rng2b, x_rngA, x_rngB, tq_str, tq_int, tq_bool, tq_tuple, tq_list, tq_dict, eVar, eBor, eC, sIf, sSet, sSetF, sFrz, sNil, sExpr, sPar, setsR, pNil, pVal, pOwn, sAppO, sBk, sCt, eUn, eTup, eFz, eCl, fn1, aCons, aNil, eCall, eCallK, arr, negD, tgName, wipeR, lBu, isiD, tyN, isaT, tysOf, String.reduceBEq, bYes, x_int_eq, x_int_ne, x_str_eq, x_str_ne, x_bl_eq, x_lt, x_le, x_gt, x_ge, x_add, x_sub, x_len_lst, x_len_tup, List.map_cons, List.map_nil, List.length_cons, List.length_nil, List.cons_append, List.nil_append, List.reduceReplicate, List.getElem?_cons_zero, List.getElem?_cons_succ, List.set_cons_zero, List.set_cons_succ, Nat.reduceAdd, Nat.reduceSub, Nat.zero_add, Nat.sub_self, List.replicate_zero, List.getD_cons_zero, List.getD_cons_succ, reduceIte, Bool.false_eq_true, if_true, if_false, x_if_t, decide_true, decide_false, Bool.not_true, Bool.not_false, Bool.true_and, Bool.false_and, Bool.and_true, Bool.and_false, Bool.true_or, Bool.false_or, Bool.or_true, Bool.or_false, beq_self_eq_true, List.any_cons, List.any_nil, List.all_cons, List.all_nil]
  rw [Int.zero_add]
  have e : slD st (.str s) (some (k : Int)) (some ((k : Int) + 1)) = some (.str ⟨#[s.cps.toList[k]]⟩) := by
    unfold slD
    dsimp only
    rw [if_pos hz]
    exact congrArg (fun z => some (D.str z)) (x_slice1 hk')
  rw [e]
  rfl
theorem fnil {α : Type} (l : List α) : l.filter (fun _ => false) = [] := List.filter_eq_nil_iff.mpr (by simp)
theorem opEq_nil (st : Sto) : opEq (.lst []) (.lst []) st = .ok (.bl true) st := rfl
theorem same_str (rec : List D → Sto → Out D) (st : Sto) (s : Str) (hs : s.length ≤ 1000000) : fnM 4 (sameB rec) [.str s, .str s] st = .ok (.bl true) st := by
  have hz := line1M hs
  have hc := compM_if (i := 2) (ρ := [.val (.str s), .val (.str s), .un, .un]) (st := st) (c := tB1 (eBin opNe (eSl (eVar 0) (oSo (eVar 2)) (oSo (eBin opAdd (eVar 2) (eC (D.int 1))))) (eBin opIx (eVar 1) (eVar 2)))) (e := eVar 2) (fun (k : Nat) => D.int (0 + k)) (fun (k : Nat) => D.int (0 + k)) (fun _ => false) (List.range s.length)
    (fun k hk => by
      have hk : k < s.length := List.mem_range.mp hk
      have hk2 : k < s.cps.toList.length := by simpa [Str.length] using hk
      simp only [List.set_cons_succ, List.set_cons_zero]
      rw [x_tb, x_bin, same_str1 st s hs k hk2]
      simp -implicitDefEqProofs only [x_bok, x_bexc, x_bst, x_bite, x_bb, x_oo, x_ooite, x_bin, x_bu, x_and, x_or, x_not, x_tb, x_andD, x_orD, x_notD, x_tst, x_band, x_bor, x_bnot, x_if, x_then, x_thenx, x_thenite, x_seq, x_seqn, x_seqr, x_seqe, x_seqb, x_seqc, x_seqite, x_ret, x_reto, x_rete, x_retite, x_fn, x_fnn, x_fnr, x_fne, x_fnite, x_comp, x_for, x_its, x_rng1b, x_rng2b, x_rngA, x_rngB, tq_str, tq_int, tq_bool, tq_tuple, tq_list, tq_dict, eVar, eBor, eC, sIf, sSet, sSetF, sFrz, sNil, sExpr, sPar, setsR, pNil, pVal, pOwn, sAppO, sBk, sCt, eUn, eTup, eFz, eCl, fn1, aCons, aNil, eCall, eCallK, arr, negD, tgName, wipeR, lBu, isiD, tyN, isaT, tysOf, String.reduceBEq, bYes, x_int_eq, x_int_ne, x_str_eq, x_str_ne, x_bl_eq, x_lt, x_le, x_gt, x_ge, x_add, x_sub, x_len_lst, x_len_tup, List.map_cons, List.map_nil, List.length_cons, List.length_nil, List.cons_append, List.nil_append, List.reduceReplicate, List.getElem?_cons_zero, List.getElem?_cons_succ, List.set_cons_zero, List.set_cons_succ, Nat.reduceAdd, Nat.reduceSub, Nat.zero_add, Nat.sub_self, List.replicate_zero, List.getD_cons_zero, List.getD_cons_succ, reduceIte, Bool.false_eq_true, if_true, if_false, x_if_t, decide_true, decide_false, Bool.not_true, Bool.not_false, Bool.true_and, Bool.false_and, Bool.and_true, Bool.and_false, Bool.true_or, Bool.false_or, Bool.or_true, Bool.or_false, beq_self_eq_true, List.any_cons, List.any_nil, List.all_cons, List.all_nil]
      rw [Int.zero_add, x_ixs hz (atI_nat hk2)]
      simp -implicitDefEqProofs only [x_bok, x_bexc, x_bst, x_bite, x_bb, x_oo, x_ooite, x_bin, x_bu, x_and, x_or, x_not, x_tb, x_andD, x_orD, x_notD, x_tst, x_band, x_bor, x_bnot, x_if, x_then, x_thenx, x_thenite, x_seq, x_seqn, x_seqr, x_seqe, x_seqb, x_seqc, x_seqite, x_ret, x_reto, x_rete, x_retite, x_fn, x_fnn, x_fnr, x_fne, x_fnite, x_comp, x_for, x_its, x_rng1b, x_rng2b, x_rngA, x_rngB, tq_str, tq_int, tq_bool, tq_tuple, tq_list, tq_dict, eVar, eBor, eC, sIf, sSet, sSetF, sFrz, sNil, sExpr, sPar, setsR, pNil, pVal, pOwn, sAppO, sBk, sCt, eUn, eTup, eFz, eCl, fn1, aCons, aNil, eCall, eCallK, arr, negD, tgName, wipeR, lBu, isiD, tyN, isaT, tysOf, String.reduceBEq, bYes, x_int_eq, x_int_ne, x_str_eq, x_str_ne, x_bl_eq, x_lt, x_le, x_gt, x_ge, x_add, x_sub, x_len_lst, x_len_tup, List.map_cons, List.map_nil, List.length_cons, List.length_nil, List.cons_append, List.nil_append, List.reduceReplicate, List.getElem?_cons_zero, List.getElem?_cons_succ, List.set_cons_zero, List.set_cons_succ, Nat.reduceAdd, Nat.reduceSub, Nat.zero_add, Nat.sub_self, List.replicate_zero, List.getD_cons_zero, List.getD_cons_succ, reduceIte, Bool.false_eq_true, if_true, if_false, x_if_t, decide_true, decide_false, Bool.not_true, Bool.not_false, Bool.true_and, Bool.false_and, Bool.and_true, Bool.and_false, Bool.true_or, Bool.false_or, Bool.or_true, Bool.or_false, beq_self_eq_true, List.any_cons, List.any_nil, List.all_cons, List.all_nil])
    (fun k _ h => by cases h)
  rw [fnil] at hc
  have hl : lenA [.str s] st = .ok (.int s.length) st := x_len_str hz
  have hr : rngO 0 (s.length : Int) st = .ok ((List.range s.length).map fun (k : Nat) => D.int (0 + k)) st := by
    rw [rngO_ok (by omega) (by omega) (by omega) (by omega), dints_map, show ((s.length : Int) - 0).toNat = s.length by omega]
  unfold sameB
  simp -implicitDefEqProofs only [x_bok, x_bexc, x_bst, x_bite, x_bb, x_oo, x_ooite, x_bin, x_bu, x_and, x_or, x_not, x_tb, x_andD, x_orD, x_notD, x_tst, x_band, x_bor, x_bnot, x_if, x_then, x_thenx, x_thenite, x_seq, x_seqn, x_seqr, x_seqe, x_seqb, x_seqc, x_seqite, x_ret, x_reto, x_rete, x_retite, x_fn, x_fnn, x_fnr, x_fne, x_fnite, x_comp, x_for, x_its, x_rng1b, x_rng2b, x_rngA, x_rngB, tq_str, tq_int, tq_bool, tq_tuple, tq_list, tq_dict, eVar, eBor, eC, sIf, sSet, sSetF, sFrz, sNil, sExpr, sPar, setsR, pNil, pVal, pOwn, sAppO, sBk, sCt, eUn, eTup, eFz, eCl, fn1, aCons, aNil, eCall, eCallK, arr, negD, tgName, wipeR, lBu, isiD, tyN, isaT, tysOf, String.reduceBEq, bYes, x_int_eq, x_int_ne, x_str_eq, x_str_ne, x_bl_eq, x_lt, x_le, x_gt, x_ge, x_add, x_sub, x_len_lst, x_len_tup, List.map_cons, List.map_nil, List.length_cons, List.length_nil, List.cons_append, List.nil_append, List.reduceReplicate, List.getElem?_cons_zero, List.getElem?_cons_succ, List.set_cons_zero, List.set_cons_succ, Nat.reduceAdd, Nat.reduceSub, Nat.zero_add, Nat.sub_self, List.replicate_zero, List.getD_cons_zero, List.getD_cons_succ, reduceIte, Bool.false_eq_true, if_true, if_false, x_if_t, decide_true, decide_false, Bool.not_true, Bool.not_false, Bool.true_and, Bool.false_and, Bool.and_true, Bool.and_false, Bool.true_or, Bool.false_or, Bool.or_true, Bool.or_false, beq_self_eq_true, List.any_cons, List.any_nil, List.all_cons, List.all_nil, opIs, hl, hr, hc, opEq_nil]

theorem len_at {st : Sto} {d : D} {ds : List D} (h : seqOf st d = some ds) : lenD [d] st = .ok (.int ds.length) st := by
  cases d <;> first | (cases h; rfl) | cases h | (simp only [lenD, h])
theorem lst_seq {st : Sto} {d : D} {ds : List D} (h : lstOf st d = some ds) : seqOf st d = some ds := by
  cases d <;> first | exact h | cases h
theorem lenA_at {st : Sto} {d : D} {ds : List D} (h : seqOf st d = some ds) : lenA [d] st = .ok (.int ds.length) st := by
  rw [← len_at h]
  cases d <;> first | rfl | cases h
/-- a sequence against a sequence -/
theorem same_seq (rec : List D → Sto → Out D) (st : Sto) (d e : D) (xs ys : List D) (T : String) (hT : T = "tuple" ∨ T = "list") (td : tyN st d = some T) (te : tyN st e = some T) (hd : seqOf st d = some xs) (he : seqOf st e = some ys) (hl : xs.length = ys.length) (hz : ys.length ≤ 1000000)
    (hp : ∀ (i : Nat) (x y : D), xs[i]? = some x → ys[i]? = some y → rec [x, y] st = .ok (.bl true) st) (ne : opIs e .non st = .ok (.bl false) st) : fnM 4 (sameB rec) [d, e] st = .ok (.bl true) st := by
  have hc := compM_if (i := 2) (ρ := [.val d, .val e, .un, .un]) (st := st) (c := bNot (tB1 (eCall rec (aCons (eBin opIx (eVar 0) (eVar 2)) (aCons (eBin opIx (eVar 1) (eVar 2)) aNil))))) (e := eVar 2) (fun (k : Nat) => D.int (0 + k)) (fun (k : Nat) => D.int (0 + k)) (fun _ => false) (List.range ys.length)
    (fun k hk => by
      have hk : k < ys.length := List.mem_range.mp hk
      have hk2 : k < xs.length := by omega
      have i1 : opIx d (.int (0 + (k : Int))) st = .ok xs[k] st := by rw [Int.zero_add]; exact x_ix hd (atI_nat hk2)
      have i2 : opIx e (.int (0 + (k : Int))) st = .ok ys[k] st := by rw [Int.zero_add]; exact x_ix he (atI_nat hk)
      simp -implicitDefEqProofs only [x_bok, x_bexc, x_bst, x_bite, x_bb, x_oo, x_ooite, x_bin, x_bu, x_and, x_or, x_not, x_tb, x_andD, x_orD, x_notD, x_tst, x_band, x_bor, x_bnot, x_if, x_then, x_thenx, x_thenite, x_seq, x_seqn, x_seqr, x_seqe, x_seqb, x_seqc, x_seqite, x_ret, x_reto, x_rete, x_retite, x_fn, x_fnn, x_fnr, x_fne, x_fnite, x_comp, x_for, x_its, x_rng1b, x_rng2b, x_rngA, x_rngB, tq_str, tq_int, tq_bool, tq_tuple, tq_list, tq_dict, eVar, eBor, eC, sIf, sSet, sSetF, sFrz, sNil, sExpr, sPar, setsR, pNil, pVal, pOwn, sAppO, sBk, sCt, eUn, eTup, eFz, eCl, fn1, aCons, aNil, eCall, eCallK, arr, negD, tgName, wipeR, lBu, isiD, tyN, isaT, tysOf, String.reduceBEq, bYes, x_int_eq, x_int_ne, x_str_eq, x_str_ne, x_bl_eq, x_lt, x_le, x_gt, x_ge, x_add, x_sub, x_len_lst, x_len_tup, List.map_cons, List.map_nil, List.length_cons, List.length_nil, List.cons_append, List.nil_append, List.reduceReplicate, List.getElem?_cons_zero, List.getElem?_cons_succ, List.set_cons_zero, List.set_cons_succ, Nat.reduceAdd, Nat.reduceSub, Nat.zero_add, Nat.sub_self, List.replicate_zero, List.getD_cons_zero, List.getD_cons_succ, reduceIte, Bool.false_eq_true, if_true, if_false, x_if_t, decide_true, decide_false, Bool.not_true, Bool.not_false, Bool.true_and, Bool.false_and, Bool.and_true, Bool.and_false, Bool.true_or, Bool.false_or, Bool.or_true, Bool.or_false, beq_self_eq_true, List.any_cons, List.any_nil, List.all_cons, List.all_nil, i1, i2, hp k _ _ (List.getElem?_eq_getElem hk2) (List.getElem?_eq_getElem hk)])
    (fun k _ h => by cases h)
  rw [fnil] at hc
  have l1 := lenA_at hd
  have l2 := lenA_at he
  rw [hl] at l1
  have hr : rngO 0 (ys.length : Int) st = .ok ((List.range ys.length).map fun (k : Nat) => D.int (0 + k)) st := by
    rw [rngO_ok (by omega) (by omega) (by omega) (by omega), dints_map, show ((ys.length : Int) - 0).toNat = ys.length by omega]
  have q : ∀ n : String, n ∈ tyAsked → isiD [e, .ty n] st = .ok (.bl (isaT T n)) st := fun n hn => by simp only [isiD, te, if_pos hn]
  have q2 : ∀ n : String, n ∈ tyAsked → isiD [d, .ty n] st = .ok (.bl (isaT T n)) st := fun n hn => by simp only [isiD, td, if_pos hn]
  have q3 : isiD [e, .tup [.ty "list", .ty "tuple"]] st = .ok (.bl true) st := by
    rcases hT with rfl | rfl <;> simp [isiD, te, tysOf, tyAsked, isaT]
  have q4 : isiD [d, .tup [.ty "list", .ty "tuple"]] st = .ok (.bl true) st := by
    rcases hT with rfl | rfl <;> simp [isiD, td, tysOf, tyAsked, isaT]
  have qb := q "bool" (by decide)
  have qi := q "int" (by decide)
  have qs := q "str" (by decide)
  have qd := q "dict" (by decide)
  have ql := q "list" (by decide)
  have ql2 := q2 "list" (by decide)
  have b1 : isaT T "bool" = false := by rcases hT with rfl | rfl <;> rfl
  have b2 : isaT T "int" = false := by rcases hT with rfl | rfl <;> rfl
  have b3 : isaT T "str" = false := by rcases hT with rfl | rfl <;> rfl
  have b4 : isaT T "dict" = false := by rcases hT with rfl | rfl <;> rfl
  rw [b1] at qb
  rw [b2] at qi
  rw [b3] at qs
  rw [b4] at qd
  have en : opNe (.bl (isaT T "list")) (.bl (isaT T "list")) st = .ok (.bl false) st := by rw [x_ne rfl rfl, eqD_bl]; simp
  unfold sameB
  simp -implicitDefEqProofs only [x_bok, x_bite, x_bb, x_oo, x_ooite, x_bin, x_bu, x_not, x_tb, x_notD, x_tst, x_band, x_bor, x_bnot, x_then, x_thenite, x_seq, x_seqn, x_seqr, x_seqite, x_ret, x_reto, x_retite, x_fn, x_fnr, x_fnite, x_comp, x_rng1b, x_rngA, eVar, eC, sIf, sNil, eTup, eFz, aCons, aNil, wipeR,
    List.map_cons, List.map_nil, List.length_cons, List.length_nil, List.cons_append, List.nil_append, List.reduceReplicate, List.getElem?_cons_zero, List.getElem?_cons_succ, List.set_cons_zero, List.set_cons_succ, Nat.reduceAdd, Nat.reduceSub, Nat.zero_add, reduceIte, Bool.false_eq_true, Bool.not_true, Bool.not_false, ne, qb, qi, qs, qd, ql, ql2, q3, q4, en, l1, l2, x_int_ne, decide_true, hr, hc, opEq_nil]
theorem same_sim (st : Sto) : ∀ (n : Nat) (d e : D), Sim st n d e → sameM n [d, e] st = .ok (.bl true) st := by
  intro n
  induction n with
  | zero => intro d e h; exact h.elim
  | succ n ih =>
    intro d e h
    rcases h with ⟨rfl, rfl⟩ | ⟨b, rfl, rfl⟩ | ⟨i, rfl, rfl⟩ | ⟨s, rfl, rfl, hs⟩ | ⟨xs, ys, rfl, rfl, hl, hz, hp⟩ | ⟨xs, ys, hd, he, hl, hz, hp⟩ | ⟨ks, xs, ys, rfl, rfl, hz, hp⟩
    · unfold sameM sameB
      simp -implicitDefEqProofs only [x_bok, x_bexc, x_bst, x_bite, x_bb, x_oo, x_ooite, x_bin, x_bu, x_and, x_or, x_not, x_tb, x_andD, x_orD, x_notD, x_tst, x_band, x_bor, x_bnot, x_if, x_then, x_thenx, x_thenite, x_seq, x_seqn, x_seqr, x_seqe, x_seqb, x_seqc, x_seqite, x_ret, x_reto, x_rete, x_retite, x_fn, x_fnn, x_fnr, x_fne, x_fnite, x_comp, x_for, x_its, x_rng1b, x_rng2b, x_rngA, x_rngB, tq_str, tq_int, tq_bool, tq_tuple, tq_list, tq_dict, eVar, eBor, eC, sIf, sSet, sSetF, sFrz, sNil, sExpr, sPar, setsR, pNil, pVal, pOwn, sAppO, sBk, sCt, eUn, eTup, eFz, eCl, fn1, aCons, aNil, eCall, eCallK, arr, negD, tgName, wipeR, lBu, isiD, tyN, isaT, tysOf, String.reduceBEq, bYes, x_int_eq, x_int_ne, x_str_eq, x_str_ne, x_bl_eq, x_lt, x_le, x_gt, x_ge, x_add, x_sub, x_len_lst, x_len_tup, List.map_cons, List.map_nil, List.length_cons, List.length_nil, List.cons_append, List.nil_append, List.reduceReplicate, List.getElem?_cons_zero, List.getElem?_cons_succ, List.set_cons_zero, List.set_cons_succ, Nat.reduceAdd, Nat.reduceSub, Nat.zero_add, Nat.sub_self, List.replicate_zero, List.getD_cons_zero, List.getD_cons_succ, reduceIte, Bool.false_eq_true, if_true, if_false, x_if_t, decide_true, decide_false, Bool.not_true, Bool.not_false, Bool.true_and, Bool.false_and, Bool.and_true, Bool.and_false, Bool.true_or, Bool.false_or, Bool.or_true, Bool.or_false, beq_self_eq_true, List.any_cons, List.any_nil, List.all_cons, List.all_nil, opIs]
    · unfold sameM sameB
      simp -implicitDefEqProofs only [x_bok, x_bexc, x_bst, x_bite, x_bb, x_oo, x_ooite, x_bin, x_bu, x_and, x_or, x_not, x_tb, x_andD, x_orD, x_notD, x_tst, x_band, x_bor, x_bnot, x_if, x_then, x_thenx, x_thenite, x_seq, x_seqn, x_seqr, x_seqe, x_seqb, x_seqc, x_seqite, x_ret, x_reto, x_rete, x_retite, x_fn, x_fnn, x_fnr, x_fne, x_fnite, x_comp, x_for, x_its, x_rng1b, x_rng2b, x_rngA, x_rngB, tq_str, tq_int, tq_bool, tq_tuple, tq_list, tq_dict, eVar, eBor, eC, sIf, sSet, sSetF, sFrz, sNil, sExpr, sPar, setsR, pNil, pVal, pOwn, sAppO, sBk, sCt, eUn, eTup, eFz, eCl, fn1, aCons, aNil, eCall, eCallK, arr, negD, tgName, wipeR, lBu, isiD, tyN, isaT, tysOf, String.reduceBEq, bYes, x_int_eq, x_int_ne, x_str_eq, x_str_ne, x_bl_eq, x_lt, x_le, x_gt, x_ge, x_add, x_sub, x_len_lst, x_len_tup, List.map_cons, List.map_nil, List.length_cons, List.length_nil, List.cons_append, List.nil_append, List.reduceReplicate, List.getElem?_cons_zero, List.getElem?_cons_succ, List.set_cons_zero, List.set_cons_succ, Nat.reduceAdd, Nat.reduceSub, Nat.zero_add, Nat.sub_self, List.replicate_zero, List.getD_cons_zero, List.getD_cons_succ, reduceIte, Bool.false_eq_true, if_true, if_false, x_if_t, decide_true, decide_false, Bool.not_true, Bool.not_false, Bool.true_and, Bool.false_and, Bool.and_true, Bool.and_false, Bool.true_or, Bool.false_or, Bool.or_true, Bool.or_false, beq_self_eq_true, List.any_cons, List.any_nil, List.all_cons, List.all_nil, opIs]
    · unfold sameM sameB
      simp -implicitDefEqProofs only [x_bok, x_bexc, x_bst, x_bite, x_bb, x_oo, x_ooite, x_bin, x_bu, x_and, x_or, x_not, x_tb, x_andD, x_orD, x_notD, x_tst, x_band, x_bor, x_bnot, x_if, x_then, x_thenx, x_thenite, x_seq, x_seqn, x_seqr, x_seqe, x_seqb, x_seqc, x_seqite, x_ret, x_reto, x_rete, x_retite, x_fn, x_fnn, x_fnr, x_fne, x_fnite, x_comp, x_for, x_its, x_rng1b, x_rng2b, x_rngA, x_rngB, tq_str, tq_int, tq_bool, tq_tuple, tq_list, tq_dict, eVar, eBor, eC, sIf, sSet, sSetF, sFrz, sNil, sExpr, sPar, setsR, pNil, pVal, pOwn, sAppO, sBk, sCt, eUn, eTup, eFz, eCl, fn1, aCons, aNil, eCall, eCallK, arr, negD, tgName, wipeR, lBu, isiD, tyN, isaT, tysOf, String.reduceBEq, bYes, x_int_eq, x_int_ne, x_str_eq, x_str_ne, x_bl_eq, x_lt, x_le, x_gt, x_ge, x_add, x_sub, x_len_lst, x_len_tup, List.map_cons, List.map_nil, List.length_cons, List.length_nil, List.cons_append, List.nil_append, List.reduceReplicate, List.getElem?_cons_zero, List.getElem?_cons_succ, List.set_cons_zero, List.set_cons_succ, Nat.reduceAdd, Nat.reduceSub, Nat.zero_add, Nat.sub_self, List.replicate_zero, List.getD_cons_zero, List.getD_cons_succ, reduceIte, Bool.false_eq_true, if_true, if_false, x_if_t, decide_true, decide_false, Bool.not_true, Bool.not_false, Bool.true_and, Bool.false_and, Bool.and_true, Bool.and_false, Bool.true_or, Bool.false_or, Bool.or_true, Bool.or_false, beq_self_eq_true, List.any_cons, List.any_nil, List.all_cons, List.all_nil, opIs, intD]
      rw [Int.sub_self]
      rfl
    · exact same_str _ st s hs
    · exact same_seq _ st _ _ xs ys "tuple" (.inl rfl) rfl rfl rfl rfl hl hz (fun i x y h1 h2 => ih _ _ (hp i x y h1 h2)) rfl
    · have ty : ∀ {d : D} {zs : List D}, lstOf st d = some zs → tyN st d = some "list" ∧ opIs d .non st = .ok (.bl false) st := fun {d zs} h => by
        cases d with
        | lst _ => exact ⟨rfl, rfl⟩
        | loc n =>
          refine ⟨?_, rfl⟩
          unfold lstOf at h
          unfold tyN
          dsimp only at h ⊢
          cases e : st[n]? with
          | none => rw [e] at h; cases h
          | some c => rw [e] at h; cases c <;> first | rfl | cases h
        | _ => cases h
      exact same_seq _ st _ _ xs ys "list" (.inr rfl) (ty hd).1 (ty he).1 (lst_seq hd) (lst_seq he) hl hz (fun i x y h1 h2 => ih _ _ (hp i x y h1 h2)) (ty he).2
    · have hc := compM_if (i := 3) (ρ := [.val (.dct ks xs), .val (.dct ks ys), .un, .un]) (st := st) (c := bOr (tB1 (eBin (opDi true) (eVar 3) (eVar 0))) (bNot (tB1 (eCall (sameM n) (aCons (eBin opDg (eVar 0) (eVar 3)) (aCons (eBin opDg (eVar 1) (eVar 3)) aNil)))))) (e := eVar 3) kD kD (fun _ => false) ks
        (fun k hk => by
          obtain ⟨x, y, h1, h2, h3⟩ := hp k hk
          have ek : Sx.keyOf (kD k) = some k := by cases k <;> rfl
          have i1 : opDi true (kD k) (.dct ks xs) st = .ok (.bl false) st := by simp [opDi, ek, h1]
          have i2 : opDg (.dct ks xs) (kD k) st = .ok x st := by simp [opDg, ek, h1]
          have i3 : opDg (.dct ks ys) (kD k) st = .ok y st := by simp [opDg, ek, h2]
          simp -implicitDefEqProofs only [x_bok, x_bexc, x_bst, x_bite, x_bb, x_oo, x_ooite, x_bin, x_bu, x_and, x_or, x_not, x_tb, x_andD, x_orD, x_notD, x_tst, x_band, x_bor, x_bnot, x_if, x_then, x_thenx, x_thenite, x_seq, x_seqn, x_seqr, x_seqe, x_seqb, x_seqc, x_seqite, x_ret, x_reto, x_rete, x_retite, x_fn, x_fnn, x_fnr, x_fne, x_fnite, x_comp, x_for, x_its, x_rng1b, x_rng2b, x_rngA, x_rngB, tq_str, tq_int, tq_bool, tq_tuple, tq_list, tq_dict, eVar, eBor, eC, sIf, sSet, sSetF, sFrz, sNil, sExpr, sPar, setsR, pNil, pVal, pOwn, sAppO, sBk, sCt, eUn, eTup, eFz, eCl, fn1, aCons, aNil, eCall, eCallK, arr, negD, tgName, wipeR, lBu, isiD, tyN, isaT, tysOf, String.reduceBEq, bYes, x_int_eq, x_int_ne, x_str_eq, x_str_ne, x_bl_eq, x_lt, x_le, x_gt, x_ge, x_add, x_sub, x_len_lst, x_len_tup, List.map_cons, List.map_nil, List.length_cons, List.length_nil, List.cons_append, List.nil_append, List.reduceReplicate, List.getElem?_cons_zero, List.getElem?_cons_succ, List.set_cons_zero, List.set_cons_succ, Nat.reduceAdd, Nat.reduceSub, Nat.zero_add, Nat.sub_self, List.replicate_zero, List.getD_cons_zero, List.getD_cons_succ, reduceIte, Bool.false_eq_true, if_true, if_false, x_if_t, decide_true, decide_false, Bool.not_true, Bool.not_false, Bool.true_and, Bool.false_and, Bool.and_true, Bool.and_false, Bool.true_or, Bool.false_or, Bool.or_true, Bool.or_false, beq_self_eq_true, List.any_cons, List.any_nil, List.all_cons, List.all_nil, i1, i2, i3, ih _ _ h3])
        (fun k _ h => by cases h)
      rw [fnil] at hc
      have hi : itKeys (eVar 1) [.val (.dct ks xs), .val (.dct ks ys), .un, .un] st = .ok (ks.map kD) st := by
        simp [itKeys, eVar, Out.bind, line1M hz]
      have l1 : lenA [.dct ks xs] st = .ok (.int ks.length) st := rfl
      have l2 : lenA [.dct ks ys] st = .ok (.int ks.length) st := rfl
      unfold sameM sameB
      simp -implicitDefEqProofs only [x_bok, x_bexc, x_bst, x_bite, x_bb, x_oo, x_ooite, x_bin, x_bu, x_and, x_or, x_not, x_tb, x_andD, x_orD, x_notD, x_tst, x_band, x_bor, x_bnot, x_if, x_then, x_thenx, x_thenite, x_seq, x_seqn, x_seqr, x_seqe, x_seqb, x_seqc, x_seqite, x_ret, x_reto, x_rete, x_retite, x_fn, x_fnn, x_fnr, x_fne, x_fnite, x_comp, x_for, x_its, x_rng1b, x_rng2b, x_rngA, x_rngB, tq_str, tq_int, tq_bool, tq_tuple, tq_list, tq_dict, eVar, eBor, eC, sIf, sSet, sSetF, sFrz, sNil, sExpr, sPar, setsR, pNil, pVal, pOwn, sAppO, sBk, sCt, eUn, eTup, eFz, eCl, fn1, aCons, aNil, eCall, eCallK, arr, negD, tgName, wipeR, lBu, isiD, tyN, isaT, tysOf, String.reduceBEq, bYes, x_int_eq, x_int_ne, x_str_eq, x_str_ne, x_bl_eq, x_lt, x_le, x_gt, x_ge, x_add, x_sub, x_len_lst, x_len_tup, List.map_cons, List.map_nil, List.length_cons, List.length_nil, List.cons_append, List.nil_append, List.reduceReplicate, List.getElem?_cons_zero, List.getElem?_cons_succ, List.set_cons_zero, List.set_cons_succ, Nat.reduceAdd, Nat.reduceSub, Nat.zero_add, Nat.sub_self, List.replicate_zero, List.getD_cons_zero, List.getD_cons_succ, reduceIte, Bool.false_eq_true, if_true, if_false, x_if_t, decide_true, decide_false, Bool.not_true, Bool.not_false, Bool.true_and, Bool.false_and, Bool.and_true, Bool.and_false, Bool.true_or, Bool.false_or, Bool.or_true, Bool.or_false, beq_self_eq_true, List.any_cons, List.any_nil, List.all_cons, List.all_nil, opIs, l1, l2, hi, hc, opEq_nil]
/-! ### draws -/
/-- the draw's box at n: drawn from at most T times -/
def Box (st : Sto) (n T : Nat) : Prop := ∃ g b c t, st[n]? = some (.lst [.int g, .bl b, .int c, .int t]) ∧ 0 ≤ g ∧ 0 ≤ c ∧ c < 2147483647 ∧ 0 ≤ t ∧ t ≤ T
/-- nothing but n is changed, nothing comes to it -/
structure Kept (n : Nat) (st st' : Sto) : Prop where
  len : st'.length = st.length
  at' : ∀ m, m ≠ n → st'[m]? = st[m]?
theorem Kept.refl {n : Nat} {st : Sto} : Kept n st st := ⟨rfl, fun _ _ => rfl⟩
theorem Kept.trans {n : Nat} {st st1 st2 : Sto} (a : Kept n st st1) (b : Kept n st1 st2) : Kept n st st2 := ⟨b.len.trans a.len, fun m h => (b.at' m h).trans (a.at' m h)⟩
theorem Kept.set {n : Nat} {st : Sto} {c : Cell} : Kept n st (st.set n c) := ⟨List.length_set .., fun m h => List.getElem?_set_ne (Ne.symm h)⟩
theorem Box.mono {st : Sto} {n T T' : Nat} (h : Box st n T) (l : T ≤ T') : Box st n T' := by
  obtain ⟨g, b, c, t, e, h1, h2, h3, h4, h5⟩ := h
  exact ⟨g, b, c, t, e, h1, h2, h3, h4, by omega⟩
theorem x_setI {me mo mi : EM} {ρ : Rho} {st st1 st2 st3 : Sto} {d : D} {n j : Nat} {i : Int} {es : List D} (h1 : me ρ st = .ok d st1) (h2 : mo ρ st1 = .ok (.loc n) st2) (h3 : mi ρ st2 = .ok (.int i) st3) (h4 : st3[n]? = some (.lst es)) (h5 : ixN es.length i = some j) :
    sSetI me mo mi ρ st = .nx ρ (st3.set n (.lst (es.set j d))) := by
  unfold sSetI
  rw [h1, x_then, h2, x_then, h3, x_then]
  simp only [h4, h5]
theorem x_ixl {st : Sto} {n : Nat} {es : List D} {i : Int} {d : D} (h : st[n]? = some (.lst es)) (h2 : atI es i = some d) : opIx (.loc n) (.int i) st = .ok d st := x_ix (by unfold seqOf; dsimp only; rw [h]) h2
/-- a draw -/
theorem take_spec (c1 c2 c3 : Int) (hc : 0 ≤ c1 ∧ c1 < 1000000000 ∧ 0 ≤ c2 ∧ c2 < 1000000000 ∧ 0 ≤ c3 ∧ c3 < 1000000000) {st : Sto} {n T : Nat} {many : Int} (hB : Box st n T) (hT : T < 1000000) (hm : 0 < many) (hm2 : many < 1000000000) :
    ∃ r st', fnM 4 (takeB c1 c2 c3) [.loc n, .int many] st = .ok (.int r) st' ∧ 0 ≤ r ∧ r < many ∧ Box st' n (T + 1) ∧ Kept n st st' := by
  obtain ⟨g, b, c, t, e, h1, h2, h3, h4, h5⟩ := hB
  have hn : n < st.length := (List.getElem?_eq_some_iff.mp e).1
  have m0 : many ≠ 0 := by omega
  unfold takeB
  by_cases hw : b = true ∧ 0 < g
  · obtain ⟨rfl, hg⟩ := hw
    have i0 : opIx (.loc n) (.int 0) st = .ok (.int g) st := x_ixl e rfl
    have i1 : opIx (.loc n) (.int 1) st = .ok (.bl true) st := x_ixl e rfl
    have sI := x_setI (me := eBin opDiv (eBin opIx (eVar 0) (eC (.int 0))) (eVar 1)) (mo := eVar 0) (mi := eC (.int 0)) (ρ := [.val (.loc n), .val (.int many), .un, .val (.int (g.fmod many))]) (st := st) (st1 := st) (st2 := st) (st3 := st) (d := .int (g.fdiv many)) (n := n) (j := 0) (i := 0)
      (by simp -implicitDefEqProofs only [x_bok, x_bexc, x_bst, x_bite, x_bb, x_oo, x_ooite, x_bin, x_bu, x_and, x_or, x_not, x_tb, x_andD, x_orD, x_notD, x_tst, x_band, x_bor, x_bnot, x_if, x_then, x_thenx, x_thenite, x_seq, x_seqn, x_seqr, x_seqe, x_seqb, x_seqc, x_seqite, x_ret, x_reto, x_rete, x_retite, x_fn, x_fnn, x_fnr, x_fne, x_fnite, x_comp, x_for, x_its, x_rng1b, x_rng2b, x_rngA, x_rngB, tq_str, tq_int, tq_bool, tq_tuple, tq_list, tq_dict, eVar, eBor, eC, sIf, sSet, sSetF, sFrz, sNil, sExpr, sPar, setsR, pNil, pVal, pOwn, sAppO, sBk, sCt, eUn, eTup, eFz, eCl, fn1, aCons, aNil, eCall, eCallK, arr, negD, tgName, wipeR, lBu, isiD, tyN, isaT, tysOf, String.reduceBEq, bYes, x_int_eq, x_int_ne, x_str_eq, x_str_ne, x_bl_eq, x_lt, x_le, x_gt, x_ge, x_add, x_sub, x_len_lst, x_len_tup, List.map_cons, List.map_nil, List.length_cons, List.length_nil, List.cons_append, List.nil_append, List.reduceReplicate, List.getElem?_cons_zero, List.getElem?_cons_succ, List.set_cons_zero, List.set_cons_succ, Nat.reduceAdd, Nat.reduceSub, Nat.zero_add, Nat.sub_self, List.replicate_zero, List.getD_cons_zero, List.getD_cons_succ, reduceIte, Bool.false_eq_true, if_true, if_false, x_if_t, decide_true, decide_false, Bool.not_true, Bool.not_false, Bool.true_and, Bool.false_and, Bool.and_true, Bool.and_false, Bool.true_or, Bool.false_or, Bool.or_true, Bool.or_false, beq_self_eq_true, List.any_cons, List.any_nil, List.all_cons, List.all_nil, i0, x_div (show many ≠ 0 ∧ many.natAbs < 1073741824 by omega)]) rfl rfl e rfl
    refine ⟨g.fmod many, st.set n (.lst [.int (g.fdiv many), .bl true, .int c, .int t]), ?_, Int.fmod_nonneg_of_pos _ hm, Int.fmod_lt_of_pos _ hm, ?_, Kept.set⟩
    · simp -implicitDefEqProofs only [x_bok, x_bexc, x_bst, x_bite, x_bb, x_oo, x_ooite, x_bin, x_bu, x_and, x_or, x_not, x_tb, x_andD, x_orD, x_notD, x_tst, x_band, x_bor, x_bnot, x_if, x_then, x_thenx, x_thenite, x_seq, x_seqn, x_seqr, x_seqe, x_seqb, x_seqc, x_seqite, x_ret, x_reto, x_rete, x_retite, x_fn, x_fnn, x_fnr, x_fne, x_fnite, x_comp, x_for, x_its, x_rng1b, x_rng2b, x_rngA, x_rngB, tq_str, tq_int, tq_bool, tq_tuple, tq_list, tq_dict, eVar, eBor, eC, sIf, sSet, sSetF, sFrz, sNil, sExpr, sPar, setsR, pNil, pVal, pOwn, sAppO, sBk, sCt, eUn, eTup, eFz, eCl, fn1, aCons, aNil, eCall, eCallK, arr, negD, tgName, wipeR, lBu, isiD, tyN, isaT, tysOf, String.reduceBEq, bYes, x_int_eq, x_int_ne, x_str_eq, x_str_ne, x_bl_eq, x_lt, x_le, x_gt, x_ge, x_add, x_sub, x_len_lst, x_len_tup, List.map_cons, List.map_nil, List.length_cons, List.length_nil, List.cons_append, List.nil_append, List.reduceReplicate, List.getElem?_cons_zero, List.getElem?_cons_succ, List.set_cons_zero, List.set_cons_succ, Nat.reduceAdd, Nat.reduceSub, Nat.zero_add, Nat.sub_self, List.replicate_zero, List.getD_cons_zero, List.getD_cons_succ, reduceIte, Bool.false_eq_true, if_true, if_false, x_if_t, decide_true, decide_false, Bool.not_true, Bool.not_false, Bool.true_and, Bool.false_and, Bool.and_true, Bool.and_false, Bool.true_or, Bool.false_or, Bool.or_true, Bool.or_false, beq_self_eq_true, List.any_cons, List.any_nil, List.all_cons, List.all_nil, i0, i1, intD, x_mod m0, decide_eq_true hg, sI]
    · exact ⟨_, _, _, _, List.getElem?_set_self hn, Int.fdiv_nonneg h1 (by omega), h2, h3, h4, by omega⟩
  · have i0 : opIx (.loc n) (.int 0) st = .ok (.int g) st := x_ixl e rfl
    have i1 : opIx (.loc n) (.int 1) st = .ok (.bl b) st := x_ixl e rfl
    have i3 : opIx (.loc n) (.int 3) st = .ok (.int t) st := x_ixl e rfl
    have sI := x_setI (me := eBin opAdd (eBin opIx (eVar 0) (eC (.int 3))) (eC (.int 1))) (mo := eVar 0) (mi := eC (.int 3)) (ρ := [.val (.loc n), .val (.int many), .un, .un]) (st := st) (st1 := st) (st2 := st) (st3 := st) (d := .int (t + 1)) (n := n) (j := 3) (i := 3)
      (by simp -implicitDefEqProofs only [x_bok, x_bexc, x_bst, x_bite, x_bb, x_oo, x_ooite, x_bin, x_bu, x_and, x_or, x_not, x_tb, x_andD, x_orD, x_notD, x_tst, x_band, x_bor, x_bnot, x_if, x_then, x_thenx, x_thenite, x_seq, x_seqn, x_seqr, x_seqe, x_seqb, x_seqc, x_seqite, x_ret, x_reto, x_rete, x_retite, x_fn, x_fnn, x_fnr, x_fne, x_fnite, x_comp, x_for, x_its, x_rng1b, x_rng2b, x_rngA, x_rngB, tq_str, tq_int, tq_bool, tq_tuple, tq_list, tq_dict, eVar, eBor, eC, sIf, sSet, sSetF, sFrz, sNil, sExpr, sPar, setsR, pNil, pVal, pOwn, sAppO, sBk, sCt, eUn, eTup, eFz, eCl, fn1, aCons, aNil, eCall, eCallK, arr, negD, tgName, wipeR, lBu, isiD, tyN, isaT, tysOf, String.reduceBEq, bYes, x_int_eq, x_int_ne, x_str_eq, x_str_ne, x_bl_eq, x_lt, x_le, x_gt, x_ge, x_add, x_sub, x_len_lst, x_len_tup, List.map_cons, List.map_nil, List.length_cons, List.length_nil, List.cons_append, List.nil_append, List.reduceReplicate, List.getElem?_cons_zero, List.getElem?_cons_succ, List.set_cons_zero, List.set_cons_succ, Nat.reduceAdd, Nat.reduceSub, Nat.zero_add, Nat.sub_self, List.replicate_zero, List.getD_cons_zero, List.getD_cons_succ, reduceIte, Bool.false_eq_true, if_true, if_false, x_if_t, decide_true, decide_false, Bool.not_true, Bool.not_false, Bool.true_and, Bool.false_and, Bool.and_true, Bool.and_false, Bool.true_or, Bool.false_or, Bool.or_true, Bool.or_false, beq_self_eq_true, List.any_cons, List.any_nil, List.all_cons, List.all_nil, i3]) rfl rfl e rfl
    have e' : (st.set n (.lst ([D.int g, .bl b, .int c, .int t].set 3 (.int (t + 1)))))[n]? = some (.lst [.int g, .bl b, .int c, .int (t + 1)]) := List.getElem?_set_self hn
    generalize hs1 : st.set n (.lst ([D.int g, .bl b, .int c, .int t].set 3 (.int (t + 1)))) = st1 at sI e'
    have j2 : opIx (.loc n) (.int 2) st1 = .ok (.int c) st1 := x_ixl e' rfl
    have j3 : opIx (.loc n) (.int 3) st1 = .ok (.int (t + 1)) st1 := x_ixl e' rfl
    have b0 : 0 ≤ c1 * (t + 1) := Int.mul_nonneg hc.1 (by omega)
    have b1 : c1 * (t + 1) ≤ 1000000000 * 1000001 := Int.mul_le_mul (by omega) (by omega) (by omega) (by decide)
    have b2 : 0 ≤ c3 * (t + 1) := Int.mul_nonneg hc.2.2.2.2.1 (by omega)
    have b3 : c3 * (t + 1) ≤ 1000000000 * 1000001 := Int.mul_le_mul (by omega) (by omega) (by omega) (by decide)
    have p1 := x_pow (i := c + c1 * (t + 1) + c2) (j := 5) (st := st1) ⟨by decide, by decide, by omega⟩
    have s1 : small64 c1 = true ∨ small64 (t + 1) = true := .inl (by simp [small64]; omega)
    have s3 : small64 c3 = true ∨ small64 (t + 1) = true := .inl (by simp [small64]; omega)
    obtain ⟨x, hx, x0, x1⟩ : ∃ x, ((c + c1 * (t + 1) + c2) ^ (5 : Int).toNat).fmod 2147483647 = x ∧ 0 ≤ x ∧ x < 2147483647 := ⟨_, rfl, Int.fmod_nonneg_of_pos _ (by decide), Int.fmod_lt_of_pos _ (by decide)⟩
    have s4 : small64 x = true ∨ small64 48271 = true := .inr (by decide)
    have p2 := x_pow (i := x * 48271 + c3 * (t + 1)) (j := 3) (st := st1) ⟨by decide, by decide, by omega⟩
    have d1 : (2147483647 : Int) ≠ 0 := by decide
    have d2 : (2147483587 : Int) ≠ 0 := by decide
    have d3 : (64 : Int) ≠ 0 ∧ (64 : Int).natAbs < 1073741824 := by decide
    obtain ⟨y, hy⟩ : ∃ y, (((x * 48271 + c3 * (t + 1)) ^ (3 : Int).toNat).fmod 2147483587).fdiv 64 = y := ⟨_, rfl⟩
    refine ⟨y.fmod many, st1, ?_, Int.fmod_nonneg_of_pos _ hm, Int.fmod_lt_of_pos _ hm, ⟨_, _, _, _, e', h1, h2, h3, by omega, by omega⟩, by rw [← hs1]; exact Kept.set⟩
    have test : bAnd (tB1 (eBin opIx (eVar 0) (eC (.int 1)))) (tB1 (eBin opGt (eBin opIx (eVar 0) (eC (.int 0))) (eC (.int 0)))) [.val (.loc n), .val (.int many), .un, .un] st = .ok false st := by
      cases b with
      | false => simp -implicitDefEqProofs only [x_bok, x_bexc, x_bst, x_bite, x_bb, x_oo, x_ooite, x_bin, x_bu, x_and, x_or, x_not, x_tb, x_andD, x_orD, x_notD, x_tst, x_band, x_bor, x_bnot, x_if, x_then, x_thenx, x_thenite, x_seq, x_seqn, x_seqr, x_seqe, x_seqb, x_seqc, x_seqite, x_ret, x_reto, x_rete, x_retite, x_fn, x_fnn, x_fnr, x_fne, x_fnite, x_comp, x_for, x_its, x_rng1b, x_rng2b, x_rngA, x_rngB, tq_str, tq_int, tq_bool, tq_tuple, tq_list, tq_dict, eVar, eBor, eC, sIf, sSet, sSetF, sFrz, sNil, sExpr, sPar, setsR, pNil, pVal, pOwn, sAppO, sBk, sCt, eUn, eTup, eFz, eCl, fn1, aCons, aNil, eCall, eCallK, arr, negD, tgName, wipeR, lBu, isiD, tyN, isaT, tysOf, String.reduceBEq, bYes, x_int_eq, x_int_ne, x_str_eq, x_str_ne, x_bl_eq, x_lt, x_le, x_gt, x_ge, x_add, x_sub, x_len_lst, x_len_tup, List.map_cons, List.map_nil, List.length_cons, List.length_nil, List.cons_append, List.nil_append, List.reduceReplicate, List.getElem?_cons_zero, List.getElem?_cons_succ, List.set_cons_zero, List.set_cons_succ, Nat.reduceAdd, Nat.reduceSub, Nat.zero_add, Nat.sub_self, List.replicate_zero, List.getD_cons_zero, List.getD_cons_succ, reduceIte, Bool.false_eq_true, if_true, if_false, x_if_t, decide_true, decide_false, Bool.not_true, Bool.not_false, Bool.true_and, Bool.false_and, Bool.and_true, Bool.and_false, Bool.true_or, Bool.false_or, Bool.or_true, Bool.or_false, beq_self_eq_true, List.any_cons, List.any_nil, List.all_cons, List.all_nil, i1]
      | true =>
        have hg : ¬ 0 < g := fun z => hw ⟨rfl, z⟩
        simp -implicitDefEqProofs only [x_bok, x_bexc, x_bst, x_bite, x_bb, x_oo, x_ooite, x_bin, x_bu, x_and, x_or, x_not, x_tb, x_andD, x_orD, x_notD, x_tst, x_band, x_bor, x_bnot, x_if, x_then, x_thenx, x_thenite, x_seq, x_seqn, x_seqr, x_seqe, x_seqb, x_seqc, x_seqite, x_ret, x_reto, x_rete, x_retite, x_fn, x_fnn, x_fnr, x_fne, x_fnite, x_comp, x_for, x_its, x_rng1b, x_rng2b, x_rngA, x_rngB, tq_str, tq_int, tq_bool, tq_tuple, tq_list, tq_dict, eVar, eBor, eC, sIf, sSet, sSetF, sFrz, sNil, sExpr, sPar, setsR, pNil, pVal, pOwn, sAppO, sBk, sCt, eUn, eTup, eFz, eCl, fn1, aCons, aNil, eCall, eCallK, arr, negD, tgName, wipeR, lBu, isiD, tyN, isaT, tysOf, String.reduceBEq, bYes, x_int_eq, x_int_ne, x_str_eq, x_str_ne, x_bl_eq, x_lt, x_le, x_gt, x_ge, x_add, x_sub, x_len_lst, x_len_tup, List.map_cons, List.map_nil, List.length_cons, List.length_nil, List.cons_append, List.nil_append, List.reduceReplicate, List.getElem?_cons_zero, List.getElem?_cons_succ, List.set_cons_zero, List.set_cons_succ, Nat.reduceAdd, Nat.reduceSub, Nat.zero_add, Nat.sub_self, List.replicate_zero, List.getD_cons_zero, List.getD_cons_succ, reduceIte, Bool.false_eq_true, if_true, if_false, x_if_t, decide_true, decide_false, Bool.not_true, Bool.not_false, Bool.true_and, Bool.false_and, Bool.and_true, Bool.and_false, Bool.true_or, Bool.false_or, Bool.or_true, Bool.or_false, beq_self_eq_true, List.any_cons, List.any_nil, List.all_cons, List.all_nil, i1, i0, decide_eq_false hg]
    simp -implicitDefEqProofs only [x_fn, List.map_cons, List.map_nil, List.length_cons, List.length_nil, Nat.zero_add, Nat.reduceAdd, Nat.reduceSub, List.reduceReplicate, List.cons_append, List.nil_append, x_seq, sIf, test, x_then, Bool.false_eq_true, reduceIte, sNil, x_seqn, sI]
    simp -implicitDefEqProofs only [x_bok, x_bexc, x_bst, x_bite, x_bb, x_oo, x_ooite, x_bin, x_bu, x_and, x_or, x_not, x_tb, x_andD, x_orD, x_notD, x_tst, x_band, x_bor, x_bnot, x_if, x_then, x_thenx, x_thenite, x_seq, x_seqn, x_seqr, x_seqe, x_seqb, x_seqc, x_seqite, x_ret, x_reto, x_rete, x_retite, x_fn, x_fnn, x_fnr, x_fne, x_fnite, x_comp, x_for, x_its, x_rng1b, x_rng2b, x_rngA, x_rngB, tq_str, tq_int, tq_bool, tq_tuple, tq_list, tq_dict, eVar, eBor, eC, sIf, sSet, sSetF, sFrz, sNil, sExpr, sPar, setsR, pNil, pVal, pOwn, sAppO, sBk, sCt, eUn, eTup, eFz, eCl, fn1, aCons, aNil, eCall, eCallK, arr, negD, tgName, wipeR, lBu, isiD, tyN, isaT, tysOf, String.reduceBEq, bYes, x_int_eq, x_int_ne, x_str_eq, x_str_ne, x_bl_eq, x_lt, x_le, x_gt, x_ge, x_add, x_sub, x_len_lst, x_len_tup, List.map_cons, List.map_nil, List.length_cons, List.length_nil, List.cons_append, List.nil_append, List.reduceReplicate, List.getElem?_cons_zero, List.getElem?_cons_succ, List.set_cons_zero, List.set_cons_succ, Nat.reduceAdd, Nat.reduceSub, Nat.zero_add, Nat.sub_self, List.replicate_zero, List.getD_cons_zero, List.getD_cons_succ, reduceIte, Bool.false_eq_true, if_true, if_false, x_if_t, decide_true, decide_false, Bool.not_true, Bool.not_false, Bool.true_and, Bool.false_and, Bool.and_true, Bool.and_false, Bool.true_or, Bool.false_or, Bool.or_true, Bool.or_false, beq_self_eq_true, List.any_cons, List.any_nil, List.all_cons, List.all_nil, j2, j3, x_mul s1, x_mul s3, p1, intD, x_mod d1, hx, x_mul s4, p2, x_mod d2, x_div d3, hy, x_mod m0]
/-! ### copies, blame -/
/-- what is handed in where it must be refused, and what stands for it afterwards -/
theorem copy_lst (ds : List D) (st : Sto) : fnM 1 copyB [.lst ds] st = .ok (.loc st.length) (st ++ [.lst ds]) := by
  unfold copyB
  simp -implicitDefEqProofs only [x_bok, x_bexc, x_bst, x_bite, x_bb, x_oo, x_ooite, x_bin, x_bu, x_and, x_or, x_not, x_tb, x_andD, x_orD, x_notD, x_tst, x_band, x_bor, x_bnot, x_if, x_then, x_thenx, x_thenite, x_seq, x_seqn, x_seqr, x_seqe, x_seqb, x_seqc, x_seqite, x_ret, x_reto, x_rete, x_retite, x_fn, x_fnn, x_fnr, x_fne, x_fnite, x_comp, x_for, x_its, x_rng1b, x_rng2b, x_rngA, x_rngB, tq_str, tq_int, tq_bool, tq_tuple, tq_list, tq_dict, eVar, eBor, eC, sIf, sSet, sSetF, sFrz, sNil, sExpr, sPar, setsR, pNil, pVal, pOwn, sAppO, sBk, sCt, eUn, eTup, eFz, eCl, fn1, aCons, aNil, eCall, eCallK, arr, negD, tgName, wipeR, lBu, isiD, tyN, isaT, tysOf, String.reduceBEq, bYes, x_int_eq, x_int_ne, x_str_eq, x_str_ne, x_bl_eq, x_lt, x_le, x_gt, x_ge, x_add, x_sub, x_len_lst, x_len_tup, List.map_cons, List.map_nil, List.length_cons, List.length_nil, List.cons_append, List.nil_append, List.reduceReplicate, List.getElem?_cons_zero, List.getElem?_cons_succ, List.set_cons_zero, List.set_cons_succ, Nat.reduceAdd, Nat.reduceSub, Nat.zero_add, Nat.sub_self, List.replicate_zero, List.getD_cons_zero, List.getD_cons_succ, reduceIte, Bool.false_eq_true, if_true, if_false, x_if_t, decide_true, decide_false, Bool.not_true, Bool.not_false, Bool.true_and, Bool.false_and, Bool.and_true, Bool.and_false, Bool.true_or, Bool.false_or, Bool.or_true, Bool.or_false, beq_self_eq_true, List.any_cons, List.any_nil, List.all_cons, List.all_nil, listDA, seqOf, decide_eq_true]
theorem copy_other (d : D) (T : String) (st : Sto) (h : tyN st d = some T) (h2 : T ≠ "list") : fnM 1 copyB [d] st = .ok d st := by
  have e : isaT T "list" = false := by simp [isaT, h2]
  have i : isiD [d, .ty "list"] st = .ok (.bl false) st := by simp only [isiD, h, if_pos (show "list" ∈ tyAsked by decide), e]
  unfold copyB
  simp -implicitDefEqProofs only [x_fn, List.map_cons, List.map_nil, List.length_cons, List.length_nil, Nat.zero_add, Nat.reduceAdd, Nat.reduceSub, List.replicate_zero, List.cons_append, List.nil_append, Nat.sub_self, x_ret, x_if, x_tb, x_bu, aCons, aNil, eVar, eC, List.getElem?_cons_zero, x_bok, i, x_oo, x_tst, Bool.false_eq_true, reduceIte, x_reto, x_fnr]
/-- the very value is blamed: it is told as it is, then a list is made longer -/
theorem blamed_spec (n : Nat) {st : Sto} {d : D} (h : Sim st n d d) (T : String) (ht : tyN st d = some T) (h2 : T ≠ "list" ∨ ∃ m ds, d = .loc m ∧ st[m]? = some (.lst ds) ∧ ds.length < 1000 ∧ Sim (st.set m (.lst (ds ++ [.int 7]))) n d d) :
    ∃ st', fnM 2 (blamedB (sameM n)) [d, d] st = .ok (.bl true) st' ∧ (st' = st ∨ ∃ m ds, d = .loc m ∧ st[m]? = some (.lst ds) ∧ st' = st.set m (.lst (ds ++ [.int 7]))) := by
  have s1 := same_sim st n d d h
  by_cases hT : T = "list"
  · subst hT
    rcases h2 with h2 | ⟨m, ds, rfl, e, hl, hs⟩
    · exact absurd rfl h2
    · refine ⟨_, ?_, .inr ⟨m, ds, rfl, e, rfl⟩⟩
      have s2 := same_sim _ n _ _ hs
      have i : isiD [.loc m, .ty "list"] st = .ok (.bl true) st := by simp only [isiD, ht, if_pos (show "list" ∈ tyAsked by decide)]; rfl
      have a : eMt "list" apG (eVar 1) (aCons (eC (.int 7)) aNil) [.val (.loc m), .val (.loc m)] st = .ok .non (st.set m (.lst (ds ++ [.int 7]))) := by
        have t : tyM st "list" (.loc m) = true := by simp [tyM, lstOf, e]
        have g : apG (.loc m) [.int 7] st = .ok .non (st.set m (.lst (ds ++ [.int 7]))) := by
          simp only [apG, e]
          rw [if_pos (by rw [sizeLine_eq]; omega)]
        unfold eMt
        simp -implicitDefEqProofs only [x_bok, x_bexc, x_bst, x_bite, x_bb, x_oo, x_ooite, x_bin, x_bu, x_and, x_or, x_not, x_tb, x_andD, x_orD, x_notD, x_tst, x_band, x_bor, x_bnot, x_if, x_then, x_thenx, x_thenite, x_seq, x_seqn, x_seqr, x_seqe, x_seqb, x_seqc, x_seqite, x_ret, x_reto, x_rete, x_retite, x_fn, x_fnn, x_fnr, x_fne, x_fnite, x_comp, x_for, x_its, x_rng1b, x_rng2b, x_rngA, x_rngB, tq_str, tq_int, tq_bool, tq_tuple, tq_list, tq_dict, eVar, eBor, eC, sIf, sSet, sSetF, sFrz, sNil, sExpr, sPar, setsR, pNil, pVal, pOwn, sAppO, sBk, sCt, eUn, eTup, eFz, eCl, fn1, aCons, aNil, eCall, eCallK, arr, negD, tgName, wipeR, lBu, isiD, tyN, isaT, tysOf, String.reduceBEq, bYes, x_int_eq, x_int_ne, x_str_eq, x_str_ne, x_bl_eq, x_lt, x_le, x_gt, x_ge, x_add, x_sub, x_len_lst, x_len_tup, List.map_cons, List.map_nil, List.length_cons, List.length_nil, List.cons_append, List.nil_append, List.reduceReplicate, List.getElem?_cons_zero, List.getElem?_cons_succ, List.set_cons_zero, List.set_cons_succ, Nat.reduceAdd, Nat.reduceSub, Nat.zero_add, Nat.sub_self, List.replicate_zero, List.getD_cons_zero, List.getD_cons_succ, reduceIte, Bool.false_eq_true, if_true, if_false, x_if_t, decide_true, decide_false, Bool.not_true, Bool.not_false, Bool.true_and, Bool.false_and, Bool.and_true, Bool.and_false, Bool.true_or, Bool.false_or, Bool.or_true, Bool.or_false, beq_self_eq_true, List.any_cons, List.any_nil, List.all_cons, List.all_nil]
        simp only [t, g, if_true]
      unfold blamedB
      simp -implicitDefEqProofs only [x_bok, x_bexc, x_bst, x_bite, x_bb, x_oo, x_ooite, x_bin, x_bu, x_and, x_or, x_not, x_tb, x_andD, x_orD, x_notD, x_tst, x_band, x_bor, x_bnot, x_if, x_then, x_thenx, x_thenite, x_seq, x_seqn, x_seqr, x_seqe, x_seqb, x_seqc, x_seqite, x_ret, x_reto, x_rete, x_retite, x_fn, x_fnn, x_fnr, x_fne, x_fnite, x_comp, x_for, x_its, x_rng1b, x_rng2b, x_rngA, x_rngB, tq_str, tq_int, tq_bool, tq_tuple, tq_list, tq_dict, eVar, eBor, eC, sIf, sSet, sSetF, sFrz, sNil, sExpr, sPar, setsR, pNil, pVal, pOwn, sAppO, sBk, sCt, eUn, eTup, eFz, eCl, fn1, aCons, aNil, eCall, eCallK, arr, negD, tgName, wipeR, lBu, isiD, tyN, isaT, tysOf, String.reduceBEq, bYes, x_int_eq, x_int_ne, x_str_eq, x_str_ne, x_bl_eq, x_lt, x_le, x_gt, x_ge, x_add, x_sub, x_len_lst, x_len_tup, List.map_cons, List.map_nil, List.length_cons, List.length_nil, List.cons_append, List.nil_append, List.reduceReplicate, List.getElem?_cons_zero, List.getElem?_cons_succ, List.set_cons_zero, List.set_cons_succ, Nat.reduceAdd, Nat.reduceSub, Nat.zero_add, Nat.sub_self, List.replicate_zero, List.getD_cons_zero, List.getD_cons_succ, reduceIte, Bool.false_eq_true, if_true, if_false, x_if_t, decide_true, decide_false, Bool.not_true, Bool.not_false, Bool.true_and, Bool.false_and, Bool.and_true, Bool.and_false, Bool.true_or, Bool.false_or, Bool.or_true, Bool.or_false, beq_self_eq_true, List.any_cons, List.any_nil, List.all_cons, List.all_nil, s1, e, a, s2]
  · refine ⟨st, ?_, .inl rfl⟩
    have i : isiD [d, .ty "list"] st = .ok (.bl false) st := by
      have e : isaT T "list" = false := by simp [isaT, hT]
      simp only [isiD, ht, if_pos (show "list" ∈ tyAsked by decide), e]
    unfold blamedB
    simp -implicitDefEqProofs only [x_fn, List.map_cons, List.map_nil, List.length_cons, List.length_nil, Nat.zero_add, Nat.reduceAdd, Nat.reduceSub, List.replicate_zero, List.cons_append, List.nil_append, Nat.sub_self, x_seq, sIf, x_bnot, eCall, x_tb, x_bu, aCons, aNil, eVar, eC, List.getElem?_cons_zero, List.getElem?_cons_succ, x_bok, s1, x_tst, Bool.not_true, x_then, Bool.false_eq_true, reduceIte, sNil, x_seqn, i, x_oo, x_ret, x_reto, x_fnr]
/-! ### the script's numbers, a new box -/
theorem intsOf_cut (ns : List Int) (a b : Option Int) : intsOf (cutD (ns.map D.int) a b) = some (cutD ns a b) := by
  unfold cutD
  rw [List.length_map, ← List.map_drop, ← List.map_take, intsOf_map]
theorem cell_spec (ns : List Int) (k : Nat) (st : Sto) : ∃ i, fnM 2 cellB [.lst (ns.map D.int), .int k] st = .ok (.int i) st := by
  unfold cellB
  by_cases h : k < ns.length
  · have hl : k < (ns.map D.int).length := by simpa using h
    have e := x_ix (st := st) (d := .lst (ns.map D.int)) rfl (atI_nat hl)
    rw [List.getElem_map] at e
    refine ⟨ns[k], ?_⟩
    have c : (k : Int) < ((ns.map D.int).length : Nat) := by omega
    simp -implicitDefEqProofs only [x_bok, x_bexc, x_bst, x_bite, x_bb, x_oo, x_ooite, x_bin, x_bu, x_and, x_or, x_not, x_tb, x_andD, x_orD, x_notD, x_tst, x_band, x_bor, x_bnot, x_if, x_then, x_thenx, x_thenite, x_seq, x_seqn, x_seqr, x_seqe, x_seqb, x_seqc, x_seqite, x_ret, x_reto, x_rete, x_retite, x_fn, x_fnn, x_fnr, x_fne, x_fnite, x_comp, x_for, x_its, x_rng1b, x_rng2b, x_rngA, x_rngB, tq_str, tq_int, tq_bool, tq_tuple, tq_list, tq_dict, eVar, eBor, eC, sIf, sSet, sSetF, sFrz, sNil, sExpr, sPar, setsR, pNil, pVal, pOwn, sAppO, sBk, sCt, eUn, eTup, eFz, eCl, fn1, aCons, aNil, eCall, eCallK, arr, negD, tgName, wipeR, lBu, isiD, tyN, isaT, tysOf, String.reduceBEq, bYes, x_int_eq, x_int_ne, x_str_eq, x_str_ne, x_bl_eq, x_lt, x_le, x_gt, x_ge, x_add, x_sub, x_len_lst, x_len_tup, List.map_cons, List.map_nil, List.length_cons, List.length_nil, List.cons_append, List.nil_append, List.reduceReplicate, List.getElem?_cons_zero, List.getElem?_cons_succ, List.set_cons_zero, List.set_cons_succ, Nat.reduceAdd, Nat.reduceSub, Nat.zero_add, Nat.sub_self, List.replicate_zero, List.getD_cons_zero, List.getD_cons_succ, reduceIte, Bool.false_eq_true, if_true, if_false, x_if_t, decide_true, decide_false, Bool.not_true, Bool.not_false, Bool.true_and, Bool.false_and, Bool.and_true, Bool.and_false, Bool.true_or, Bool.false_or, Bool.or_true, Bool.or_false, beq_self_eq_true, List.any_cons, List.any_nil, List.all_cons, List.all_nil, decide_eq_true c, e]
  · have c : ¬ (k : Int) < ((ns.map D.int).length : Nat) := by rw [List.length_map]; omega
    have es : eSl (eVar 0) oNo (oSo (eC (.int 1))) [.val (.lst (ns.map D.int)), .val (.int k)] st = .ok (.lst (cutD (ns.map D.int) none (some 1))) st := rfl
    have e2 : sumD [.lst (cutD (ns.map D.int) none (some 1))] st = .ok (.int (cutD ns none (some 1)).sum) st := by
      simp only [sumD, intsAt, lstOf, Option.bind_some, intsOf_cut]
    have s1 : small64 7487 = true ∨ small64 (k : Int) = true := .inl (by decide)
    have d1 : (1000003 : Int) ≠ 0 := by decide
    refine ⟨7487 * (k : Int) + (cutD ns none (some 1)).sum.fmod 1000003, ?_⟩
    simp -implicitDefEqProofs only [x_bok, x_bexc, x_bst, x_bite, x_bb, x_oo, x_ooite, x_bin, x_bu, x_and, x_or, x_not, x_tb, x_andD, x_orD, x_notD, x_tst, x_band, x_bor, x_bnot, x_if, x_then, x_thenx, x_thenite, x_seq, x_seqn, x_seqr, x_seqe, x_seqb, x_seqc, x_seqite, x_ret, x_reto, x_rete, x_retite, x_fn, x_fnn, x_fnr, x_fne, x_fnite, x_comp, x_for, x_its, x_rng1b, x_rng2b, x_rngA, x_rngB, tq_str, tq_int, tq_bool, tq_tuple, tq_list, tq_dict, eVar, eBor, eC, sIf, sSet, sSetF, sFrz, sNil, sExpr, sPar, setsR, pNil, pVal, pOwn, sAppO, sBk, sCt, eUn, eTup, eFz, eCl, fn1, aCons, aNil, eCall, eCallK, arr, negD, tgName, wipeR, lBu, isiD, tyN, isaT, tysOf, String.reduceBEq, bYes, x_int_eq, x_int_ne, x_str_eq, x_str_ne, x_bl_eq, x_lt, x_le, x_gt, x_ge, x_add, x_sub, x_len_lst, x_len_tup, List.map_cons, List.map_nil, List.length_cons, List.length_nil, List.cons_append, List.nil_append, List.reduceReplicate, List.getElem?_cons_zero, List.getElem?_cons_succ, List.set_cons_zero, List.set_cons_succ, Nat.reduceAdd, Nat.reduceSub, Nat.zero_add, Nat.sub_self, List.replicate_zero, List.getD_cons_zero, List.getD_cons_succ, reduceIte, Bool.false_eq_true, if_true, if_false, x_if_t, decide_true, decide_false, Bool.not_true, Bool.not_false, Bool.true_and, Bool.false_and, Bool.and_true, Bool.and_false, Bool.true_or, Bool.false_or, Bool.or_true, Bool.or_false, beq_self_eq_true, List.any_cons, List.any_nil, List.all_cons, List.all_nil, decide_eq_false c, es, e2, intD, x_mul s1, x_mod d1]
theorem box_spec (g : Int) (st : Sto) : ∃ st', fnM 1 boxB [.int g] st = .ok (.loc st.length) st' ∧ Box st' st.length 0 ∧ st'.length = st.length + 1 ∧ ∀ m, m < st.length → st'[m]? = st[m]? := by
  have p1 : opPow (.int 10) (.int 18) st = .ok (.int 1000000000000000000) st := x_pow (i := 10) (j := 18) (st := st) (by decide)
  have d1 : (2147483629 : Int) ≠ 0 := by decide
  obtain ⟨c, hc, c0, c1⟩ : ∃ c, (if g < 0 then -g else g).fmod 2147483629 = c ∧ 0 ≤ c ∧ c < 2147483629 := ⟨_, rfl, Int.fmod_nonneg_of_pos _ (by decide), Int.fmod_lt_of_pos _ (by decide)⟩
  have g0 : 0 ≤ (if g < 0 then -g else g) := by split <;> omega
  obtain ⟨a, ha⟩ : ∃ a, (if g < 0 then -g else g) = a := ⟨_, rfl⟩
  rw [ha] at hc g0
  have ab : absD (.int g) = some (.int a) := by rw [← ha]; rfl
  refine ⟨st ++ [.lst [.int a, .bl (decide ((1000000000000000000 : Int) ≤ a)), .int c, .int 0]], ?_, ⟨a, decide ((1000000000000000000 : Int) ≤ a), c, 0, by simp, g0, c0, by omega, by decide, by decide⟩, by simp, fun m hm => List.getElem?_append_left hm⟩
  unfold boxB
  simp -implicitDefEqProofs only [x_bok, x_bexc, x_bst, x_bite, x_bb, x_oo, x_ooite, x_bin, x_bu, x_and, x_or, x_not, x_tb, x_andD, x_orD, x_notD, x_tst, x_band, x_bor, x_bnot, x_if, x_then, x_thenx, x_thenite, x_seq, x_seqn, x_seqr, x_seqe, x_seqb, x_seqc, x_seqite, x_ret, x_reto, x_rete, x_retite, x_fn, x_fnn, x_fnr, x_fne, x_fnite, x_comp, x_for, x_its, x_rng1b, x_rng2b, x_rngA, x_rngB, tq_str, tq_int, tq_bool, tq_tuple, tq_list, tq_dict, eVar, eBor, eC, sIf, sSet, sSetF, sFrz, sNil, sExpr, sPar, setsR, pNil, pVal, pOwn, sAppO, sBk, sCt, eUn, eTup, eFz, eCl, fn1, aCons, aNil, eCall, eCallK, arr, negD, tgName, wipeR, lBu, isiD, tyN, isaT, tysOf, String.reduceBEq, bYes, x_int_eq, x_int_ne, x_str_eq, x_str_ne, x_bl_eq, x_lt, x_le, x_gt, x_ge, x_add, x_sub, x_len_lst, x_len_tup, List.map_cons, List.map_nil, List.length_cons, List.length_nil, List.cons_append, List.nil_append, List.reduceReplicate, List.getElem?_cons_zero, List.getElem?_cons_succ, List.set_cons_zero, List.set_cons_succ, Nat.reduceAdd, Nat.reduceSub, Nat.zero_add, Nat.sub_self, List.replicate_zero, List.getD_cons_zero, List.getD_cons_succ, reduceIte, Bool.false_eq_true, if_true, if_false, x_if_t, decide_true, decide_false, Bool.not_true, Bool.not_false, Bool.true_and, Bool.false_and, Bool.and_true, Bool.and_false, Bool.true_or, Bool.false_or, Bool.or_true, Bool.or_false, beq_self_eq_true, List.any_cons, List.any_nil, List.all_cons, List.all_nil, ab, p1, intD, x_mod d1, hc]
end Sx
/-! Px3: outcomes by what is wanted of them -/
namespace Sx
open PySem L2
def Wo {α : Type} (o : Out α) (P : α → Sto → Prop) : Prop := match o with | .ok a st => P a st | _ => False
/-- a block: it goes on, or hands back -/
def Ws (o : SOut) (N : Rho → Sto → Prop) (R : D → Sto → Prop) : Prop := match o with | .nx ρ st => N ρ st | .rt d st => R d st | _ => False
section
variable {α β : Type} {o : Out α} {P Q : α → Sto → Prop} {st : Sto} {ρ : Rho} {N : Rho → Sto → Prop} {R : D → Sto → Prop}
theorem wo_ok {a : α} : Wo (.ok a st) P = P a st := rfl
theorem wo_bind {f : α → Sto → Out β} {P : β → Sto → Prop} : Wo (o.bind f) P = Wo o fun a st => Wo (f a st) P := by cases o <;> rfl
theorem wo_oo {o : Out D} {P : D → Sto → Prop} : Wo (okOnly o) P = Wo o P := by cases o <;> rfl
theorem wo_ite {c : Prop} [Decidable c] {o o' : Out α} : Wo (if c then o else o') P = if c then Wo o P else Wo o' P := by split <;> rfl
theorem Wo.imp (h : Wo o P) (k : ∀ a st, P a st → Q a st) : Wo o Q := by
  cases o with
  | ok a st => exact k a st h
  | exc _ _ => exact h
  | stuck => exact h
theorem Wo.eq (h : Wo o P) : ∃ a st, o = .ok a st ∧ P a st := by
  cases o with
  | ok a st => exact ⟨a, st, rfl, h⟩
  | exc _ _ => exact h.elim
  | stuck => exact h.elim
theorem Wo.of {a : α} (e : o = .ok a st) (h : P a st) : Wo o P := by rw [e]; exact h
theorem ws_nx : Ws (.nx ρ st) N R = N ρ st := rfl
theorem ws_rt {d : D} : Ws (.rt d st) N R = R d st := rfl
theorem ws_seq {m n : SM} : Ws (sSeq m n ρ st) N R = Ws (m ρ st) (fun ρ1 st1 => Ws (n ρ1 st1) N R) R := by
  unfold sSeq
  cases m ρ st <;> rfl
theorem ws_seqO {o : SOut} {n : SM} : Ws (seqO o n) N R = Ws o (fun ρ1 st1 => Ws (n ρ1 st1) N R) R := by cases o <;> rfl
theorem ws_then {f : α → Sto → SOut} : Ws (sThen ρ o f) N R = Wo o fun a st => Ws (f a st) N R := by cases o <;> rfl
theorem ws_if {c : BM} {m n : SM} : Ws (sIf c m n ρ st) N R = Wo (c ρ st) fun k st1 => if k = true then Ws (m ρ st1) N R else Ws (n ρ st1) N R := by
  unfold sIf
  rw [ws_then]
  congr 1
  funext k st1
  split <;> rfl
theorem ws_ret {m : EM} : Ws (sRet m ρ st) N R = Wo (m ρ st) fun d st1 => R d st1 := by
  unfold sRet
  cases m ρ st <;> rfl
theorem ws_ite {c : Prop} [Decidable c] {o o' : SOut} : Ws (if c then o else o') N R = if c then Ws o N R else Ws o' N R := by split <;> rfl
theorem wo_fn {tot : Nat} {body : SM} {ds : List D} {P : D → Sto → Prop} : Wo (fnM tot body ds st) P = Ws (body (ds.map .val ++ List.replicate (tot - ds.length) .un) st) (fun _ st1 => P .non st1) P := by
  unfold fnM
  cases body (ds.map .val ++ List.replicate (tot - ds.length) .un) st <;> rfl
theorem wo_if {c : BM} {m n : EM} {P : D → Sto → Prop} : Wo (eIf c m n ρ st) P = Wo (c ρ st) fun k st1 => if k = true then Wo (m ρ st1) P else Wo (n ρ st1) P := by
  unfold eIf
  rw [wo_bind]
  congr 1
  funext k st1
  split <;> rfl
theorem wo_band {p q : BM} {P : Bool → Sto → Prop} : Wo (bAnd p q ρ st) P = Wo (p ρ st) fun k st1 => if k = true then Wo (q ρ st1) P else P false st1 := by
  unfold bAnd
  rw [wo_bind]
  congr 1
  funext k st1
  split <;> rfl
theorem wo_bor {p q : BM} {P : Bool → Sto → Prop} : Wo (bOr p q ρ st) P = Wo (p ρ st) fun k st1 => if k = true then P true st1 else Wo (q ρ st1) P := by
  unfold bOr
  rw [wo_bind]
  congr 1
  funext k st1
  split <;> rfl
theorem wo_and {m n : EM} {P : D → Sto → Prop} : Wo (eAnd m n ρ st) P = Wo (m ρ st) fun x st1 => Wo (andD x (n ρ st1) st1) P := by rw [x_and, wo_bind]
theorem wo_or {m n : EM} {P : D → Sto → Prop} : Wo (eOr m n ρ st) P = Wo (m ρ st) fun x st1 => Wo (orD x (n ρ st1) st1) P := by rw [x_or, wo_bind]
end
/-- a loop by an invariant; R: it may hand back -/
theorem ws_for {t : TgM} {body : SM} {N : Rho → Sto → Prop} {R : D → Sto → Prop} (I : Nat → Rho → Sto → Prop) : ∀ (ds : List D) (k : Nat) (ρ : Rho) (st : Sto), I k ρ st → (∀ i d ρ st, ds[i]? = some d → I (k + i) ρ st → ∃ ρ1, t d ρ = some ρ1 ∧ Ws (body ρ1 st) (fun ρ2 st2 => I (k + i + 1) ρ2 st2) R) →
    (∀ ρ st, I (k + ds.length) ρ st → N ρ st) → Ws (forM t body ds ρ st) N R
  | [], k, ρ, st, h0, _, hd => hd ρ st h0
  | d :: ds, k, ρ, st, h0, hs, hd => by
    obtain ⟨ρ1, h1, h2⟩ := hs 0 d ρ st (by simp) h0
    unfold forM
    rw [h1]
    dsimp only
    cases e : body ρ1 st with
    | nx ρ2 st2 =>
      rw [e] at h2
      exact ws_for I ds (k + 1) ρ2 st2 h2 (fun i d' ρ st e hi => by
        have := hs (i + 1) d' ρ st (by simpa using e) (by rw [show k + (i + 1) = k + 1 + i by omega]; exact hi)
        rw [show k + (i + 1) + 1 = k + 1 + i + 1 by omega] at this
        exact this) fun ρ st h => hd ρ st (by rw [List.length_cons, show k + (ds.length + 1) = k + 1 + ds.length by omega]; exact h)
    | rt d st2 => rw [e] at h2; exact h2
    | bk _ _ => rw [e] at h2; exact h2.elim
    | ct _ _ => rw [e] at h2; exact h2.elim
    | exc _ _ _ => rw [e] at h2; exact h2.elim
    | stuck => rw [e] at h2; exact h2.elim
/-- a while by a measure -/
theorem ws_while {c : BM} {body : SM} {N : Rho → Sto → Prop} {R : D → Sto → Prop} (I : Nat → Rho → Sto → Prop) (n : Nat) (ρ : Rho) (st : Sto) (h0 : I n ρ st)
    (hs : ∀ n ρ st, I n ρ st → Wo (c ρ st) fun k st1 => if k = true then Ws (body ρ st1) (fun ρ2 st2 => ∃ n', n' < n ∧ I n' ρ2 st2) R else N ρ st1) : Ws (sWhile c body ρ st) N R := by
  have key : ∀ (n : Nat) (ρ : Rho) (st : Sto), I n ρ st → ∃ k, Ws (whM c body k ρ st) N R := by
    intro n
    induction n using Nat.strongRecOn with
    | ind n ih =>
      intro ρ st hI
      have h := hs n ρ st hI
      cases e : c ρ st with
      | exc _ _ => rw [e] at h; exact h.elim
      | stuck => rw [e] at h; exact h.elim
      | ok b st1 =>
        rw [e] at h
        cases b with
        | false => exact ⟨1, by unfold whM; rw [e]; exact h⟩
        | true =>
          have h : Ws (body ρ st1) (fun ρ2 st2 => ∃ n', n' < n ∧ I n' ρ2 st2) R := h
          cases eb : body ρ st1 with
          | nx ρ2 st2 =>
            rw [eb] at h
            obtain ⟨n', hn, hI'⟩ := h
            obtain ⟨k, hk⟩ := ih n' hn ρ2 st2 hI'
            exact ⟨k + 1, by unfold whM; rw [e]; dsimp only; rw [eb]; exact hk⟩
          | rt d st2 => rw [eb] at h; exact ⟨1, by unfold whM; rw [e]; dsimp only; rw [eb]; exact h⟩
          | bk _ _ => rw [eb] at h; exact h.elim
          | ct _ _ => rw [eb] at h; exact h.elim
          | exc _ _ _ => rw [eb] at h; exact h.elim
          | stuck => rw [eb] at h; exact h.elim
  obtain ⟨k, hk⟩ := key n ρ st h0
  rw [sWhile_of k rfl (fun z => by rw [z] at hk; exact hk)]
  exact hk
/-- a comprehension by an invariant: what has been made so far -/
theorem wo_comp {t : TgM} {c : BM} {e : EM} {ρ : Rho} {P : List D → Sto → Prop} (I : Nat → List D → Sto → Prop) : ∀ (ds : List D) (k : Nat) (acc : List D) (st : Sto), I k acc st → (∀ i d acc st, ds[i]? = some d → I (k + i) acc st → ∃ ρ1, t d ρ = some ρ1 ∧ Wo (c ρ1 st) fun b st1 => if b = true then Wo (e ρ1 st1) fun x st2 => I (k + i + 1) (acc ++ [x]) st2 else I (k + i + 1) acc st1) →
    (∀ acc st, I (k + ds.length) acc st → P acc st) → Wo (compM t c e ρ ds st) fun xs st' => P (acc ++ xs) st'
  | [], k, acc, st, h0, _, hd => by
    show P (acc ++ []) st
    rw [List.append_nil]
    exact hd acc st h0
  | d :: ds, k, acc, st, h0, hs, hd => by
    obtain ⟨ρ1, h1, h2⟩ := hs 0 d acc st (by simp) h0
    have next : ∀ acc st, I (k + 0 + 1) acc st → Wo (compM t c e ρ ds st) fun xs st' => P (acc ++ xs) st' := fun acc st h => wo_comp I ds (k + 1) acc st h (fun i d' acc st e hi => by
      have := hs (i + 1) d' acc st (by simpa using e) (by rw [show k + (i + 1) = k + 1 + i by omega]; exact hi)
      rw [show k + (i + 1) + 1 = k + 1 + i + 1 by omega] at this
      exact this) fun acc st h => hd acc st (by rw [List.length_cons, show k + (ds.length + 1) = k + 1 + ds.length by omega]; exact h)
    unfold compM
    rw [h1]
    dsimp only
    obtain ⟨b, st1, e1, h2⟩ := h2.eq
    rw [e1]
    cases b with
    | false => exact next acc st1 h2
    | true =>
      obtain ⟨x, st2, e2, h3⟩ := Wo.eq (show Wo (e ρ1 st1) fun x st2 => I (k + 0 + 1) (acc ++ [x]) st2 from h2)
      dsimp only
      rw [e2]
      dsimp only
      rw [wo_bind]
      refine (next _ _ h3).imp fun xs st' h => ?_
      show P (acc ++ (x :: xs)) st'
      rw [List.append_assoc] at h
      exact h
/-- methods, slices -/
def soD (x : D) (st : Sto) : Out (Option Int) := match x with | .int i => .ok (some i) st | _ => .stuck
def slO (st : Sto) (x : D) (l h : Option Int) : Out D := match slD st x l h with | some d => .ok d st | none => .stuck
section
variable {ρ : Rho} {st : Sto}
theorem soD_int {i : Int} : soD (.int i) st = .ok (some i) st := rfl
theorem wo_no {P : Option Int → Sto → Prop} : Wo (oNo ρ st) P = P none st := rfl
theorem wo_so {m : EM} {P : Option Int → Sto → Prop} : Wo (oSo m ρ st) P = Wo (m ρ st) fun x st1 => Wo (soD x st1) P := by
  unfold oSo
  rw [wo_bind]
  rfl
theorem wo_sl {m : EM} {lo hi : OM} {P : D → Sto → Prop} : Wo (eSl m lo hi ρ st) P = Wo (m ρ st) fun x st1 => Wo (lo ρ st1) fun l st2 => Wo (hi ρ st2) fun h st3 => Wo (slO st3 x l h) P := by
  unfold eSl
  simp only [wo_bind]
  rfl
theorem wo_mt {T : String} {g : D → List D → Sto → Out D} {mo : EM} {ma : AM} {P : D → Sto → Prop} : Wo (eMt T g mo ma ρ st) P = Wo (mo ρ st) fun o st1 => if tyM st1 T o = true then Wo (ma ρ st1) fun ds st2 => Wo (okOnly (g o ds st2)) P else False := by
  unfold eMt
  rw [wo_bind]
  congr 1
  funext o st1
  split
  · rw [wo_bind]; rfl
  · rfl
theorem slO_str {s : Str} {l h : Option Int} (hz : s.length ≤ 1000000) : slO st (.str s) l h = .ok (.str (cutS s l h)) st := by
  unfold slO slD
  dsimp only
  rw [if_pos (line1M hz)]
theorem slO_lst {ds : List D} {l h : Option Int} : slO st (.lst ds) l h = .ok (.lst (cutD ds l h)) st := rfl
theorem slO_tup {ds : List D} {l h : Option Int} : slO st (.tup ds) l h = .ok (.tup (cutD ds l h)) st := rfl
theorem tyM_str {s : Str} : (tyM st "str" (.str s) = true) = True := eq_true rfl
theorem lbu_eq {g : List D → Sto → Option (List D)} {a : AM} : lBu g a ρ st = (a ρ st).bind fun ds st1 => match g ds st1 with | some d => .ok d st1 | none => .stuck := rfl
end

end Sx
namespace Sx
open PySem L2
theorem take_wo {c1 c2 c3 : Int} (hc : 0 ≤ c1 ∧ c1 < 1000000000 ∧ 0 ≤ c2 ∧ c2 < 1000000000 ∧ 0 ≤ c3 ∧ c3 < 1000000000) {st : Sto} {n T : Nat} {many : Int} {P : D → Sto → Prop} (hB : Box st n T) (hT : T < 1000000) (hm : 0 < many) (hm2 : many < 1000000000)
    (h : ∀ r st', 0 ≤ r → r < many → Box st' n (T + 1) → Kept n st st' → P (.int r) st') : Wo (fnM 4 (takeB c1 c2 c3) [.loc n, .int many] st) P := by
  obtain ⟨r, st', e, h1, h2, h3, h4⟩ := take_spec c1 c2 c3 hc hB hT hm hm2
  exact Wo.of e (h r st' h1 h2 h3 h4)
theorem dints_get {lo : Int} {n i : Nat} {d : D} (h : (dints lo n)[i]? = some d) : d = .int (lo + i) ∧ i < n := by
  have hi : i < n := by
    have z := (List.getElem?_eq_some_iff.mp h).1
    rwa [dints_length] at z
  refine ⟨?_, hi⟩
  have z : (dints lo n)[i]? = some (.int (lo + (i : Nat))) := by simp [dints, hi]
  rw [z] at h
  cases h
  rfl
theorem Box.lt {st : Sto} {n T : Nat} (h : Box st n T) : n < st.length := by
  obtain ⟨_, _, _, _, e, _⟩ := h
  exact (List.getElem?_eq_some_iff.mp e).1
theorem Box.app {st : Sto} {n T : Nat} (h : Box st n T) (c : List Cell) : Box (st ++ c) n T := by
  have hl := h.lt
  obtain ⟨g, b, c', t, e, k⟩ := h
  exact ⟨g, b, c', t, by rw [List.getElem?_append_left hl]; exact e, k⟩
theorem Box.other {st : Sto} {n m T : Nat} {c : Cell} (h : Box st n T) (hm : m ≠ n) : Box (st.set m c) n T := by
  obtain ⟨g, b, c', t, e, k⟩ := h
  exact ⟨g, b, c', t, by rw [List.getElem?_set_ne hm]; exact e, k⟩
/-- pop(r) of a cell -/
theorem pop_at {st : Sto} {m : Nat} {rest : List D} {r : Int} (h : st[m]? = some (.lst rest)) (h0 : 0 ≤ r) (h1 : r < rest.length) (hl : rest.length ≤ 1000000) :
    ∃ d, rest[r.toNat]? = some d ∧ popG (.loc m) [.int r] st = .ok d (st.set m (.lst (rest.eraseIdx r.toNat))) := by
  have hk : r.toNat < rest.length := by omega
  refine ⟨rest[r.toNat], List.getElem?_eq_getElem hk, ?_⟩
  unfold popG
  simp only [h]
  rw [if_pos ⟨by omega, by omega⟩, seqIndex_of h0 h1]
  simp only [List.getElem?_eq_getElem hk]
theorem tyM_loc {st : Sto} {m : Nat} {ds : List D} (h : st[m]? = some (.lst ds)) : tyM st "list" (.loc m) = true := by
  simp [tyM, lstOf, h]
theorem seq_loc {st : Sto} {m : Nat} {ds : List D} (h : st[m]? = some (.lst ds)) : seqOf st (.loc m) = some ds := by
  unfold seqOf
  simp only [h]
theorem x_len_loc {st : Sto} {m : Nat} {ds : List D} (h : st[m]? = some (.lst ds)) : lenD [.loc m] st = .ok (.int ds.length) st := len_at (seq_loc h)
theorem compM2_pure {β γ : Type} {t t1 : TgM} {c c1 : BM} {it1 : AM} {vs1 : List Nat} {e : EM} {ρ : Rho} {st : Sto} (f : β → D) (f1 : γ → D) (l1 : β → List γ) (g : β → γ → D) : ∀ l : List β,
    (∀ b ∈ l, ∃ ρ1, t (f b) ρ = some ρ1 ∧ c ρ1 st = .ok true st ∧ it1 ρ1 st = .ok ((l1 b).map f1) st ∧ compM t1 c1 e (wipeR (noOwn ρ1) vs1) ((l1 b).map f1) st = .ok ((l1 b).map (g b)) st) →
    compM2 t c it1 vs1 t1 c1 e ρ (l.map f) st = .ok (l.flatMap fun b => (l1 b).map (g b)) st
  | [], _ => rfl
  | b :: l, h => by
    obtain ⟨ρ1, h1, h2, h3, h4⟩ := h b List.mem_cons_self
    have ih := compM2_pure (t := t) (t1 := t1) (c := c) (c1 := c1) (it1 := it1) (vs1 := vs1) (e := e) (ρ := ρ) f f1 l1 g l fun d hd => h d (List.mem_cons_of_mem _ hd)
    rw [List.map_cons]
    unfold compM2
    rw [h1]
    dsimp only
    rw [h2]
    dsimp only
    rw [h3]
    dsimp only
    rw [h4, x_bok, ih, x_bok, List.flatMap_cons]
def chkO (o : Out (List D)) : Out (List D) := match o with
  | .ok xs st2 => if xs.length ≤ sizeLine then .ok xs st2 else .stuck
  | _ => .stuck
theorem chkO_ok {xs : List D} {st : Sto} (h : xs.length ≤ 1000000) : chkO (.ok xs st) = .ok xs st := if_pos (line1M h)
theorem x_comp2 {own : List Nat} {it : AM} {t : TgM} {c : BM} {it1 : AM} {vs1 : List Nat} {t1 : TgM} {c1 : BM} {e : EM} {ρ : Rho} {st : Sto} : lComp2 own it t c it1 vs1 t1 c1 e ρ st = (it ρ st).bind fun ds st1 => chkO (compM2 t c it1 vs1 t1 c1 e (wipeR ρ own) ds st1) := rfl
def pairD (a b : Int) : D := .tup [.int a, .int b]
theorem pair_lt (a b c d : Int) : PySem.W.dataLt (pyOf (pairD a b)) (pyOf (pairD c d)) = decide (a < c ∨ (a = c ∧ b < d)) := PySem.W.dataLt_ii a b c d
theorem pair_like (l : List (Int × Int)) : likeD (l.map fun p => pairD p.1 p.2) = true := by
  unfold likeD
  rw [Bool.and_eq_true, Bool.and_eq_true]
  refine ⟨⟨List.all_eq_true.mpr fun d hd => ?_, List.all_eq_true.mpr fun d hd => List.all_eq_true.mpr fun e he => ?_⟩, List.all_eq_true.mpr fun d hd => ?_⟩
  · obtain ⟨p, _, rfl⟩ := List.mem_map.mp hd
    rfl
  · obtain ⟨p, _, rfl⟩ := List.mem_map.mp hd
    obtain ⟨q, _, rfl⟩ := List.mem_map.mp he
    simp [pairD, pyOf, pyOfs, PySem.W.alike, PySem.W.alikeAll]
  · obtain ⟨p, _, rfl⟩ := List.mem_map.mp hd
    rfl
/-- the least pair -/
theorem least_pair : ∀ (l : List (Int × Int)) (p : Int × Int), ∃ q, q ∈ p :: l ∧ leastD (pairD p.1 p.2) (l.map fun p => pairD p.1 p.2) = pairD q.1 q.2 ∧ ∀ r ∈ p :: l, q.1 < r.1 ∨ (q.1 = r.1 ∧ q.2 ≤ r.2)
  | [], p => ⟨p, by simp, rfl, fun r hr => by rw [List.mem_singleton.mp hr]; exact .inr ⟨rfl, Int.le_refl _⟩⟩
  | r :: l, p => by
    have e : leastD (pairD p.1 p.2) ((r :: l).map fun p => pairD p.1 p.2) = leastD (if PySem.W.dataLt (pyOf (pairD r.1 r.2)) (pyOf (pairD p.1 p.2)) then pairD r.1 r.2 else pairD p.1 p.2) (l.map fun p => pairD p.1 p.2) := rfl
    rw [e, pair_lt]
    by_cases c : r.1 < p.1 ∨ (r.1 = p.1 ∧ r.2 < p.2)
    · obtain ⟨q, h1, h2, h3⟩ := least_pair l r
      rw [if_pos (decide_eq_true c)]
      refine ⟨q, List.mem_cons_of_mem _ h1, h2, fun x hx => ?_⟩
      rcases List.mem_cons.mp hx with rfl | hx
      · have := h3 r List.mem_cons_self
        omega
      · exact h3 x hx
    · obtain ⟨q, h1, h2, h3⟩ := least_pair l p
      rw [if_neg (by simpa using c)]
      refine ⟨q, ?_, h2, fun x hx => ?_⟩
      · rcases List.mem_cons.mp h1 with h1 | h1
        · rw [h1]; exact List.mem_cons_self
        · exact List.mem_cons_of_mem _ (List.mem_cons_of_mem _ h1)
      · rcases List.mem_cons.mp hx with rfl | hx
        · exact h3 _ List.mem_cons_self
        · rcases List.mem_cons.mp hx with rfl | hx
          · have := h3 p List.mem_cons_self
            omega
          · exact h3 x (List.mem_cons_of_mem _ hx)
theorem minDD_pairs (p : Int × Int) (l : List (Int × Int)) (st : Sto) : minDD [.lst ((p :: l).map fun p => pairD p.1 p.2)] st = .ok (leastD (pairD p.1 p.2) (l.map fun p => pairD p.1 p.2)) st := by
  have h := pair_like (p :: l)
  unfold minDD lstOf
  rw [List.map_cons] at h ⊢
  dsimp only
  rw [if_pos h]
end Sx
/-! Px4: values that are the same as themselves; errors; the def's binding -/
namespace Sx
open PySem L2
section
variable {st : Sto} {n : Nat}
theorem sim_non : Sim st (n + 1) .non .non := .inl ⟨rfl, rfl⟩
theorem sim_bl {b : Bool} : Sim st (n + 1) (.bl b) (.bl b) := .inr (.inl ⟨b, rfl, rfl⟩)
theorem sim_int {i : Int} : Sim st (n + 1) (.int i) (.int i) := .inr (.inr (.inl ⟨i, rfl, rfl⟩))
theorem sim_str {s : Str} (h : s.length ≤ 1000000) : Sim st (n + 1) (.str s) (.str s) := .inr (.inr (.inr (.inl ⟨s, rfl, rfl, h⟩)))
theorem simL_refl {xs : List D} (h : ∀ x ∈ xs, Sim st n x x) (hl : xs.length ≤ 1000000) : SimL (Sim st n) xs xs := ⟨rfl, hl, fun i x y h1 h2 => by
  rw [h1] at h2
  cases h2
  exact h x (List.mem_of_getElem? h1)⟩
theorem sim_tup {xs : List D} (h : ∀ x ∈ xs, Sim st n x x) (hl : xs.length ≤ 1000000) : Sim st (n + 1) (.tup xs) (.tup xs) := .inr (.inr (.inr (.inr (.inl ⟨xs, xs, rfl, rfl, simL_refl h hl⟩))))
theorem sim_seq {d : D} {xs : List D} (e : lstOf st d = some xs) (h : ∀ x ∈ xs, Sim st n x x) (hl : xs.length ≤ 1000000) : Sim st (n + 1) d d := .inr (.inr (.inr (.inr (.inr (.inl ⟨xs, xs, e, e, simL_refl h hl⟩)))))
theorem sim_lst {xs : List D} (h : ∀ x ∈ xs, Sim st n x x) (hl : xs.length ≤ 1000000) : Sim st (n + 1) (.lst xs) (.lst xs) := sim_seq rfl h hl
theorem sim_loc {m : Nat} {xs : List D} (e : st[m]? = some (.lst xs)) (h : ∀ x ∈ xs, Sim st n x x) (hl : xs.length ≤ 1000000) : Sim st (n + 1) (.loc m) (.loc m) := sim_seq (by simp [lstOf, e]) h hl
end
/-- a try whose suite hands something back -/
theorem x_try {univ : List Str} {i : Nat} {body : SM} {hs : List (Str × SM)} {ρ : Rho} {st : Sto} : sTry univ i body hs ρ st = match body ρ st with
  | .exc e ρ1 st1 => if e.cls ∈ univ then hdM i e ρ1 st1 hs else .stuck
  | o => o := rfl
theorem law_binds {K : PySem.W.Frag} {x q : Str} {st : Stmt} {f : Addr} {fd : FuncData} (F : Fun K x q st f fd)
    (h : ∀ (kV doc pm : Value) (an : Option Addr) (cdv ct : Value) (v : Value), bindArgs (PySem.W.fnOf x q (defArgs st) (defBody st) (defScope st) .none kV doc pm an cdv ct) ⟨[v], []⟩ = pure [(("script" : Str), v)]) (s : Shared) (v : Value) : BindsTo s fd ⟨[v], []⟩ [(("script" : Str), v)] := by
  obtain ⟨oc, od, kV, doc, pm, an, cdv, ct, osl, rfl, lk, hcd⟩ := F.ex
  exact .of_eq (h kV doc pm an cdv ct v)
end Sx
/-! the walk of intervalbench_k64_least_windows: bodies as functions, derivations, the head; printed by a program -/
namespace Wk64
open PySem L2 Sx
def top (i : Nat) : Stmt := PySem.Challenge.pw_intervalbench_k64_least_windows.main.body.getD i (.Pass ⟨0, 0, 0, 0⟩)
abbrev univ : List Str := ["InvalidLetters", "InvalidRow"]
structure Txt (K : PySem.W.Frag) (mg : Str → Option Value) : Prop where
  b_abs : mg "abs" = none
  b_all : mg "all" = none
  b_bool : mg "bool" = none
  b_dict : mg "dict" = none
  b_int : mg "int" = none
  b_isinstance : mg "isinstance" = none
  b_len : mg "len" = none
  b_list : mg "list" = none
  b_max : mg "max" = none
  b_min : mg "min" = none
  b_range : mg "range" = none
  b_str : mg "str" = none
  b_sum : mg "sum" = none
  b_tuple : mg "tuple" = none
  g_least_window : ∃ a, mg "least_window" = some (.ref a)
  g_window_bar : ∃ a, mg "window_bar" = some (.ref a)
  i_MOST_LETTERS : ∃ t, mg "MOST_LETTERS" = some (.int (12) t)
  i_MOST_ROW : ∃ t, mg "MOST_ROW" = some (.int (60) t)
  s_LETTERS : ∃ t, mg "LETTERS" = some (.str "abcdef" t)
section
variable {P : Program} {w : World} {K : PySem.W.Frag} {mg : Str → Option Value} {base : Heap}
/-! ### are_letters: 0 value, 1 most, 2 sign -/
noncomputable def b_are_letters : SM :=
  (sRet (eAnd (eBu isiD (aCons (eVar 0) (aCons (eC (.ty "str")) aNil))) (eAnd (eBin opLe (eBu lenD (aCons (eVar 0) aNil)) (eVar 1)) (eBu allD (aCons (eFz (lComp [2] (itS (eVar 0)) (tgName 2) bYes (eBin opIn (eVar 2) (eC (.str "abcdef"))))) aNil)))))
noncomputable def m_are_letters : List D → Sto → Out D := fnM 3 b_are_letters
theorem sc_are_letters : FnScope ["value", "most", "sign"] ["value", "most"] (defScope (top 9)) := ⟨rfl, rfl, rfl, by decide +kernel, rfl, by decide +kernel, by decide +kernel⟩
theorem ok_are_letters (T : Txt K mg) (FX : ∃ f fd, mg "are_letters" = some (.ref f) ∧ Fun K "are_letters" "are_letters" (top 9) f fd)  : DefOk P w K mg base 1 "are_letters" (top 9) ["value", "most"] m_are_letters := by
  obtain ⟨f, fd, hm, Fu⟩ := FX
  have S := sc_are_letters
  refine ⟨f, fd, hm, Fu, fnOk_of (k := 0) Fu S fun cdv A outer s H E φ hr => ?_⟩
  exact (sx_one (sx_ret (se_and (se_cl (pe_callB cs_isi rfl T.b_isinstance bt_isinstance (sa_cons (se_var (pv 0)) (sa_cons (se_ty T.b_str bt_str) sa_nil)))) (se_and (se_cmp (os_le) (se_cl (pe_callB cs_len rfl T.b_len bt_len (sa_cons (se_var (pv 0)) sa_nil))) (se_var (pv 1)) (nomark _)) (se_one (se_cl (pe_callB (cs_all rfl) rfl T.b_all bt_all (sa_cons (sf_bor (sf_lc (own := [("sign", 2)]) S.nd (si_val (se_var (pv 0))) (blkOk_by (by kernel_rfl)) (fun _ _ _ _ _ => (sg_name (vs := [2]) (pg_name (i := 2) S.nd rfl (by first | exact Or.inl rfl | exact Or.inr rfl)) (by decide))) (fun _ _ _ _ _ => sps_nil) (fun _ _ _ _ _ => (se_cmp (os_in (hu64 hr) (hu65 hr)) (se_var (pv 2)) (se_gstr1 T.s_LETTERS) (by first | exact nobehind _ (by decide) (by decide) | rfl))))) sa_nil))))))))
/-! ### check_row: 0 row -/
noncomputable def b_check_row : SM :=
  (sIf (bNot (tB1 (eCall m_are_letters (aCons (eVar 0) (aCons (eC (.int (60))) aNil))))) (sRaise "InvalidRow" ["given"] (aCons (eVar 0) aNil)) sNil)
noncomputable def m_check_row : List D → Sto → Out D := fnM 1 b_check_row
theorem sc_check_row : FnScope ["row"] ["row"] (defScope (top 10)) := ⟨rfl, rfl, rfl, by decide +kernel, rfl, by decide +kernel, by decide +kernel⟩
theorem ok_check_row (T : Txt K mg) (FX : ∃ f fd, mg "check_row" = some (.ref f) ∧ Fun K "check_row" "check_row" (top 10) f fd) (G_are_letters : FnD P w K mg base 1 "are_letters" 2 m_are_letters) (R_InvalidRow : ErD P w K mg base "InvalidRow" ["given"]) : DefOk P w K mg base 3 "check_row" (top 10) ["row"] m_check_row := by
  obtain ⟨f, fd, hm, Fu⟩ := FX
  have S := sc_check_row
  refine ⟨f, fd, hm, Fu, fnOk_of (k := 2) Fu S fun cdv A outer s H E φ hr => ?_⟩
  exact (sx_one (sx_if (sc_not (sc_val (se_call G_are_letters (hr.mono (by decide)) (takes_of rfl rfl rfl rfl) (sa_cons (se_var (pv 0)) (sa_cons (se_gint1 T.i_MOST_ROW) sa_nil)) (alen_cons (alen_cons alen_nil))))) (sx_one (sx_raise R_InvalidRow (hr.mono (by decide)) (takes_of rfl rfl rfl rfl) (sa_cons (se_var (pv 0)) sa_nil) (alen_cons alen_nil))) sx_nil))
/-! ### check_both: 0 row, 1 letters -/
noncomputable def b_check_both : SM :=
  (sSeq (sExpr (eCall m_check_row (aCons (eVar 0) aNil)))
    (sIf (bNot (tB1 (eCall m_are_letters (aCons (eVar 1) (aCons (eC (.int (12))) aNil))))) (sRaise "InvalidLetters" ["given"] (aCons (eVar 1) aNil)) sNil))
noncomputable def m_check_both : List D → Sto → Out D := fnM 2 b_check_both
theorem sc_check_both : FnScope ["row", "letters"] ["row", "letters"] (defScope (top 11)) := ⟨rfl, rfl, rfl, by decide +kernel, rfl, by decide +kernel, by decide +kernel⟩
theorem ok_check_both (T : Txt K mg) (FX : ∃ f fd, mg "check_both" = some (.ref f) ∧ Fun K "check_both" "check_both" (top 11) f fd) (G_check_row : FnD P w K mg base 3 "check_row" 1 m_check_row) (G_are_letters : FnD P w K mg base 1 "are_letters" 2 m_are_letters) (R_InvalidLetters : ErD P w K mg base "InvalidLetters" ["given"]) : DefOk P w K mg base 4 "check_both" (top 11) ["row", "letters"] m_check_both := by
  obtain ⟨f, fd, hm, Fu⟩ := FX
  have S := sc_check_both
  refine ⟨f, fd, hm, Fu, fnOk_of (k := 3) Fu S fun cdv A outer s H E φ hr => ?_⟩
  exact (sx_cons (sx_expr (se_call G_check_row (hr.mono (by decide)) (takes_of rfl rfl rfl rfl) (sa_cons (se_var (pv 0)) sa_nil) (alen_cons alen_nil)))
    (sx_one (sx_if (sc_not (sc_val (se_call G_are_letters (hr.mono (by decide)) (takes_of rfl rfl rfl rfl) (sa_cons (se_var (pv 1)) (sa_cons (se_gint1 T.i_MOST_LETTERS) sa_nil)) (alen_cons (alen_cons alen_nil))))) (sx_one (sx_raise R_InvalidLetters (hr.mono (by decide)) (takes_of rfl rfl rfl rfl) (sa_cons (se_var (pv 1)) sa_nil) (alen_cons alen_nil))) sx_nil)))
/-! ### windows_of: 0 row, 1 many, 2 low, 3 high -/
noncomputable def b_windows_of : SM :=
  (sSeq (sSet 1 (eBu lenD (aCons (eVar 0) aNil)))
    (sRet (eFz (lComp2 [2, 3] (rng1 (aCons (eVar 1) aNil)) (tgName 2) bYes (rng2 (aCons (eBin opAdd (eVar 2) (eC (.int 1))) (aCons (eBin opAdd (eVar 1) (eC (.int 1))) aNil))) [3] (tgName 3) bYes (eTup (aCons (eBin opSub (eVar 3) (eVar 2)) (aCons (eVar 2) aNil)))))))
noncomputable def m_windows_of : List D → Sto → Out D := fnM 4 b_windows_of
theorem sc_windows_of : FnScope ["row", "many", "low", "high"] ["row"] (defScope (top 12)) := ⟨rfl, rfl, rfl, by decide +kernel, rfl, by decide +kernel, by decide +kernel⟩
theorem ok_windows_of (T : Txt K mg) (FX : ∃ f fd, mg "windows_of" = some (.ref f) ∧ Fun K "windows_of" "windows_of" (top 12) f fd)  : DefOk P w K mg base 1 "windows_of" (top 12) ["row"] m_windows_of := by
  obtain ⟨f, fd, hm, Fu⟩ := FX
  have S := sc_windows_of
  refine ⟨f, fd, hm, Fu, fnOk_of (k := 0) Fu S fun cdv A outer s H E φ hr => ?_⟩
  exact (sx_cons (sx_set (i := 1) S.nd (se_cl (pe_callB cs_len rfl T.b_len bt_len (sa_cons (se_var (pv 0)) sa_nil))))
    (sx_one (sx_ret (sf_fz (sf_lc2 (own := [("low", 2), ("high", 3)]) (vs1 := [3]) S.nd (si_range1 (sa_cons (se_var (pv 1)) sa_nil) T.b_range) (blkOk_by (by kernel_rfl)) (by decide) (fun _ _ _ _ _ => (sg_name (vs := [2, 3]) (pg_name (i := 2) S.nd rfl (by first | exact Or.inl rfl | exact Or.inr rfl)) (by decide))) (fun _ _ _ _ _ => sps_nil) (fun _ _ _ _ _ => (si_range2 (sa_cons (se_bin os_add (se_var (pv 2)) se_int) (sa_cons (se_bin os_add (se_var (pv 1)) se_int) sa_nil)) T.b_range)) (fun _ _ _ _ _ => (sg_name (vs := [3]) (pg_name (i := 3) S.nd rfl (by first | exact Or.inl rfl | exact Or.inr rfl)) (by decide))) (fun _ _ _ _ _ => sps_nil) (fun _ _ _ _ _ => (se_tup (sa_cons (se_bin os_sub1 (se_var (pv 3)) (se_var (pv 2))) (sa_cons (se_var (pv 2)) sa_nil)) (alen_cons (alen_cons alen_nil)))))))))
/-! ### has_all: 0 row, 1 letters, 2 letter -/
noncomputable def b_has_all : SM :=
  (sRet (eBu allD (aCons (eFz (lComp [2] (itS (eVar 1)) (tgName 2) bYes (eBin opGe (eMt "str" cntG (eVar 0) (aCons (eVar 2) aNil)) (eMt "str" cntG (eVar 1) (aCons (eVar 2) aNil))))) aNil)))
noncomputable def m_has_all : List D → Sto → Out D := fnM 3 b_has_all
theorem sc_has_all : FnScope ["row", "letters", "letter"] ["row", "letters"] (defScope (top 13)) := ⟨rfl, rfl, rfl, by decide +kernel, rfl, by decide +kernel, by decide +kernel⟩
theorem ok_has_all (T : Txt K mg) (FX : ∃ f fd, mg "has_all" = some (.ref f) ∧ Fun K "has_all" "has_all" (top 13) f fd)  : DefOk P w K mg base 1 "has_all" (top 13) ["row", "letters"] m_has_all := by
  obtain ⟨f, fd, hm, Fu⟩ := FX
  have S := sc_has_all
  refine ⟨f, fd, hm, Fu, fnOk_of (k := 0) Fu S fun cdv A outer s H E φ hr => ?_⟩
  exact (sx_one (sx_ret (se_cl (pe_callB (cs_all rfl) rfl T.b_all bt_all (sa_cons (sf_bor (sf_lc (own := [("letter", 2)]) S.nd (si_val (se_var (pv 1))) (blkOk_by (by kernel_rfl)) (fun _ _ _ _ _ => (sg_name (vs := [2]) (pg_name (i := 2) S.nd rfl (by first | exact Or.inl rfl | exact Or.inr rfl)) (by decide))) (fun _ _ _ _ _ => sps_nil) (fun _ _ _ _ _ => (se_cmp (os_ge) (se_mt PySem.F.plainAttrs_str PySem.F.slot_str_count PySem.F.type_str_count mt_cntS (se_var (pv 0)) (sa_cons (se_var (pv 2)) sa_nil)) (se_mt PySem.F.plainAttrs_str PySem.F.slot_str_count PySem.F.type_str_count mt_cntS (se_var (pv 1)) (sa_cons (se_var (pv 2)) sa_nil)) (nomark _))))) sa_nil)))))
/-! ### least_window: 0 row, 1 letters, 2 found, 3 length, 4 low -/
noncomputable def b_least_window : SM :=
  (sSeq (sExpr (eCall m_check_both (aCons (eVar 0) (aCons (eVar 1) aNil))))
    (sSeq (sIf (tB1 (eBin opEq (eVar 1) (eC (.str "")))) (sRet (eTup (aCons (eC (.int 0)) (aCons (eC (.int 0)) aNil)))) sNil)
    (sSeq (sSetF 2 (lComp [3, 4] (itS (eCall m_windows_of (aCons (eVar 0) aNil))) (tgTup 2 (tgCons (tgName 3) (tgCons (tgName 4) tgNil))) (tB1 (eCall m_has_all (aCons (eSl (eVar 0) (oSo (eVar 4)) (oSo (eBin opAdd (eVar 4) (eVar 3)))) (aCons (eVar 1) aNil)))) (eTup (aCons (eVar 3) (aCons (eVar 4) aNil)))))
    (sFrz 2 (sRet (eIf (tB1 (eBin opNe (eVar 2) (eFz aNil))) (eBu minDD (aCons (eVar 2) aNil)) (eC .non)))))))
noncomputable def m_least_window : List D → Sto → Out D := fnM 5 b_least_window
theorem sc_least_window : FnScope ["row", "letters", "found", "length", "low"] ["row", "letters"] (defScope (top 14)) := ⟨rfl, rfl, rfl, by decide +kernel, rfl, by decide +kernel, by decide +kernel⟩
theorem ok_least_window (T : Txt K mg) (FX : ∃ f fd, mg "least_window" = some (.ref f) ∧ Fun K "least_window" "least_window" (top 14) f fd) (G_check_both : FnD P w K mg base 4 "check_both" 2 m_check_both) (G_windows_of : FnD P w K mg base 1 "windows_of" 1 m_windows_of) (G_has_all : FnD P w K mg base 1 "has_all" 2 m_has_all) : DefOk P w K mg base 5 "least_window" (top 14) ["row", "letters"] m_least_window := by
  obtain ⟨f, fd, hm, Fu⟩ := FX
  have S := sc_least_window
  refine ⟨f, fd, hm, Fu, fnOk_of (k := 4) Fu S fun cdv A outer s H E φ hr => ?_⟩
  exact (sx_cons (sx_expr (se_call G_check_both (hr.mono (by decide)) (takes_of rfl rfl rfl rfl) (sa_cons (se_var (pv 0)) (sa_cons (se_var (pv 1)) sa_nil)) (alen_cons (alen_cons alen_nil))))
    (sx_cons (sx_if (sc_cmp (os_eq (hu64 hr)) (se_var (pv 1)) se_str (nomark _)) (sx_one (sx_ret (se_tup (sa_cons se_int (sa_cons se_int sa_nil)) (alen_cons (alen_cons alen_nil))))) sx_nil)
    (sx_cons (sx_setLc (i := 2) (own := [("length", 3), ("low", 4)]) S.nd (si_val (se_call G_windows_of (hr.mono (by decide)) (takes_of rfl rfl rfl rfl) (sa_cons (se_var (pv 0)) sa_nil) (alen_cons alen_nil))) (blkOk_by (by kernel_rfl)) (fun _ _ _ _ _ => (sg_tup rfl (sgs_cons (sg_name (vs := [3, 4]) (pg_name (i := 3) S.nd rfl (by first | exact Or.inl rfl | exact Or.inr rfl)) (by decide)) (sgs_cons (sg_name (vs := [3, 4]) (pg_name (i := 4) S.nd rfl (by first | exact Or.inl rfl | exact Or.inr rfl)) (by decide)) (sgs_nil (vs := [3, 4])))))) (fun _ _ _ _ _ => sps_one (sc_val (se_call G_has_all (hr.mono (by decide)) takes0 (sa_cons (se_sl (se_var (pv 0)) (so_so (se_var (pv 4))) (so_so (se_bin os_add (se_var (pv 4)) (se_var (pv 3))))) (sa_cons (se_var (pv 1)) sa_nil)) (alen_cons (alen_cons alen_nil))))) (fun _ _ _ _ _ => (se_tup (sa_cons (se_var (pv 3)) (sa_cons (se_var (pv 4)) sa_nil)) (alen_cons (alen_cons alen_nil)))) rfl)
    (sx_frz (sx_one (sx_ret (se_if (sc_cmp (os_ne (hu64 hr)) (se_var (pv 2)) (sf_bor (sf_lst sa_nil alen_nil)) (nomark _)) (se_cl (pe_callB (cs_minD rfl (hu64 hr)) rfl T.b_min bt_min (sa_cons (se_var (pv 2)) sa_nil))) se_non)))))))
/-! ### window_bar: 0 row, 1 letters, 2 found, 3 letter -/
noncomputable def b_window_bar : SM :=
  (sSeq (sExpr (eCall m_check_both (aCons (eVar 0) (aCons (eVar 1) aNil))))
    (sSeq (sSetF 2 (lComp [3] (itS (eC (.str "abcdef"))) (tgName 3) (tB1 (eBin opLt (eMt "str" cntG (eVar 0) (aCons (eVar 3) aNil)) (eMt "str" cntG (eVar 1) (aCons (eVar 3) aNil)))) (eVar 3)))
    (sFrz 2 (sRet (eIf (tB1 (eBin opNe (eVar 2) (eFz aNil))) (eBin opIx (eVar 2) (eC (.int 0))) (eC .non))))))
noncomputable def m_window_bar : List D → Sto → Out D := fnM 4 b_window_bar
theorem sc_window_bar : FnScope ["row", "letters", "found", "letter"] ["row", "letters"] (defScope (top 15)) := ⟨rfl, rfl, rfl, by decide +kernel, rfl, by decide +kernel, by decide +kernel⟩
theorem ok_window_bar (T : Txt K mg) (FX : ∃ f fd, mg "window_bar" = some (.ref f) ∧ Fun K "window_bar" "window_bar" (top 15) f fd) (G_check_both : FnD P w K mg base 4 "check_both" 2 m_check_both) : DefOk P w K mg base 5 "window_bar" (top 15) ["row", "letters"] m_window_bar := by
  obtain ⟨f, fd, hm, Fu⟩ := FX
  have S := sc_window_bar
  refine ⟨f, fd, hm, Fu, fnOk_of (k := 4) Fu S fun cdv A outer s H E φ hr => ?_⟩
  exact (sx_cons (sx_expr (se_call G_check_both (hr.mono (by decide)) (takes_of rfl rfl rfl rfl) (sa_cons (se_var (pv 0)) (sa_cons (se_var (pv 1)) sa_nil)) (alen_cons (alen_cons alen_nil))))
    (sx_cons (sx_setLc (i := 2) (own := [("letter", 3)]) S.nd (si_val (se_gstr1 T.s_LETTERS)) (blkOk_by (by kernel_rfl)) (fun _ _ _ _ _ => (sg_name (vs := [3]) (pg_name (i := 3) S.nd rfl (by first | exact Or.inl rfl | exact Or.inr rfl)) (by decide))) (fun _ _ _ _ _ => sps_one (sc_cmp (os_lt) (se_mt PySem.F.plainAttrs_str PySem.F.slot_str_count PySem.F.type_str_count mt_cntS (se_var (pv 0)) (sa_cons (se_var (pv 3)) sa_nil)) (se_mt PySem.F.plainAttrs_str PySem.F.slot_str_count PySem.F.type_str_count mt_cntS (se_var (pv 1)) (sa_cons (se_var (pv 3)) sa_nil)) (nomark _))) (fun _ _ _ _ _ => (se_var (pv 3))) rfl)
    (sx_frz (sx_one (sx_ret (se_if (sc_cmp (os_ne (hu64 hr)) (se_var (pv 2)) (sf_bor (sf_lst sa_nil alen_nil)) (nomark _)) (se_ix (se_var (pv 2)) se_int) se_non))))))
/-! ### _law_cell: 0 script, 1 k -/
noncomputable def b__law_cell : SM :=
  (sRet (eIf (tB1 (eBin opLt (eVar 1) (eBu lenD (aCons (eVar 0) aNil)))) (eBin opIx (eVar 0) (eVar 1)) (eBin opAdd (eBin opMul (eC (.int 7487)) (eVar 1)) (eBin opMod (eBu (fn1 intD) (aCons (eBu sumD (aCons (eSl (eVar 0) oNo (oSo (eC (.int 1)))) aNil)) aNil)) (eC (.int 1000003))))))
noncomputable def m__law_cell : List D → Sto → Out D := fnM 2 b__law_cell
theorem sc__law_cell : FnScope ["script", "k"] ["script", "k"] (defScope (top 17)) := ⟨rfl, rfl, rfl, by decide +kernel, rfl, by decide +kernel, by decide +kernel⟩
theorem ok__law_cell (T : Txt K mg) (FX : ∃ f fd, mg "_law_cell" = some (.ref f) ∧ Fun K "_law_cell" "_law_cell" (top 17) f fd)  : DefOk P w K mg base 1 "_law_cell" (top 17) ["script", "k"] m__law_cell := by
  obtain ⟨f, fd, hm, Fu⟩ := FX
  have S := sc__law_cell
  refine ⟨f, fd, hm, Fu, fnOk_of (k := 0) Fu S fun cdv A outer s H E φ hr => ?_⟩
  exact (sx_one (sx_ret (se_if (sc_cmp (os_lt) (se_var (pv 1)) (se_cl (pe_callB cs_len rfl T.b_len bt_len (sa_cons (se_var (pv 0)) sa_nil))) (nomark _)) (se_ix (se_var (pv 0)) (se_var (pv 1))) (se_bin os_add (se_bin os_mul se_int (se_var (pv 1))) (se_bin os_mod1 (se_cl (pe_callTy cs_int rfl T.b_int bt_int (sa_cons (se_cl (pe_callB (cs_sum rfl) rfl T.b_sum bt_sum (sa_cons (se_sl (se_var (pv 0)) so_no (so_so se_int)) sa_nil))) sa_nil))) se_int)))))
/-! ### _law_box: 0 great -/
noncomputable def b__law_box : SM :=
  (sRet (eCl (aCons (eBu (fn1 absD) (aCons (eVar 0) aNil)) (aCons (eBin opGe (eBu (fn1 absD) (aCons (eVar 0) aNil)) (eBin opPow (eC (.int 10)) (eC (.int 18)))) (aCons (eBin opMod (eBu (fn1 intD) (aCons (eBu (fn1 absD) (aCons (eVar 0) aNil)) aNil)) (eC (.int 2147483629))) (aCons (eC (.int 0)) aNil))))))
noncomputable def m__law_box : List D → Sto → Out D := fnM 1 b__law_box
theorem sc__law_box : FnScope ["great"] ["great"] (defScope (top 18)) := ⟨rfl, rfl, rfl, by decide +kernel, rfl, by decide +kernel, by decide +kernel⟩
theorem ok__law_box (T : Txt K mg) (FX : ∃ f fd, mg "_law_box" = some (.ref f) ∧ Fun K "_law_box" "_law_box" (top 18) f fd)  : DefOk P w K mg base 1 "_law_box" (top 18) ["great"] m__law_box := by
  obtain ⟨f, fd, hm, Fu⟩ := FX
  have S := sc__law_box
  refine ⟨f, fd, hm, Fu, fnOk_of (k := 0) Fu S fun cdv A outer s H E φ hr => ?_⟩
  exact (sx_one (sx_ret (sf_cell (sf_lst (sa_cons (se_cl (pe_callB cs_abs rfl T.b_abs bt_abs (sa_cons (se_var (pv 0)) sa_nil))) (sa_cons (se_cmp (os_ge) (se_cl (pe_callB cs_abs rfl T.b_abs bt_abs (sa_cons (se_var (pv 0)) sa_nil))) (se_bin os_pow1 se_int se_int) (nomark _)) (sa_cons (se_bin os_mod1 (se_cl (pe_callTy cs_int rfl T.b_int bt_int (sa_cons (se_cl (pe_callB cs_abs rfl T.b_abs bt_abs (sa_cons (se_var (pv 0)) sa_nil))) sa_nil))) se_int) (sa_cons se_int sa_nil)))) (alen_cons (alen_cons (alen_cons (alen_cons alen_nil))))))))
/-! ### _law_take: 0 box, 1 many, 2 mixed, 3 digit -/
noncomputable def b__law_take : SM :=
  (sSeq (sIf (bAnd (tB1 (eBin opIx (eVar 0) (eC (.int 1)))) (tB1 (eBin opGt (eBin opIx (eVar 0) (eC (.int 0))) (eC (.int 0))))) (sSeq (sSet 3 (eBin opMod (eBu (fn1 intD) (aCons (eBin opIx (eVar 0) (eC (.int 0))) aNil)) (eVar 1)))
    (sSeq (sSetI (eBin opDiv (eBin opIx (eVar 0) (eC (.int 0))) (eVar 1)) (eVar 0) (eC (.int 0)))
    (sRet (eVar 3)))) sNil)
    (sSeq (sSetI (eBin opAdd (eBin opIx (eVar 0) (eC (.int 3))) (eC (.int 1))) (eVar 0) (eC (.int 3)))
    (sSeq (sSet 2 (eBin opMod (eBu (fn1 intD) (aCons (eBin opPow (eBin opAdd (eBin opAdd (eBin opIx (eVar 0) (eC (.int 2))) (eBin opMul (eC (.int 15488863)) (eBin opIx (eVar 0) (eC (.int 3))))) (eC (.int 179432927))) (eC (.int 5))) aNil)) (eC (.int 2147483647))))
    (sRet (eBin opMod (eBu (fn1 intD) (aCons (eBin opDiv (eBin opMod (eBu (fn1 intD) (aCons (eBin opPow (eBin opAdd (eBin opMul (eVar 2) (eC (.int 48271))) (eBin opMul (eC (.int 105167)) (eBin opIx (eVar 0) (eC (.int 3))))) (eC (.int 3))) aNil)) (eC (.int 2147483587))) (eC (.int 64))) aNil)) (eVar 1))))))
noncomputable def m__law_take : List D → Sto → Out D := fnM 4 b__law_take
theorem sc__law_take : FnScope ["box", "many", "mixed", "digit"] ["box", "many"] (defScope (top 19)) := ⟨rfl, rfl, rfl, by decide +kernel, rfl, by decide +kernel, by decide +kernel⟩
theorem ok__law_take (T : Txt K mg) (FX : ∃ f fd, mg "_law_take" = some (.ref f) ∧ Fun K "_law_take" "_law_take" (top 19) f fd)  : DefOk P w K mg base 1 "_law_take" (top 19) ["box", "many"] m__law_take := by
  obtain ⟨f, fd, hm, Fu⟩ := FX
  have S := sc__law_take
  refine ⟨f, fd, hm, Fu, fnOk_of (k := 0) Fu S fun cdv A outer s H E φ hr => ?_⟩
  exact (sx_cons (sx_if (SW.c (sw_and (sc_val (se_ix (se_var (pv 0)) se_int)) (sw_and1 (sc_cmp (os_gt) (se_ix (se_var (pv 0)) se_int) se_int (nomark _))))) (sx_cons (sx_set (i := 3) S.nd (se_bin os_mod1 (se_cl (pe_callTy cs_int rfl T.b_int bt_int (sa_cons (se_ix (se_var (pv 0)) se_int) sa_nil))) (se_var (pv 1))))
    (sx_cons (sx_setI (se_bin os_div1 (se_ix (se_var (pv 0)) se_int) (se_var (pv 1))) (se_var (pv 0)) se_int)
    (sx_one (sx_ret (se_var (pv 3)))))) sx_nil)
    (sx_cons (sx_setI (se_bin os_add (se_ix (se_var (pv 0)) se_int) se_int) (se_var (pv 0)) se_int)
    (sx_cons (sx_set (i := 2) S.nd (se_bin os_mod1 (se_cl (pe_callTy cs_int rfl T.b_int bt_int (sa_cons (se_bin os_pow1 (se_bin os_add (se_bin os_add (se_ix (se_var (pv 0)) se_int) (se_bin os_mul se_int (se_ix (se_var (pv 0)) se_int))) se_int) se_int) sa_nil))) se_int))
    (sx_one (sx_ret (se_bin os_mod1 (se_cl (pe_callTy cs_int rfl T.b_int bt_int (sa_cons (se_bin os_div1 (se_bin os_mod1 (se_cl (pe_callTy cs_int rfl T.b_int bt_int (sa_cons (se_bin os_pow1 (se_bin os_add (se_bin os_mul (se_var (pv 2)) se_int) (se_bin os_mul se_int (se_ix (se_var (pv 0)) se_int))) se_int) sa_nil))) se_int) se_int) sa_nil))) (se_var (pv 1))))))))
/-! ### _law_same: 0 told, 1 due, 2 k, 3 key -/
noncomputable def b__law_same (rec : List D → Sto → Out D) : SM :=
  (sSeq (sIf (tB1 (eBin opIs (eVar 1) (eC .non))) (sRet (eBin opIs (eVar 0) (eC .non))) sNil)
    (sSeq (sIf (tB1 (eBu isiD (aCons (eVar 1) (aCons (eC (.ty "bool")) aNil)))) (sRet (eAnd (eBu isiD (aCons (eVar 0) (aCons (eC (.ty "bool")) aNil))) (eBin opEq (eBin opIs (eVar 0) (eC (.bl true))) (eBin opIs (eVar 1) (eC (.bl true)))))) sNil)
    (sSeq (sIf (tB1 (eBu isiD (aCons (eVar 1) (aCons (eC (.ty "int")) aNil)))) (sRet (eAnd (eBu isiD (aCons (eVar 0) (aCons (eC (.ty "int")) aNil))) (eAnd (eNot (eBu isiD (aCons (eVar 0) (aCons (eC (.ty "bool")) aNil)))) (eBin opEq (eBin opSub (eBu (fn1 intD) (aCons (eVar 0) aNil)) (eVar 1)) (eC (.int 0)))))) sNil)
    (sSeq (sIf (tB1 (eBu isiD (aCons (eVar 1) (aCons (eC (.ty "str")) aNil)))) (sRet (eAnd (eBu isiD (aCons (eVar 0) (aCons (eC (.ty "str")) aNil))) (eAnd (eBin opEq (eBu lenA (aCons (eVar 0) aNil)) (eBu lenA (aCons (eVar 1) aNil))) (eBin opEq (eFz (lComp [2] (rng1 (aCons (eBu lenA (aCons (eVar 1) aNil)) aNil)) (tgName 2) (tB1 (eBin opNe (eSl (eVar 0) (oSo (eVar 2)) (oSo (eBin opAdd (eVar 2) (eC (.int 1))))) (eBin opIx (eVar 1) (eVar 2)))) (eVar 2))) (eFz aNil))))) sNil)
    (sSeq (sIf (tB1 (eBu isiD (aCons (eVar 1) (aCons (eC (.ty "dict")) aNil)))) (sRet (eAnd (eBu isiD (aCons (eVar 0) (aCons (eC (.ty "dict")) aNil))) (eAnd (eBin opEq (eBu lenA (aCons (eVar 0) aNil)) (eBu lenA (aCons (eVar 1) aNil))) (eBin opEq (eFz (lComp [3] (itKeys (eVar 1)) (tgName 3) (bOr (tB1 (eBin (opDi true) (eVar 3) (eVar 0))) (bNot (tB1 (eCall rec (aCons (eBin opDg (eVar 0) (eVar 3)) (aCons (eBin opDg (eVar 1) (eVar 3)) aNil)))))) (eVar 3))) (eFz aNil))))) sNil)
    (sSeq (sIf (bOr (bNot (tB1 (eBu isiD (aCons (eVar 1) (aCons (eTup (aCons (eC (.ty "list")) (aCons (eC (.ty "tuple")) aNil))) aNil))))) (bNot (tB1 (eBu isiD (aCons (eVar 0) (aCons (eTup (aCons (eC (.ty "list")) (aCons (eC (.ty "tuple")) aNil))) aNil)))))) (sRet (eC (.bl false))) sNil)
    (sSeq (sIf (bOr (tB1 (eBin opNe (eBu isiD (aCons (eVar 0) (aCons (eC (.ty "list")) aNil))) (eBu isiD (aCons (eVar 1) (aCons (eC (.ty "list")) aNil))))) (tB1 (eBin opNe (eBu lenA (aCons (eVar 0) aNil)) (eBu lenA (aCons (eVar 1) aNil))))) (sRet (eC (.bl false))) sNil)
    (sRet (eBin opEq (eFz (lComp [2] (rng1 (aCons (eBu lenA (aCons (eVar 1) aNil)) aNil)) (tgName 2) (bNot (tB1 (eCall rec (aCons (eBin opIx (eVar 0) (eVar 2)) (aCons (eBin opIx (eVar 1) (eVar 2)) aNil))))) (eVar 2))) (eFz aNil))))))))))
noncomputable def m__law_same : Nat → List D → Sto → Out D
  | 0 => fnBot
  | n + 1 => fnM 4 (b__law_same (m__law_same n))
theorem sc__law_same : FnScope ["told", "due", "k", "key"] ["told", "due"] (defScope (top 20)) := ⟨rfl, rfl, rfl, by decide +kernel, rfl, by decide +kernel, by decide +kernel⟩
theorem ok__law_same (T : Txt K mg) (FX : ∃ f fd, mg "_law_same" = some (.ref f) ∧ Fun K "_law_same" "_law_same" (top 20) f fd)  (hb : ∀ k m, DefOk P w K mg base k "_law_same" (top 20) ["told", "due"] m → FnD P w K mg base k "_law_same" 2 m) : ∀ n : Nat, DefOk P w K mg base (1 + n) "_law_same" (top 20) ["told", "due"] (m__law_same n)
  | 0 => by
    obtain ⟨f, fd, hm, Fu⟩ := FX
    exact ⟨f, fd, hm, Fu, (fnOk_bot rfl).mono (by omega)⟩
  | n + 1 => by
    have G__law_same := hb _ _ (ok__law_same T FX  hb n)
    obtain ⟨f, fd, hm, Fu⟩ := FX
    have S := sc__law_same
    refine ⟨f, fd, hm, Fu, fnOk_of (k := 1 + n) Fu S fun cdv A outer s H E φ hr => ?_⟩
    exact (sx_cons (sx_if (sc_cmp (os_is) (se_var (pv 1)) se_non (nomark _)) (sx_one (sx_ret (se_cmp (os_is) (se_var (pv 0)) se_non (nomark _)))) sx_nil)
    (sx_cons (sx_if (sc_val (se_cl (pe_callB cs_isi rfl T.b_isinstance bt_isinstance (sa_cons (se_var (pv 1)) (sa_cons (se_ty T.b_bool bt_bool) sa_nil))))) (sx_one (sx_ret (se_and (se_cl (pe_callB cs_isi rfl T.b_isinstance bt_isinstance (sa_cons (se_var (pv 0)) (sa_cons (se_ty T.b_bool bt_bool) sa_nil)))) (se_one (se_cmp (os_eq (hu64 hr)) (se_cmp (os_is) (se_var (pv 0)) se_bl (nomark _)) (se_cmp (os_is) (se_var (pv 1)) se_bl (nomark _)) (nomark _)))))) sx_nil)
    (sx_cons (sx_if (sc_val (se_cl (pe_callB cs_isi rfl T.b_isinstance bt_isinstance (sa_cons (se_var (pv 1)) (sa_cons (se_ty T.b_int bt_int) sa_nil))))) (sx_one (sx_ret (se_and (se_cl (pe_callB cs_isi rfl T.b_isinstance bt_isinstance (sa_cons (se_var (pv 0)) (sa_cons (se_ty T.b_int bt_int) sa_nil)))) (se_and (se_not (se_cl (pe_callB cs_isi rfl T.b_isinstance bt_isinstance (sa_cons (se_var (pv 0)) (sa_cons (se_ty T.b_bool bt_bool) sa_nil))))) (se_one (se_cmp (os_eq (hu64 hr)) (se_bin os_sub1 (se_cl (pe_callTy cs_int rfl T.b_int bt_int (sa_cons (se_var (pv 0)) sa_nil))) (se_var (pv 1))) se_int (nomark _))))))) sx_nil)
    (sx_cons (sx_if (sc_val (se_cl (pe_callB cs_isi rfl T.b_isinstance bt_isinstance (sa_cons (se_var (pv 1)) (sa_cons (se_ty T.b_str bt_str) sa_nil))))) (sx_one (sx_ret (se_and (se_cl (pe_callB cs_isi rfl T.b_isinstance bt_isinstance (sa_cons (se_var (pv 0)) (sa_cons (se_ty T.b_str bt_str) sa_nil)))) (se_and (se_cmp (os_eq (hu64 hr)) (se_cl (pe_callB cs_lenA rfl T.b_len bt_len (sa_cons (se_var (pv 0)) sa_nil))) (se_cl (pe_callB cs_lenA rfl T.b_len bt_len (sa_cons (se_var (pv 1)) sa_nil))) (nomark _)) (se_one (se_cmp (os_eq (hu64 hr)) (sf_bor (sf_lc (own := [("k", 2)]) S.nd (si_range1 (sa_cons (se_cl (pe_callB cs_lenA rfl T.b_len bt_len (sa_cons (se_var (pv 1)) sa_nil))) sa_nil) T.b_range) (blkOk_by (by kernel_rfl)) (fun _ _ _ _ _ => (sg_name (vs := [2]) (pg_name (i := 2) S.nd rfl (by first | exact Or.inl rfl | exact Or.inr rfl)) (by decide))) (fun _ _ _ _ _ => sps_one (sc_cmp (os_ne (hu64 hr)) (se_sl (se_var (pv 0)) (so_so (se_var (pv 2))) (so_so (se_bin os_add (se_var (pv 2)) se_int))) (se_ix (se_var (pv 1)) (se_var (pv 2))) (nomark _))) (fun _ _ _ _ _ => (se_var (pv 2))))) (sf_bor (sf_lst sa_nil alen_nil)) (nomark _))))))) sx_nil)
    (sx_cons (sx_if (sc_val (se_cl (pe_callB cs_isi rfl T.b_isinstance bt_isinstance (sa_cons (se_var (pv 1)) (sa_cons (se_ty T.b_dict bt_dict) sa_nil))))) (sx_one (sx_ret (se_and (se_cl (pe_callB cs_isi rfl T.b_isinstance bt_isinstance (sa_cons (se_var (pv 0)) (sa_cons (se_ty T.b_dict bt_dict) sa_nil)))) (se_and (se_cmp (os_eq (hu64 hr)) (se_cl (pe_callB cs_lenA rfl T.b_len bt_len (sa_cons (se_var (pv 0)) sa_nil))) (se_cl (pe_callB cs_lenA rfl T.b_len bt_len (sa_cons (se_var (pv 1)) sa_nil))) (nomark _)) (se_one (se_cmp (os_eq (hu64 hr)) (sf_bor (sf_lc (own := [("key", 3)]) S.nd (si_keys (se_var (pv 1))) (blkOk_by (by kernel_rfl)) (fun _ _ _ _ _ => (sg_name (vs := [3]) (pg_name (i := 3) S.nd rfl (by first | exact Or.inl rfl | exact Or.inr rfl)) (by decide))) (fun _ _ _ _ _ => sps_one (SW.c (sw_or (sc_dnotin (hu_of hr) (se_var (pv 3)) (se_var (pv 0))) (sw_or1 (sc_not (sc_val (se_call G__law_same (hr.mono (by omega)) takes0 (sa_cons (se_dg (hu_of hr) (se_var (pv 0)) (se_var (pv 3))) (sa_cons (se_dg (hu_of hr) (se_var (pv 1)) (se_var (pv 3))) sa_nil)) (alen_cons (alen_cons alen_nil))))))))) (fun _ _ _ _ _ => (se_var (pv 3))))) (sf_bor (sf_lst sa_nil alen_nil)) (nomark _))))))) sx_nil)
    (sx_cons (sx_if (SW.c (sw_or (sc_not (sc_val (se_cl (pe_callB cs_isi rfl T.b_isinstance bt_isinstance (sa_cons (se_var (pv 1)) (sa_cons (se_tup (sa_cons (se_ty T.b_list bt_list) (sa_cons (se_ty T.b_tuple bt_tuple) sa_nil)) (alen_cons (alen_cons alen_nil))) sa_nil)))))) (sw_or1 (sc_not (sc_val (se_cl (pe_callB cs_isi rfl T.b_isinstance bt_isinstance (sa_cons (se_var (pv 0)) (sa_cons (se_tup (sa_cons (se_ty T.b_list bt_list) (sa_cons (se_ty T.b_tuple bt_tuple) sa_nil)) (alen_cons (alen_cons alen_nil))) sa_nil))))))))) (sx_one (sx_ret se_bl)) sx_nil)
    (sx_cons (sx_if (SW.c (sw_or (sc_cmp (os_ne (hu64 hr)) (se_cl (pe_callB cs_isi rfl T.b_isinstance bt_isinstance (sa_cons (se_var (pv 0)) (sa_cons (se_ty T.b_list bt_list) sa_nil)))) (se_cl (pe_callB cs_isi rfl T.b_isinstance bt_isinstance (sa_cons (se_var (pv 1)) (sa_cons (se_ty T.b_list bt_list) sa_nil)))) (nomark _)) (sw_or1 (sc_cmp (os_ne (hu64 hr)) (se_cl (pe_callB cs_lenA rfl T.b_len bt_len (sa_cons (se_var (pv 0)) sa_nil))) (se_cl (pe_callB cs_lenA rfl T.b_len bt_len (sa_cons (se_var (pv 1)) sa_nil))) (nomark _))))) (sx_one (sx_ret se_bl)) sx_nil)
    (sx_one (sx_ret (se_cmp (os_eq (hu64 hr)) (sf_bor (sf_lc (own := [("k", 2)]) S.nd (si_range1 (sa_cons (se_cl (pe_callB cs_lenA rfl T.b_len bt_len (sa_cons (se_var (pv 1)) sa_nil))) sa_nil) T.b_range) (blkOk_by (by kernel_rfl)) (fun _ _ _ _ _ => (sg_name (vs := [2]) (pg_name (i := 2) S.nd rfl (by first | exact Or.inl rfl | exact Or.inr rfl)) (by decide))) (fun _ _ _ _ _ => sps_one (sc_not (sc_val (se_call G__law_same (hr.mono (by omega)) takes0 (sa_cons (se_ix (se_var (pv 0)) (se_var (pv 2))) (sa_cons (se_ix (se_var (pv 1)) (se_var (pv 2))) sa_nil)) (alen_cons (alen_cons alen_nil)))))) (fun _ _ _ _ _ => (se_var (pv 2))))) (sf_bor (sf_lst sa_nil alen_nil)) (nomark _)))))))))))
/-! ### _law_copy: 0 value -/
noncomputable def b__law_copy : SM :=
  (sRet (eIf (tB1 (eBu isiD (aCons (eVar 0) (aCons (eC (.ty "list")) aNil)))) (eCl (lBu listDA (aCons (eVar 0) aNil))) (eVar 0)))
noncomputable def m__law_copy : List D → Sto → Out D := fnM 1 b__law_copy
theorem sc__law_copy : FnScope ["value"] ["value"] (defScope (top 21)) := ⟨rfl, rfl, rfl, by decide +kernel, rfl, by decide +kernel, by decide +kernel⟩
theorem ok__law_copy (T : Txt K mg) (FX : ∃ f fd, mg "_law_copy" = some (.ref f) ∧ Fun K "_law_copy" "_law_copy" (top 21) f fd)  : DefOk P w K mg base 1 "_law_copy" (top 21) ["value"] m__law_copy := by
  obtain ⟨f, fd, hm, Fu⟩ := FX
  have S := sc__law_copy
  refine ⟨f, fd, hm, Fu, fnOk_of (k := 0) Fu S fun cdv A outer s H E φ hr => ?_⟩
  exact (sx_one (sx_ret (se_if (sc_val (se_cl (pe_callB cs_isi rfl T.b_isinstance bt_isinstance (sa_cons (se_var (pv 0)) (sa_cons (se_ty T.b_list bt_list) sa_nil))))) (sf_cell (sf_cl (pe_callTy (cf_listA rfl) rfl T.b_list bt_list (sa_cons (se_var (pv 0)) sa_nil)))) (se_var (pv 0)))))
/-! ### _law_blamed: 0 given, 1 value -/
noncomputable def b__law_blamed : SM :=
  (sSeq (sIf (bNot (tB1 (eCall (m__law_same 6) (aCons (eVar 0) (aCons (eVar 1) aNil))))) (sRet (eC (.bl false))) sNil)
    (sSeq (sIf (tB1 (eBu isiD (aCons (eVar 1) (aCons (eC (.ty "list")) aNil)))) (sExpr (eMt "list" apG (eVar 1) (aCons (eC (.int 7)) aNil))) sNil)
    (sRet (eCall (m__law_same 6) (aCons (eVar 0) (aCons (eVar 1) aNil))))))
noncomputable def m__law_blamed : List D → Sto → Out D := fnM 2 b__law_blamed
theorem sc__law_blamed : FnScope ["given", "value"] ["given", "value"] (defScope (top 22)) := ⟨rfl, rfl, rfl, by decide +kernel, rfl, by decide +kernel, by decide +kernel⟩
theorem ok__law_blamed (T : Txt K mg) (FX : ∃ f fd, mg "_law_blamed" = some (.ref f) ∧ Fun K "_law_blamed" "_law_blamed" (top 22) f fd) (G__law_same : FnD P w K mg base 7 "_law_same" 2 (m__law_same 6)) : DefOk P w K mg base 8 "_law_blamed" (top 22) ["given", "value"] m__law_blamed := by
  obtain ⟨f, fd, hm, Fu⟩ := FX
  have S := sc__law_blamed
  refine ⟨f, fd, hm, Fu, fnOk_of (k := 7) Fu S fun cdv A outer s H E φ hr => ?_⟩
  exact (sx_cons (sx_if (sc_not (sc_val (se_call G__law_same (hr.mono (by decide)) (takes_of rfl rfl rfl rfl) (sa_cons (se_var (pv 0)) (sa_cons (se_var (pv 1)) sa_nil)) (alen_cons (alen_cons alen_nil))))) (sx_one (sx_ret se_bl)) sx_nil)
    (sx_cons (sx_if (sc_val (se_cl (pe_callB cs_isi rfl T.b_isinstance bt_isinstance (sa_cons (se_var (pv 1)) (sa_cons (se_ty T.b_list bt_list) sa_nil))))) (sx_one (sx_expr (se_mt PySem.F.plainAttrs_list PySem.F.slot_list_append PySem.F.type_list_append mt_apS (se_var (pv 1)) (sa_cons se_int sa_nil)))) sx_nil)
    (sx_one (sx_ret (se_call G__law_same (hr.mono (by decide)) (takes_of rfl rfl rfl rfl) (sa_cons (se_var (pv 0)) (sa_cons (se_var (pv 1)) sa_nil)) (alen_cons (alen_cons alen_nil)))))))
/-! ### _law_letters: 0 box, 1 most, 2 kinds, 3 length, 4 way, 5 found, 6 letter -/
noncomputable def b__law_letters : SM :=
  (sSeq (sPar [2, 3] (pVal (eBin opAdd (eC (.int 1)) (eCall m__law_take (aCons (eVar 0) (aCons (eC (.int 6)) aNil)))) (pVal (eBin opIx (eFz (aCons (eCall m__law_take (aCons (eVar 0) (aCons (eC (.int 9)) aNil))) (aCons (eCall m__law_take (aCons (eVar 0) (aCons (eBin opAdd (eVar 1) (eC (.int 1))) aNil))) (aCons (eVar 1) aNil)))) (eCall m__law_take (aCons (eVar 0) (aCons (eC (.int 3)) aNil)))) pNil)))
    (sSeq (sPar [3, 4, 5] (pVal (eBu minD2 (aCons (eVar 3) (aCons (eVar 1) aNil))) (pVal (eCall m__law_take (aCons (eVar 0) (aCons (eC (.int 3)) aNil))) (pVal (eC (.str "")) pNil))))
    (sSeq (sWhile (tB1 (eBin opLt (eBu lenD (aCons (eVar 5) aNil)) (eVar 3)))
    (sSeq (sSet 6 (eBin opIx (eC (.str "abcdef")) (eCall m__law_take (aCons (eVar 0) (aCons (eVar 2) aNil)))))
    (sSet 5 (eBin opAdd (eVar 5) (eIf (tB1 (eBin opGt (eVar 4) (eC (.int 0)))) (eVar 6) (eBin opMul (eVar 6) (eBin opAdd (eC (.int 1)) (eCall m__law_take (aCons (eVar 0) (aCons (eC (.int 4)) aNil))))))))))
    (sRet (eSl (eVar 5) oNo (oSo (eVar 3)))))))
noncomputable def m__law_letters : List D → Sto → Out D := fnM 7 b__law_letters
theorem sc__law_letters : FnScope ["box", "most", "kinds", "length", "way", "found", "letter"] ["box", "most"] (defScope (top 23)) := ⟨rfl, rfl, rfl, by decide +kernel, rfl, by decide +kernel, by decide +kernel⟩
theorem ok__law_letters (T : Txt K mg) (FX : ∃ f fd, mg "_law_letters" = some (.ref f) ∧ Fun K "_law_letters" "_law_letters" (top 23) f fd) (G__law_take : FnD P w K mg base 1 "_law_take" 2 m__law_take) : DefOk P w K mg base 2 "_law_letters" (top 23) ["box", "most"] m__law_letters := by
  obtain ⟨f, fd, hm, Fu⟩ := FX
  have S := sc__law_letters
  refine ⟨f, fd, hm, Fu, fnOk_of (k := 1) Fu S fun cdv A outer s H E φ hr => ?_⟩
  exact (sx_cons (sx_par2 (i := 2) (j := 3) rfl S.nd (spa_val (se_bin os_add se_int (se_call G__law_take (hr.mono (by decide)) (takes_of rfl rfl rfl rfl) (sa_cons (se_var (pv 0)) (sa_cons se_int sa_nil)) (alen_cons (alen_cons alen_nil)))) (spa_val (se_ix (sf_bor (sf_lst (sa_cons (se_call G__law_take (hr.mono (by decide)) (takes_of rfl rfl rfl rfl) (sa_cons (se_var (pv 0)) (sa_cons se_int sa_nil)) (alen_cons (alen_cons alen_nil))) (sa_cons (se_call G__law_take (hr.mono (by decide)) (takes_of rfl rfl rfl rfl) (sa_cons (se_var (pv 0)) (sa_cons (se_bin os_add (se_var (pv 1)) se_int) sa_nil)) (alen_cons (alen_cons alen_nil))) (sa_cons (se_var (pv 1)) sa_nil))) (alen_cons (alen_cons (alen_cons alen_nil))))) (se_call G__law_take (hr.mono (by decide)) (takes_of rfl rfl rfl rfl) (sa_cons (se_var (pv 0)) (sa_cons se_int sa_nil)) (alen_cons (alen_cons alen_nil)))) spa_nil)) (plen_val (plen_val plen_nil)))
    (sx_cons (sx_par3 (i := 3) (j := 4) (l := 5) rfl S.nd (spa_val (se_cl (pe_callB (cs_min2 rfl) rfl T.b_min bt_min (sa_cons (se_var (pv 3)) (sa_cons (se_var (pv 1)) sa_nil)))) (spa_val (se_call G__law_take (hr.mono (by decide)) (takes_of rfl rfl rfl rfl) (sa_cons (se_var (pv 0)) (sa_cons se_int sa_nil)) (alen_cons (alen_cons alen_nil))) (spa_val se_str spa_nil))) (plen_val (plen_val (plen_val plen_nil))))
    (sx_cons (sx_while (passes_of rfl) (sc_cmp (os_lt) (se_cl (pe_callB cs_len rfl T.b_len bt_len (sa_cons (se_var (pv 5)) sa_nil))) (se_var (pv 3)) (nomark _))
    (sx_cons (sx_set (i := 6) S.nd (se_ix se_str (se_call G__law_take (hr.mono (by decide)) (takes_of rfl rfl rfl rfl) (sa_cons (se_var (pv 0)) (sa_cons (se_var (pv 2)) sa_nil)) (alen_cons (alen_cons alen_nil)))))
    (sx_one (sx_set (i := 5) S.nd (se_bin os_add (se_var (pv 5)) (se_if (sc_cmp (os_gt) (se_var (pv 4)) se_int (nomark _)) (se_var (pv 6)) (se_bin os_mul (se_var (pv 6)) (se_bin os_add se_int (se_call G__law_take (hr.mono (by decide)) (takes_of rfl rfl rfl rfl) (sa_cons (se_var (pv 0)) (sa_cons se_int sa_nil)) (alen_cons (alen_cons alen_nil)))))))))))
    (sx_one (sx_ret (se_sl (se_var (pv 5)) so_no (so_so (se_var (pv 3)))))))))
/-! ### _law_no_row: 0 box -/
noncomputable def b__law_no_row : SM :=
  (sRet (eBin opIx (eFz (aCons (eC .non) (aCons (eC (.int 7)) (aCons (eFz (aCons (eC (.str "a")) aNil)) (aCons (eTup (aCons (eC (.str "a")) aNil)) (aCons (eC (.str "abg")) (aCons (eC (.str "A")) (aCons (eC (.str "a b")) (aCons (eBin opMul (eC (.str "a")) (eC (.int 61))) (aCons (eDct1 "a" (eC (.int 1))) (aCons (eC (.bl true)) (aCons (eC (.str "ab\n")) aNil)))))))))))) (eCall m__law_take (aCons (eVar 0) (aCons (eC (.int 11)) aNil)))))
noncomputable def m__law_no_row : List D → Sto → Out D := fnM 1 b__law_no_row
theorem sc__law_no_row : FnScope ["box"] ["box"] (defScope (top 24)) := ⟨rfl, rfl, rfl, by decide +kernel, rfl, by decide +kernel, by decide +kernel⟩
theorem ok__law_no_row (T : Txt K mg) (FX : ∃ f fd, mg "_law_no_row" = some (.ref f) ∧ Fun K "_law_no_row" "_law_no_row" (top 24) f fd) (G__law_take : FnD P w K mg base 1 "_law_take" 2 m__law_take) : DefOk P w K mg base 2 "_law_no_row" (top 24) ["box"] m__law_no_row := by
  obtain ⟨f, fd, hm, Fu⟩ := FX
  have S := sc__law_no_row
  refine ⟨f, fd, hm, Fu, fnOk_of (k := 1) Fu S fun cdv A outer s H E φ hr => ?_⟩
  exact (sx_one (sx_ret (se_ix (sf_bor (sf_lst (sa_cons se_non (sa_cons se_int (sa_cons (sf_fz (sf_lst (sa_cons se_str sa_nil) (alen_cons alen_nil))) (sa_cons (se_tup (sa_cons se_str sa_nil) (alen_cons alen_nil)) (sa_cons se_str (sa_cons se_str (sa_cons se_str (sa_cons (se_bin os_mul se_str se_int) (sa_cons (se_dct1 se_int) (sa_cons se_bl (sa_cons se_str sa_nil))))))))))) (alen_cons (alen_cons (alen_cons (alen_cons (alen_cons (alen_cons (alen_cons (alen_cons (alen_cons (alen_cons (alen_cons alen_nil))))))))))))) (se_call G__law_take (hr.mono (by decide)) (takes_of rfl rfl rfl rfl) (sa_cons (se_var (pv 0)) (sa_cons se_int sa_nil)) (alen_cons (alen_cons alen_nil))))))
/-! ### _law_wanted: 0 box, 1 row, 2 found, 3 mixed, 4 way, 5 low, 6 turn -/
noncomputable def b__law_wanted : SM :=
  (sSeq (sPar [4, 5] (pVal (eCall m__law_take (aCons (eVar 0) (aCons (eC (.int 4)) aNil))) (pVal (eCall m__law_take (aCons (eVar 0) (aCons (eBin opAdd (eBu lenD (aCons (eVar 1) aNil)) (eC (.int 1))) aNil))) pNil)))
    (sSeq (sSet 2 (eSl (eVar 1) (oSo (eVar 5)) (oSo (eBin opAdd (eVar 5) (eCall m__law_take (aCons (eVar 0) (aCons (eC (.int 13)) aNil)))))))
    (sSeq (sIf (tB1 (eBin opEq (eVar 4) (eC (.int 0)))) (sSet 2 (eMt "str" joinG (eC (.str "")) (aCons (eFz (lComp [6] (rng1 (aCons (eCall m__law_take (aCons (eVar 0) (aCons (eC (.int 7)) aNil))) aNil)) (tgName 6) bYes (eBin opIx (eC (.str "abcdef")) (eCall m__law_take (aCons (eVar 0) (aCons (eC (.int 6)) aNil)))))) aNil))) sNil)
    (sSeq (sIf (bAnd (tB1 (eBin opEq (eVar 4) (eC (.int 1)))) (tB1 (eBin opLt (eBu lenD (aCons (eVar 2) aNil)) (eC (.int 12))))) (sSet 2 (eBin opAdd (eVar 2) (eBin opIx (eC (.str "abcdef")) (eCall m__law_take (aCons (eVar 0) (aCons (eC (.int 6)) aNil)))))) sNil)
    (sSeq (sSet 3 (eCl (lBu listDA (aCons (eVar 2) aNil))))
    (sRet (eMt "str" joinG (eC (.str "")) (aCons (eFz (lComp [6] (rng1 (aCons (eBu lenD (aCons (eVar 2) aNil)) aNil)) (tgName 6) bYes (eMt "list" popG (eVar 3) (aCons (eCall m__law_take (aCons (eVar 0) (aCons (eBu lenD (aCons (eVar 3) aNil)) aNil))) aNil)))) aNil))))))))
noncomputable def m__law_wanted : List D → Sto → Out D := fnM 7 b__law_wanted
theorem sc__law_wanted : FnScope ["box", "row", "found", "mixed", "way", "low", "turn"] ["box", "row"] (defScope (top 25)) := ⟨rfl, rfl, rfl, by decide +kernel, rfl, by decide +kernel, by decide +kernel⟩
theorem ok__law_wanted (T : Txt K mg) (FX : ∃ f fd, mg "_law_wanted" = some (.ref f) ∧ Fun K "_law_wanted" "_law_wanted" (top 25) f fd) (G__law_take : FnD P w K mg base 1 "_law_take" 2 m__law_take) : DefOk P w K mg base 2 "_law_wanted" (top 25) ["box", "row"] m__law_wanted := by
  obtain ⟨f, fd, hm, Fu⟩ := FX
  have S := sc__law_wanted
  refine ⟨f, fd, hm, Fu, fnOk_of (k := 1) Fu S fun cdv A outer s H E φ hr => ?_⟩
  exact (sx_cons (sx_par2 (i := 4) (j := 5) rfl S.nd (spa_val (se_call G__law_take (hr.mono (by decide)) (takes_of rfl rfl rfl rfl) (sa_cons (se_var (pv 0)) (sa_cons se_int sa_nil)) (alen_cons (alen_cons alen_nil))) (spa_val (se_call G__law_take (hr.mono (by decide)) (takes_of rfl rfl rfl rfl) (sa_cons (se_var (pv 0)) (sa_cons (se_bin os_add (se_cl (pe_callB cs_len rfl T.b_len bt_len (sa_cons (se_var (pv 1)) sa_nil))) se_int) sa_nil)) (alen_cons (alen_cons alen_nil))) spa_nil)) (plen_val (plen_val plen_nil)))
    (sx_cons (sx_set (i := 2) S.nd (se_sl (se_var (pv 1)) (so_so (se_var (pv 5))) (so_so (se_bin os_add (se_var (pv 5)) (se_call G__law_take (hr.mono (by decide)) (takes_of rfl rfl rfl rfl) (sa_cons (se_var (pv 0)) (sa_cons se_int sa_nil)) (alen_cons (alen_cons alen_nil)))))))
    (sx_cons (sx_if (sc_cmp (os_eq (hu64 hr)) (se_var (pv 4)) se_int (nomark _)) (sx_one (sx_set (i := 2) S.nd (se_mt PySem.F.plainAttrs_str PySem.F.slot_str_join PySem.F.type_str_join mt_joinS se_str (sa_cons (sf_bor (sf_lc (own := [("turn", 6)]) S.nd (si_range1 (sa_cons (se_call G__law_take (hr.mono (by decide)) (takes_of rfl rfl rfl rfl) (sa_cons (se_var (pv 0)) (sa_cons se_int sa_nil)) (alen_cons (alen_cons alen_nil))) sa_nil) T.b_range) (blkOk_by (by kernel_rfl)) (fun _ _ _ _ _ => (sg_name (vs := [6]) (pg_name (i := 6) S.nd rfl (by first | exact Or.inl rfl | exact Or.inr rfl)) (by decide))) (fun _ _ _ _ _ => sps_nil) (fun _ _ _ _ _ => (se_ix se_str (se_call G__law_take (hr.mono (by decide)) takes0 (sa_cons (se_var (pv 0)) (sa_cons se_int sa_nil)) (alen_cons (alen_cons alen_nil))))))) sa_nil)))) sx_nil)
    (sx_cons (sx_if (SW.c (sw_and (sc_cmp (os_eq (hu64 hr)) (se_var (pv 4)) se_int (nomark _)) (sw_and1 (sc_cmp (os_lt) (se_cl (pe_callB cs_len rfl T.b_len bt_len (sa_cons (se_var (pv 2)) sa_nil))) se_int (nomark _))))) (sx_one (sx_set (i := 2) S.nd (se_bin os_add (se_var (pv 2)) (se_ix se_str (se_call G__law_take (hr.mono (by decide)) (takes_of rfl rfl rfl rfl) (sa_cons (se_var (pv 0)) (sa_cons se_int sa_nil)) (alen_cons (alen_cons alen_nil))))))) sx_nil)
    (sx_cons (sx_set (i := 3) S.nd (sf_cell (sf_cl (pe_callTy (cf_listA rfl) rfl T.b_list bt_list (sa_cons (se_var (pv 2)) sa_nil)))))
    (sx_one (sx_ret (se_mt PySem.F.plainAttrs_str PySem.F.slot_str_join PySem.F.type_str_join mt_joinS se_str (sa_cons (sf_bor (sf_lc (own := [("turn", 6)]) S.nd (si_range1 (sa_cons (se_cl (pe_callB cs_len rfl T.b_len bt_len (sa_cons (se_var (pv 2)) sa_nil))) sa_nil) T.b_range) (blkOk_by (by kernel_rfl)) (fun _ _ _ _ _ => (sg_name (vs := [6]) (pg_name (i := 6) S.nd rfl (by first | exact Or.inl rfl | exact Or.inr rfl)) (by decide))) (fun _ _ _ _ _ => sps_nil) (fun _ _ _ _ _ => (se_mt PySem.F.plainAttrs_list PySem.F.slot_list_pop PySem.F.type_list_pop mt_popS (se_var (pv 3)) (sa_cons (se_call G__law_take (hr.mono (by decide)) takes0 (sa_cons (se_var (pv 0)) (sa_cons (se_cl (pe_callB cs_len rfl T.b_len bt_len (sa_cons (se_var (pv 3)) sa_nil))) sa_nil)) (alen_cons (alen_cons alen_nil))) sa_nil))))) sa_nil)))))))))
/-! ### _law_has: 0 some, 1 letters, 2 letter -/
noncomputable def b__law_has : SM :=
  (sRet (eBin opEq (eFz (lComp [2] (itS (eC (.str "abcdef"))) (tgName 2) (tB1 (eBin opLt (eMt "str" cntG (eVar 0) (aCons (eVar 2) aNil)) (eMt "str" cntG (eVar 1) (aCons (eVar 2) aNil)))) (eVar 2))) (eFz aNil)))
noncomputable def m__law_has : List D → Sto → Out D := fnM 3 b__law_has
theorem sc__law_has : FnScope ["some", "letters", "letter"] ["some", "letters"] (defScope (top 26)) := ⟨rfl, rfl, rfl, by decide +kernel, rfl, by decide +kernel, by decide +kernel⟩
theorem ok__law_has (T : Txt K mg) (FX : ∃ f fd, mg "_law_has" = some (.ref f) ∧ Fun K "_law_has" "_law_has" (top 26) f fd)  : DefOk P w K mg base 1 "_law_has" (top 26) ["some", "letters"] m__law_has := by
  obtain ⟨f, fd, hm, Fu⟩ := FX
  have S := sc__law_has
  refine ⟨f, fd, hm, Fu, fnOk_of (k := 0) Fu S fun cdv A outer s H E φ hr => ?_⟩
  exact (sx_one (sx_ret (se_cmp (os_eq (hu64 hr)) (sf_bor (sf_lc (own := [("letter", 2)]) S.nd (si_val se_str) (blkOk_by (by kernel_rfl)) (fun _ _ _ _ _ => (sg_name (vs := [2]) (pg_name (i := 2) S.nd rfl (by first | exact Or.inl rfl | exact Or.inr rfl)) (by decide))) (fun _ _ _ _ _ => sps_one (sc_cmp (os_lt) (se_mt PySem.F.plainAttrs_str PySem.F.slot_str_count PySem.F.type_str_count mt_cntS (se_var (pv 0)) (sa_cons (se_var (pv 2)) sa_nil)) (se_mt PySem.F.plainAttrs_str PySem.F.slot_str_count PySem.F.type_str_count mt_cntS (se_var (pv 1)) (sa_cons (se_var (pv 2)) sa_nil)) (nomark _))) (fun _ _ _ _ _ => (se_var (pv 2))))) (sf_bor (sf_lst sa_nil alen_nil)) (nomark _))))
/-! ### _law_least: 0 row, 1 letters, 2 length, 3 low -/
noncomputable def b__law_least : SM :=
  (sSeq (sFor (rng1 (aCons (eBin opAdd (eBu lenD (aCons (eVar 0) aNil)) (eC (.int 1))) aNil)) (tgName 2)
    (sFor (rng1 (aCons (eBin opAdd (eBin opSub (eBu lenD (aCons (eVar 0) aNil)) (eVar 2)) (eC (.int 1))) aNil)) (tgName 3)
    (sIf (tB1 (eCall m__law_has (aCons (eSl (eVar 0) (oSo (eVar 3)) (oSo (eBin opAdd (eVar 3) (eVar 2)))) (aCons (eVar 1) aNil)))) (sRet (eTup (aCons (eVar 2) (aCons (eVar 3) aNil)))) sNil)))
    (sRet (eC .non)))
noncomputable def m__law_least : List D → Sto → Out D := fnM 4 b__law_least
theorem sc__law_least : FnScope ["row", "letters", "length", "low"] ["row", "letters"] (defScope (top 27)) := ⟨rfl, rfl, rfl, by decide +kernel, rfl, by decide +kernel, by decide +kernel⟩
theorem ok__law_least (T : Txt K mg) (FX : ∃ f fd, mg "_law_least" = some (.ref f) ∧ Fun K "_law_least" "_law_least" (top 27) f fd) (G__law_has : FnD P w K mg base 1 "_law_has" 2 m__law_has) : DefOk P w K mg base 2 "_law_least" (top 27) ["row", "letters"] m__law_least := by
  obtain ⟨f, fd, hm, Fu⟩ := FX
  have S := sc__law_least
  refine ⟨f, fd, hm, Fu, fnOk_of (k := 1) Fu S fun cdv A outer s H E φ hr => ?_⟩
  exact (sx_cons (sx_for (vs := [2]) (passes_of rfl) (si_range1 (sa_cons (se_bin os_add (se_cl (pe_callB cs_len rfl T.b_len bt_len (sa_cons (se_var (pv 0)) sa_nil))) se_int) sa_nil) T.b_range) (sg_name (vs := [2]) (pg_name (i := 2) S.nd rfl (by first | exact Or.inl rfl | exact Or.inr rfl)) (by decide))
    (sx_one (sx_for (vs := [3]) (passes_of rfl) (si_range1 (sa_cons (se_bin os_add (se_bin os_sub1 (se_cl (pe_callB cs_len rfl T.b_len bt_len (sa_cons (se_var (pv 0)) sa_nil))) (se_var (pv 2))) se_int) sa_nil) T.b_range) (sg_name (vs := [3]) (pg_name (i := 3) S.nd rfl (by first | exact Or.inl rfl | exact Or.inr rfl)) (by decide))
    (sx_one (sx_if (sc_val (se_call G__law_has (hr.mono (by decide)) (takes_of rfl rfl rfl rfl) (sa_cons (se_sl (se_var (pv 0)) (so_so (se_var (pv 3))) (so_so (se_bin os_add (se_var (pv 3)) (se_var (pv 2))))) (sa_cons (se_var (pv 1)) sa_nil)) (alen_cons (alen_cons alen_nil)))) (sx_one (sx_ret (se_tup (sa_cons (se_var (pv 2)) (sa_cons (se_var (pv 3)) sa_nil)) (alen_cons (alen_cons alen_nil))))) sx_nil)))))
    (sx_one (sx_ret se_non)))
/-! ### _law_asked: 0 word, 1 row, 2 letters, 3 by_name, 4 e, 5 call -/
noncomputable def b__law_asked : SM :=
  (sTry univ 4 (sSeq (sSet 5 (eIf (tB1 (eBin opEq (eVar 0) (eC (.str "window")))) (eC (.glb "least_window")) (eC (.glb "window_bar"))))
    (sRet (eFz (aCons (eC (.str "told")) (aCons (eIf (tB1 (eVar 3)) (eCallVK 5 [("least_window", m_least_window), ("window_bar", m_window_bar)] [1, 0] (aCons (eVar 2) (aCons (eVar 1) aNil))) (eCallV 5 [("least_window", m_least_window), ("window_bar", m_window_bar)] (aCons (eVar 1) (aCons (eVar 2) aNil)))) aNil))))) (("InvalidRow", (sRet (eFz (aCons (eC (.str "row")) (aCons (eExc 4 "given") aNil))))) :: (("InvalidLetters", (sRet (eIf (tB1 (eIsE 4)) (eFz (aCons (eC (.str "letters")) (aCons (eExc 4 "given") aNil))) (eFz (aCons (eC (.str "told")) (aCons (eC .non) aNil)))))) :: [])))
noncomputable def m__law_asked : List D → Sto → Out D := fnM 6 b__law_asked
theorem sc__law_asked : FnScope ["word", "row", "letters", "by_name", "e", "call"] ["word", "row", "letters", "by_name"] (defScope (top 28)) := ⟨rfl, rfl, rfl, by decide +kernel, rfl, by decide +kernel, by decide +kernel⟩
theorem ok__law_asked (T : Txt K mg) (FX : ∃ f fd, mg "_law_asked" = some (.ref f) ∧ Fun K "_law_asked" "_law_asked" (top 28) f fd) (G_least_window : FnD P w K mg base 5 "least_window" 2 m_least_window) (GK_least_window_letters_row : FnK P w K mg base 5 "least_window" ["letters", "row"] [1, 0] m_least_window) (G_window_bar : FnD P w K mg base 5 "window_bar" 2 m_window_bar) (GK_window_bar_letters_row : FnK P w K mg base 5 "window_bar" ["letters", "row"] [1, 0] m_window_bar) (R_InvalidLetters : ErD P w K mg base "InvalidLetters" ["given"]) (R_InvalidRow : ErD P w K mg base "InvalidRow" ["given"]) (E_InvalidLetters : ErrOk K mg "IntervalError" "InvalidLetters" ["given"]) (E_InvalidRow : ErrOk K mg "IntervalError" "InvalidRow" ["given"]) (XT : ExTab K mg univ) : DefOk P w K mg base 6 "_law_asked" (top 28) ["word", "row", "letters", "by_name"] m__law_asked := by
  obtain ⟨f, fd, hm, Fu⟩ := FX
  have S := sc__law_asked
  refine ⟨f, fd, hm, Fu, fnOk_of (k := 5) Fu S fun cdv A outer s H E φ hr => ?_⟩
  exact (sx_one (sx_try (i := 4) XT S.nd (takes_of rfl rfl rfl rfl) (fun W pn xe tk1 hp1 => (sx_cons (sx_set (i := 5) S.nd (se_if (sc_cmp (os_eq (hu64 hr)) (se_var (pv 0)) se_str (nomark _)) (se_glb1 T.g_least_window) (se_glb1 T.g_window_bar)))
    (sx_one (sx_ret (sf_fz (sf_lst (sa_cons se_str (sa_cons (se_if (sc_val (se_var (pv 3))) (se_callVK (i := 5) (k := 5) (tabk_cons (GK_least_window_letters_row) (by decide) (tabk_cons (GK_window_bar_letters_row) (by decide) tabk_nil)) (hr.mono (by decide)) tk1 (sk_cons (se_var (pv 2)) (sk_cons (se_var (pv 1)) sk_nil)) (alen_cons (alen_cons alen_nil))) (se_callV (i := 5) (k := 5) (tab_cons G_least_window (by decide) (tab_cons G_window_bar (by decide) tab_nil)) (hr.mono (by decide)) tk1 (sa_cons (se_var (pv 1)) (sa_cons (se_var (pv 2)) sa_nil)) (alen_cons (alen_cons alen_nil)))) sa_nil)) (alen_cons (alen_cons alen_nil)))))))) (.more (by decide +kernel) (fun a oe C d pn hC hz hf => (sx_one (sx_ret (sf_fz (sf_lst (sa_cons se_str (sa_cons (se_exc rfl hz hf ⟨_, rfl, E_InvalidRow.xf_at hC, E_InvalidRow.no_at hC "given"⟩ (pv 4)) sa_nil)) (alen_cons (alen_cons alen_nil))))))) (.more (by decide +kernel) (fun a oe C d pn hC hz hf => (sx_one (sx_ret (se_if (sc_val (se_isE E_InvalidLetters.b hC rfl hz hf T.b_isinstance (pv 4))) (sf_fz (sf_lst (sa_cons se_str (sa_cons (se_exc rfl hz hf ⟨_, rfl, E_InvalidLetters.xf_at hC, E_InvalidLetters.no_at hC "given"⟩ (pv 4)) sa_nil)) (alen_cons (alen_cons alen_nil)))) (sf_fz (sf_lst (sa_cons se_str (sa_cons se_non sa_nil)) (alen_cons (alen_cons alen_nil)))))))) .done))))
/-! ### _law_pair_right: 0 row, 1 letters, 2 by_name, 3 due, 4 missing, 5 turn, 6 some, 7 told, 8 letter -/
noncomputable def b__law_pair_right : SM :=
  (sSeq (sSet 3 (eCall m__law_least (aCons (eVar 0) (aCons (eVar 1) aNil))))
    (sSeq (sSetF 4 (lComp [8] (itS (eC (.str "abcdef"))) (tgName 8) (tB1 (eBin opLt (eMt "str" cntG (eVar 0) (aCons (eVar 8) aNil)) (eMt "str" cntG (eVar 1) (aCons (eVar 8) aNil)))) (eVar 8)))
    (sFrz 4 (sSeq (sIf (tB1 (eBin opNe (eBin opIs (eVar 3) (eC .non)) (eBin opNe (eVar 4) (eFz aNil)))) (sRet (eC (.bl false))) sNil)
    (sSeq (sFor (itS (eFz (aCons (eVar 2) (aCons (eNot (eVar 2)) aNil)))) (tgName 5)
    (sSeq (sSet 7 (eFz (aCons (eCall m__law_asked (aCons (eC (.str "window")) (aCons (eVar 0) (aCons (eVar 1) (aCons (eVar 5) aNil))))) (aCons (eCall m__law_asked (aCons (eC (.str "bar")) (aCons (eVar 0) (aCons (eVar 1) (aCons (eVar 5) aNil))))) aNil))))
    (sIf (bNot (tB1 (eCall (m__law_same 6) (aCons (eVar 7) (aCons (eFz (aCons (eFz (aCons (eC (.str "told")) (aCons (eVar 3) aNil))) (aCons (eFz (aCons (eC (.str "told")) (aCons (eIf (tB1 (eBin opNe (eVar 4) (eFz aNil))) (eBin opIx (eVar 4) (eC (.int 0))) (eC .non)) aNil))) aNil))) aNil))))) (sRet (eC (.bl false))) sNil)))
    (sSeq (sIf (bOr (tB1 (eBin opIs (eVar 3) (eC .non))) (tB1 (eBin opEq (eBin opIx (eVar 3) (eC (.int 0))) (eC (.int 0))))) (sRet (eC (.bl true))) sNil)
    (sSeq (sSet 6 (eSl (eVar 0) (oSo (eBin opIx (eVar 3) (eC (.int 1)))) (oSo (eBin opAdd (eBin opIx (eVar 3) (eC (.int 1))) (eBin opIx (eVar 3) (eC (.int 0)))))))
    (sRet (eAnd (eCall m__law_has (aCons (eVar 6) (aCons (eVar 1) aNil))) (eAnd (eNot (eCall m__law_has (aCons (eSl (eVar 6) (oSo (eC (.int 1))) oNo) (aCons (eVar 1) aNil)))) (eNot (eCall m__law_has (aCons (eSl (eVar 6) oNo (oSo (eUn negD (eC (.int 1))))) (aCons (eVar 1) aNil))))))))))))))
noncomputable def m__law_pair_right : List D → Sto → Out D := fnM 9 b__law_pair_right
theorem sc__law_pair_right : FnScope ["row", "letters", "by_name", "due", "missing", "turn", "some", "told", "letter"] ["row", "letters", "by_name"] (defScope (top 29)) := ⟨rfl, rfl, rfl, by decide +kernel, rfl, by decide +kernel, by decide +kernel⟩
theorem ok__law_pair_right (T : Txt K mg) (FX : ∃ f fd, mg "_law_pair_right" = some (.ref f) ∧ Fun K "_law_pair_right" "_law_pair_right" (top 29) f fd) (G__law_least : FnD P w K mg base 2 "_law_least" 2 m__law_least) (G__law_asked : FnD P w K mg base 6 "_law_asked" 4 m__law_asked) (G__law_same : FnD P w K mg base 7 "_law_same" 2 (m__law_same 6)) (G__law_has : FnD P w K mg base 1 "_law_has" 2 m__law_has) : DefOk P w K mg base 8 "_law_pair_right" (top 29) ["row", "letters", "by_name"] m__law_pair_right := by
  obtain ⟨f, fd, hm, Fu⟩ := FX
  have S := sc__law_pair_right
  refine ⟨f, fd, hm, Fu, fnOk_of (k := 7) Fu S fun cdv A outer s H E φ hr => ?_⟩
  exact (sx_cons (sx_set (i := 3) S.nd (se_call G__law_least (hr.mono (by decide)) (takes_of rfl rfl rfl rfl) (sa_cons (se_var (pv 0)) (sa_cons (se_var (pv 1)) sa_nil)) (alen_cons (alen_cons alen_nil))))
    (sx_cons (sx_setLc (i := 4) (own := [("letter", 8)]) S.nd (si_val se_str) (blkOk_by (by kernel_rfl)) (fun _ _ _ _ _ => (sg_name (vs := [8]) (pg_name (i := 8) S.nd rfl (by first | exact Or.inl rfl | exact Or.inr rfl)) (by decide))) (fun _ _ _ _ _ => sps_one (sc_cmp (os_lt) (se_mt PySem.F.plainAttrs_str PySem.F.slot_str_count PySem.F.type_str_count mt_cntS (se_var (pv 0)) (sa_cons (se_var (pv 8)) sa_nil)) (se_mt PySem.F.plainAttrs_str PySem.F.slot_str_count PySem.F.type_str_count mt_cntS (se_var (pv 1)) (sa_cons (se_var (pv 8)) sa_nil)) (nomark _))) (fun _ _ _ _ _ => (se_var (pv 8))) rfl)
    (sx_frz (sx_cons (sx_if (sc_cmp (os_ne (hu64 hr)) (se_cmp (os_is) (se_var (pv 3)) se_non (nomark _)) (se_cmp (os_ne (hu64 hr)) (se_var (pv 4)) (sf_bor (sf_lst sa_nil alen_nil)) (nomark _)) (nomark _)) (sx_one (sx_ret se_bl)) sx_nil)
    (sx_cons (sx_for (vs := [5]) (passes_of rfl) (si_val (sf_fz (sf_lst (sa_cons (se_var (pv 2)) (sa_cons (se_not (se_var (pv 2))) sa_nil)) (alen_cons (alen_cons alen_nil))))) (sg_name (vs := [5]) (pg_name (i := 5) S.nd rfl (by first | exact Or.inl rfl | exact Or.inr rfl)) (by decide))
    (sx_cons (sx_set (i := 7) S.nd (sf_fz (sf_lst (sa_cons (se_call G__law_asked (hr.mono (by decide)) (takes_of rfl rfl rfl rfl) (sa_cons se_str (sa_cons (se_var (pv 0)) (sa_cons (se_var (pv 1)) (sa_cons (se_var (pv 5)) sa_nil)))) (alen_cons (alen_cons (alen_cons (alen_cons alen_nil))))) (sa_cons (se_call G__law_asked (hr.mono (by decide)) (takes_of rfl rfl rfl rfl) (sa_cons se_str (sa_cons (se_var (pv 0)) (sa_cons (se_var (pv 1)) (sa_cons (se_var (pv 5)) sa_nil)))) (alen_cons (alen_cons (alen_cons (alen_cons alen_nil))))) sa_nil)) (alen_cons (alen_cons alen_nil)))))
    (sx_one (sx_if (sc_not (sc_val (se_call G__law_same (hr.mono (by decide)) (takes_of rfl rfl rfl rfl) (sa_cons (se_var (pv 7)) (sa_cons (sf_fz (sf_lst (sa_cons (sf_fz (sf_lst (sa_cons se_str (sa_cons (se_var (pv 3)) sa_nil)) (alen_cons (alen_cons alen_nil)))) (sa_cons (sf_fz (sf_lst (sa_cons se_str (sa_cons (se_if (sc_cmp (os_ne (hu64 hr)) (se_var (pv 4)) (sf_bor (sf_lst sa_nil alen_nil)) (nomark _)) (se_ix (se_var (pv 4)) se_int) se_non) sa_nil)) (alen_cons (alen_cons alen_nil)))) sa_nil)) (alen_cons (alen_cons alen_nil)))) sa_nil)) (alen_cons (alen_cons alen_nil))))) (sx_one (sx_ret se_bl)) sx_nil))))
    (sx_cons (sx_if (SW.c (sw_or (sc_cmp (os_is) (se_var (pv 3)) se_non (nomark _)) (sw_or1 (sc_cmp (os_eq (hu64 hr)) (se_ix (se_var (pv 3)) se_int) se_int (nomark _))))) (sx_one (sx_ret se_bl)) sx_nil)
    (sx_cons (sx_set (i := 6) S.nd (se_sl (se_var (pv 0)) (so_so (se_ix (se_var (pv 3)) se_int)) (so_so (se_bin os_add (se_ix (se_var (pv 3)) se_int) (se_ix (se_var (pv 3)) se_int)))))
    (sx_one (sx_ret (se_and (se_call G__law_has (hr.mono (by decide)) (takes_of rfl rfl rfl rfl) (sa_cons (se_var (pv 6)) (sa_cons (se_var (pv 1)) sa_nil)) (alen_cons (alen_cons alen_nil))) (se_and (se_not (se_call G__law_has (hr.mono (by decide)) (takes_of rfl rfl rfl rfl) (sa_cons (se_sl (se_var (pv 6)) (so_so se_int) so_no) (sa_cons (se_var (pv 1)) sa_nil)) (alen_cons (alen_cons alen_nil)))) (se_one (se_not (se_call G__law_has (hr.mono (by decide)) (takes_of rfl rfl rfl rfl) (sa_cons (se_sl (se_var (pv 6)) so_no (so_so (se_un us_neg1 se_int))) (sa_cons (se_var (pv 1)) sa_nil)) (alen_cons (alen_cons alen_nil))))))))))))))))
/-! ### _law_refused: 0 box, 1 by_name, 2 odd, 3 which, 4 wrong, 5 told -/
noncomputable def b__law_refused : SM :=
  (sSeq (sSet 2 (eFz (aCons (eC .non) (aCons (eC (.int 7)) (aCons (eFz (aCons (eC (.str "a")) aNil)) (aCons (eTup (aCons (eC (.str "a")) aNil)) (aCons (eC (.str "abg")) (aCons (eC (.str "A")) (aCons (eC (.str "a b")) (aCons (eBin opMul (eC (.str "a")) (eC (.int 13))) (aCons (eDct1 "a" (eC (.int 1))) (aCons (eC (.bl true)) aNil))))))))))))
    (sSeq (sFor (rng1 (aCons (eC (.int 6)) aNil)) (tgName 3)
    (sSeq (sSet 4 (eCall m__law_copy (aCons (eIf (tB1 (eBin opLt (eVar 3) (eC (.int 3)))) (eCall m__law_no_row (aCons (eVar 0) aNil)) (eBin opIx (eVar 2) (eCall m__law_take (aCons (eVar 0) (aCons (eC (.int 10)) aNil))))) aNil)))
    (sSeq (sSet 5 (eCall m__law_asked (aCons (eBin opIx (eFz (aCons (eC (.str "window")) (aCons (eC (.str "bar")) aNil))) (eBin opBand (eVar 3) (eC (.int 1)))) (aCons (eIf (tB1 (eBin opLt (eVar 3) (eC (.int 3)))) (eVar 4) (eC (.str "abc"))) (aCons (eIf (tB1 (eBin opLt (eVar 3) (eC (.int 3)))) (eC .non) (eVar 4)) (aCons (eVar 1) aNil))))))
    (sSeq (sIf (bOr (tB1 (eBin opNe (eBin opIx (eVar 5) (eC (.int 0))) (eIf (tB1 (eBin opLt (eVar 3) (eC (.int 3)))) (eC (.str "row")) (eC (.str "letters"))))) (bNot (tB1 (eCall m__law_blamed (aCons (eBin opIx (eVar 5) (eC (.int 1))) (aCons (eVar 4) aNil)))))) (sRet (eC (.bl false))) sNil)
    (sSet 1 (eNot (eVar 1)))))))
    (sRet (eC (.bl true)))))
noncomputable def m__law_refused : List D → Sto → Out D := fnM 6 b__law_refused
theorem sc__law_refused : FnScope ["box", "by_name", "odd", "which", "wrong", "told"] ["box", "by_name"] (defScope (top 30)) := ⟨rfl, rfl, rfl, by decide +kernel, rfl, by decide +kernel, by decide +kernel⟩
theorem ok__law_refused (T : Txt K mg) (FX : ∃ f fd, mg "_law_refused" = some (.ref f) ∧ Fun K "_law_refused" "_law_refused" (top 30) f fd) (G__law_copy : FnD P w K mg base 1 "_law_copy" 1 m__law_copy) (G__law_no_row : FnD P w K mg base 2 "_law_no_row" 1 m__law_no_row) (G__law_take : FnD P w K mg base 1 "_law_take" 2 m__law_take) (G__law_asked : FnD P w K mg base 6 "_law_asked" 4 m__law_asked) (G__law_blamed : FnD P w K mg base 8 "_law_blamed" 2 m__law_blamed) : DefOk P w K mg base 9 "_law_refused" (top 30) ["box", "by_name"] m__law_refused := by
  obtain ⟨f, fd, hm, Fu⟩ := FX
  have S := sc__law_refused
  refine ⟨f, fd, hm, Fu, fnOk_of (k := 8) Fu S fun cdv A outer s H E φ hr => ?_⟩
  exact (sx_cons (sx_set (i := 2) S.nd (sf_fz (sf_lst (sa_cons se_non (sa_cons se_int (sa_cons (sf_fz (sf_lst (sa_cons se_str sa_nil) (alen_cons alen_nil))) (sa_cons (se_tup (sa_cons se_str sa_nil) (alen_cons alen_nil)) (sa_cons se_str (sa_cons se_str (sa_cons se_str (sa_cons (se_bin os_mul se_str se_int) (sa_cons (se_dct1 se_int) (sa_cons se_bl sa_nil)))))))))) (alen_cons (alen_cons (alen_cons (alen_cons (alen_cons (alen_cons (alen_cons (alen_cons (alen_cons (alen_cons alen_nil)))))))))))))
    (sx_cons (sx_for (vs := [3]) (passes_of rfl) (si_range1 (sa_cons se_int sa_nil) T.b_range) (sg_name (vs := [3]) (pg_name (i := 3) S.nd rfl (by first | exact Or.inl rfl | exact Or.inr rfl)) (by decide))
    (sx_cons (sx_set (i := 4) S.nd (se_call G__law_copy (hr.mono (by decide)) (takes_of rfl rfl rfl rfl) (sa_cons (se_if (sc_cmp (os_lt) (se_var (pv 3)) se_int (nomark _)) (se_call G__law_no_row (hr.mono (by decide)) (takes_of rfl rfl rfl rfl) (sa_cons (se_var (pv 0)) sa_nil) (alen_cons alen_nil)) (se_ix (se_var (pv 2)) (se_call G__law_take (hr.mono (by decide)) (takes_of rfl rfl rfl rfl) (sa_cons (se_var (pv 0)) (sa_cons se_int sa_nil)) (alen_cons (alen_cons alen_nil))))) sa_nil) (alen_cons alen_nil)))
    (sx_cons (sx_set (i := 5) S.nd (se_call G__law_asked (hr.mono (by decide)) (takes_of rfl rfl rfl rfl) (sa_cons (se_ix (sf_bor (sf_lst (sa_cons se_str (sa_cons se_str sa_nil)) (alen_cons (alen_cons alen_nil)))) (se_bin os_and1 (se_var (pv 3)) se_int)) (sa_cons (se_if (sc_cmp (os_lt) (se_var (pv 3)) se_int (nomark _)) (se_var (pv 4)) se_str) (sa_cons (se_if (sc_cmp (os_lt) (se_var (pv 3)) se_int (nomark _)) se_non (se_var (pv 4))) (sa_cons (se_var (pv 1)) sa_nil)))) (alen_cons (alen_cons (alen_cons (alen_cons alen_nil))))))
    (sx_cons (sx_if (SW.c (sw_or (sc_cmp (os_ne (hu64 hr)) (se_ix (se_var (pv 5)) se_int) (se_if (sc_cmp (os_lt) (se_var (pv 3)) se_int (nomark _)) se_str se_str) (nomark _)) (sw_or1 (sc_not (sc_val (se_call G__law_blamed (hr.mono (by decide)) (takes_of rfl rfl rfl rfl) (sa_cons (se_ix (se_var (pv 5)) se_int) (sa_cons (se_var (pv 4)) sa_nil)) (alen_cons (alen_cons alen_nil)))))))) (sx_one (sx_ret se_bl)) sx_nil)
    (sx_one (sx_set (i := 1) S.nd (se_not (se_var (pv 1)))))))))
    (sx_one (sx_ret se_bl))))
/-! ### law: 0 script, 1 k, 2 box, 3 by_name, 4 turn, 5 row, 6 again -/
noncomputable def b_law : SM :=
  (sSeq (sFor (rng1 (aCons (eBu maxD2 (aCons (eC (.int 2)) (aCons (eBu minD2 (aCons (eC (.int 4)) (aCons (eBu lenD (aCons (eVar 0) aNil)) aNil))) aNil))) aNil)) (tgName 1)
    (sSeq (sSet 2 (eCall m__law_box (aCons (eCall m__law_cell (aCons (eVar 0) (aCons (eVar 1) aNil))) aNil)))
    (sSeq (sSet 3 (eBin opEq (eCall m__law_take (aCons (eVar 2) (aCons (eC (.int 2)) aNil))) (eC (.int 0))))
    (sSeq (sFor (rng1 (aCons (eC (.int 3)) aNil)) (tgName 4)
    (sSeq (sSet 5 (eCall m__law_letters (aCons (eVar 2) (aCons (eBin opIx (eFz (aCons (eC (.int 12)) (aCons (eC (.int 30)) (aCons (eC (.int 60)) aNil)))) (eVar 4)) aNil))))
    (sFor (rng1 (aCons (eC (.int 2)) aNil)) (tgName 6)
    (sIf (bNot (tB1 (eCall m__law_pair_right (aCons (eVar 5) (aCons (eCall m__law_wanted (aCons (eVar 2) (aCons (eVar 5) aNil))) (aCons (eBin opEq (eVar 3) (eBin opEq (eVar 6) (eC (.int 0)))) aNil)))))) (sRet (eC (.bl false))) sNil))))
    (sIf (bOr (bNot (tB1 (eCall m__law_pair_right (aCons (eVar 5) (aCons (eC (.str "")) (aCons (eVar 3) aNil)))))) (bOr (bNot (tB1 (eCall m__law_pair_right (aCons (eC (.str "")) (aCons (eC (.str "a")) (aCons (eVar 3) aNil)))))) (bNot (tB1 (eCall m__law_refused (aCons (eVar 2) (aCons (eVar 3) aNil))))))) (sRet (eC (.bl false))) sNil)))))
    (sRet (eC (.bl true))))
noncomputable def m_law : List D → Sto → Out D := fnM 7 b_law
theorem sc_law : FnScope ["script", "k", "box", "by_name", "turn", "row", "again"] ["script"] (defScope (top 31)) := ⟨rfl, rfl, rfl, by decide +kernel, rfl, by decide +kernel, by decide +kernel⟩
theorem ok_law {f : Addr} {fd : FuncData} (T : Txt K mg) (Fu : Fun K "law" "law" (top 31) f fd) (G__law_box : FnD P w K mg base 1 "_law_box" 1 m__law_box) (G__law_cell : FnD P w K mg base 1 "_law_cell" 2 m__law_cell) (G__law_take : FnD P w K mg base 1 "_law_take" 2 m__law_take) (G__law_letters : FnD P w K mg base 2 "_law_letters" 2 m__law_letters) (G__law_pair_right : FnD P w K mg base 8 "_law_pair_right" 3 m__law_pair_right) (G__law_wanted : FnD P w K mg base 2 "_law_wanted" 2 m__law_wanted) (G__law_refused : FnD P w K mg base 9 "_law_refused" 2 m__law_refused) : FnOk P w K mg base CX0 10 f fd ["script"] (spLaw K m_law) := by
  have S := sc_law
  exact fnOk_law (k := 9) Fu S fun F cdv A outer s H E hF hr =>
    (sx_cons (sx_for (vs := [1]) PassesOwn.never (si_range1 (sa_cons (se_cl (pe_callB (cs_max2 rfl) rfl T.b_max bt_max (sa_cons se_int (sa_cons (se_cl (pe_callB (cs_min2 rfl) rfl T.b_min bt_min (sa_cons se_int (sa_cons (se_cl (pe_callB cs_len rfl T.b_len bt_len (sa_cons (se_var (pv 0)) sa_nil))) sa_nil)))) sa_nil)))) sa_nil) T.b_range) (sg_name (vs := [1]) (pg_name (i := 1) S.nd rfl (by first | exact Or.inl rfl | exact Or.inr rfl)) (by decide))
    (sx_cons (sx_set (i := 2) S.nd (se_call G__law_box (hr.mono (by decide)) takes0 (sa_cons (se_call G__law_cell (hr.mono (by decide)) takes0 (sa_cons (se_var (pv 0)) (sa_cons (se_var (pv 1)) sa_nil)) (alen_cons (alen_cons alen_nil))) sa_nil) (alen_cons alen_nil)))
    (sx_cons (sx_set (i := 3) S.nd (se_cmp (os_eq (hu64 hr)) (se_call G__law_take (hr.mono (by decide)) takes0 (sa_cons (se_var (pv 2)) (sa_cons se_int sa_nil)) (alen_cons (alen_cons alen_nil))) se_int (nomark _)))
    (sx_cons (sx_for (vs := [4]) PassesOwn.never (si_range1 (sa_cons se_int sa_nil) T.b_range) (sg_name (vs := [4]) (pg_name (i := 4) S.nd rfl (by first | exact Or.inl rfl | exact Or.inr rfl)) (by decide))
    (sx_cons (sx_set (i := 5) S.nd (se_call G__law_letters (hr.mono (by decide)) takes0 (sa_cons (se_var (pv 2)) (sa_cons (se_ix (sf_bor (sf_lst (sa_cons se_int (sa_cons se_int (sa_cons se_int sa_nil))) (alen_cons (alen_cons (alen_cons alen_nil))))) (se_var (pv 4))) sa_nil)) (alen_cons (alen_cons alen_nil))))
    (sx_one (sx_for (vs := [6]) PassesOwn.never (si_range1 (sa_cons se_int sa_nil) T.b_range) (sg_name (vs := [6]) (pg_name (i := 6) S.nd rfl (by first | exact Or.inl rfl | exact Or.inr rfl)) (by decide))
    (sx_one (sx_if (sc_not (sc_val (se_call G__law_pair_right (hr.mono (by decide)) takes0 (sa_cons (se_var (pv 5)) (sa_cons (se_call G__law_wanted (hr.mono (by decide)) takes0 (sa_cons (se_var (pv 2)) (sa_cons (se_var (pv 5)) sa_nil)) (alen_cons (alen_cons alen_nil))) (sa_cons (se_cmp (os_eq (hu64 hr)) (se_var (pv 3)) (se_cmp (os_eq (hu64 hr)) (se_var (pv 6)) se_int (nomark _)) (nomark _)) sa_nil))) (alen_cons (alen_cons (alen_cons alen_nil)))))) (sx_one (sx_ret se_bl)) sx_nil))))))
    (sx_one (sx_if (SW.c (sw_or (sc_not (sc_val (se_call G__law_pair_right (hr.mono (by decide)) takes0 (sa_cons (se_var (pv 5)) (sa_cons se_str (sa_cons (se_var (pv 3)) sa_nil))) (alen_cons (alen_cons (alen_cons alen_nil)))))) (sw_or (sc_not (sc_val (se_call G__law_pair_right (hr.mono (by decide)) takes0 (sa_cons se_str (sa_cons se_str (sa_cons (se_var (pv 3)) sa_nil))) (alen_cons (alen_cons (alen_cons alen_nil)))))) (sw_or1 (sc_not (sc_val (se_call G__law_refused (hr.mono (by decide)) takes0 (sa_cons (se_var (pv 2)) (sa_cons (se_var (pv 3)) sa_nil)) (alen_cons (alen_cons alen_nil))))))))) (sx_one (sx_ret se_bl)) sx_nil))))))
    (sx_one (sx_ret se_bl)))
end
/-! ### the head -/
def iOf (x q : Str) (st : Stmt) : He.DefD := ⟨(x, some "__init__"), "__init__", q, defArgs st, defBody st, defScope st, [], []⟩
def fn : List He.DefD := [dOf "are_letters" (top 9), dOf "check_row" (top 10), dOf "check_both" (top 11), dOf "windows_of" (top 12), dOf "has_all" (top 13), dOf "least_window" (top 14), dOf "window_bar" (top 15), dOf "_law_cell" (top 17), dOf "_law_box" (top 18), dOf "_law_take" (top 19), dOf "_law_same" (top 20), dOf "_law_copy" (top 21), dOf "_law_blamed" (top 22), dOf "_law_letters" (top 23), dOf "_law_no_row" (top 24), dOf "_law_wanted" (top 25), dOf "_law_has" (top 26), dOf "_law_least" (top 27), dOf "_law_asked" (top 28), dOf "_law_pair_right" (top 29), dOf "_law_refused" (top 30), dOf "law" (top 31), iOf "InvalidLetters" "InvalidLetters.__init__" (inClass (top 2) 0), iOf "InvalidRow" "InvalidRow.__init__" (inClass (top 4) 0)]
def fa : List He.Fa := [.glo "are_letters", .glo "check_row", .glo "check_both", .glo "windows_of", .glo "has_all", .glo "least_window", .glo "window_bar", .glo "_law_cell", .glo "_law_box", .glo "_law_take", .glo "_law_same", .glo "_law_copy", .glo "_law_blamed", .glo "_law_letters", .glo "_law_no_row", .glo "_law_wanted", .glo "_law_has", .glo "_law_least", .glo "_law_asked", .glo "_law_pair_right", .glo "_law_refused", .glo "law", .glo "InvalidLetters", .glo "InvalidRow", .free "abs", .free "all", .free "bool", .free "dict", .free "int", .free "isinstance", .free "len", .free "list", .free "max", .free "min", .free "range", .free "str", .free "sum", .free "tuple", .int "MOST_LETTERS" (12), .int "MOST_ROW" (60), .str "LETTERS" "abcdef", .exm "InvalidLetters" "InvalidLetters" true, .exm "InvalidLetters" "InvalidRow" false, .exm "InvalidRow" "InvalidLetters" false, .exm "InvalidRow" "InvalidRow" true]
def ex (K : PySem.W.Frag) : Bool := errB K "IntervalError" "InvalidLetters" ["given"] && errB K "IntervalError" "InvalidRow" ["given"]
abbrev R : PySem.W.OpenRow := PySem.W.OpenLaw.row PySem.Challenge.rw_intervalbench_k64_least_windows
abbrev hk : PySem.W.Hook := He.hookX 4 fa fn [] [] ex
def ob (s : PySem.W.SharedT) : He.AlX := He.obsX 4 fa fn [] [] ex (HandSHeadRun.getT s)
theorem ob_eq (s : PySem.W.SharedT) : ob s = hk.obs s.abs := He.obsX_eq (HandSHeadRun.getT_eq s)
def names : List Str := ["__name__", "IntervalError", "InvalidLetters", "InvalidRow", "LETTERS", "MOST_ROW", "MOST_LETTERS", "are_letters", "check_row", "check_both", "windows_of", "has_all", "least_window", "window_bar", "_law_cell", "_law_box", "_law_take", "_law_same", "_law_copy", "_law_blamed", "_law_letters", "_law_no_row", "_law_wanted", "_law_has", "_law_least", "_law_asked", "_law_pair_right", "_law_refused"]
theorem run (w : World) : HandSHeadRun.RunEq R (PySem.W.view R.prog [31]) hk ob 4000 names w := by
  intro os
  kernel_rfl
theorem fun_at {K : PySem.W.Frag} {h : Heap} {mg : Str → Option Value} {x : Str} {st : Stmt} (X : K.In h) (G : h.Ns mainGlobals mg) (c : He.SaysD fa fn K) (i j : Nat) (hi : fn[i]? = some (dOf x st)) (hj : fa[j]? = some (.glo x)) : mg x = some (.ref (He.ga K x)) ∧ ∃ fd, Fun K x x st (He.ga K x) fd := by
  obtain ⟨fd, F⟩ := c.def_ i hi
  exact ⟨He.glo_ok X G (c.fact j hj), fd, fun_of F⟩
theorem facts {P : Program} {w : World} {K : PySem.W.Frag} {h : Heap} {mg : Str → Option Value} (X : K.In h) (G : h.Ns mainGlobals mg) (c0 : He.SaysX fa fn [] [] ex w h K) : ∃ fd : FuncData, mg "law" = some (.ref (He.ga K "law")) ∧ Fun K "law" "law" (top 31) (He.ga K "law") fd ∧ ∀ base : Heap, FnOk P w K mg base CX0 10 (He.ga K "law") fd ["script"] (spLaw K m_law) := by
  have c := c0.t.d
  have cx := c0.more
  unfold ex at cx
  simp only [Bool.and_eq_true] at cx
  obtain ⟨e0, e1⟩ := cx
  have E_InvalidLetters : ErrOk K mg "IntervalError" "InvalidLetters" ["given"] := errB_ok X G e0
  have E_InvalidRow : ErrOk K mg "IntervalError" "InvalidRow" ["given"] := errB_ok X G e1
  have T : Txt K mg := ⟨He.free_ok X G (c.fact 24 rfl), He.free_ok X G (c.fact 25 rfl), He.free_ok X G (c.fact 26 rfl), He.free_ok X G (c.fact 27 rfl), He.free_ok X G (c.fact 28 rfl), He.free_ok X G (c.fact 29 rfl), He.free_ok X G (c.fact 30 rfl), He.free_ok X G (c.fact 31 rfl), He.free_ok X G (c.fact 32 rfl), He.free_ok X G (c.fact 33 rfl), He.free_ok X G (c.fact 34 rfl), He.free_ok X G (c.fact 35 rfl), He.free_ok X G (c.fact 36 rfl), He.free_ok X G (c.fact 37 rfl), ⟨_, He.glo_ok X G (c.fact 5 rfl)⟩, ⟨_, He.glo_ok X G (c.fact 6 rfl)⟩, He.int_ok X G (c.fact 38 rfl), He.int_ok X G (c.fact 39 rfl), He.str_ok X G (c.fact 40 rfl)⟩
  have XT : ExTab K mg univ := by
    intro x hx y hy
    simp only [List.mem_cons, List.not_mem_nil, or_false] at hx hy
    rcases hx with rfl | rfl <;> rcases hy with rfl | rfl
    · exact ⟨_, _, E_InvalidLetters.g, E_InvalidLetters.g, He.exm_ok (c.fact 41 rfl)⟩
    · exact ⟨_, _, E_InvalidLetters.g, E_InvalidRow.g, He.exm_ok (c.fact 42 rfl)⟩
    · exact ⟨_, _, E_InvalidRow.g, E_InvalidLetters.g, He.exm_ok (c.fact 43 rfl)⟩
    · exact ⟨_, _, E_InvalidRow.g, E_InvalidRow.g, He.exm_ok (c.fact 44 rfl)⟩
  obtain ⟨M_are_letters, fd_are_letters, F_are_letters⟩ := fun_at X G c 0 0 (x := "are_letters") (st := top 9) rfl rfl
  obtain ⟨M_check_row, fd_check_row, F_check_row⟩ := fun_at X G c 1 1 (x := "check_row") (st := top 10) rfl rfl
  obtain ⟨M_check_both, fd_check_both, F_check_both⟩ := fun_at X G c 2 2 (x := "check_both") (st := top 11) rfl rfl
  obtain ⟨M_windows_of, fd_windows_of, F_windows_of⟩ := fun_at X G c 3 3 (x := "windows_of") (st := top 12) rfl rfl
  obtain ⟨M_has_all, fd_has_all, F_has_all⟩ := fun_at X G c 4 4 (x := "has_all") (st := top 13) rfl rfl
  obtain ⟨M_least_window, fd_least_window, F_least_window⟩ := fun_at X G c 5 5 (x := "least_window") (st := top 14) rfl rfl
  obtain ⟨M_window_bar, fd_window_bar, F_window_bar⟩ := fun_at X G c 6 6 (x := "window_bar") (st := top 15) rfl rfl
  obtain ⟨M__law_cell, fd__law_cell, F__law_cell⟩ := fun_at X G c 7 7 (x := "_law_cell") (st := top 17) rfl rfl
  obtain ⟨M__law_box, fd__law_box, F__law_box⟩ := fun_at X G c 8 8 (x := "_law_box") (st := top 18) rfl rfl
  obtain ⟨M__law_take, fd__law_take, F__law_take⟩ := fun_at X G c 9 9 (x := "_law_take") (st := top 19) rfl rfl
  obtain ⟨M__law_same, fd__law_same, F__law_same⟩ := fun_at X G c 10 10 (x := "_law_same") (st := top 20) rfl rfl
  obtain ⟨M__law_copy, fd__law_copy, F__law_copy⟩ := fun_at X G c 11 11 (x := "_law_copy") (st := top 21) rfl rfl
  obtain ⟨M__law_blamed, fd__law_blamed, F__law_blamed⟩ := fun_at X G c 12 12 (x := "_law_blamed") (st := top 22) rfl rfl
  obtain ⟨M__law_letters, fd__law_letters, F__law_letters⟩ := fun_at X G c 13 13 (x := "_law_letters") (st := top 23) rfl rfl
  obtain ⟨M__law_no_row, fd__law_no_row, F__law_no_row⟩ := fun_at X G c 14 14 (x := "_law_no_row") (st := top 24) rfl rfl
  obtain ⟨M__law_wanted, fd__law_wanted, F__law_wanted⟩ := fun_at X G c 15 15 (x := "_law_wanted") (st := top 25) rfl rfl
  obtain ⟨M__law_has, fd__law_has, F__law_has⟩ := fun_at X G c 16 16 (x := "_law_has") (st := top 26) rfl rfl
  obtain ⟨M__law_least, fd__law_least, F__law_least⟩ := fun_at X G c 17 17 (x := "_law_least") (st := top 27) rfl rfl
  obtain ⟨M__law_asked, fd__law_asked, F__law_asked⟩ := fun_at X G c 18 18 (x := "_law_asked") (st := top 28) rfl rfl
  obtain ⟨M__law_pair_right, fd__law_pair_right, F__law_pair_right⟩ := fun_at X G c 19 19 (x := "_law_pair_right") (st := top 29) rfl rfl
  obtain ⟨M__law_refused, fd__law_refused, F__law_refused⟩ := fun_at X G c 20 20 (x := "_law_refused") (st := top 30) rfl rfl
  obtain ⟨M_law, fd_law, F_law⟩ := fun_at X G c 21 21 (x := "law") (st := top 31) rfl rfl
  obtain ⟨fdi_InvalidLetters, FI_InvalidLetters⟩ := c.def_ 22 (d := iOf "InvalidLetters" "InvalidLetters.__init__" (inClass (top 2) 0)) rfl
  obtain ⟨fdi_InvalidRow, FI_InvalidRow⟩ := c.def_ 23 (d := iOf "InvalidRow" "InvalidRow.__init__" (inClass (top 4) 0)) rfl
  refine ⟨fd_law, M_law, F_law, fun base => ?_⟩
  have R_InvalidLetters : ErD P w K mg base "InvalidLetters" ["given"] := erD_one (q := "InvalidLetters.__init__") (st := inClass (top 2) 0) E_InvalidLetters FI_InvalidLetters ⟨rfl, rfl, rfl, by decide +kernel, rfl, by decide +kernel, by decide +kernel⟩ rfl rfl rfl (by decide) (by decide) (fun _ _ _ _ _ _ us hl => match us, hl with | [_, _], _ => rfl)
  have R_InvalidRow : ErD P w K mg base "InvalidRow" ["given"] := erD_one (q := "InvalidRow.__init__") (st := inClass (top 4) 0) E_InvalidRow FI_InvalidRow ⟨rfl, rfl, rfl, by decide +kernel, rfl, by decide +kernel, by decide +kernel⟩ rfl rfl rfl (by decide) (by decide) (fun _ _ _ _ _ _ us hl => match us, hl with | [_, _], _ => rfl)
  have O_are_letters := ok_are_letters (P := P) (w := w) (base := base) T ⟨_, fd_are_letters, M_are_letters, F_are_letters⟩ 
  have G_are_letters := O_are_letters.fnD (fun _ _ _ _ _ _ us hl => match us, hl with | [_, _], _ => rfl)
  have O_check_row := ok_check_row (P := P) (w := w) (base := base) T ⟨_, fd_check_row, M_check_row, F_check_row⟩ G_are_letters R_InvalidRow
  have G_check_row := O_check_row.fnD (fun _ _ _ _ _ _ us hl => match us, hl with | [_], _ => rfl)
  have O_check_both := ok_check_both (P := P) (w := w) (base := base) T ⟨_, fd_check_both, M_check_both, F_check_both⟩ G_check_row G_are_letters R_InvalidLetters
  have G_check_both := O_check_both.fnD (fun _ _ _ _ _ _ us hl => match us, hl with | [_, _], _ => rfl)
  have O_windows_of := ok_windows_of (P := P) (w := w) (base := base) T ⟨_, fd_windows_of, M_windows_of, F_windows_of⟩ 
  have G_windows_of := O_windows_of.fnD (fun _ _ _ _ _ _ us hl => match us, hl with | [_], _ => rfl)
  have O_has_all := ok_has_all (P := P) (w := w) (base := base) T ⟨_, fd_has_all, M_has_all, F_has_all⟩ 
  have G_has_all := O_has_all.fnD (fun _ _ _ _ _ _ us hl => match us, hl with | [_, _], _ => rfl)
  have O_least_window := ok_least_window (P := P) (w := w) (base := base) T ⟨_, fd_least_window, M_least_window, F_least_window⟩ G_check_both G_windows_of G_has_all
  have G_least_window := O_least_window.fnD (fun _ _ _ _ _ _ us hl => match us, hl with | [_, _], _ => rfl)
  have GK_least_window_letters_row := O_least_window.fnK ["letters", "row"] [1, 0] rfl rfl (by decide) (fun _ _ _ _ _ _ us hl => match us, hl with | [_, _], _ => rfl)
  have O_window_bar := ok_window_bar (P := P) (w := w) (base := base) T ⟨_, fd_window_bar, M_window_bar, F_window_bar⟩ G_check_both
  have G_window_bar := O_window_bar.fnD (fun _ _ _ _ _ _ us hl => match us, hl with | [_, _], _ => rfl)
  have GK_window_bar_letters_row := O_window_bar.fnK ["letters", "row"] [1, 0] rfl rfl (by decide) (fun _ _ _ _ _ _ us hl => match us, hl with | [_, _], _ => rfl)
  have O__law_cell := ok__law_cell (P := P) (w := w) (base := base) T ⟨_, fd__law_cell, M__law_cell, F__law_cell⟩ 
  have G__law_cell := O__law_cell.fnD (fun _ _ _ _ _ _ us hl => match us, hl with | [_, _], _ => rfl)
  have O__law_box := ok__law_box (P := P) (w := w) (base := base) T ⟨_, fd__law_box, M__law_box, F__law_box⟩ 
  have G__law_box := O__law_box.fnD (fun _ _ _ _ _ _ us hl => match us, hl with | [_], _ => rfl)
  have O__law_take := ok__law_take (P := P) (w := w) (base := base) T ⟨_, fd__law_take, M__law_take, F__law_take⟩ 
  have G__law_take := O__law_take.fnD (fun _ _ _ _ _ _ us hl => match us, hl with | [_, _], _ => rfl)
  have O__law_same := ok__law_same (P := P) (w := w) (base := base) T ⟨_, fd__law_same, M__law_same, F__law_same⟩  (fun k m h => h.fnD (fun _ _ _ _ _ _ us hl => match us, hl with | [_, _], _ => rfl)) 6
  have G__law_same := O__law_same.fnD (fun _ _ _ _ _ _ us hl => match us, hl with | [_, _], _ => rfl)
  have O__law_copy := ok__law_copy (P := P) (w := w) (base := base) T ⟨_, fd__law_copy, M__law_copy, F__law_copy⟩ 
  have G__law_copy := O__law_copy.fnD (fun _ _ _ _ _ _ us hl => match us, hl with | [_], _ => rfl)
  have O__law_blamed := ok__law_blamed (P := P) (w := w) (base := base) T ⟨_, fd__law_blamed, M__law_blamed, F__law_blamed⟩ G__law_same
  have G__law_blamed := O__law_blamed.fnD (fun _ _ _ _ _ _ us hl => match us, hl with | [_, _], _ => rfl)
  have O__law_letters := ok__law_letters (P := P) (w := w) (base := base) T ⟨_, fd__law_letters, M__law_letters, F__law_letters⟩ G__law_take
  have G__law_letters := O__law_letters.fnD (fun _ _ _ _ _ _ us hl => match us, hl with | [_, _], _ => rfl)
  have O__law_no_row := ok__law_no_row (P := P) (w := w) (base := base) T ⟨_, fd__law_no_row, M__law_no_row, F__law_no_row⟩ G__law_take
  have G__law_no_row := O__law_no_row.fnD (fun _ _ _ _ _ _ us hl => match us, hl with | [_], _ => rfl)
  have O__law_wanted := ok__law_wanted (P := P) (w := w) (base := base) T ⟨_, fd__law_wanted, M__law_wanted, F__law_wanted⟩ G__law_take
  have G__law_wanted := O__law_wanted.fnD (fun _ _ _ _ _ _ us hl => match us, hl with | [_, _], _ => rfl)
  have O__law_has := ok__law_has (P := P) (w := w) (base := base) T ⟨_, fd__law_has, M__law_has, F__law_has⟩ 
  have G__law_has := O__law_has.fnD (fun _ _ _ _ _ _ us hl => match us, hl with | [_, _], _ => rfl)
  have O__law_least := ok__law_least (P := P) (w := w) (base := base) T ⟨_, fd__law_least, M__law_least, F__law_least⟩ G__law_has
  have G__law_least := O__law_least.fnD (fun _ _ _ _ _ _ us hl => match us, hl with | [_, _], _ => rfl)
  have O__law_asked := ok__law_asked (P := P) (w := w) (base := base) T ⟨_, fd__law_asked, M__law_asked, F__law_asked⟩ G_least_window GK_least_window_letters_row G_window_bar GK_window_bar_letters_row R_InvalidLetters R_InvalidRow E_InvalidLetters E_InvalidRow XT
  have G__law_asked := O__law_asked.fnD (fun _ _ _ _ _ _ us hl => match us, hl with | [_, _, _, _], _ => rfl)
  have O__law_pair_right := ok__law_pair_right (P := P) (w := w) (base := base) T ⟨_, fd__law_pair_right, M__law_pair_right, F__law_pair_right⟩ G__law_least G__law_asked G__law_same G__law_has
  have G__law_pair_right := O__law_pair_right.fnD (fun _ _ _ _ _ _ us hl => match us, hl with | [_, _, _], _ => rfl)
  have O__law_refused := ok__law_refused (P := P) (w := w) (base := base) T ⟨_, fd__law_refused, M__law_refused, F__law_refused⟩ G__law_copy G__law_no_row G__law_take G__law_asked G__law_blamed
  have G__law_refused := O__law_refused.fnD (fun _ _ _ _ _ _ us hl => match us, hl with | [_, _], _ => rfl)
  exact ok_law T F_law G__law_box G__law_cell G__law_take G__law_letters G__law_pair_right G__law_wanted G__law_refused
end Wk64
namespace Wk64
open PySem L2 Sx
def isL (c : Nat) : Bool := decide (c ∈ ("abcdef" : Str).cps.toList)
def okRow (s : Str) : Bool := s.cps.toList.all isL
theorem in_letters (c : Nat) (st : Sto) : opIn (.str ⟨#[c]⟩) (.str "abcdef") st = .ok (.bl (isL c)) st := rfl
theorem are_letters_str (s : Str) (most : Int) (st : Sto) (hs : s.length ≤ sizeLine) : m_are_letters [.str s, .int most] st = .ok (.bl (decide ((s.length : Int) ≤ most) && okRow s)) st := by
  unfold m_are_letters b_are_letters
  have hc := compM_all (i := 2) (ρ := [.val (.str s), .val (.int most), .un]) (st := st) (e := eBin opIn (eVar 2) (eC (D.str (Str.ofString "abcdef")))) (fun c => D.str ⟨#[c]⟩) (fun c => D.bl (isL c)) s.cps.toList fun c _ => by simp -implicitDefEqProofs only [x_bok, x_bexc, x_bst, x_bite, x_bb, x_oo, x_ooite, x_bin, x_bu, x_and, x_or, x_not, x_tb, x_andD, x_orD, x_notD, x_tst, x_band, x_bor, x_bnot, x_if, x_then, x_thenx, x_thenite, x_seq, x_seqn, x_seqr, x_seqe, x_seqb, x_seqc, x_seqite, x_ret, x_reto, x_rete, x_retite, x_fn, x_fnn, x_fnr, x_fne, x_fnite, x_comp, x_for, x_its, x_rng1b, x_rng2b, x_rngA, x_rngB, tq_str, tq_int, tq_bool, tq_tuple, tq_list, tq_dict, eVar, eBor, eC, sIf, sSet, sSetF, sFrz, sNil, sExpr, sPar, setsR, pNil, pVal, pOwn, sAppO, sBk, sCt, eUn, eTup, eFz, eCl, fn1, aCons, aNil, eCall, eCallK, arr, negD, tgName, wipeR, lBu, isiD, tyN, isaT, tysOf, String.reduceBEq, bYes, x_int_eq, x_int_ne, x_str_eq, x_str_ne, x_bl_eq, x_lt, x_le, x_gt, x_ge, x_add, x_sub, x_len_lst, x_len_tup, List.map_cons, List.map_nil, List.length_cons, List.length_nil, List.cons_append, List.nil_append, List.reduceReplicate, List.getElem?_cons_zero, List.getElem?_cons_succ, List.set_cons_zero, List.set_cons_succ, Nat.reduceAdd, Nat.reduceSub, Nat.zero_add, Nat.sub_self, List.replicate_zero, List.getD_cons_zero, List.getD_cons_succ, reduceIte, Bool.false_eq_true, if_true, if_false, x_if_t, decide_true, decide_false, Bool.not_true, Bool.not_false, Bool.true_and, Bool.false_and, Bool.and_true, Bool.and_false, Bool.true_or, Bool.false_or, Bool.or_true, Bool.or_false, beq_self_eq_true, List.any_cons, List.any_nil, List.all_cons, List.all_nil, in_letters]
  simp -implicitDefEqProofs only [x_bok, x_bexc, x_bst, x_bite, x_bb, x_oo, x_ooite, x_bin, x_bu, x_and, x_or, x_not, x_tb, x_andD, x_orD, x_notD, x_tst, x_band, x_bor, x_bnot, x_if, x_then, x_thenx, x_thenite, x_seq, x_seqn, x_seqr, x_seqe, x_seqb, x_seqc, x_seqite, x_ret, x_reto, x_rete, x_retite, x_fn, x_fnn, x_fnr, x_fne, x_fnite, x_comp, x_for, x_its, x_rng1b, x_rng2b, x_rngA, x_rngB, tq_str, tq_int, tq_bool, tq_tuple, tq_list, tq_dict, eVar, eBor, eC, sIf, sSet, sSetF, sFrz, sNil, sExpr, sPar, setsR, pNil, pVal, pOwn, sAppO, sBk, sCt, eUn, eTup, eFz, eCl, fn1, aCons, aNil, eCall, eCallK, arr, negD, tgName, wipeR, lBu, isiD, tyN, isaT, tysOf, String.reduceBEq, bYes, x_int_eq, x_int_ne, x_str_eq, x_str_ne, x_bl_eq, x_lt, x_le, x_gt, x_ge, x_add, x_sub, x_len_lst, x_len_tup, List.map_cons, List.map_nil, List.length_cons, List.length_nil, List.cons_append, List.nil_append, List.reduceReplicate, List.getElem?_cons_zero, List.getElem?_cons_succ, List.set_cons_zero, List.set_cons_succ, Nat.reduceAdd, Nat.reduceSub, Nat.zero_add, Nat.sub_self, List.replicate_zero, List.getD_cons_zero, List.getD_cons_succ, reduceIte, Bool.false_eq_true, if_true, if_false, x_if_t, decide_true, decide_false, Bool.not_true, Bool.not_false, Bool.true_and, Bool.false_and, Bool.and_true, Bool.and_false, Bool.true_or, Bool.false_or, Bool.or_true, Bool.or_false, beq_self_eq_true, List.any_cons, List.any_nil, List.all_cons, List.all_nil, x_len_str hs, itO_str hs, hc]
  have e : List.map (fun c => D.bl (isL c)) s.cps.toList = (s.cps.toList.map isL).map D.bl := by rw [List.map_map]; rfl
  rw [e]
  simp -implicitDefEqProofs only [x_bok, x_bexc, x_bst, x_bite, x_bb, x_oo, x_ooite, x_bin, x_bu, x_and, x_or, x_not, x_tb, x_andD, x_orD, x_notD, x_tst, x_band, x_bor, x_bnot, x_if, x_then, x_thenx, x_thenite, x_seq, x_seqn, x_seqr, x_seqe, x_seqb, x_seqc, x_seqite, x_ret, x_reto, x_rete, x_retite, x_fn, x_fnn, x_fnr, x_fne, x_fnite, x_comp, x_for, x_its, x_rng1b, x_rng2b, x_rngA, x_rngB, tq_str, tq_int, tq_bool, tq_tuple, tq_list, tq_dict, eVar, eBor, eC, sIf, sSet, sSetF, sFrz, sNil, sExpr, sPar, setsR, pNil, pVal, pOwn, sAppO, sBk, sCt, eUn, eTup, eFz, eCl, fn1, aCons, aNil, eCall, eCallK, arr, negD, tgName, wipeR, lBu, isiD, tyN, isaT, tysOf, String.reduceBEq, bYes, x_int_eq, x_int_ne, x_str_eq, x_str_ne, x_bl_eq, x_lt, x_le, x_gt, x_ge, x_add, x_sub, x_len_lst, x_len_tup, List.map_cons, List.map_nil, List.length_cons, List.length_nil, List.cons_append, List.nil_append, List.reduceReplicate, List.getElem?_cons_zero, List.getElem?_cons_succ, List.set_cons_zero, List.set_cons_succ, Nat.reduceAdd, Nat.reduceSub, Nat.zero_add, Nat.sub_self, List.replicate_zero, List.getD_cons_zero, List.getD_cons_succ, reduceIte, Bool.false_eq_true, if_true, if_false, x_if_t, decide_true, decide_false, Bool.not_true, Bool.not_false, Bool.true_and, Bool.false_and, Bool.and_true, Bool.and_false, Bool.true_or, Bool.false_or, Bool.or_true, Bool.or_false, beq_self_eq_true, List.any_cons, List.any_nil, List.all_cons, List.all_nil, allD_bools]
  by_cases h : (s.length : Int) ≤ most
  · simp [h, okRow]
  · simp [h]
end Wk64
namespace Wk64
open PySem L2 Sx
theorem take_is : m__law_take = fnM 4 (takeB 15488863 179432927 105167) := rfl
theorem same_is : ∀ n, m__law_same n = sameM n := by
  intro n
  induction n with
  | zero => rfl
  | succ n ih =>
    show fnM 4 (b__law_same (m__law_same n)) = fnM 4 (sameB (sameM n))
    rw [ih]
    rfl
theorem tk {st : Sto} {n T : Nat} {many : Int} {P : D → Sto → Prop} (hB : Box st n T) (hT : T < 1000000) (hm : 0 < many) (hm2 : many < 1000000000)
    (h : ∀ r st', 0 ≤ r → r < many → Box st' n (T + 1) → Kept n st st' → P (.int r) st') : Wo (m__law_take [.loc n, .int many] st) P := take_wo (by decide) hB hT hm hm2 h
theorem letter_at {r : Int} (h0 : 0 ≤ r) (h1 : r < 6) (st : Sto) : ∃ c, isL c = true ∧ opIx (.str "abcdef") (.int r) st = .ok (.str ⟨#[c]⟩) st := by
  have : r = 0 ∨ r = 1 ∨ r = 2 ∨ r = 3 ∨ r = 4 ∨ r = 5 := by omega
  rcases this with rfl | rfl | rfl | rfl | rfl | rfl
  · exact ⟨97, rfl, rfl⟩
  · exact ⟨98, rfl, rfl⟩
  · exact ⟨99, rfl, rfl⟩
  · exact ⟨100, rfl, rfl⟩
  · exact ⟨101, rfl, rfl⟩
  · exact ⟨102, rfl, rfl⟩
theorem okRow_app {a b : Str} (h : okRow a = true) (k : okRow b = true) : okRow (a ++ b) = true := by
  obtain ⟨a⟩ := a
  obtain ⟨b⟩ := b
  show ((a ++ b).toList.all isL) = true
  rw [Array.toList_append, List.all_append]
  exact (Bool.and_eq_true_iff.mpr ⟨h, k⟩)
theorem len_app (a b : Str) : (a ++ b).length = a.length + b.length := Array.size_append
theorem okRow_one {c : Nat} (h : isL c = true) : okRow ⟨#[c]⟩ = true := by
  show ([c].all isL) = true
  simp [h]
theorem okRow_rep {s : Str} (h : okRow s = true) (n : Nat) : okRow (strRep s n) = true := by
  have key : ∀ (n : Nat) (b : Array Nat), (b.toList.all isL) = true → (((List.replicate n s.cps).foldl (· ++ ·) b).toList.all isL) = true := by
    intro n
    induction n with
    | zero => intro b hb; exact hb
    | succ n ih =>
      intro b hb
      rw [List.replicate_succ, List.foldl_cons]
      refine ih _ ?_
      rw [Array.toList_append, List.all_append]
      exact Bool.and_eq_true_iff.mpr ⟨hb, h⟩
  exact key n #[] rfl
theorem okRow_cut {s : Str} (h : okRow s = true) (a b : Option Int) : okRow (cutS s a b) = true := by
  unfold okRow cutS at *
  rw [List.toList_toArray]
  refine List.all_eq_true.mpr fun c hc => List.all_eq_true.mp h c ?_
  exact List.mem_of_mem_drop (List.mem_of_mem_take hc)
theorem cut_len {s : Str} {k : Nat} (h : k ≤ s.length) : (cutS s none (some (k : Int))).length = k := by
  unfold cutS
  rw [HT.sIx_none, HT.sIx_nat, List.drop_zero, Nat.sub_zero, Nat.min_eq_left h]
  show (List.take k s.cps.toList).toArray.size = k
  rw [List.size_toArray, List.length_take, Array.length_toList]
  exact Nat.min_eq_left h
/-- rows of letters -/
theorem letters_wo {st : Sto} {n T : Nat} {most : Nat} {P : D → Sto → Prop} (hB : Box st n T) (hT : T < 900000) (hm : most ≤ 60)
    (h : ∀ s st', okRow s = true → s.length ≤ most → Box st' n (T + 200) → Kept n st st' → P (.str s) st') : Wo (m__law_letters [.loc n, .int most] st) P := by
  unfold m__law_letters b__law_letters
  simp -implicitDefEqProofs only [wo_no, wo_so, wo_sl, wo_mt, soD_int, slO_lst, slO_tup, tyM_str, wo_ok, wo_bind, wo_oo, wo_ite, ws_nx, ws_rt, ws_seq, ws_then, ws_if, ws_ret, ws_ite, wo_fn, wo_if, wo_band, wo_bor, wo_and, wo_or, x_bin, x_bu, x_not, x_tb, x_andD, x_orD, x_notD, x_tst, x_bnot, x_comp, x_for, x_its, x_rng1b, x_rng2b, x_rngA, x_rngB, tq_str, tq_int, tq_bool, tq_tuple, tq_list, tq_dict, eVar, eBor, eC, sSet, sSetF, sFrz, sNil, sExpr, sPar, setsR, pNil, pVal, pOwn, sAppO, eUn, eTup, eFz, eCl, fn1, aCons, aNil, eCall, eCallK, arr, negD, tgName, wipeR, lBu, bYes, x_int_eq, x_int_ne, x_str_eq, x_str_ne, x_bl_eq, x_lt, x_le, x_gt, x_ge, x_add, x_sub, x_len_lst, x_len_tup, List.map_cons, List.map_nil, List.length_cons, List.length_nil, List.cons_append, List.nil_append, List.reduceReplicate, List.getElem?_cons_zero, List.getElem?_cons_succ, List.set_cons_zero, List.set_cons_succ, Nat.reduceAdd, Nat.reduceSub, Nat.zero_add, Nat.sub_self, List.replicate_zero, List.getD_cons_zero, List.getD_cons_succ, reduceIte, Bool.false_eq_true, if_true, if_false, x_if_t, decide_true, decide_false, decide_eq_true_eq, Bool.not_true, Bool.not_false, Bool.true_and, Bool.false_and, Bool.and_true, Bool.and_false, Bool.true_or, Bool.false_or, Bool.or_true, Bool.or_false, beq_self_eq_true]
  refine tk hB (by omega) (by decide) (by decide) fun kinds st1 k0 k1 B1 K1 => ?_
  simp -implicitDefEqProofs only [wo_no, wo_so, wo_sl, wo_mt, soD_int, slO_lst, slO_tup, tyM_str, wo_ok, wo_bind, wo_oo, wo_ite, ws_nx, ws_rt, ws_seq, ws_then, ws_if, ws_ret, ws_ite, wo_fn, wo_if, wo_band, wo_bor, wo_and, wo_or, x_bin, x_bu, x_not, x_tb, x_andD, x_orD, x_notD, x_tst, x_bnot, x_comp, x_for, x_its, x_rng1b, x_rng2b, x_rngA, x_rngB, tq_str, tq_int, tq_bool, tq_tuple, tq_list, tq_dict, eVar, eBor, eC, sSet, sSetF, sFrz, sNil, sExpr, sPar, setsR, pNil, pVal, pOwn, sAppO, eUn, eTup, eFz, eCl, fn1, aCons, aNil, eCall, eCallK, arr, negD, tgName, wipeR, lBu, bYes, x_int_eq, x_int_ne, x_str_eq, x_str_ne, x_bl_eq, x_lt, x_le, x_gt, x_ge, x_add, x_sub, x_len_lst, x_len_tup, List.map_cons, List.map_nil, List.length_cons, List.length_nil, List.cons_append, List.nil_append, List.reduceReplicate, List.getElem?_cons_zero, List.getElem?_cons_succ, List.set_cons_zero, List.set_cons_succ, Nat.reduceAdd, Nat.reduceSub, Nat.zero_add, Nat.sub_self, List.replicate_zero, List.getD_cons_zero, List.getD_cons_succ, reduceIte, Bool.false_eq_true, if_true, if_false, x_if_t, decide_true, decide_false, decide_eq_true_eq, Bool.not_true, Bool.not_false, Bool.true_and, Bool.false_and, Bool.and_true, Bool.and_false, Bool.true_or, Bool.false_or, Bool.or_true, Bool.or_false, beq_self_eq_true]
  refine tk B1 (by omega) (by decide) (by decide) fun r1 st2 r10 _ B2 K2 => ?_
  refine tk B2 (by omega) (by omega) (by omega) fun r2 st3 r20 _ B3 K3 => ?_
  refine tk B3 (by omega) (by decide) (by decide) fun w st4 w0 w1 B4 K4 => ?_
  obtain ⟨len, hl, hix⟩ : ∃ len : Int, 0 ≤ len ∧ opIx (.lst [.int r1, .int r2, .int most]) (.int w) st4 = .ok (.int len) st4 := by
    have : w = 0 ∨ w = 1 ∨ w = 2 := by omega
    rcases this with rfl | rfl | rfl
    · exact ⟨r1, r10, rfl⟩
    · exact ⟨r2, r20, rfl⟩
    · exact ⟨most, by omega, rfl⟩
  simp -implicitDefEqProofs only [wo_no, wo_so, wo_sl, wo_mt, soD_int, slO_lst, slO_tup, tyM_str, wo_ok, wo_bind, wo_oo, wo_ite, ws_nx, ws_rt, ws_seq, ws_then, ws_if, ws_ret, ws_ite, wo_fn, wo_if, wo_band, wo_bor, wo_and, wo_or, x_bin, x_bu, x_not, x_tb, x_andD, x_orD, x_notD, x_tst, x_bnot, x_comp, x_for, x_its, x_rng1b, x_rng2b, x_rngA, x_rngB, tq_str, tq_int, tq_bool, tq_tuple, tq_list, tq_dict, eVar, eBor, eC, sSet, sSetF, sFrz, sNil, sExpr, sPar, setsR, pNil, pVal, pOwn, sAppO, eUn, eTup, eFz, eCl, fn1, aCons, aNil, eCall, eCallK, arr, negD, tgName, wipeR, lBu, bYes, x_int_eq, x_int_ne, x_str_eq, x_str_ne, x_bl_eq, x_lt, x_le, x_gt, x_ge, x_add, x_sub, x_len_lst, x_len_tup, List.map_cons, List.map_nil, List.length_cons, List.length_nil, List.cons_append, List.nil_append, List.reduceReplicate, List.getElem?_cons_zero, List.getElem?_cons_succ, List.set_cons_zero, List.set_cons_succ, Nat.reduceAdd, Nat.reduceSub, Nat.zero_add, Nat.sub_self, List.replicate_zero, List.getD_cons_zero, List.getD_cons_succ, reduceIte, Bool.false_eq_true, if_true, if_false, x_if_t, decide_true, decide_false, decide_eq_true_eq, Bool.not_true, Bool.not_false, Bool.true_and, Bool.false_and, Bool.and_true, Bool.and_false, Bool.true_or, Bool.false_or, Bool.or_true, Bool.or_false, beq_self_eq_true, hix, minD2]
  refine tk B4 (by omega) (by decide) (by decide) fun way st5 y0 y1 B5 K5 => ?_
  obtain ⟨l, hl2, hl3⟩ : ∃ l : Nat, (if (most : Int) < len then (most : Int) else len) = (l : Nat) ∧ l ≤ most := by
    by_cases c : (most : Int) < len
    · exact ⟨most, by rw [if_pos c], Nat.le_refl _⟩
    · exact ⟨len.toNat, by rw [if_neg c]; omega, by omega⟩
  rw [hl2]
  -- the loop: letters so far
  refine ws_while (fun k ρ st' => ∃ (s : Str) (x : Slot), ρ = [.val (.loc n), .val (.int most), .val (.int (1 + kinds)), .val (.int l), .val (.int way), .val (.str s), x] ∧ okRow s = true ∧ s.length ≤ l + 4 ∧ k = l - s.length ∧ Box st' n (T + 5 + 2 * s.length) ∧ Kept n st st') l _ _
    ⟨"", .un, rfl, rfl, Nat.zero_le _, rfl, B5, (((K1.trans K2).trans K3).trans K4).trans K5⟩ ?_
  rintro k ρ st6 ⟨s, x, rfl, hs, hz, rfl, B6, K6⟩
  simp -implicitDefEqProofs only [wo_no, wo_so, wo_sl, wo_mt, soD_int, slO_lst, slO_tup, tyM_str, wo_ok, wo_bind, wo_oo, wo_ite, ws_nx, ws_rt, ws_seq, ws_then, ws_if, ws_ret, ws_ite, wo_fn, wo_if, wo_band, wo_bor, wo_and, wo_or, x_bin, x_bu, x_not, x_tb, x_andD, x_orD, x_notD, x_tst, x_bnot, x_comp, x_for, x_its, x_rng1b, x_rng2b, x_rngA, x_rngB, tq_str, tq_int, tq_bool, tq_tuple, tq_list, tq_dict, eVar, eBor, eC, sSet, sSetF, sFrz, sNil, sExpr, sPar, setsR, pNil, pVal, pOwn, sAppO, eUn, eTup, eFz, eCl, fn1, aCons, aNil, eCall, eCallK, arr, negD, tgName, wipeR, lBu, bYes, x_int_eq, x_int_ne, x_str_eq, x_str_ne, x_bl_eq, x_lt, x_le, x_gt, x_ge, x_add, x_sub, x_len_lst, x_len_tup, List.map_cons, List.map_nil, List.length_cons, List.length_nil, List.cons_append, List.nil_append, List.reduceReplicate, List.getElem?_cons_zero, List.getElem?_cons_succ, List.set_cons_zero, List.set_cons_succ, Nat.reduceAdd, Nat.reduceSub, Nat.zero_add, Nat.sub_self, List.replicate_zero, List.getD_cons_zero, List.getD_cons_succ, reduceIte, Bool.false_eq_true, if_true, if_false, x_if_t, decide_true, decide_false, decide_eq_true_eq, Bool.not_true, Bool.not_false, Bool.true_and, Bool.false_and, Bool.and_true, Bool.and_false, Bool.true_or, Bool.false_or, Bool.or_true, Bool.or_false, beq_self_eq_true, x_len_str (line1M (show s.length ≤ 1000000 by omega))]
  by_cases c : (s.length : Int) < l
  · rw [if_pos c]
    refine tk B6 (by omega) (by omega) (by omega) fun r st7 r0 r1' B7 K7 => ?_
    obtain ⟨ch, hc, hx⟩ := letter_at r0 (by omega) st7
    simp -implicitDefEqProofs only [wo_no, wo_so, wo_sl, wo_mt, soD_int, slO_lst, slO_tup, tyM_str, wo_ok, wo_bind, wo_oo, wo_ite, ws_nx, ws_rt, ws_seq, ws_then, ws_if, ws_ret, ws_ite, wo_fn, wo_if, wo_band, wo_bor, wo_and, wo_or, x_bin, x_bu, x_not, x_tb, x_andD, x_orD, x_notD, x_tst, x_bnot, x_comp, x_for, x_its, x_rng1b, x_rng2b, x_rngA, x_rngB, tq_str, tq_int, tq_bool, tq_tuple, tq_list, tq_dict, eVar, eBor, eC, sSet, sSetF, sFrz, sNil, sExpr, sPar, setsR, pNil, pVal, pOwn, sAppO, eUn, eTup, eFz, eCl, fn1, aCons, aNil, eCall, eCallK, arr, negD, tgName, wipeR, lBu, bYes, x_int_eq, x_int_ne, x_str_eq, x_str_ne, x_bl_eq, x_lt, x_le, x_gt, x_ge, x_add, x_sub, x_len_lst, x_len_tup, List.map_cons, List.map_nil, List.length_cons, List.length_nil, List.cons_append, List.nil_append, List.reduceReplicate, List.getElem?_cons_zero, List.getElem?_cons_succ, List.set_cons_zero, List.set_cons_succ, Nat.reduceAdd, Nat.reduceSub, Nat.zero_add, Nat.sub_self, List.replicate_zero, List.getD_cons_zero, List.getD_cons_succ, reduceIte, Bool.false_eq_true, if_true, if_false, x_if_t, decide_true, decide_false, decide_eq_true_eq, Bool.not_true, Bool.not_false, Bool.true_and, Bool.false_and, Bool.and_true, Bool.and_false, Bool.true_or, Bool.false_or, Bool.or_true, Bool.or_false, beq_self_eq_true, hx]
    by_cases w : 0 < way
    · rw [if_pos w, x_adds (by rw [sizeLine_eq]; show s.length + 1 ≤ _; omega)]
      refine ⟨l - (s ++ ⟨#[ch]⟩).length, ?_, s ++ ⟨#[ch]⟩, _, rfl, okRow_app hs (okRow_one hc), ?_, rfl, B7.mono ?_, K6.trans K7⟩
      · rw [len_app]; show l - (s.length + 1) < _; omega
      · rw [len_app]; show s.length + 1 ≤ _; omega
      · rw [len_app]; show _ ≤ T + 5 + 2 * (s.length + 1); omega
    · rw [if_neg w]
      refine tk B7 (by omega) (by decide) (by decide) fun q st8 q0 q1 B8 K8 => ?_
      have hm : opMul (.str ⟨#[ch]⟩) (.int (1 + q)) st8 = .ok (.str (strRep ⟨#[ch]⟩ (1 + q).toNat)) st8 := if_pos ⟨by omega, by omega, by show 1 ≤ 1000; decide⟩
      have lr : (strRep ⟨#[ch]⟩ (1 + q).toNat).length = (1 + q).toNat := by rw [strRep_length]; show _ * 1 = _; omega
      simp -implicitDefEqProofs only [wo_no, wo_so, wo_sl, wo_mt, soD_int, slO_lst, slO_tup, tyM_str, wo_ok, wo_bind, wo_oo, wo_ite, ws_nx, ws_rt, ws_seq, ws_then, ws_if, ws_ret, ws_ite, wo_fn, wo_if, wo_band, wo_bor, wo_and, wo_or, x_bin, x_bu, x_not, x_tb, x_andD, x_orD, x_notD, x_tst, x_bnot, x_comp, x_for, x_its, x_rng1b, x_rng2b, x_rngA, x_rngB, tq_str, tq_int, tq_bool, tq_tuple, tq_list, tq_dict, eVar, eBor, eC, sSet, sSetF, sFrz, sNil, sExpr, sPar, setsR, pNil, pVal, pOwn, sAppO, eUn, eTup, eFz, eCl, fn1, aCons, aNil, eCall, eCallK, arr, negD, tgName, wipeR, lBu, bYes, x_int_eq, x_int_ne, x_str_eq, x_str_ne, x_bl_eq, x_lt, x_le, x_gt, x_ge, x_add, x_sub, x_len_lst, x_len_tup, List.map_cons, List.map_nil, List.length_cons, List.length_nil, List.cons_append, List.nil_append, List.reduceReplicate, List.getElem?_cons_zero, List.getElem?_cons_succ, List.set_cons_zero, List.set_cons_succ, Nat.reduceAdd, Nat.reduceSub, Nat.zero_add, Nat.sub_self, List.replicate_zero, List.getD_cons_zero, List.getD_cons_succ, reduceIte, Bool.false_eq_true, if_true, if_false, x_if_t, decide_true, decide_false, decide_eq_true_eq, Bool.not_true, Bool.not_false, Bool.true_and, Bool.false_and, Bool.and_true, Bool.and_false, Bool.true_or, Bool.false_or, Bool.or_true, Bool.or_false, beq_self_eq_true, hm]
      rw [x_adds (by rw [sizeLine_eq, lr]; omega)]
      refine ⟨l - (s ++ strRep ⟨#[ch]⟩ (1 + q).toNat).length, ?_, s ++ strRep ⟨#[ch]⟩ (1 + q).toNat, _, rfl, okRow_app hs (okRow_rep (okRow_one hc) _), ?_, rfl, B8.mono ?_, (K6.trans K7).trans K8⟩
      · rw [len_app, lr]; omega
      · rw [len_app, lr]; omega
      · rw [len_app, lr]; omega
  · rw [if_neg c]
    rw [slO_str (show s.length ≤ 1000000 by omega)]
    refine h _ _ (okRow_cut hs _ _) ?_ (B6.mono (by omega)) K6
    rw [cut_len (by omega)]
    exact hl3
end Wk64
namespace Wk64
open PySem L2 Sx
def one (d : D) : Prop := ∃ c, isL c = true ∧ d = .str ⟨#[c]⟩
theorem join_ones : ∀ ys : List Str, (∀ y ∈ ys, ∃ c, isL c = true ∧ y = ⟨#[c]⟩) → okRow (Str.join ⟨#[]⟩ ys) = true ∧ (Str.join ⟨#[]⟩ ys).length = ys.length
  | [], _ => ⟨rfl, rfl⟩
  | [y], h => by
    obtain ⟨c, hc, rfl⟩ := h y (by simp)
    exact ⟨okRow_one hc, rfl⟩
  | y :: z :: r, h => by
    obtain ⟨h1, h2⟩ := join_ones (z :: r) fun x hx => h x (List.mem_cons_of_mem _ hx)
    obtain ⟨c, hc, rfl⟩ := h y (by simp)
    have e : Str.join ⟨#[]⟩ (⟨#[c]⟩ :: z :: r) = (⟨#[c]⟩ ++ ⟨#[]⟩) ++ Str.join ⟨#[]⟩ (z :: r) := rfl
    rw [e]
    refine ⟨okRow_app (okRow_app (okRow_one hc) rfl) h1, ?_⟩
    rw [len_app, len_app, h2, List.length_cons (a := (⟨#[c]⟩ : Str))]
    show 1 + 0 + _ = _
    omega
theorem ones_strs : ∀ ds : List D, (∀ d ∈ ds, one d) → ∃ ys, strsOf ds = some ys ∧ ys.length = ds.length ∧ ∀ y ∈ ys, ∃ c, isL c = true ∧ y = ⟨#[c]⟩
  | [], _ => ⟨[], rfl, rfl, by simp⟩
  | d :: ds, h => by
    obtain ⟨ys, e, l, k⟩ := ones_strs ds fun x hx => h x (List.mem_cons_of_mem _ hx)
    obtain ⟨c, hc, rfl⟩ := h d (by simp)
    refine ⟨⟨#[c]⟩ :: ys, by simp [strsOf, e], by simp [l], fun y hy => ?_⟩
    rcases List.mem_cons.mp hy with rfl | hy
    · exact ⟨c, hc, rfl⟩
    · exact k y hy
theorem join_is (ds : List D) (st : Sto) (h : ∀ d ∈ ds, one d) (hl : ds.length ≤ 1000) : ∃ s, joinG (.str "") [.lst ds] st = .ok (.str s) st ∧ okRow s = true ∧ s.length = ds.length := by
  obtain ⟨ys, e, l, k⟩ := ones_strs ds h
  obtain ⟨h1, h2⟩ := join_ones ys k
  have hs : (ys.map (·.length)).sum = ys.length := by
    clear e l h1 h2
    induction ys with
    | nil => rfl
    | cons y ys ih =>
      obtain ⟨c, hc, rfl⟩ := k y (by simp)
      rw [List.map_cons, List.sum_cons, ih fun z hz => k z (List.mem_cons_of_mem _ hz), List.length_cons]
      show 1 + _ = _
      omega
  refine ⟨Str.join ⟨#[]⟩ ys, ?_, h1, by rw [h2, l]⟩
  have he : ("" : Str) = ⟨#[]⟩ := rfl
  unfold joinG
  simp only [seqOf, Option.bind_some, e]
  rw [if_pos (by rw [hs]; show ys.length + ys.length * 0 ≤ _; omega), he, TL.join_eq]
theorem cut_len2 (s : Str) (a b : Int) (h0 : 0 ≤ a) (h : a ≤ b) : ((cutS s (some a) (some b)).length : Int) ≤ b - a := by
  obtain ⟨a, rfl⟩ := Int.eq_ofNat_of_zero_le h0
  obtain ⟨b, rfl⟩ := Int.eq_ofNat_of_zero_le (by omega : 0 ≤ b)
  unfold cutS
  rw [HT.sIx_nat, HT.sIx_nat]
  have : ((s.cps.toList.drop (min a s.length)).take (min b s.length - min a s.length)).length ≤ min b s.length - min a s.length := List.length_take_le _ _
  show ((((s.cps.toList.drop (min a s.length)).take (min b s.length - min a s.length)).toArray.size : Nat) : Int) ≤ _
  rw [List.size_toArray]
  omega
noncomputable def wTail : SM := sSeq (sSet 3 (eCl (lBu listDA (aCons (eVar 2) aNil))))
    (sRet (eMt "str" joinG (eC (.str "")) (aCons (eFz (lComp [6] (rng1 (aCons (eBu lenD (aCons (eVar 2) aNil)) aNil)) (tgName 6) bYes (eMt "list" popG (eVar 3) (aCons (eCall m__law_take (aCons (eVar 0) (aCons (eBu lenD (aCons (eVar 3) aNil)) aNil))) aNil)))) aNil)))
theorem tail_wo {st : Sto} {n T : Nat} {s f : Str} {way low : Int} {P : D → Sto → Prop} (hB : Box st n T) (hT : T < 950000) (hf : okRow f = true) (hl : f.length ≤ 12)
    (h : ∀ l st', okRow l = true → l.length ≤ 12 → Box st' n (T + 12) → P (.str l) st') : Ws (wTail [.val (.loc n), .val (.str s), .val (.str f), .un, .val (.int way), .val (.int low), .un] st) (fun _ st1 => P .non st1) P := by
  unfold wTail
  have hlist : listDA [.str f] st = some (f.cps.toList.map fun c => .str ⟨#[c]⟩) := if_pos (line1M (by omega))
  simp -implicitDefEqProofs only [wo_no, wo_so, wo_sl, wo_mt, soD_int, slO_lst, slO_tup, tyM_str, wo_ok, wo_bind, wo_oo, wo_ite, ws_nx, ws_rt, ws_seq, ws_then, ws_if, ws_ret, ws_ite, wo_fn, wo_if, wo_band, wo_bor, wo_and, wo_or, x_bin, x_bu, x_not, x_tb, x_andD, x_orD, x_notD, x_tst, x_bnot, x_comp, x_for, x_its, x_rng1b, x_rng2b, x_rngA, x_rngB, tq_str, tq_int, tq_bool, tq_tuple, tq_list, tq_dict, eVar, eBor, eC, sSet, sSetF, sFrz, sNil, sExpr, sPar, setsR, pNil, pVal, pOwn, sAppO, eUn, eTup, eFz, eCl, fn1, aCons, aNil, eCall, eCallK, arr, negD, tgName, wipeR, lBu, bYes, x_int_eq, x_int_ne, x_str_eq, x_str_ne, x_bl_eq, x_lt, x_le, x_gt, x_ge, x_add, x_sub, x_len_lst, x_len_tup, List.map_cons, List.map_nil, List.length_cons, List.length_nil, List.cons_append, List.nil_append, List.reduceReplicate, List.getElem?_cons_zero, List.getElem?_cons_succ, List.set_cons_zero, List.set_cons_succ, Nat.reduceAdd, Nat.reduceSub, Nat.zero_add, Nat.sub_self, List.replicate_zero, List.getD_cons_zero, List.getD_cons_succ, reduceIte, Bool.false_eq_true, if_true, if_false, x_if_t, decide_true, decide_false, decide_eq_true_eq, Bool.not_true, Bool.not_false, Bool.true_and, Bool.false_and, Bool.and_true, Bool.and_false, Bool.true_or, Bool.false_or, Bool.or_true, Bool.or_false, beq_self_eq_true, hlist, x_len_str (line1M (show f.length ≤ 1000000 by omega))]
  rw [rngO_ok (by omega) (by omega) (by omega) (by omega), wo_ok]
  have hn := hB.lt
  have B0 := hB.app [.lst (f.cps.toList.map fun c => D.str ⟨#[c]⟩)]
  have hcell : (st ++ [Cell.lst (f.cps.toList.map fun c => D.str ⟨#[c]⟩)])[st.length]? = some (.lst (f.cps.toList.map fun c => D.str ⟨#[c]⟩)) := by simp
  generalize st ++ [Cell.lst (f.cps.toList.map fun c => D.str ⟨#[c]⟩)] = st0 at B0 hcell
  have key := wo_comp (ρ := [.val (.loc n), .val (.str s), .val (.str f), .val (.loc st.length), .val (.int way), .val (.int low), .un]) (t := tgName 6) (c := bYes)
    (e := eMt "list" popG (eVar 3) (aCons (eCall m__law_take (aCons (eVar 0) (aCons (eBu lenD (aCons (eVar 3) aNil)) aNil))) aNil)) (P := fun ds st' => (∀ d ∈ ds, one d) ∧ ds.length = f.length ∧ Box st' n (T + 12))
    (fun k acc st' => (∀ d ∈ acc, one d) ∧ acc.length = k ∧ k ≤ f.length ∧ Box st' n (T + k) ∧ ∃ rest : List D, st'[st.length]? = some (.lst rest) ∧ rest.length = f.length - k ∧ ∀ d ∈ rest, one d) (dints 0 ((f.length : Int) - 0).toNat) 0 [] st0
    ⟨by simp, rfl, Nat.zero_le _, B0, _, hcell, by simp [Str.length], fun d hd => ?_⟩ (fun i d acc st1 hi ⟨h1, h2, h3, h4, rest, h5, h6, h7⟩ => ⟨_, rfl, ?_⟩) (fun acc st1 ⟨h1, h2, h3, h4, _⟩ => ?_)
  · refine key.imp fun ds st' ⟨k1, k2, k3⟩ => ?_
    rw [List.nil_append] at k1 k2
    obtain ⟨l, e1, e2, e3⟩ := join_is ds st' k1 (by omega)
    rw [e1]
    exact h l st' e2 (by omega) k3
  · obtain ⟨c, hc, rfl⟩ := List.mem_map.mp hd
    exact ⟨c, List.all_eq_true.mp hf c hc, rfl⟩
  · obtain ⟨rfl, hi⟩ := dints_get hi
    rw [Nat.zero_add] at h2 h3 h4 h6
    rw [Int.sub_zero, Int.toNat_natCast] at hi
    simp -implicitDefEqProofs only [wo_no, wo_so, wo_sl, wo_mt, soD_int, slO_lst, slO_tup, tyM_str, wo_ok, wo_bind, wo_oo, wo_ite, ws_nx, ws_rt, ws_seq, ws_then, ws_if, ws_ret, ws_ite, wo_fn, wo_if, wo_band, wo_bor, wo_and, wo_or, x_bin, x_bu, x_not, x_tb, x_andD, x_orD, x_notD, x_tst, x_bnot, x_comp, x_for, x_its, x_rng1b, x_rng2b, x_rngA, x_rngB, tq_str, tq_int, tq_bool, tq_tuple, tq_list, tq_dict, eVar, eBor, eC, sSet, sSetF, sFrz, sNil, sExpr, sPar, setsR, pNil, pVal, pOwn, sAppO, eUn, eTup, eFz, eCl, fn1, aCons, aNil, eCall, eCallK, arr, negD, tgName, wipeR, lBu, bYes, x_int_eq, x_int_ne, x_str_eq, x_str_ne, x_bl_eq, x_lt, x_le, x_gt, x_ge, x_add, x_sub, x_len_lst, x_len_tup, List.map_cons, List.map_nil, List.length_cons, List.length_nil, List.cons_append, List.nil_append, List.reduceReplicate, List.getElem?_cons_zero, List.getElem?_cons_succ, List.set_cons_zero, List.set_cons_succ, Nat.reduceAdd, Nat.reduceSub, Nat.zero_add, Nat.sub_self, List.replicate_zero, List.getD_cons_zero, List.getD_cons_succ, reduceIte, Bool.false_eq_true, if_true, if_false, x_if_t, decide_true, decide_false, decide_eq_true_eq, Bool.not_true, Bool.not_false, Bool.true_and, Bool.false_and, Bool.and_true, Bool.and_false, Bool.true_or, Bool.false_or, Bool.or_true, Bool.or_false, beq_self_eq_true, tyM_loc h5, x_len_loc h5]
    refine tk h4 (by omega) (by omega) (by omega) fun r st2 r0 r1 B2 K2 => ?_
    have h5' : st2[st.length]? = some (.lst rest) := by rw [K2.at' _ (by omega)]; exact h5
    obtain ⟨d, hd, hp⟩ := pop_at h5' r0 r1 (by omega)
    rw [hp, wo_ok]
    have hm := List.mem_of_getElem? hd
    have hk : r.toNat < rest.length := by omega
    refine ⟨fun x hx => ?_, by rw [List.length_append, h2]; simp, by omega, (B2.other (by omega)).mono (by omega), rest.eraseIdx r.toNat, ?_, ?_, fun x hx => h7 x (List.mem_of_mem_eraseIdx hx)⟩
    · rcases List.mem_append.mp hx with hx | hx
      · exact h1 x hx
      · rw [List.mem_singleton.mp hx]; exact h7 d hm
    · exact List.getElem?_set_self (List.getElem?_eq_some_iff.mp h5').1
    · rw [List.length_eraseIdx, if_pos hk]; omega
  · rw [dints_length] at h2 h4
    exact ⟨h1, by omega, h4.mono (by omega)⟩
/-- letters that are wanted -/
theorem wanted_wo {st : Sto} {n T : Nat} {s : Str} {P : D → Sto → Prop} (hB : Box st n T) (hT : T < 900000) (hs : okRow s = true) (hl : s.length ≤ 60)
    (h : ∀ l st', okRow l = true → l.length ≤ 12 → Box st' n (T + 40) → P (.str l) st') : Wo (m__law_wanted [.loc n, .str s] st) P := by
  unfold m__law_wanted
  rw [show b__law_wanted = sSeq _ (sSeq _ (sSeq _ (sSeq _ wTail))) from rfl]
  simp -implicitDefEqProofs only [wo_no, wo_so, wo_sl, wo_mt, soD_int, slO_lst, slO_tup, tyM_str, wo_ok, wo_bind, wo_oo, wo_ite, ws_nx, ws_rt, ws_seq, ws_then, ws_if, ws_ret, ws_ite, wo_fn, wo_if, wo_band, wo_bor, wo_and, wo_or, x_bin, x_bu, x_not, x_tb, x_andD, x_orD, x_notD, x_tst, x_bnot, x_comp, x_for, x_its, x_rng1b, x_rng2b, x_rngA, x_rngB, tq_str, tq_int, tq_bool, tq_tuple, tq_list, tq_dict, eVar, eBor, eC, sSet, sSetF, sFrz, sNil, sExpr, sPar, setsR, pNil, pVal, pOwn, sAppO, eUn, eTup, eFz, eCl, fn1, aCons, aNil, eCall, eCallK, arr, negD, tgName, wipeR, lBu, bYes, x_int_eq, x_int_ne, x_str_eq, x_str_ne, x_bl_eq, x_lt, x_le, x_gt, x_ge, x_add, x_sub, x_len_lst, x_len_tup, List.map_cons, List.map_nil, List.length_cons, List.length_nil, List.cons_append, List.nil_append, List.reduceReplicate, List.getElem?_cons_zero, List.getElem?_cons_succ, List.set_cons_zero, List.set_cons_succ, Nat.reduceAdd, Nat.reduceSub, Nat.zero_add, Nat.sub_self, List.replicate_zero, List.getD_cons_zero, List.getD_cons_succ, reduceIte, Bool.false_eq_true, if_true, if_false, x_if_t, decide_true, decide_false, decide_eq_true_eq, Bool.not_true, Bool.not_false, Bool.true_and, Bool.false_and, Bool.and_true, Bool.and_false, Bool.true_or, Bool.false_or, Bool.or_true, Bool.or_false, beq_self_eq_true]
  refine tk hB (by omega) (by decide) (by decide) fun way st1 w0 w1 B1 K1 => ?_
  simp -implicitDefEqProofs only [wo_no, wo_so, wo_sl, wo_mt, soD_int, slO_lst, slO_tup, tyM_str, wo_ok, wo_bind, wo_oo, wo_ite, ws_nx, ws_rt, ws_seq, ws_then, ws_if, ws_ret, ws_ite, wo_fn, wo_if, wo_band, wo_bor, wo_and, wo_or, x_bin, x_bu, x_not, x_tb, x_andD, x_orD, x_notD, x_tst, x_bnot, x_comp, x_for, x_its, x_rng1b, x_rng2b, x_rngA, x_rngB, tq_str, tq_int, tq_bool, tq_tuple, tq_list, tq_dict, eVar, eBor, eC, sSet, sSetF, sFrz, sNil, sExpr, sPar, setsR, pNil, pVal, pOwn, sAppO, eUn, eTup, eFz, eCl, fn1, aCons, aNil, eCall, eCallK, arr, negD, tgName, wipeR, lBu, bYes, x_int_eq, x_int_ne, x_str_eq, x_str_ne, x_bl_eq, x_lt, x_le, x_gt, x_ge, x_add, x_sub, x_len_lst, x_len_tup, List.map_cons, List.map_nil, List.length_cons, List.length_nil, List.cons_append, List.nil_append, List.reduceReplicate, List.getElem?_cons_zero, List.getElem?_cons_succ, List.set_cons_zero, List.set_cons_succ, Nat.reduceAdd, Nat.reduceSub, Nat.zero_add, Nat.sub_self, List.replicate_zero, List.getD_cons_zero, List.getD_cons_succ, reduceIte, Bool.false_eq_true, if_true, if_false, x_if_t, decide_true, decide_false, decide_eq_true_eq, Bool.not_true, Bool.not_false, Bool.true_and, Bool.false_and, Bool.and_true, Bool.and_false, Bool.true_or, Bool.false_or, Bool.or_true, Bool.or_false, beq_self_eq_true, x_len_str (line1M (show s.length ≤ 1000000 by omega))]
  refine tk B1 (by omega) (by omega) (by omega) fun low st2 l0 l1 B2 K2 => ?_
  refine tk B2 (by omega) (by decide) (by decide) fun q st3 q0 q1 B3 K3 => ?_
  simp -implicitDefEqProofs only [wo_no, wo_so, wo_sl, wo_mt, soD_int, slO_lst, slO_tup, tyM_str, wo_ok, wo_bind, wo_oo, wo_ite, ws_nx, ws_rt, ws_seq, ws_then, ws_if, ws_ret, ws_ite, wo_fn, wo_if, wo_band, wo_bor, wo_and, wo_or, x_bin, x_bu, x_not, x_tb, x_andD, x_orD, x_notD, x_tst, x_bnot, x_comp, x_for, x_its, x_rng1b, x_rng2b, x_rngA, x_rngB, tq_str, tq_int, tq_bool, tq_tuple, tq_list, tq_dict, eVar, eBor, eC, sSet, sSetF, sFrz, sNil, sExpr, sPar, setsR, pNil, pVal, pOwn, sAppO, eUn, eTup, eFz, eCl, fn1, aCons, aNil, eCall, eCallK, arr, negD, tgName, wipeR, lBu, bYes, x_int_eq, x_int_ne, x_str_eq, x_str_ne, x_bl_eq, x_lt, x_le, x_gt, x_ge, x_add, x_sub, x_len_lst, x_len_tup, List.map_cons, List.map_nil, List.length_cons, List.length_nil, List.cons_append, List.nil_append, List.reduceReplicate, List.getElem?_cons_zero, List.getElem?_cons_succ, List.set_cons_zero, List.set_cons_succ, Nat.reduceAdd, Nat.reduceSub, Nat.zero_add, Nat.sub_self, List.replicate_zero, List.getD_cons_zero, List.getD_cons_succ, reduceIte, Bool.false_eq_true, if_true, if_false, x_if_t, decide_true, decide_false, decide_eq_true_eq, Bool.not_true, Bool.not_false, Bool.true_and, Bool.false_and, Bool.and_true, Bool.and_false, Bool.true_or, Bool.false_or, Bool.or_true, Bool.or_false, beq_self_eq_true, slO_str (show s.length ≤ 1000000 by omega)]
  have cl := cut_len2 s low (low + q) l0 (by omega)
  have co := okRow_cut hs (some low) (some (low + q))
  generalize cutS s (some low) (some (low + q)) = f at cl co
  by_cases c0 : way = 0
  · -- drawn letters
    subst c0
    simp -implicitDefEqProofs only [wo_no, wo_so, wo_sl, wo_mt, soD_int, slO_lst, slO_tup, tyM_str, wo_ok, wo_bind, wo_oo, wo_ite, ws_nx, ws_rt, ws_seq, ws_then, ws_if, ws_ret, ws_ite, wo_fn, wo_if, wo_band, wo_bor, wo_and, wo_or, x_bin, x_bu, x_not, x_tb, x_andD, x_orD, x_notD, x_tst, x_bnot, x_comp, x_for, x_its, x_rng1b, x_rng2b, x_rngA, x_rngB, tq_str, tq_int, tq_bool, tq_tuple, tq_list, tq_dict, eVar, eBor, eC, sSet, sSetF, sFrz, sNil, sExpr, sPar, setsR, pNil, pVal, pOwn, sAppO, eUn, eTup, eFz, eCl, fn1, aCons, aNil, eCall, eCallK, arr, negD, tgName, wipeR, lBu, bYes, x_int_eq, x_int_ne, x_str_eq, x_str_ne, x_bl_eq, x_lt, x_le, x_gt, x_ge, x_add, x_sub, x_len_lst, x_len_tup, List.map_cons, List.map_nil, List.length_cons, List.length_nil, List.cons_append, List.nil_append, List.reduceReplicate, List.getElem?_cons_zero, List.getElem?_cons_succ, List.set_cons_zero, List.set_cons_succ, Nat.reduceAdd, Nat.reduceSub, Nat.zero_add, Nat.sub_self, List.replicate_zero, List.getD_cons_zero, List.getD_cons_succ, reduceIte, Bool.false_eq_true, if_true, if_false, x_if_t, decide_true, decide_false, decide_eq_true_eq, Bool.not_true, Bool.not_false, Bool.true_and, Bool.false_and, Bool.and_true, Bool.and_false, Bool.true_or, Bool.false_or, Bool.or_true, Bool.or_false, beq_self_eq_true]
    refine tk B3 (by omega) (by decide) (by decide) fun r st4 r0 r1 B4 K4 => ?_
    simp -implicitDefEqProofs only [wo_no, wo_so, wo_sl, wo_mt, soD_int, slO_lst, slO_tup, tyM_str, wo_ok, wo_bind, wo_oo, wo_ite, ws_nx, ws_rt, ws_seq, ws_then, ws_if, ws_ret, ws_ite, wo_fn, wo_if, wo_band, wo_bor, wo_and, wo_or, x_bin, x_bu, x_not, x_tb, x_andD, x_orD, x_notD, x_tst, x_bnot, x_comp, x_for, x_its, x_rng1b, x_rng2b, x_rngA, x_rngB, tq_str, tq_int, tq_bool, tq_tuple, tq_list, tq_dict, eVar, eBor, eC, sSet, sSetF, sFrz, sNil, sExpr, sPar, setsR, pNil, pVal, pOwn, sAppO, eUn, eTup, eFz, eCl, fn1, aCons, aNil, eCall, eCallK, arr, negD, tgName, wipeR, lBu, bYes, x_int_eq, x_int_ne, x_str_eq, x_str_ne, x_bl_eq, x_lt, x_le, x_gt, x_ge, x_add, x_sub, x_len_lst, x_len_tup, List.map_cons, List.map_nil, List.length_cons, List.length_nil, List.cons_append, List.nil_append, List.reduceReplicate, List.getElem?_cons_zero, List.getElem?_cons_succ, List.set_cons_zero, List.set_cons_succ, Nat.reduceAdd, Nat.reduceSub, Nat.zero_add, Nat.sub_self, List.replicate_zero, List.getD_cons_zero, List.getD_cons_succ, reduceIte, Bool.false_eq_true, if_true, if_false, x_if_t, decide_true, decide_false, decide_eq_true_eq, Bool.not_true, Bool.not_false, Bool.true_and, Bool.false_and, Bool.and_true, Bool.and_false, Bool.true_or, Bool.false_or, Bool.or_true, Bool.or_false, beq_self_eq_true]
    rw [rngO_ok (by omega) (by omega) (by omega) (by omega), wo_ok]
    have key := wo_comp (ρ := [.val (.loc n), .val (.str s), .val (.str f), .un, .val (.int 0), .val (.int low), .un]) (t := tgName 6) (c := bYes)
      (e := eBin opIx (eC (D.str (Str.ofString "abcdef"))) (eCall m__law_take (aCons (eVar 0) (aCons (eC (D.int 6)) aNil)))) (P := fun ds st' => (∀ d ∈ ds, one d) ∧ ds.length = r.toNat ∧ Box st' n (T + 4 + r.toNat))
      (fun k acc st' => (∀ d ∈ acc, one d) ∧ acc.length = k ∧ k ≤ r.toNat ∧ Box st' n (T + 4 + k)) (dints 0 (r - 0).toNat) 0 [] st4
      ⟨by simp, rfl, Nat.zero_le _, B4⟩ (fun i d acc st1 hi ⟨h1, h2, h3, h4⟩ => ⟨_, rfl, ?_⟩) (fun acc st1 ⟨h1, h2, h3, h4⟩ => ?_)
    · refine key.imp fun ds st' ⟨k1, k2, k3⟩ => ?_
      rw [List.nil_append] at k1 k2
      obtain ⟨l, e1, e2, e3⟩ := join_is ds st' k1 (by omega)
      rw [e1, wo_ok]
      exact tail_wo k3 (by omega) e2 (by omega) fun l st' a b c => h l st' a b (c.mono (by omega))
    · obtain ⟨rfl, hi⟩ := dints_get hi
      rw [Nat.zero_add] at h2 h3 h4
      simp -implicitDefEqProofs only [wo_no, wo_so, wo_sl, wo_mt, soD_int, slO_lst, slO_tup, tyM_str, wo_ok, wo_bind, wo_oo, wo_ite, ws_nx, ws_rt, ws_seq, ws_then, ws_if, ws_ret, ws_ite, wo_fn, wo_if, wo_band, wo_bor, wo_and, wo_or, x_bin, x_bu, x_not, x_tb, x_andD, x_orD, x_notD, x_tst, x_bnot, x_comp, x_for, x_its, x_rng1b, x_rng2b, x_rngA, x_rngB, tq_str, tq_int, tq_bool, tq_tuple, tq_list, tq_dict, eVar, eBor, eC, sSet, sSetF, sFrz, sNil, sExpr, sPar, setsR, pNil, pVal, pOwn, sAppO, eUn, eTup, eFz, eCl, fn1, aCons, aNil, eCall, eCallK, arr, negD, tgName, wipeR, lBu, bYes, x_int_eq, x_int_ne, x_str_eq, x_str_ne, x_bl_eq, x_lt, x_le, x_gt, x_ge, x_add, x_sub, x_len_lst, x_len_tup, List.map_cons, List.map_nil, List.length_cons, List.length_nil, List.cons_append, List.nil_append, List.reduceReplicate, List.getElem?_cons_zero, List.getElem?_cons_succ, List.set_cons_zero, List.set_cons_succ, Nat.reduceAdd, Nat.reduceSub, Nat.zero_add, Nat.sub_self, List.replicate_zero, List.getD_cons_zero, List.getD_cons_succ, reduceIte, Bool.false_eq_true, if_true, if_false, x_if_t, decide_true, decide_false, decide_eq_true_eq, Bool.not_true, Bool.not_false, Bool.true_and, Bool.false_and, Bool.and_true, Bool.and_false, Bool.true_or, Bool.false_or, Bool.or_true, Bool.or_false, beq_self_eq_true]
      refine tk h4 (by omega) (by decide) (by decide) fun x st2 x0 x1 B2 K2 => ?_
      obtain ⟨ch, hc, hx⟩ := letter_at x0 x1 st2
      rw [hx, wo_ok]
      refine ⟨fun y hy => ?_, by rw [List.length_append, h2]; simp, by omega, B2.mono (by omega)⟩
      rcases List.mem_append.mp hy with hy | hy
      · exact h1 y hy
      · rw [List.mem_singleton.mp hy]; exact ⟨ch, hc, rfl⟩
    · rw [dints_length] at h2 h4
      exact ⟨h1, by omega, h4.mono (by omega)⟩
  · rw [if_neg (by simpa using c0)]
    by_cases c1 : way = 1
    · subst c1
      simp -implicitDefEqProofs only [wo_no, wo_so, wo_sl, wo_mt, soD_int, slO_lst, slO_tup, tyM_str, wo_ok, wo_bind, wo_oo, wo_ite, ws_nx, ws_rt, ws_seq, ws_then, ws_if, ws_ret, ws_ite, wo_fn, wo_if, wo_band, wo_bor, wo_and, wo_or, x_bin, x_bu, x_not, x_tb, x_andD, x_orD, x_notD, x_tst, x_bnot, x_comp, x_for, x_its, x_rng1b, x_rng2b, x_rngA, x_rngB, tq_str, tq_int, tq_bool, tq_tuple, tq_list, tq_dict, eVar, eBor, eC, sSet, sSetF, sFrz, sNil, sExpr, sPar, setsR, pNil, pVal, pOwn, sAppO, eUn, eTup, eFz, eCl, fn1, aCons, aNil, eCall, eCallK, arr, negD, tgName, wipeR, lBu, bYes, x_int_eq, x_int_ne, x_str_eq, x_str_ne, x_bl_eq, x_lt, x_le, x_gt, x_ge, x_add, x_sub, x_len_lst, x_len_tup, List.map_cons, List.map_nil, List.length_cons, List.length_nil, List.cons_append, List.nil_append, List.reduceReplicate, List.getElem?_cons_zero, List.getElem?_cons_succ, List.set_cons_zero, List.set_cons_succ, Nat.reduceAdd, Nat.reduceSub, Nat.zero_add, Nat.sub_self, List.replicate_zero, List.getD_cons_zero, List.getD_cons_succ, reduceIte, Bool.false_eq_true, if_true, if_false, x_if_t, decide_true, decide_false, decide_eq_true_eq, Bool.not_true, Bool.not_false, Bool.true_and, Bool.false_and, Bool.and_true, Bool.and_false, Bool.true_or, Bool.false_or, Bool.or_true, Bool.or_false, beq_self_eq_true, x_len_str (line1M (show f.length ≤ 1000000 by omega))]
      by_cases c2 : (f.length : Int) < 12
      · rw [if_pos c2]
        refine tk B3 (by omega) (by decide) (by decide) fun r st4 r0 r1 B4 K4 => ?_
        obtain ⟨ch, hc, hx⟩ := letter_at r0 r1 st4
        simp -implicitDefEqProofs only [wo_no, wo_so, wo_sl, wo_mt, soD_int, slO_lst, slO_tup, tyM_str, wo_ok, wo_bind, wo_oo, wo_ite, ws_nx, ws_rt, ws_seq, ws_then, ws_if, ws_ret, ws_ite, wo_fn, wo_if, wo_band, wo_bor, wo_and, wo_or, x_bin, x_bu, x_not, x_tb, x_andD, x_orD, x_notD, x_tst, x_bnot, x_comp, x_for, x_its, x_rng1b, x_rng2b, x_rngA, x_rngB, tq_str, tq_int, tq_bool, tq_tuple, tq_list, tq_dict, eVar, eBor, eC, sSet, sSetF, sFrz, sNil, sExpr, sPar, setsR, pNil, pVal, pOwn, sAppO, eUn, eTup, eFz, eCl, fn1, aCons, aNil, eCall, eCallK, arr, negD, tgName, wipeR, lBu, bYes, x_int_eq, x_int_ne, x_str_eq, x_str_ne, x_bl_eq, x_lt, x_le, x_gt, x_ge, x_add, x_sub, x_len_lst, x_len_tup, List.map_cons, List.map_nil, List.length_cons, List.length_nil, List.cons_append, List.nil_append, List.reduceReplicate, List.getElem?_cons_zero, List.getElem?_cons_succ, List.set_cons_zero, List.set_cons_succ, Nat.reduceAdd, Nat.reduceSub, Nat.zero_add, Nat.sub_self, List.replicate_zero, List.getD_cons_zero, List.getD_cons_succ, reduceIte, Bool.false_eq_true, if_true, if_false, x_if_t, decide_true, decide_false, decide_eq_true_eq, Bool.not_true, Bool.not_false, Bool.true_and, Bool.false_and, Bool.and_true, Bool.and_false, Bool.true_or, Bool.false_or, Bool.or_true, Bool.or_false, beq_self_eq_true, hx]
        rw [x_adds (by rw [sizeLine_eq]; show f.length + 1 ≤ _; omega), wo_ok]
        exact tail_wo B4 (by omega) (okRow_app co (okRow_one hc)) (by rw [len_app]; show f.length + 1 ≤ 12; omega) fun l st' a b c => h l st' a b (c.mono (by omega))
      · rw [if_neg c2]
        exact tail_wo B3 (by omega) co (by omega) fun l st' a b c => h l st' a b (c.mono (by omega))
    · rw [if_neg (by simpa using c1)]
      exact tail_wo B3 (by omega) co (by omega) fun l st' a b c => h l st' a b (c.mono (by omega))
end Wk64
namespace Wk64
open PySem L2 Sx
def C (s : Str) (c : Nat) : Int := Txt.count s ⟨#[c]⟩
def abc : List Nat := ("abcdef" : Str).cps.toList
/-- the letters that w has too few times -/
def lack (w l : Str) : List Nat := abc.filter fun c => decide (C w c < C l c)
def hasB (w l : Str) : Bool := (lack w l).isEmpty
theorem count_at {ρ : Rho} {st : Sto} {i j : Nat} {s : Str} {c : Nat} (h : ρ[i]? = some (.val (.str s))) (h2 : ρ[j]? = some (.val (.str ⟨#[c]⟩))) : eMt "str" cntG (eVar i) (aCons (eVar j) aNil) ρ st = .ok (.int (C s c)) st := by
  have e1 : eVar i ρ st = .ok (.str s) st := x_var h
  have e2 : eVar j ρ st = .ok (.str ⟨#[c]⟩) st := x_var h2
  unfold eMt aCons aNil
  rw [e1]
  simp only [Out.bind, e2]
  rfl
theorem abc_is : itO (.str "abcdef") = fun st => .ok (abc.map fun c => .str ⟨#[c]⟩) st := by
  funext st
  exact itO_str (by rw [sizeLine_eq]; decide)
theorem plain_chars (l : List Nat) (h : ∀ c ∈ l, c ∈ abc) : plainD 50 (.lst (l.map fun c => D.str ⟨#[c]⟩)) = true := by
  show (l.map fun c => D.str ⟨#[c]⟩).all (plainD 49) = true
  refine List.all_eq_true.mpr fun d hd => ?_
  obtain ⟨c, hc, rfl⟩ := List.mem_map.mp hd
  have : c = 97 ∨ c = 98 ∨ c = 99 ∨ c = 100 ∨ c = 101 ∨ c = 102 := by
    have := h c hc
    have e : abc = [97, 98, 99, 100, 101, 102] := rfl
    rw [e] at this
    simpa using this
  rcases this with rfl | rfl | rfl | rfl | rfl | rfl <;> simp [plainD, PyData.strOk]
theorem law_has_eq (w l : Str) (st : Sto) : m__law_has [.str w, .str l] st = .ok (.bl (hasB w l)) st := by
  unfold m__law_has b__law_has
  have hc := compM_if (i := 2) (ρ := [.val (.str w), .val (.str l), .un]) (st := st) (c := tB1 (eBin opLt (eMt "str" cntG (eVar 0) (aCons (eVar 2) aNil)) (eMt "str" cntG (eVar 1) (aCons (eVar 2) aNil)))) (e := eVar 2) (fun c => D.str ⟨#[c]⟩) (fun c => D.str ⟨#[c]⟩) (fun c => decide (C w c < C l c)) abc
    (fun c _ => by
      simp only [List.set_cons_succ, List.set_cons_zero]
      rw [x_tb, x_bin, count_at (s := w) (c := c) rfl rfl]
      simp only [x_bok]
      rw [count_at (s := l) (c := c) rfl rfl]
      simp -implicitDefEqProofs only [x_bok, x_bexc, x_bst, x_bite, x_bb, x_oo, x_ooite, x_bin, x_bu, x_and, x_or, x_not, x_tb, x_andD, x_orD, x_notD, x_tst, x_band, x_bor, x_bnot, x_if, x_then, x_thenx, x_thenite, x_seq, x_seqn, x_seqr, x_seqe, x_seqb, x_seqc, x_seqite, x_ret, x_reto, x_rete, x_retite, x_fn, x_fnn, x_fnr, x_fne, x_fnite, x_comp, x_for, x_its, x_rng1b, x_rng2b, x_rngA, x_rngB, tq_str, tq_int, tq_bool, tq_tuple, tq_list, tq_dict, eVar, eBor, eC, sIf, sSet, sSetF, sFrz, sNil, sExpr, sPar, setsR, pNil, pVal, pOwn, sAppO, sBk, sCt, eUn, eTup, eFz, eCl, fn1, aCons, aNil, eCall, eCallK, arr, negD, tgName, wipeR, lBu, isiD, tyN, isaT, tysOf, String.reduceBEq, bYes, x_int_eq, x_int_ne, x_str_eq, x_str_ne, x_bl_eq, x_lt, x_le, x_gt, x_ge, x_add, x_sub, x_len_lst, x_len_tup, List.map_cons, List.map_nil, List.length_cons, List.length_nil, List.cons_append, List.nil_append, List.reduceReplicate, List.getElem?_cons_zero, List.getElem?_cons_succ, List.set_cons_zero, List.set_cons_succ, Nat.reduceAdd, Nat.reduceSub, Nat.zero_add, Nat.sub_self, List.replicate_zero, List.getD_cons_zero, List.getD_cons_succ, reduceIte, Bool.false_eq_true, if_true, if_false, x_if_t, decide_true, decide_false, Bool.not_true, Bool.not_false, Bool.true_and, Bool.false_and, Bool.and_true, Bool.and_false, Bool.true_or, Bool.false_or, Bool.or_true, Bool.or_false, beq_self_eq_true, List.any_cons, List.any_nil, List.all_cons, List.all_nil])
    (fun c _ _ => rfl)
  have a := congrFun abc_is st
  simp -implicitDefEqProofs only [x_bok, x_bexc, x_bst, x_bite, x_bb, x_oo, x_ooite, x_bin, x_bu, x_and, x_or, x_not, x_tb, x_andD, x_orD, x_notD, x_tst, x_band, x_bor, x_bnot, x_if, x_then, x_thenx, x_thenite, x_seq, x_seqn, x_seqr, x_seqe, x_seqb, x_seqc, x_seqite, x_ret, x_reto, x_rete, x_retite, x_fn, x_fnn, x_fnr, x_fne, x_fnite, x_comp, x_for, x_its, x_rng1b, x_rng2b, x_rngA, x_rngB, tq_str, tq_int, tq_bool, tq_tuple, tq_list, tq_dict, eVar, eBor, eC, sIf, sSet, sSetF, sFrz, sNil, sExpr, sPar, setsR, pNil, pVal, pOwn, sAppO, sBk, sCt, eUn, eTup, eFz, eCl, fn1, aCons, aNil, eCall, eCallK, arr, negD, tgName, wipeR, lBu, isiD, tyN, isaT, tysOf, String.reduceBEq, bYes, x_int_eq, x_int_ne, x_str_eq, x_str_ne, x_bl_eq, x_lt, x_le, x_gt, x_ge, x_add, x_sub, x_len_lst, x_len_tup, List.map_cons, List.map_nil, List.length_cons, List.length_nil, List.cons_append, List.nil_append, List.reduceReplicate, List.getElem?_cons_zero, List.getElem?_cons_succ, List.set_cons_zero, List.set_cons_succ, Nat.reduceAdd, Nat.reduceSub, Nat.zero_add, Nat.sub_self, List.replicate_zero, List.getD_cons_zero, List.getD_cons_succ, reduceIte, Bool.false_eq_true, if_true, if_false, x_if_t, decide_true, decide_false, Bool.not_true, Bool.not_false, Bool.true_and, Bool.false_and, Bool.and_true, Bool.and_false, Bool.true_or, Bool.false_or, Bool.or_true, Bool.or_false, beq_self_eq_true, List.any_cons, List.any_nil, List.all_cons, List.all_nil, a, hc]
  rw [x_eq, eqD_nil_l]
  · simp -implicitDefEqProofs only [x_bok, x_bexc, x_bst, x_bite, x_bb, x_oo, x_ooite, x_bin, x_bu, x_and, x_or, x_not, x_tb, x_andD, x_orD, x_notD, x_tst, x_band, x_bor, x_bnot, x_if, x_then, x_thenx, x_thenite, x_seq, x_seqn, x_seqr, x_seqe, x_seqb, x_seqc, x_seqite, x_ret, x_reto, x_rete, x_retite, x_fn, x_fnn, x_fnr, x_fne, x_fnite, x_comp, x_for, x_its, x_rng1b, x_rng2b, x_rngA, x_rngB, tq_str, tq_int, tq_bool, tq_tuple, tq_list, tq_dict, eVar, eBor, eC, sIf, sSet, sSetF, sFrz, sNil, sExpr, sPar, setsR, pNil, pVal, pOwn, sAppO, sBk, sCt, eUn, eTup, eFz, eCl, fn1, aCons, aNil, eCall, eCallK, arr, negD, tgName, wipeR, lBu, isiD, tyN, isaT, tysOf, String.reduceBEq, bYes, x_int_eq, x_int_ne, x_str_eq, x_str_ne, x_bl_eq, x_lt, x_le, x_gt, x_ge, x_add, x_sub, x_len_lst, x_len_tup, List.map_cons, List.map_nil, List.length_cons, List.length_nil, List.cons_append, List.nil_append, List.reduceReplicate, List.getElem?_cons_zero, List.getElem?_cons_succ, List.set_cons_zero, List.set_cons_succ, Nat.reduceAdd, Nat.reduceSub, Nat.zero_add, Nat.sub_self, List.replicate_zero, List.getD_cons_zero, List.getD_cons_succ, reduceIte, Bool.false_eq_true, if_true, if_false, x_if_t, decide_true, decide_false, Bool.not_true, Bool.not_false, Bool.true_and, Bool.false_and, Bool.and_true, Bool.and_false, Bool.true_or, Bool.false_or, Bool.or_true, Bool.or_false, beq_self_eq_true, List.any_cons, List.any_nil, List.all_cons, List.all_nil]
    unfold hasB lack
    cases (abc.filter fun c => decide (C w c < C l c)) <;> rfl
  · exact plain_chars _ fun c hc => (List.mem_filter.mp hc).1
  · rfl
/-! ### counts -/
theorem C_cnt (s : Str) (c : Nat) : C s c = PyProof.Rows.cnt c s.cps.toList := PyProof.Rows.count_is s c
theorem cnt_nn (c : Nat) : ∀ l : List Nat, 0 ≤ PyProof.Rows.cnt c l
  | [] => by rw [PyProof.Rows.cnt_nil]; decide
  | n :: r => by
    have := cnt_nn c r
    rw [PyProof.Rows.cnt_cons]
    split <;> omega
theorem cnt_pos {c : Nat} : ∀ {l : List Nat}, c ∈ l → 0 < PyProof.Rows.cnt c l
  | n :: r, h => by
    have := cnt_nn c r
    rw [PyProof.Rows.cnt_cons]
    rcases List.mem_cons.mp h with rfl | h
    · rw [if_pos rfl]; omega
    · have := cnt_pos h
      split <;> omega
theorem cnt_no {c : Nat} : ∀ {l : List Nat}, c ∉ l → PyProof.Rows.cnt c l = 0
  | [], _ => PyProof.Rows.cnt_nil c
  | n :: r, h => by
    rw [PyProof.Rows.cnt_cons, if_neg (fun e => h (by rw [e]; exact List.mem_cons_self)), cnt_no fun z => h (List.mem_cons_of_mem _ z)]
    rfl
theorem C_cut (s : Str) (a b : Nat) (c : Nat) (h : a ≤ b) (hb : b ≤ s.length) : C (cutS s (some (a : Int)) (some (b : Int))) c ≤ C s c := by
  rw [C_cnt, C_cnt]
  unfold cutS
  rw [HT.sIx_nat, HT.sIx_nat, List.toList_toArray]
  generalize min a s.length = x
  generalize min b s.length - x = y
  have e : s.cps.toList = s.cps.toList.take x ++ ((s.cps.toList.drop x).take y ++ (s.cps.toList.drop x).drop y) := by rw [List.take_append_drop, List.take_append_drop]
  have h1 := cnt_nn c (s.cps.toList.take x)
  have h2 := cnt_nn c ((s.cps.toList.drop x).drop y)
  have h3 : PyProof.Rows.cnt c s.cps.toList = PyProof.Rows.cnt c (s.cps.toList.take x) + (PyProof.Rows.cnt c ((s.cps.toList.drop x).take y) + PyProof.Rows.cnt c ((s.cps.toList.drop x).drop y)) := by
    rw [← PyProof.Rows.cnt_append, ← PyProof.Rows.cnt_append, ← e]
  omega
theorem hasB_iff {w l : Str} : hasB w l = true ↔ ∀ c ∈ abc, C l c ≤ C w c := by
  unfold hasB lack
  rw [List.isEmpty_iff, List.filter_eq_nil_iff]
  constructor
  · intro h c hc
    have := h c hc
    simp at this
    exact this
  · intro h c hc
    simpa using h c hc
/-- all letters of l stand in w: both ways of asking -/
theorem has_iff {w l : Str} (hl : okRow l = true) : hasB w l = true ↔ ∀ c ∈ l.cps.toList, C l c ≤ C w c := by
  rw [hasB_iff]
  constructor
  · intro h c hc
    have := List.all_eq_true.mp hl c hc
    exact h c (of_decide_eq_true this)
  · intro h c hc
    by_cases hm : c ∈ l.cps.toList
    · exact h c hm
    · rw [C_cnt, C_cnt, cnt_no hm]
      exact cnt_nn _ _
theorem has_empty {w : Str} : hasB w "" = true := hasB_iff.mpr fun c _ => by
  rw [C_cnt, C_cnt]
  exact cnt_nn _ _
theorem no_empty {l : Str} (hl : okRow l = true) (h : l ≠ "") : hasB "" l = false := by
  cases e : hasB "" l with
  | false => rfl
  | true =>
    exfalso
    obtain ⟨⟨x⟩⟩ := l
    cases x with
    | nil => exact h rfl
    | cons c r =>
      have := (has_iff hl).mp e c (by simp)
      rw [C_cnt, C_cnt] at this
      have p := cnt_pos (c := c) (l := c :: r) List.mem_cons_self
      have z : PyProof.Rows.cnt c ("" : Str).cps.toList = 0 := rfl
      rw [z] at this
      simp at this
      omega
end Wk64
namespace Wk64
open PySem L2 Sx
theorem has_all_eq (w l : Str) (st : Sto) (hl : okRow l = true) (hz : l.length ≤ 1000000) : m_has_all [.str w, .str l] st = .ok (.bl (hasB w l)) st := by
  unfold m_has_all b_has_all
  have hc := compM_all (i := 2) (ρ := [.val (.str w), .val (.str l), .un]) (st := st) (e := eBin opGe (eMt "str" cntG (eVar 0) (aCons (eVar 2) aNil)) (eMt "str" cntG (eVar 1) (aCons (eVar 2) aNil))) (fun c => D.str ⟨#[c]⟩) (fun c => D.bl (decide (C l c ≤ C w c))) l.cps.toList fun c _ => by
    simp only [List.set_cons_succ, List.set_cons_zero]
    rw [x_bin, count_at (s := w) (c := c) rfl rfl]
    simp only [x_bok]
    rw [count_at (s := l) (c := c) rfl rfl]
    simp -implicitDefEqProofs only [x_bok, x_bexc, x_bst, x_bite, x_bb, x_oo, x_ooite, x_bin, x_bu, x_and, x_or, x_not, x_tb, x_andD, x_orD, x_notD, x_tst, x_band, x_bor, x_bnot, x_if, x_then, x_thenx, x_thenite, x_seq, x_seqn, x_seqr, x_seqe, x_seqb, x_seqc, x_seqite, x_ret, x_reto, x_rete, x_retite, x_fn, x_fnn, x_fnr, x_fne, x_fnite, x_comp, x_for, x_its, x_rng1b, x_rng2b, x_rngA, x_rngB, tq_str, tq_int, tq_bool, tq_tuple, tq_list, tq_dict, eVar, eBor, eC, sIf, sSet, sSetF, sFrz, sNil, sExpr, sPar, setsR, pNil, pVal, pOwn, sAppO, sBk, sCt, eUn, eTup, eFz, eCl, fn1, aCons, aNil, eCall, eCallK, arr, negD, tgName, wipeR, lBu, isiD, tyN, isaT, tysOf, String.reduceBEq, bYes, x_int_eq, x_int_ne, x_str_eq, x_str_ne, x_bl_eq, x_lt, x_le, x_gt, x_ge, x_add, x_sub, x_len_lst, x_len_tup, List.map_cons, List.map_nil, List.length_cons, List.length_nil, List.cons_append, List.nil_append, List.reduceReplicate, List.getElem?_cons_zero, List.getElem?_cons_succ, List.set_cons_zero, List.set_cons_succ, Nat.reduceAdd, Nat.reduceSub, Nat.zero_add, Nat.sub_self, List.replicate_zero, List.getD_cons_zero, List.getD_cons_succ, reduceIte, Bool.false_eq_true, if_true, if_false, x_if_t, decide_true, decide_false, Bool.not_true, Bool.not_false, Bool.true_and, Bool.false_and, Bool.and_true, Bool.and_false, Bool.true_or, Bool.false_or, Bool.or_true, Bool.or_false, beq_self_eq_true, List.any_cons, List.any_nil, List.all_cons, List.all_nil]
  have e : List.map (fun c => D.bl (decide (C l c ≤ C w c))) l.cps.toList = (l.cps.toList.map fun c => decide (C l c ≤ C w c)).map D.bl := by rw [List.map_map]; rfl
  rw [e] at hc
  simp -implicitDefEqProofs only [x_bok, x_bexc, x_bst, x_bite, x_bb, x_oo, x_ooite, x_bin, x_bu, x_and, x_or, x_not, x_tb, x_andD, x_orD, x_notD, x_tst, x_band, x_bor, x_bnot, x_if, x_then, x_thenx, x_thenite, x_seq, x_seqn, x_seqr, x_seqe, x_seqb, x_seqc, x_seqite, x_ret, x_reto, x_rete, x_retite, x_fn, x_fnn, x_fnr, x_fne, x_fnite, x_comp, x_for, x_its, x_rng1b, x_rng2b, x_rngA, x_rngB, tq_str, tq_int, tq_bool, tq_tuple, tq_list, tq_dict, eVar, eBor, eC, sIf, sSet, sSetF, sFrz, sNil, sExpr, sPar, setsR, pNil, pVal, pOwn, sAppO, sBk, sCt, eUn, eTup, eFz, eCl, fn1, aCons, aNil, eCall, eCallK, arr, negD, tgName, wipeR, lBu, isiD, tyN, isaT, tysOf, String.reduceBEq, bYes, x_int_eq, x_int_ne, x_str_eq, x_str_ne, x_bl_eq, x_lt, x_le, x_gt, x_ge, x_add, x_sub, x_len_lst, x_len_tup, List.map_cons, List.map_nil, List.length_cons, List.length_nil, List.cons_append, List.nil_append, List.reduceReplicate, List.getElem?_cons_zero, List.getElem?_cons_succ, List.set_cons_zero, List.set_cons_succ, Nat.reduceAdd, Nat.reduceSub, Nat.zero_add, Nat.sub_self, List.replicate_zero, List.getD_cons_zero, List.getD_cons_succ, reduceIte, Bool.false_eq_true, if_true, if_false, x_if_t, decide_true, decide_false, Bool.not_true, Bool.not_false, Bool.true_and, Bool.false_and, Bool.and_true, Bool.and_false, Bool.true_or, Bool.false_or, Bool.or_true, Bool.or_false, beq_self_eq_true, List.any_cons, List.any_nil, List.all_cons, List.all_nil, itO_str (line1M hz), hc, allD_bools]
  congr 2
  rw [Bool.eq_iff_iff, has_iff hl, List.all_eq_true]
  simp
def win (s : Str) (L lo : Nat) : Str := cutS s (some (lo : Int)) (some ((lo : Int) + (L : Int)))
def winL (n : Nat) : List (Nat × Nat) := (List.range n).flatMap fun lo => (List.range (n - lo)).map fun k => (k + 1, lo)
theorem mem_win {n L lo : Nat} : (L, lo) ∈ winL n ↔ 1 ≤ L ∧ lo + L ≤ n := by
  unfold winL
  simp only [List.mem_flatMap, List.mem_range, List.mem_map, Prod.mk.injEq]
  constructor
  · rintro ⟨a, h1, k, h2, h3, h4⟩
    omega
  · rintro ⟨h1, h2⟩
    exact ⟨lo, by omega, L - 1, by omega, by omega, rfl⟩
def toI (p : Nat × Nat) : Int × Int := (p.1, p.2)
def prD (p : Nat × Nat) : D := pairD p.1 p.2
theorem winL_len (n : Nat) : (winL n).length ≤ n * n := by
  unfold winL
  rw [List.length_flatMap]
  have : ∀ l : List Nat, (l.map fun lo => ((List.range (n - lo)).map fun k => (k + 1, lo)).length).sum ≤ l.length * n := by
    intro l
    induction l with
    | nil => simp
    | cons a l ih =>
      rw [List.map_cons, List.sum_cons, List.length_cons, Nat.succ_mul, List.length_map, List.length_range]
      omega
  have := this (List.range n)
  rwa [List.length_range] at this
theorem windows_eq (s : Str) (st : Sto) (hs : s.length ≤ 60) : m_windows_of [.str s] st = .ok (.lst ((winL s.length).map prD)) st := by
  unfold m_windows_of b_windows_of
  have hc := compM2_pure (t := tgName 2) (t1 := tgName 3) (c := bYes) (c1 := bYes) (it1 := rng2 (aCons (eBin opAdd (eVar 2) (eC (.int 1))) (aCons (eBin opAdd (eVar 1) (eC (.int 1))) aNil))) (vs1 := [3]) (e := eTup (aCons (eBin opSub (eVar 3) (eVar 2)) (aCons (eVar 2) aNil)))
    (ρ := [.val (.str s), .val (.int s.length), .un, .un]) (st := st) (fun (lo : Nat) => D.int (0 + lo)) (fun (h : Nat × Nat) => D.int ((h.2 : Int) + 1 + h.1)) (fun lo => (List.range (s.length - lo)).map fun k => (k, lo)) (fun lo h => prD (h.1 + 1, h.2)) (List.range s.length) fun lo hlo => by
      have hlo : lo < s.length := List.mem_range.mp hlo
      refine ⟨_, rfl, rfl, ?_, ?_⟩
      · simp -implicitDefEqProofs only [x_bok, x_bexc, x_bst, x_bite, x_bb, x_oo, x_ooite, x_bin, x_bu, x_and, x_or, x_not, x_tb, x_andD, x_orD, x_notD, x_tst, x_band, x_bor, x_bnot, x_if, x_then, x_thenx, x_thenite, x_seq, x_seqn, x_seqr, x_seqe, x_seqb, x_seqc, x_seqite, x_ret, x_reto, x_rete, x_retite, x_fn, x_fnn, x_fnr, x_fne, x_fnite, x_comp, x_for, x_its, x_rng1b, x_rng2b, x_rngA, x_rngB, tq_str, tq_int, tq_bool, tq_tuple, tq_list, tq_dict, eVar, eBor, eC, sIf, sSet, sSetF, sFrz, sNil, sExpr, sPar, setsR, pNil, pVal, pOwn, sAppO, sBk, sCt, eUn, eTup, eFz, eCl, fn1, aCons, aNil, eCall, eCallK, arr, negD, tgName, wipeR, lBu, isiD, tyN, isaT, tysOf, String.reduceBEq, bYes, x_int_eq, x_int_ne, x_str_eq, x_str_ne, x_bl_eq, x_lt, x_le, x_gt, x_ge, x_add, x_sub, x_len_lst, x_len_tup, List.map_cons, List.map_nil, List.length_cons, List.length_nil, List.cons_append, List.nil_append, List.reduceReplicate, List.getElem?_cons_zero, List.getElem?_cons_succ, List.set_cons_zero, List.set_cons_succ, Nat.reduceAdd, Nat.reduceSub, Nat.zero_add, Nat.sub_self, List.replicate_zero, List.getD_cons_zero, List.getD_cons_succ, reduceIte, Bool.false_eq_true, if_true, if_false, x_if_t, decide_true, decide_false, Bool.not_true, Bool.not_false, Bool.true_and, Bool.false_and, Bool.and_true, Bool.and_false, Bool.true_or, Bool.false_or, Bool.or_true, Bool.or_false, beq_self_eq_true, List.any_cons, List.any_nil, List.all_cons, List.all_nil]
        rw [rngO_ok (by omega) (by omega) (by omega) (by omega), dints_map, show ((s.length : Int) + 1 - (0 + (lo : Int) + 1)).toNat = s.length - lo by omega, List.map_map]
        congr 1
        refine List.map_congr_left fun k _ => ?_
        show D.int (0 + (lo : Int) + 1 + k) = D.int ((lo : Int) + 1 + k)
        rw [Int.zero_add]
      · refine compM_all _ _ _ fun h hh => ?_
        obtain ⟨k, hk, rfl⟩ := List.mem_map.mp hh
        simp only [noOwn, List.map_cons, List.map_nil, wipeR, List.set_cons_succ, List.set_cons_zero]
        simp -implicitDefEqProofs only [x_bok, x_bexc, x_bst, x_bite, x_bb, x_oo, x_ooite, x_bin, x_bu, x_and, x_or, x_not, x_tb, x_andD, x_orD, x_notD, x_tst, x_band, x_bor, x_bnot, x_if, x_then, x_thenx, x_thenite, x_seq, x_seqn, x_seqr, x_seqe, x_seqb, x_seqc, x_seqite, x_ret, x_reto, x_rete, x_retite, x_fn, x_fnn, x_fnr, x_fne, x_fnite, x_comp, x_for, x_its, x_rng1b, x_rng2b, x_rngA, x_rngB, tq_str, tq_int, tq_bool, tq_tuple, tq_list, tq_dict, eVar, eBor, eC, sIf, sSet, sSetF, sFrz, sNil, sExpr, sPar, setsR, pNil, pVal, pOwn, sAppO, sBk, sCt, eUn, eTup, eFz, eCl, fn1, aCons, aNil, eCall, eCallK, arr, negD, tgName, wipeR, lBu, isiD, tyN, isaT, tysOf, String.reduceBEq, bYes, x_int_eq, x_int_ne, x_str_eq, x_str_ne, x_bl_eq, x_lt, x_le, x_gt, x_ge, x_add, x_sub, x_len_lst, x_len_tup, List.map_cons, List.map_nil, List.length_cons, List.length_nil, List.cons_append, List.nil_append, List.reduceReplicate, List.getElem?_cons_zero, List.getElem?_cons_succ, List.set_cons_zero, List.set_cons_succ, Nat.reduceAdd, Nat.reduceSub, Nat.zero_add, Nat.sub_self, List.replicate_zero, List.getD_cons_zero, List.getD_cons_succ, reduceIte, Bool.false_eq_true, if_true, if_false, x_if_t, decide_true, decide_false, Bool.not_true, Bool.not_false, Bool.true_and, Bool.false_and, Bool.and_true, Bool.and_false, Bool.true_or, Bool.false_or, Bool.or_true, Bool.or_false, beq_self_eq_true, List.any_cons, List.any_nil, List.all_cons, List.all_nil]
        show Out.ok (.tup [.int ((lo : Int) + 1 + k - (0 + lo)), .int (0 + lo)]) st = Out.ok (pairD ((k + 1 : Nat) : Int) (lo : Int)) st
        unfold pairD
        rw [show (lo : Int) + 1 + k - (0 + lo) = ((k + 1 : Nat) : Int) by omega, Int.zero_add]
  have e : (List.range s.length).flatMap (fun lo => ((List.range (s.length - lo)).map fun k => (k, lo)).map fun h => prD (h.1 + 1, h.2)) = (winL s.length).map prD := by
    unfold winL
    rw [List.map_flatMap]
    congr 1
    funext lo
    rw [List.map_map, List.map_map]
    rfl
  rw [e] at hc
  have hz : ((winL s.length).map prD).length ≤ 1000000 := by
    rw [List.length_map]
    have h1 := winL_len s.length
    have h2 : s.length * s.length ≤ 60 * 60 := Nat.mul_le_mul hs hs
    omega
  simp -implicitDefEqProofs only [x_bok, x_bexc, x_bst, x_bite, x_bb, x_oo, x_ooite, x_bin, x_bu, x_and, x_or, x_not, x_tb, x_andD, x_orD, x_notD, x_tst, x_band, x_bor, x_bnot, x_if, x_then, x_thenx, x_thenite, x_seq, x_seqn, x_seqr, x_seqe, x_seqb, x_seqc, x_seqite, x_ret, x_reto, x_rete, x_retite, x_fn, x_fnn, x_fnr, x_fne, x_fnite, x_comp, x_for, x_its, x_rng1b, x_rng2b, x_rngA, x_rngB, tq_str, tq_int, tq_bool, tq_tuple, tq_list, tq_dict, eVar, eBor, eC, sIf, sSet, sSetF, sFrz, sNil, sExpr, sPar, setsR, pNil, pVal, pOwn, sAppO, sBk, sCt, eUn, eTup, eFz, eCl, fn1, aCons, aNil, eCall, eCallK, arr, negD, tgName, wipeR, lBu, isiD, tyN, isaT, tysOf, String.reduceBEq, bYes, x_int_eq, x_int_ne, x_str_eq, x_str_ne, x_bl_eq, x_lt, x_le, x_gt, x_ge, x_add, x_sub, x_len_lst, x_len_tup, List.map_cons, List.map_nil, List.length_cons, List.length_nil, List.cons_append, List.nil_append, List.reduceReplicate, List.getElem?_cons_zero, List.getElem?_cons_succ, List.set_cons_zero, List.set_cons_succ, Nat.reduceAdd, Nat.reduceSub, Nat.zero_add, Nat.sub_self, List.replicate_zero, List.getD_cons_zero, List.getD_cons_succ, reduceIte, Bool.false_eq_true, if_true, if_false, x_if_t, decide_true, decide_false, Bool.not_true, Bool.not_false, Bool.true_and, Bool.false_and, Bool.and_true, Bool.and_false, Bool.true_or, Bool.false_or, Bool.or_true, Bool.or_false, beq_self_eq_true, List.any_cons, List.any_nil, List.all_cons, List.all_nil, x_len_str (line1M (show s.length ≤ 1000000 by omega)), x_comp2]
  rw [rngO_ok (by omega) (by omega) (by omega) (by omega), dints_map, show ((s.length : Int) - 0).toNat = s.length by omega]
  simp -implicitDefEqProofs only [x_bok, x_bexc, x_bst, x_bite, x_bb, x_oo, x_ooite, x_bin, x_bu, x_and, x_or, x_not, x_tb, x_andD, x_orD, x_notD, x_tst, x_band, x_bor, x_bnot, x_if, x_then, x_thenx, x_thenite, x_seq, x_seqn, x_seqr, x_seqe, x_seqb, x_seqc, x_seqite, x_ret, x_reto, x_rete, x_retite, x_fn, x_fnn, x_fnr, x_fne, x_fnite, x_comp, x_for, x_its, x_rng1b, x_rng2b, x_rngA, x_rngB, tq_str, tq_int, tq_bool, tq_tuple, tq_list, tq_dict, eVar, eBor, eC, sIf, sSet, sSetF, sFrz, sNil, sExpr, sPar, setsR, pNil, pVal, pOwn, sAppO, sBk, sCt, eUn, eTup, eFz, eCl, fn1, aCons, aNil, eCall, eCallK, arr, negD, tgName, wipeR, lBu, isiD, tyN, isaT, tysOf, String.reduceBEq, bYes, x_int_eq, x_int_ne, x_str_eq, x_str_ne, x_bl_eq, x_lt, x_le, x_gt, x_ge, x_add, x_sub, x_len_lst, x_len_tup, List.map_cons, List.map_nil, List.length_cons, List.length_nil, List.cons_append, List.nil_append, List.reduceReplicate, List.getElem?_cons_zero, List.getElem?_cons_succ, List.set_cons_zero, List.set_cons_succ, Nat.reduceAdd, Nat.reduceSub, Nat.zero_add, Nat.sub_self, List.replicate_zero, List.getD_cons_zero, List.getD_cons_succ, reduceIte, Bool.false_eq_true, if_true, if_false, x_if_t, decide_true, decide_false, Bool.not_true, Bool.not_false, Bool.true_and, Bool.false_and, Bool.and_true, Bool.and_false, Bool.true_or, Bool.false_or, Bool.or_true, Bool.or_false, beq_self_eq_true, List.any_cons, List.any_nil, List.all_cons, List.all_nil, hc, chkO_ok hz]
/-- the least window: what it is -/
def LeastP (s l : Str) (d : D) : Prop := (∃ L lo : Nat, d = prD (L, lo) ∧ lo + L ≤ s.length ∧ hasB (win s L lo) l = true ∧ ∀ L' lo' : Nat, lo' + L' ≤ s.length → hasB (win s L' lo') l = true → L < L' ∨ (L = L' ∧ lo ≤ lo')) ∨
  (d = .non ∧ ∀ L' lo' : Nat, lo' + L' ≤ s.length → hasB (win s L' lo') l = false)
theorem least_uniq {s l : Str} {d e : D} (h : LeastP s l d) (k : LeastP s l e) : d = e := by
  rcases h with ⟨L, lo, rfl, h1, h2, h3⟩ | ⟨rfl, h3⟩ <;> rcases k with ⟨M, mo, rfl, k1, k2, k3⟩ | ⟨rfl, k3⟩
  · have a := h3 M mo k1 k2
    have b := k3 L lo h1 h2
    have : L = M ∧ lo = mo := by omega
    rw [this.1, this.2]
  · rw [k3 L lo h1] at h2; cases h2
  · rw [h3 M mo k1] at k2; cases k2
  · rfl
theorem win_zero (s : Str) (lo : Nat) : win s 0 lo = "" := by
  unfold win cutS
  rw [show (lo : Int) + ((0 : Nat) : Int) = (lo : Int) by omega, HT.sIx_nat, HT.sIx_nat, Nat.sub_self, List.take_zero]
  rfl
theorem check_row_ok {s : Str} (st : Sto) (h : okRow s = true) (hl : s.length ≤ 60) : m_check_row [.str s] st = .ok .non st := by
  have a := are_letters_str s 60 st (line1M (by omega))
  rw [h, decide_eq_true (by omega)] at a
  unfold m_check_row b_check_row
  simp -implicitDefEqProofs only [x_bok, x_bexc, x_bst, x_bite, x_bb, x_oo, x_ooite, x_bin, x_bu, x_and, x_or, x_not, x_tb, x_andD, x_orD, x_notD, x_tst, x_band, x_bor, x_bnot, x_if, x_then, x_thenx, x_thenite, x_seq, x_seqn, x_seqr, x_seqe, x_seqb, x_seqc, x_seqite, x_ret, x_reto, x_rete, x_retite, x_fn, x_fnn, x_fnr, x_fne, x_fnite, x_comp, x_for, x_its, x_rng1b, x_rng2b, x_rngA, x_rngB, tq_str, tq_int, tq_bool, tq_tuple, tq_list, tq_dict, eVar, eBor, eC, sIf, sSet, sSetF, sFrz, sNil, sExpr, sPar, setsR, pNil, pVal, pOwn, sAppO, sBk, sCt, eUn, eTup, eFz, eCl, fn1, aCons, aNil, eCall, eCallK, arr, negD, tgName, wipeR, lBu, isiD, tyN, isaT, tysOf, String.reduceBEq, bYes, x_int_eq, x_int_ne, x_str_eq, x_str_ne, x_bl_eq, x_lt, x_le, x_gt, x_ge, x_add, x_sub, x_len_lst, x_len_tup, List.map_cons, List.map_nil, List.length_cons, List.length_nil, List.cons_append, List.nil_append, List.reduceReplicate, List.getElem?_cons_zero, List.getElem?_cons_succ, List.set_cons_zero, List.set_cons_succ, Nat.reduceAdd, Nat.reduceSub, Nat.zero_add, Nat.sub_self, List.replicate_zero, List.getD_cons_zero, List.getD_cons_succ, reduceIte, Bool.false_eq_true, if_true, if_false, x_if_t, decide_true, decide_false, Bool.not_true, Bool.not_false, Bool.true_and, Bool.false_and, Bool.and_true, Bool.and_false, Bool.true_or, Bool.false_or, Bool.or_true, Bool.or_false, beq_self_eq_true, List.any_cons, List.any_nil, List.all_cons, List.all_nil, a]
theorem check_both_ok {s l : Str} (st : Sto) (h : okRow s = true) (hl : s.length ≤ 60) (k : okRow l = true) (kl : l.length ≤ 12) : m_check_both [.str s, .str l] st = .ok .non st := by
  have a := are_letters_str l 12 st (line1M (by omega))
  rw [k, decide_eq_true (by omega)] at a
  unfold m_check_both b_check_both
  simp -implicitDefEqProofs only [x_bok, x_bexc, x_bst, x_bite, x_bb, x_oo, x_ooite, x_bin, x_bu, x_and, x_or, x_not, x_tb, x_andD, x_orD, x_notD, x_tst, x_band, x_bor, x_bnot, x_if, x_then, x_thenx, x_thenite, x_seq, x_seqn, x_seqr, x_seqe, x_seqb, x_seqc, x_seqite, x_ret, x_reto, x_rete, x_retite, x_fn, x_fnn, x_fnr, x_fne, x_fnite, x_comp, x_for, x_its, x_rng1b, x_rng2b, x_rngA, x_rngB, tq_str, tq_int, tq_bool, tq_tuple, tq_list, tq_dict, eVar, eBor, eC, sIf, sSet, sSetF, sFrz, sNil, sExpr, sPar, setsR, pNil, pVal, pOwn, sAppO, sBk, sCt, eUn, eTup, eFz, eCl, fn1, aCons, aNil, eCall, eCallK, arr, negD, tgName, wipeR, lBu, isiD, tyN, isaT, tysOf, String.reduceBEq, bYes, x_int_eq, x_int_ne, x_str_eq, x_str_ne, x_bl_eq, x_lt, x_le, x_gt, x_ge, x_add, x_sub, x_len_lst, x_len_tup, List.map_cons, List.map_nil, List.length_cons, List.length_nil, List.cons_append, List.nil_append, List.reduceReplicate, List.getElem?_cons_zero, List.getElem?_cons_succ, List.set_cons_zero, List.set_cons_succ, Nat.reduceAdd, Nat.reduceSub, Nat.zero_add, Nat.sub_self, List.replicate_zero, List.getD_cons_zero, List.getD_cons_succ, reduceIte, Bool.false_eq_true, if_true, if_false, x_if_t, decide_true, decide_false, Bool.not_true, Bool.not_false, Bool.true_and, Bool.false_and, Bool.and_true, Bool.and_false, Bool.true_or, Bool.false_or, Bool.or_true, Bool.or_false, beq_self_eq_true, List.any_cons, List.any_nil, List.all_cons, List.all_nil, check_row_ok st h hl, a]
theorem prD_nat (p : Nat × Nat) : prD p = pairD (toI p).1 (toI p).2 := rfl
theorem plain_pairs (l : List (Nat × Nat)) : plainD 50 (.lst (l.map prD)) = true := by
  show (l.map prD).all (plainD 49) = true
  refine List.all_eq_true.mpr fun d hd => ?_
  obtain ⟨p, _, rfl⟩ := List.mem_map.mp hd
  rfl
theorem least_window_eq {s l : Str} (st : Sto) (h : okRow s = true) (hl : s.length ≤ 60) (k : okRow l = true) (kl : l.length ≤ 12) : ∃ d, m_least_window [.str s, .str l] st = .ok d st ∧ LeastP s l d := by
  unfold m_least_window b_least_window
  by_cases he : l = ""
  · subst he
    refine ⟨prD (0, 0), ?_, .inl ⟨0, 0, rfl, Nat.zero_le _, by rw [win_zero]; exact has_empty, fun L' lo' _ _ => by omega⟩⟩
    simp -implicitDefEqProofs only [x_bok, x_bexc, x_bst, x_bite, x_bb, x_oo, x_ooite, x_bin, x_bu, x_and, x_or, x_not, x_tb, x_andD, x_orD, x_notD, x_tst, x_band, x_bor, x_bnot, x_if, x_then, x_thenx, x_thenite, x_seq, x_seqn, x_seqr, x_seqe, x_seqb, x_seqc, x_seqite, x_ret, x_reto, x_rete, x_retite, x_fn, x_fnn, x_fnr, x_fne, x_fnite, x_comp, x_for, x_its, x_rng1b, x_rng2b, x_rngA, x_rngB, tq_str, tq_int, tq_bool, tq_tuple, tq_list, tq_dict, eVar, eBor, eC, sIf, sSet, sSetF, sFrz, sNil, sExpr, sPar, setsR, pNil, pVal, pOwn, sAppO, sBk, sCt, eUn, eTup, eFz, eCl, fn1, aCons, aNil, eCall, eCallK, arr, negD, tgName, wipeR, lBu, isiD, tyN, isaT, tysOf, String.reduceBEq, bYes, x_int_eq, x_int_ne, x_str_eq, x_str_ne, x_bl_eq, x_lt, x_le, x_gt, x_ge, x_add, x_sub, x_len_lst, x_len_tup, List.map_cons, List.map_nil, List.length_cons, List.length_nil, List.cons_append, List.nil_append, List.reduceReplicate, List.getElem?_cons_zero, List.getElem?_cons_succ, List.set_cons_zero, List.set_cons_succ, Nat.reduceAdd, Nat.reduceSub, Nat.zero_add, Nat.sub_self, List.replicate_zero, List.getD_cons_zero, List.getD_cons_succ, reduceIte, Bool.false_eq_true, if_true, if_false, x_if_t, decide_true, decide_false, Bool.not_true, Bool.not_false, Bool.true_and, Bool.false_and, Bool.and_true, Bool.and_false, Bool.true_or, Bool.false_or, Bool.or_true, Bool.or_false, beq_self_eq_true, List.any_cons, List.any_nil, List.all_cons, List.all_nil, check_both_ok st h hl k kl]
    rfl
  · have hc := compM_map (t := tgTup 2 (tgCons (tgName 3) (tgCons (tgName 4) tgNil))) (ρ := [.val (.str s), .val (.str l), .un, .un, .un]) (st := st)
      (c := tB1 (eCall m_has_all (aCons (eSl (eVar 0) (oSo (eVar 4)) (oSo (eBin opAdd (eVar 4) (eVar 3)))) (aCons (eVar 1) aNil)))) (e := eTup (aCons (eVar 3) (aCons (eVar 4) aNil))) prD prD (fun p => hasB (win s p.1 p.2) l) (winL s.length) (fun p hp => by
        refine ⟨_, rfl, ?_, fun _ => rfl⟩
        have e1 : eSl (eVar 0) (oSo (eVar 4)) (oSo (eBin opAdd (eVar 4) (eVar 3))) [.val (.str s), .val (.str l), .un, .val (.int p.1), .val (.int p.2)] st = .ok (.str (win s p.1 p.2)) st := by
          unfold eSl oSo
          simp -implicitDefEqProofs only [x_bok, x_bexc, x_bst, x_bite, x_bb, x_oo, x_ooite, x_bin, x_bu, x_and, x_or, x_not, x_tb, x_andD, x_orD, x_notD, x_tst, x_band, x_bor, x_bnot, x_if, x_then, x_thenx, x_thenite, x_seq, x_seqn, x_seqr, x_seqe, x_seqb, x_seqc, x_seqite, x_ret, x_reto, x_rete, x_retite, x_fn, x_fnn, x_fnr, x_fne, x_fnite, x_comp, x_for, x_its, x_rng1b, x_rng2b, x_rngA, x_rngB, tq_str, tq_int, tq_bool, tq_tuple, tq_list, tq_dict, eVar, eBor, eC, sIf, sSet, sSetF, sFrz, sNil, sExpr, sPar, setsR, pNil, pVal, pOwn, sAppO, sBk, sCt, eUn, eTup, eFz, eCl, fn1, aCons, aNil, eCall, eCallK, arr, negD, tgName, wipeR, lBu, isiD, tyN, isaT, tysOf, String.reduceBEq, bYes, x_int_eq, x_int_ne, x_str_eq, x_str_ne, x_bl_eq, x_lt, x_le, x_gt, x_ge, x_add, x_sub, x_len_lst, x_len_tup, List.map_cons, List.map_nil, List.length_cons, List.length_nil, List.cons_append, List.nil_append, List.reduceReplicate, List.getElem?_cons_zero, List.getElem?_cons_succ, List.set_cons_zero, List.set_cons_succ, Nat.reduceAdd, Nat.reduceSub, Nat.zero_add, Nat.sub_self, List.replicate_zero, List.getD_cons_zero, List.getD_cons_succ, reduceIte, Bool.false_eq_true, if_true, if_false, x_if_t, decide_true, decide_false, Bool.not_true, Bool.not_false, Bool.true_and, Bool.false_and, Bool.and_true, Bool.and_false, Bool.true_or, Bool.false_or, Bool.or_true, Bool.or_false, beq_self_eq_true, List.any_cons, List.any_nil, List.all_cons, List.all_nil]
          simp only [slD, if_pos (line1M (show s.length ≤ 1000000 by omega))]
          rfl
        show tB1 (eCall m_has_all (aCons (eSl (eVar 0) (oSo (eVar 4)) (oSo (eBin opAdd (eVar 4) (eVar 3)))) (aCons (eVar 1) aNil))) [.val (.str s), .val (.str l), .un, .val (.int p.1), .val (.int p.2)] st = _
        simp -implicitDefEqProofs only [x_bok, x_bexc, x_bst, x_bite, x_bb, x_oo, x_ooite, x_bin, x_bu, x_and, x_or, x_not, x_tb, x_andD, x_orD, x_notD, x_tst, x_band, x_bor, x_bnot, x_if, x_then, x_thenx, x_thenite, x_seq, x_seqn, x_seqr, x_seqe, x_seqb, x_seqc, x_seqite, x_ret, x_reto, x_rete, x_retite, x_fn, x_fnn, x_fnr, x_fne, x_fnite, x_comp, x_for, x_its, x_rng1b, x_rng2b, x_rngA, x_rngB, tq_str, tq_int, tq_bool, tq_tuple, tq_list, tq_dict, eVar, eBor, eC, sIf, sSet, sSetF, sFrz, sNil, sExpr, sPar, setsR, pNil, pVal, pOwn, sAppO, sBk, sCt, eUn, eTup, eFz, eCl, fn1, aCons, aNil, eCall, eCallK, arr, negD, tgName, wipeR, lBu, isiD, tyN, isaT, tysOf, String.reduceBEq, bYes, x_int_eq, x_int_ne, x_str_eq, x_str_ne, x_bl_eq, x_lt, x_le, x_gt, x_ge, x_add, x_sub, x_len_lst, x_len_tup, List.map_cons, List.map_nil, List.length_cons, List.length_nil, List.cons_append, List.nil_append, List.reduceReplicate, List.getElem?_cons_zero, List.getElem?_cons_succ, List.set_cons_zero, List.set_cons_succ, Nat.reduceAdd, Nat.reduceSub, Nat.zero_add, Nat.sub_self, List.replicate_zero, List.getD_cons_zero, List.getD_cons_succ, reduceIte, Bool.false_eq_true, if_true, if_false, x_if_t, decide_true, decide_false, Bool.not_true, Bool.not_false, Bool.true_and, Bool.false_and, Bool.and_true, Bool.and_false, Bool.true_or, Bool.false_or, Bool.or_true, Bool.or_false, beq_self_eq_true, List.any_cons, List.any_nil, List.all_cons, List.all_nil, e1, has_all_eq _ l st k (by omega)])
    have hz : ((winL s.length).map prD).length ≤ sizeLine := line1M (by
      rw [List.length_map]
      have h1 := winL_len s.length
      have h2 : s.length * s.length ≤ 60 * 60 := Nat.mul_le_mul hl hl
      omega)
    generalize hf : (winL s.length).filter (fun p => hasB (win s p.1 p.2) l) = f at hc
    have memf : ∀ L lo : Nat, lo + L ≤ s.length → hasB (win s L lo) l = true → (L, lo) ∈ f := fun L lo h1 h2 => by
      rw [← hf, List.mem_filter]
      refine ⟨mem_win.mpr ⟨?_, h1⟩, h2⟩
      cases L with
      | zero => rw [win_zero, no_empty k he] at h2; cases h2
      | succ L => omega
    have inf : ∀ p ∈ f, p.2 + p.1 ≤ s.length ∧ hasB (win s p.1 p.2) l = true := fun p hp => by
      rw [← hf, List.mem_filter] at hp
      exact ⟨(mem_win.mp hp.1).2, hp.2⟩
    have ne : opNe (.lst (f.map prD)) (.lst []) st = .ok (.bl (!f.isEmpty)) st := by
      rw [x_ne (plain_pairs f) rfl, eqD_nil_l]
      cases f <;> rfl
    generalize hF : f.map prD = F at hc ne
    cases f with
    | nil =>
      refine ⟨.non, ?_, .inr ⟨rfl, fun L lo h1 => ?_⟩⟩
      · simp -implicitDefEqProofs only [x_bok, x_bexc, x_bst, x_bite, x_bb, x_oo, x_ooite, x_bin, x_bu, x_and, x_or, x_not, x_tb, x_andD, x_orD, x_notD, x_tst, x_band, x_bor, x_bnot, x_if, x_then, x_thenx, x_thenite, x_seq, x_seqn, x_seqr, x_seqe, x_seqb, x_seqc, x_seqite, x_ret, x_reto, x_rete, x_retite, x_fn, x_fnn, x_fnr, x_fne, x_fnite, x_comp, x_for, x_its, x_rng1b, x_rng2b, x_rngA, x_rngB, tq_str, tq_int, tq_bool, tq_tuple, tq_list, tq_dict, eVar, eBor, eC, sIf, sSet, sSetF, sFrz, sNil, sExpr, sPar, setsR, pNil, pVal, pOwn, sAppO, sBk, sCt, eUn, eTup, eFz, eCl, fn1, aCons, aNil, eCall, eCallK, arr, negD, tgName, wipeR, lBu, isiD, tyN, isaT, tysOf, String.reduceBEq, bYes, x_int_eq, x_int_ne, x_str_eq, x_str_ne, x_bl_eq, x_lt, x_le, x_gt, x_ge, x_add, x_sub, x_len_lst, x_len_tup, List.map_cons, List.map_nil, List.length_cons, List.length_nil, List.cons_append, List.nil_append, List.reduceReplicate, List.getElem?_cons_zero, List.getElem?_cons_succ, List.set_cons_zero, List.set_cons_succ, Nat.reduceAdd, Nat.reduceSub, Nat.zero_add, Nat.sub_self, List.replicate_zero, List.getD_cons_zero, List.getD_cons_succ, reduceIte, Bool.false_eq_true, if_true, if_false, x_if_t, decide_true, decide_false, Bool.not_true, Bool.not_false, Bool.true_and, Bool.false_and, Bool.and_true, Bool.and_false, Bool.true_or, Bool.false_or, Bool.or_true, Bool.or_false, beq_self_eq_true, List.any_cons, List.any_nil, List.all_cons, List.all_nil, check_both_ok st h hl k kl, windows_eq s st hl, itO_lst hz, hc, ne, decide_eq_false he, List.isEmpty_nil]
      · cases e : hasB (win s L lo) l with
        | false => rfl
        | true => have := memf L lo h1 e; cases this
    | cons p r =>
      obtain ⟨q, q1, q2, q3⟩ := least_pair (r.map toI) (toI p)
      have hm := minDD_pairs (toI p) (r.map toI) st
      rw [q2] at hm
      have eq : ((toI p :: r.map toI).map fun p => pairD p.1 p.2) = (p :: r).map prD := by
        rw [List.map_cons, List.map_cons, List.map_map]
        rfl
      rw [eq, hF] at hm
      obtain ⟨z, hz1, rfl⟩ : ∃ z, z ∈ p :: r ∧ toI z = q := by
        rcases List.mem_cons.mp q1 with rfl | q1
        · exact ⟨p, List.mem_cons_self, rfl⟩
        · obtain ⟨z, h1, h2⟩ := List.mem_map.mp q1
          exact ⟨z, List.mem_cons_of_mem _ h1, h2⟩
      refine ⟨prD z, ?_, .inl ⟨z.1, z.2, rfl, (inf z hz1).1, (inf z hz1).2, fun L' lo' h1 h2 => ?_⟩⟩
      · simp -implicitDefEqProofs only [x_bok, x_bexc, x_bst, x_bite, x_bb, x_oo, x_ooite, x_bin, x_bu, x_and, x_or, x_not, x_tb, x_andD, x_orD, x_notD, x_tst, x_band, x_bor, x_bnot, x_if, x_then, x_thenx, x_thenite, x_seq, x_seqn, x_seqr, x_seqe, x_seqb, x_seqc, x_seqite, x_ret, x_reto, x_rete, x_retite, x_fn, x_fnn, x_fnr, x_fne, x_fnite, x_comp, x_for, x_its, x_rng1b, x_rng2b, x_rngA, x_rngB, tq_str, tq_int, tq_bool, tq_tuple, tq_list, tq_dict, eVar, eBor, eC, sIf, sSet, sSetF, sFrz, sNil, sExpr, sPar, setsR, pNil, pVal, pOwn, sAppO, sBk, sCt, eUn, eTup, eFz, eCl, fn1, aCons, aNil, eCall, eCallK, arr, negD, tgName, wipeR, lBu, isiD, tyN, isaT, tysOf, String.reduceBEq, bYes, x_int_eq, x_int_ne, x_str_eq, x_str_ne, x_bl_eq, x_lt, x_le, x_gt, x_ge, x_add, x_sub, x_len_lst, x_len_tup, List.map_cons, List.map_nil, List.length_cons, List.length_nil, List.cons_append, List.nil_append, List.reduceReplicate, List.getElem?_cons_zero, List.getElem?_cons_succ, List.set_cons_zero, List.set_cons_succ, Nat.reduceAdd, Nat.reduceSub, Nat.zero_add, Nat.sub_self, List.replicate_zero, List.getD_cons_zero, List.getD_cons_succ, reduceIte, Bool.false_eq_true, if_true, if_false, x_if_t, decide_true, decide_false, Bool.not_true, Bool.not_false, Bool.true_and, Bool.false_and, Bool.and_true, Bool.and_false, Bool.true_or, Bool.false_or, Bool.or_true, Bool.or_false, beq_self_eq_true, List.any_cons, List.any_nil, List.all_cons, List.all_nil, check_both_ok st h hl k kl, windows_eq s st hl, itO_lst hz, hc, ne, decide_eq_false he, List.isEmpty_cons]
        simp -implicitDefEqProofs only [x_bok, x_bexc, x_bst, x_bite, x_bb, x_oo, x_ooite, x_bin, x_bu, x_and, x_or, x_not, x_tb, x_andD, x_orD, x_notD, x_tst, x_band, x_bor, x_bnot, x_if, x_then, x_thenx, x_thenite, x_seq, x_seqn, x_seqr, x_seqe, x_seqb, x_seqc, x_seqite, x_ret, x_reto, x_rete, x_retite, x_fn, x_fnn, x_fnr, x_fne, x_fnite, x_comp, x_for, x_its, x_rng1b, x_rng2b, x_rngA, x_rngB, tq_str, tq_int, tq_bool, tq_tuple, tq_list, tq_dict, eVar, eBor, eC, sIf, sSet, sSetF, sFrz, sNil, sExpr, sPar, setsR, pNil, pVal, pOwn, sAppO, sBk, sCt, eUn, eTup, eFz, eCl, fn1, aCons, aNil, eCall, eCallK, arr, negD, tgName, wipeR, lBu, isiD, tyN, isaT, tysOf, String.reduceBEq, bYes, x_int_eq, x_int_ne, x_str_eq, x_str_ne, x_bl_eq, x_lt, x_le, x_gt, x_ge, x_add, x_sub, x_len_lst, x_len_tup, List.map_cons, List.map_nil, List.length_cons, List.length_nil, List.cons_append, List.nil_append, List.reduceReplicate, List.getElem?_cons_zero, List.getElem?_cons_succ, List.set_cons_zero, List.set_cons_succ, Nat.reduceAdd, Nat.reduceSub, Nat.zero_add, Nat.sub_self, List.replicate_zero, List.getD_cons_zero, List.getD_cons_succ, reduceIte, Bool.false_eq_true, if_true, if_false, x_if_t, decide_true, decide_false, Bool.not_true, Bool.not_false, Bool.true_and, Bool.false_and, Bool.and_true, Bool.and_false, Bool.true_or, Bool.false_or, Bool.or_true, Bool.or_false, beq_self_eq_true, List.any_cons, List.any_nil, List.all_cons, List.all_nil, hm]
        rfl
      · have hx := memf L' lo' h1 h2
        have : toI (L', lo') ∈ toI p :: r.map toI := by
          rcases List.mem_cons.mp hx with e | hx
          · rw [e]; exact List.mem_cons_self
          · exact List.mem_cons_of_mem _ (List.mem_map.mpr ⟨_, hx, rfl⟩)
        have := q3 _ this
        simp only [toI] at this
        omega
end Wk64
namespace Wk64
open PySem L2 Sx
def chD (c : Nat) : D := .str ⟨#[c]⟩
def barD (s l : Str) : D := match lack s l with | [] => .non | c :: _ => chD c
theorem lack_mem {s l : Str} {c : Nat} (h : c ∈ lack s l) : c ∈ abc := (List.mem_filter.mp h).1
theorem lack_comp {i : Nat} (ρ : Rho) (st : Sto) (s l : Str) (h0 : ρ[0]? = some (.val (.str s))) (h1 : ρ[1]? = some (.val (.str l))) (hi : 1 < i) (hl : i < ρ.length) :
    compM (tgName i) (tB1 (eBin opLt (eMt "str" cntG (eVar 0) (aCons (eVar i) aNil)) (eMt "str" cntG (eVar 1) (aCons (eVar i) aNil)))) (eVar i) ρ (abc.map fun c => .str ⟨#[c]⟩) st = .ok ((lack s l).map chD) st := by
  refine compM_if (i := i) (fun c => D.str ⟨#[c]⟩) chD (fun c => decide (C s c < C l c)) abc (fun c _ => ?_) fun c _ _ => ?_
  · have a0 : (ρ.set i (.val (.str ⟨#[c]⟩)))[0]? = some (.val (.str s)) := by rw [List.getElem?_set_ne (by omega)]; exact h0
    have a1 : (ρ.set i (.val (.str ⟨#[c]⟩)))[1]? = some (.val (.str l)) := by rw [List.getElem?_set_ne (by omega)]; exact h1
    have a2 : (ρ.set i (.val (.str ⟨#[c]⟩)))[i]? = some (.val (.str ⟨#[c]⟩)) := List.getElem?_set_self hl
    rw [x_tb, x_bin, count_at (s := s) (c := c) a0 a2]
    simp only [x_bok]
    rw [count_at (s := l) (c := c) a1 a2]
    simp -implicitDefEqProofs only [x_bok, x_bexc, x_bst, x_bite, x_bb, x_oo, x_ooite, x_bin, x_bu, x_and, x_or, x_not, x_tb, x_andD, x_orD, x_notD, x_tst, x_band, x_bor, x_bnot, x_if, x_then, x_thenx, x_thenite, x_seq, x_seqn, x_seqr, x_seqe, x_seqb, x_seqc, x_seqite, x_ret, x_reto, x_rete, x_retite, x_fn, x_fnn, x_fnr, x_fne, x_fnite, x_comp, x_for, x_its, x_rng1b, x_rng2b, x_rngA, x_rngB, tq_str, tq_int, tq_bool, tq_tuple, tq_list, tq_dict, eVar, eBor, eC, sIf, sSet, sSetF, sFrz, sNil, sExpr, sPar, setsR, pNil, pVal, pOwn, sAppO, sBk, sCt, eUn, eTup, eFz, eCl, fn1, aCons, aNil, eCall, eCallK, arr, negD, tgName, wipeR, lBu, isiD, tyN, isaT, tysOf, String.reduceBEq, bYes, x_int_eq, x_int_ne, x_str_eq, x_str_ne, x_bl_eq, x_lt, x_le, x_gt, x_ge, x_add, x_sub, x_len_lst, x_len_tup, List.map_cons, List.map_nil, List.length_cons, List.length_nil, List.cons_append, List.nil_append, List.reduceReplicate, List.getElem?_cons_zero, List.getElem?_cons_succ, List.set_cons_zero, List.set_cons_succ, Nat.reduceAdd, Nat.reduceSub, Nat.zero_add, Nat.sub_self, List.replicate_zero, List.getD_cons_zero, List.getD_cons_succ, reduceIte, Bool.false_eq_true, if_true, if_false, x_if_t, decide_true, decide_false, Bool.not_true, Bool.not_false, Bool.true_and, Bool.false_and, Bool.and_true, Bool.and_false, Bool.true_or, Bool.false_or, Bool.or_true, Bool.or_false, beq_self_eq_true, List.any_cons, List.any_nil, List.all_cons, List.all_nil]
  · exact x_var (List.getElem?_set_self hl)
theorem ne_chars (f : List Nat) (st : Sto) (h : ∀ c ∈ f, c ∈ abc) : opNe (.lst (f.map chD)) (.lst []) st = .ok (.bl (!f.isEmpty)) st := by
  have p : plainD 50 (.lst (f.map chD)) = true := plain_chars f h
  rw [x_ne p rfl, eqD_nil_l]
  cases f <;> rfl
theorem bar_eq {s l : Str} (st : Sto) (h : okRow s = true) (hl : s.length ≤ 60) (k : okRow l = true) (kl : l.length ≤ 12) : m_window_bar [.str s, .str l] st = .ok (barD s l) st := by
  unfold m_window_bar b_window_bar
  have a := congrFun abc_is st
  have hc := lack_comp (i := 3) [.val (.str s), .val (.str l), .un, .un] st s l rfl rfl (by decide) (Nat.lt_succ_self 3)
  have ne := ne_chars (lack s l) st fun c => lack_mem
  unfold barD
  generalize lack s l = f at hc ne ⊢
  simp -implicitDefEqProofs only [x_bok, x_bexc, x_bst, x_bite, x_bb, x_oo, x_ooite, x_bin, x_bu, x_and, x_or, x_not, x_tb, x_andD, x_orD, x_notD, x_tst, x_band, x_bor, x_bnot, x_if, x_then, x_thenx, x_thenite, x_seq, x_seqn, x_seqr, x_seqe, x_seqb, x_seqc, x_seqite, x_ret, x_reto, x_rete, x_retite, x_fn, x_fnn, x_fnr, x_fne, x_fnite, x_comp, x_for, x_its, x_rng1b, x_rng2b, x_rngA, x_rngB, tq_str, tq_int, tq_bool, tq_tuple, tq_list, tq_dict, eVar, eBor, eC, sIf, sSet, sSetF, sFrz, sNil, sExpr, sPar, setsR, pNil, pVal, pOwn, sAppO, sBk, sCt, eUn, eTup, eFz, eCl, fn1, aCons, aNil, eCall, eCallK, arr, negD, tgName, wipeR, lBu, isiD, tyN, isaT, tysOf, String.reduceBEq, bYes, x_int_eq, x_int_ne, x_str_eq, x_str_ne, x_bl_eq, x_lt, x_le, x_gt, x_ge, x_add, x_sub, x_len_lst, x_len_tup, List.map_cons, List.map_nil, List.length_cons, List.length_nil, List.cons_append, List.nil_append, List.reduceReplicate, List.getElem?_cons_zero, List.getElem?_cons_succ, List.set_cons_zero, List.set_cons_succ, Nat.reduceAdd, Nat.reduceSub, Nat.zero_add, Nat.sub_self, List.replicate_zero, List.getD_cons_zero, List.getD_cons_succ, reduceIte, Bool.false_eq_true, if_true, if_false, x_if_t, decide_true, decide_false, Bool.not_true, Bool.not_false, Bool.true_and, Bool.false_and, Bool.and_true, Bool.and_false, Bool.true_or, Bool.false_or, Bool.or_true, Bool.or_false, beq_self_eq_true, List.any_cons, List.any_nil, List.all_cons, List.all_nil, check_both_ok st h hl k kl, a, hc, ne]
  cases f with
  | nil => simp -implicitDefEqProofs only [x_bok, x_bexc, x_bst, x_bite, x_bb, x_oo, x_ooite, x_bin, x_bu, x_and, x_or, x_not, x_tb, x_andD, x_orD, x_notD, x_tst, x_band, x_bor, x_bnot, x_if, x_then, x_thenx, x_thenite, x_seq, x_seqn, x_seqr, x_seqe, x_seqb, x_seqc, x_seqite, x_ret, x_reto, x_rete, x_retite, x_fn, x_fnn, x_fnr, x_fne, x_fnite, x_comp, x_for, x_its, x_rng1b, x_rng2b, x_rngA, x_rngB, tq_str, tq_int, tq_bool, tq_tuple, tq_list, tq_dict, eVar, eBor, eC, sIf, sSet, sSetF, sFrz, sNil, sExpr, sPar, setsR, pNil, pVal, pOwn, sAppO, sBk, sCt, eUn, eTup, eFz, eCl, fn1, aCons, aNil, eCall, eCallK, arr, negD, tgName, wipeR, lBu, isiD, tyN, isaT, tysOf, String.reduceBEq, bYes, x_int_eq, x_int_ne, x_str_eq, x_str_ne, x_bl_eq, x_lt, x_le, x_gt, x_ge, x_add, x_sub, x_len_lst, x_len_tup, List.map_cons, List.map_nil, List.length_cons, List.length_nil, List.cons_append, List.nil_append, List.reduceReplicate, List.getElem?_cons_zero, List.getElem?_cons_succ, List.set_cons_zero, List.set_cons_succ, Nat.reduceAdd, Nat.reduceSub, Nat.zero_add, Nat.sub_self, List.replicate_zero, List.getD_cons_zero, List.getD_cons_succ, reduceIte, Bool.false_eq_true, if_true, if_false, x_if_t, decide_true, decide_false, Bool.not_true, Bool.not_false, Bool.true_and, Bool.false_and, Bool.and_true, Bool.and_false, Bool.true_or, Bool.false_or, Bool.or_true, Bool.or_false, beq_self_eq_true, List.any_cons, List.any_nil, List.all_cons, List.all_nil, List.isEmpty_nil]
  | cons c f =>
    have i : opIx (D.lst (chD c :: f.map chD)) (.int 0) st = .ok (chD c) st := x_ix (ds := chD c :: f.map chD) rfl (atI_nat (k := 0) (by simp))
    simp -implicitDefEqProofs only [x_bok, x_bexc, x_bst, x_bite, x_bb, x_oo, x_ooite, x_bin, x_bu, x_and, x_or, x_not, x_tb, x_andD, x_orD, x_notD, x_tst, x_band, x_bor, x_bnot, x_if, x_then, x_thenx, x_thenite, x_seq, x_seqn, x_seqr, x_seqe, x_seqb, x_seqc, x_seqite, x_ret, x_reto, x_rete, x_retite, x_fn, x_fnn, x_fnr, x_fne, x_fnite, x_comp, x_for, x_its, x_rng1b, x_rng2b, x_rngA, x_rngB, tq_str, tq_int, tq_bool, tq_tuple, tq_list, tq_dict, eVar, eBor, eC, sIf, sSet, sSetF, sFrz, sNil, sExpr, sPar, setsR, pNil, pVal, pOwn, sAppO, sBk, sCt, eUn, eTup, eFz, eCl, fn1, aCons, aNil, eCall, eCallK, arr, negD, tgName, wipeR, lBu, isiD, tyN, isaT, tysOf, String.reduceBEq, bYes, x_int_eq, x_int_ne, x_str_eq, x_str_ne, x_bl_eq, x_lt, x_le, x_gt, x_ge, x_add, x_sub, x_len_lst, x_len_tup, List.map_cons, List.map_nil, List.length_cons, List.length_nil, List.cons_append, List.nil_append, List.reduceReplicate, List.getElem?_cons_zero, List.getElem?_cons_succ, List.set_cons_zero, List.set_cons_succ, Nat.reduceAdd, Nat.reduceSub, Nat.zero_add, Nat.sub_self, List.replicate_zero, List.getD_cons_zero, List.getD_cons_succ, reduceIte, Bool.false_eq_true, if_true, if_false, x_if_t, decide_true, decide_false, Bool.not_true, Bool.not_false, Bool.true_and, Bool.false_and, Bool.and_true, Bool.and_false, Bool.true_or, Bool.false_or, Bool.or_true, Bool.or_false, beq_self_eq_true, List.any_cons, List.any_nil, List.all_cons, List.all_nil, List.isEmpty_cons, i]
/-- the law's own least window -/
theorem win_cut (s : Str) (L lo : Nat) : cutS s (some (lo : Int)) (some ((lo : Int) + (L : Int))) = win s L lo := rfl
theorem least_wo {s l : Str} (st : Sto) (hl : s.length ≤ 60) : Wo (m__law_least [.str s, .str l] st) fun d st' => st' = st ∧ LeastP s l d := by
  unfold m__law_least b__law_least
  simp -implicitDefEqProofs only [wo_no, wo_so, wo_sl, wo_mt, soD_int, slO_lst, slO_tup, tyM_str, wo_ok, wo_bind, wo_oo, wo_ite, ws_nx, ws_rt, ws_seq, ws_then, ws_if, ws_ret, ws_ite, wo_fn, wo_if, wo_band, wo_bor, wo_and, wo_or, x_bin, x_bu, x_not, x_tb, x_andD, x_orD, x_notD, x_tst, x_bnot, x_comp, x_for, x_its, x_rng1b, x_rng2b, x_rngA, x_rngB, tq_str, tq_int, tq_bool, tq_tuple, tq_list, tq_dict, eVar, eBor, eC, sSet, sSetF, sFrz, sNil, sExpr, sPar, setsR, pNil, pVal, pOwn, sAppO, eUn, eTup, eFz, eCl, fn1, aCons, aNil, eCall, eCallK, arr, negD, tgName, wipeR, lBu, bYes, x_int_eq, x_int_ne, x_str_eq, x_str_ne, x_bl_eq, x_lt, x_le, x_gt, x_ge, x_add, x_sub, x_len_lst, x_len_tup, List.map_cons, List.map_nil, List.length_cons, List.length_nil, List.cons_append, List.nil_append, List.reduceReplicate, List.getElem?_cons_zero, List.getElem?_cons_succ, List.set_cons_zero, List.set_cons_succ, Nat.reduceAdd, Nat.reduceSub, Nat.zero_add, Nat.sub_self, List.replicate_zero, List.getD_cons_zero, List.getD_cons_succ, reduceIte, Bool.false_eq_true, if_true, if_false, x_if_t, decide_true, decide_false, decide_eq_true_eq, Bool.not_true, Bool.not_false, Bool.true_and, Bool.false_and, Bool.and_true, Bool.and_false, Bool.true_or, Bool.false_or, Bool.or_true, Bool.or_false, beq_self_eq_true, x_len_str (line1M (show s.length ≤ 1000000 by omega))]
  rw [rngO_ok (by omega) (by omega) (by omega) (by omega), wo_ok]
  refine ws_for (fun k ρ st' => st' = st ∧ (∃ x y, ρ = [.val (.str s), .val (.str l), x, y]) ∧ ∀ L' lo' : Nat, L' < k → lo' + L' ≤ s.length → hasB (win s L' lo') l = false) _ 0 _ _ ⟨rfl, ⟨_, _, rfl⟩, fun _ _ h => by omega⟩ ?_ ?_
  · rintro L d ρ st0 hL ⟨rfl, ⟨x, y, rfl⟩, hI⟩
    obtain ⟨rfl, hL⟩ := dints_get hL
    refine ⟨_, rfl, ?_⟩
    rw [Nat.zero_add] at hI ⊢
    have hLn : L ≤ s.length := by omega
    simp -implicitDefEqProofs only [wo_no, wo_so, wo_sl, wo_mt, soD_int, slO_lst, slO_tup, tyM_str, wo_ok, wo_bind, wo_oo, wo_ite, ws_nx, ws_rt, ws_seq, ws_then, ws_if, ws_ret, ws_ite, wo_fn, wo_if, wo_band, wo_bor, wo_and, wo_or, x_bin, x_bu, x_not, x_tb, x_andD, x_orD, x_notD, x_tst, x_bnot, x_comp, x_for, x_its, x_rng1b, x_rng2b, x_rngA, x_rngB, tq_str, tq_int, tq_bool, tq_tuple, tq_list, tq_dict, eVar, eBor, eC, sSet, sSetF, sFrz, sNil, sExpr, sPar, setsR, pNil, pVal, pOwn, sAppO, eUn, eTup, eFz, eCl, fn1, aCons, aNil, eCall, eCallK, arr, negD, tgName, wipeR, lBu, bYes, x_int_eq, x_int_ne, x_str_eq, x_str_ne, x_bl_eq, x_lt, x_le, x_gt, x_ge, x_add, x_sub, x_len_lst, x_len_tup, List.map_cons, List.map_nil, List.length_cons, List.length_nil, List.cons_append, List.nil_append, List.reduceReplicate, List.getElem?_cons_zero, List.getElem?_cons_succ, List.set_cons_zero, List.set_cons_succ, Nat.reduceAdd, Nat.reduceSub, Nat.zero_add, Nat.sub_self, List.replicate_zero, List.getD_cons_zero, List.getD_cons_succ, reduceIte, Bool.false_eq_true, if_true, if_false, x_if_t, decide_true, decide_false, decide_eq_true_eq, Bool.not_true, Bool.not_false, Bool.true_and, Bool.false_and, Bool.and_true, Bool.and_false, Bool.true_or, Bool.false_or, Bool.or_true, Bool.or_false, beq_self_eq_true, x_len_str (line1M (show s.length ≤ 1000000 by omega))]
    rw [rngO_ok (by omega) (by omega) (by omega) (by omega), wo_ok, Int.zero_add]
    refine ws_for (fun k ρ st' => st' = st0 ∧ (∃ y, ρ = [.val (.str s), .val (.str l), .val (.int L), y]) ∧ ∀ lo' : Nat, lo' < k → lo' + L ≤ s.length → hasB (win s L lo') l = false) _ 0 _ _ ⟨rfl, ⟨_, rfl⟩, fun _ h => by omega⟩ ?_ ?_
    · rintro lo d ρ st1 hlo ⟨rfl, ⟨y, rfl⟩, hJ⟩
      obtain ⟨rfl, hlo⟩ := dints_get hlo
      refine ⟨_, rfl, ?_⟩
      rw [Nat.zero_add] at hJ ⊢
      rw [Int.zero_add]
      simp -implicitDefEqProofs only [wo_no, wo_so, wo_sl, wo_mt, soD_int, slO_lst, slO_tup, tyM_str, wo_ok, wo_bind, wo_oo, wo_ite, ws_nx, ws_rt, ws_seq, ws_then, ws_if, ws_ret, ws_ite, wo_fn, wo_if, wo_band, wo_bor, wo_and, wo_or, x_bin, x_bu, x_not, x_tb, x_andD, x_orD, x_notD, x_tst, x_bnot, x_comp, x_for, x_its, x_rng1b, x_rng2b, x_rngA, x_rngB, tq_str, tq_int, tq_bool, tq_tuple, tq_list, tq_dict, eVar, eBor, eC, sSet, sSetF, sFrz, sNil, sExpr, sPar, setsR, pNil, pVal, pOwn, sAppO, eUn, eTup, eFz, eCl, fn1, aCons, aNil, eCall, eCallK, arr, negD, tgName, wipeR, lBu, bYes, x_int_eq, x_int_ne, x_str_eq, x_str_ne, x_bl_eq, x_lt, x_le, x_gt, x_ge, x_add, x_sub, x_len_lst, x_len_tup, List.map_cons, List.map_nil, List.length_cons, List.length_nil, List.cons_append, List.nil_append, List.reduceReplicate, List.getElem?_cons_zero, List.getElem?_cons_succ, List.set_cons_zero, List.set_cons_succ, Nat.reduceAdd, Nat.reduceSub, Nat.zero_add, Nat.sub_self, List.replicate_zero, List.getD_cons_zero, List.getD_cons_succ, reduceIte, Bool.false_eq_true, if_true, if_false, x_if_t, decide_true, decide_false, decide_eq_true_eq, Bool.not_true, Bool.not_false, Bool.true_and, Bool.false_and, Bool.and_true, Bool.and_false, Bool.true_or, Bool.false_or, Bool.or_true, Bool.or_false, beq_self_eq_true]
      rw [slO_str (show s.length ≤ 1000000 by omega), wo_ok, win_cut, law_has_eq, wo_ok]
      cases hb : hasB (win s L lo) l with
      | true =>
        simp -implicitDefEqProofs only [wo_no, wo_so, wo_sl, wo_mt, soD_int, slO_lst, slO_tup, tyM_str, wo_ok, wo_bind, wo_oo, wo_ite, ws_nx, ws_rt, ws_seq, ws_then, ws_if, ws_ret, ws_ite, wo_fn, wo_if, wo_band, wo_bor, wo_and, wo_or, x_bin, x_bu, x_not, x_tb, x_andD, x_orD, x_notD, x_tst, x_bnot, x_comp, x_for, x_its, x_rng1b, x_rng2b, x_rngA, x_rngB, tq_str, tq_int, tq_bool, tq_tuple, tq_list, tq_dict, eVar, eBor, eC, sSet, sSetF, sFrz, sNil, sExpr, sPar, setsR, pNil, pVal, pOwn, sAppO, eUn, eTup, eFz, eCl, fn1, aCons, aNil, eCall, eCallK, arr, negD, tgName, wipeR, lBu, bYes, x_int_eq, x_int_ne, x_str_eq, x_str_ne, x_bl_eq, x_lt, x_le, x_gt, x_ge, x_add, x_sub, x_len_lst, x_len_tup, List.map_cons, List.map_nil, List.length_cons, List.length_nil, List.cons_append, List.nil_append, List.reduceReplicate, List.getElem?_cons_zero, List.getElem?_cons_succ, List.set_cons_zero, List.set_cons_succ, Nat.reduceAdd, Nat.reduceSub, Nat.zero_add, Nat.sub_self, List.replicate_zero, List.getD_cons_zero, List.getD_cons_succ, reduceIte, Bool.false_eq_true, if_true, if_false, x_if_t, decide_true, decide_false, decide_eq_true_eq, Bool.not_true, Bool.not_false, Bool.true_and, Bool.false_and, Bool.and_true, Bool.and_false, Bool.true_or, Bool.false_or, Bool.or_true, Bool.or_false, beq_self_eq_true]
        refine ⟨trivial, .inl ⟨L, lo, rfl, by omega, hb, fun L' lo' h1 h2 => ?_⟩⟩
        by_cases c : L < L'
        · exact .inl c
        · by_cases c2 : L = L'
          · subst c2
            by_cases c3 : lo ≤ lo'
            · exact .inr ⟨rfl, c3⟩
            · rw [hJ lo' (by omega) h1] at h2; cases h2
          · rw [hI L' lo' (by omega) h1] at h2; cases h2
      | false =>
        simp -implicitDefEqProofs only [wo_no, wo_so, wo_sl, wo_mt, soD_int, slO_lst, slO_tup, tyM_str, wo_ok, wo_bind, wo_oo, wo_ite, ws_nx, ws_rt, ws_seq, ws_then, ws_if, ws_ret, ws_ite, wo_fn, wo_if, wo_band, wo_bor, wo_and, wo_or, x_bin, x_bu, x_not, x_tb, x_andD, x_orD, x_notD, x_tst, x_bnot, x_comp, x_for, x_its, x_rng1b, x_rng2b, x_rngA, x_rngB, tq_str, tq_int, tq_bool, tq_tuple, tq_list, tq_dict, eVar, eBor, eC, sSet, sSetF, sFrz, sNil, sExpr, sPar, setsR, pNil, pVal, pOwn, sAppO, eUn, eTup, eFz, eCl, fn1, aCons, aNil, eCall, eCallK, arr, negD, tgName, wipeR, lBu, bYes, x_int_eq, x_int_ne, x_str_eq, x_str_ne, x_bl_eq, x_lt, x_le, x_gt, x_ge, x_add, x_sub, x_len_lst, x_len_tup, List.map_cons, List.map_nil, List.length_cons, List.length_nil, List.cons_append, List.nil_append, List.reduceReplicate, List.getElem?_cons_zero, List.getElem?_cons_succ, List.set_cons_zero, List.set_cons_succ, Nat.reduceAdd, Nat.reduceSub, Nat.zero_add, Nat.sub_self, List.replicate_zero, List.getD_cons_zero, List.getD_cons_succ, reduceIte, Bool.false_eq_true, if_true, if_false, x_if_t, decide_true, decide_false, decide_eq_true_eq, Bool.not_true, Bool.not_false, Bool.true_and, Bool.false_and, Bool.and_true, Bool.and_false, Bool.true_or, Bool.false_or, Bool.or_true, Bool.or_false, beq_self_eq_true]
        refine ⟨trivial, ⟨_, rfl⟩, fun lo' h1 h2 => ?_⟩
        by_cases c : lo' = lo
        · rw [c]; exact hb
        · exact hJ lo' (by omega) h2
    · rintro ρ st1 ⟨rfl, ⟨y, rfl⟩, hJ⟩
      rw [dints_length] at hJ
      refine ⟨rfl, ⟨_, _, rfl⟩, fun L' lo' h1 h2 => ?_⟩
      by_cases c : L' = L
      · subst c
        exact hJ lo' (by omega) h2
      · exact hI L' lo' (by omega) h2
  · rintro ρ st0 ⟨rfl, ⟨x, y, rfl⟩, hI⟩
    rw [dints_length] at hI
    simp -implicitDefEqProofs only [wo_no, wo_so, wo_sl, wo_mt, soD_int, slO_lst, slO_tup, tyM_str, wo_ok, wo_bind, wo_oo, wo_ite, ws_nx, ws_rt, ws_seq, ws_then, ws_if, ws_ret, ws_ite, wo_fn, wo_if, wo_band, wo_bor, wo_and, wo_or, x_bin, x_bu, x_not, x_tb, x_andD, x_orD, x_notD, x_tst, x_bnot, x_comp, x_for, x_its, x_rng1b, x_rng2b, x_rngA, x_rngB, tq_str, tq_int, tq_bool, tq_tuple, tq_list, tq_dict, eVar, eBor, eC, sSet, sSetF, sFrz, sNil, sExpr, sPar, setsR, pNil, pVal, pOwn, sAppO, eUn, eTup, eFz, eCl, fn1, aCons, aNil, eCall, eCallK, arr, negD, tgName, wipeR, lBu, bYes, x_int_eq, x_int_ne, x_str_eq, x_str_ne, x_bl_eq, x_lt, x_le, x_gt, x_ge, x_add, x_sub, x_len_lst, x_len_tup, List.map_cons, List.map_nil, List.length_cons, List.length_nil, List.cons_append, List.nil_append, List.reduceReplicate, List.getElem?_cons_zero, List.getElem?_cons_succ, List.set_cons_zero, List.set_cons_succ, Nat.reduceAdd, Nat.reduceSub, Nat.zero_add, Nat.sub_self, List.replicate_zero, List.getD_cons_zero, List.getD_cons_succ, reduceIte, Bool.false_eq_true, if_true, if_false, x_if_t, decide_true, decide_false, decide_eq_true_eq, Bool.not_true, Bool.not_false, Bool.true_and, Bool.false_and, Bool.and_true, Bool.and_false, Bool.true_or, Bool.false_or, Bool.or_true, Bool.or_false, beq_self_eq_true]
    exact ⟨trivial, .inr ⟨rfl, fun L' lo' h1 => hI L' lo' (by omega) h1⟩⟩
end Wk64
namespace Wk64
open PySem L2 Sx
noncomputable def mq : Bool → List D → Sto → Out D
  | true => m_least_window
  | false => m_window_bar
def wq : Bool → D
  | true => .str "window"
  | false => .str "bar"
theorem lk1 : List.lookup ("least_window" : Str) [(("least_window" : Str), m_least_window), ("window_bar", m_window_bar)] = some m_least_window := rfl
theorem lk2 : List.lookup ("window_bar" : Str) [(("least_window" : Str), m_least_window), ("window_bar", m_window_bar)] = some m_window_bar := rfl
theorem u1 : (("InvalidRow" : Str) ∈ univ) = True := eq_true (by decide)
theorem u2 : (("InvalidLetters" : Str) ∈ univ) = True := eq_true (by decide)
theorem n1 : (("InvalidLetters" : Str) = "InvalidRow") = False := eq_false (by decide)
theorem lg (g : D) : List.lookup ("given" : Str) [(("given" : Str), g)] = some g := rfl
theorem w1 : decide (("window" : Str) = "window") = true := rfl
theorem w2 : decide (("bar" : Str) = "window") = false := rfl
theorem asked_ok {q b : Bool} {s l d : D} {st st' : Sto} (h : mq q [s, l] st = .ok d st') : m__law_asked [wq q, s, l, .bl b] st = .ok (.lst [.str "told", d]) st' := by
  unfold m__law_asked b__law_asked
  cases q <;> cases b <;> unfold mq at h <;> dsimp only at h <;> unfold wq <;> simp -implicitDefEqProofs only [x_bok, x_bexc, x_bst, x_bite, x_bb, x_oo, x_ooite, x_bin, x_bu, x_and, x_or, x_not, x_tb, x_andD, x_orD, x_notD, x_tst, x_band, x_bor, x_bnot, x_if, x_then, x_thenx, x_thenite, x_seq, x_seqn, x_seqr, x_seqe, x_seqb, x_seqc, x_seqite, x_ret, x_reto, x_rete, x_retite, x_fn, x_fnn, x_fnr, x_fne, x_fnite, x_comp, x_for, x_its, x_rng1b, x_rng2b, x_rngA, x_rngB, tq_str, tq_int, tq_bool, tq_tuple, tq_list, tq_dict, eVar, eBor, eC, sIf, sSet, sSetF, sFrz, sNil, sExpr, sPar, setsR, pNil, pVal, pOwn, sAppO, sBk, sCt, eUn, eTup, eFz, eCl, fn1, aCons, aNil, eCall, eCallK, arr, negD, tgName, wipeR, lBu, isiD, tyN, isaT, tysOf, String.reduceBEq, bYes, x_int_eq, x_int_ne, x_str_eq, x_str_ne, x_bl_eq, x_lt, x_le, x_gt, x_ge, x_add, x_sub, x_len_lst, x_len_tup, List.map_cons, List.map_nil, List.length_cons, List.length_nil, List.cons_append, List.nil_append, List.reduceReplicate, List.getElem?_cons_zero, List.getElem?_cons_succ, List.set_cons_zero, List.set_cons_succ, Nat.reduceAdd, Nat.reduceSub, Nat.zero_add, Nat.sub_self, List.replicate_zero, List.getD_cons_zero, List.getD_cons_succ, reduceIte, Bool.false_eq_true, if_true, if_false, x_if_t, decide_true, decide_false, Bool.not_true, Bool.not_false, Bool.true_and, Bool.false_and, Bool.and_true, Bool.and_false, Bool.true_or, Bool.false_or, Bool.or_true, Bool.or_false, beq_self_eq_true, List.any_cons, List.any_nil, List.all_cons, List.all_nil, x_try, w1, w2, eCallV, eCallVK, lk1, lk2, h]
theorem asked_row {q b : Bool} {s l g : D} {st st' : Sto} (h : mq q [s, l] st = .exc ⟨"InvalidRow", [("given", g)]⟩ st') : m__law_asked [wq q, s, l, .bl b] st = .ok (.lst [.str "row", g]) st' := by
  unfold m__law_asked b__law_asked
  cases q <;> cases b <;> unfold mq at h <;> dsimp only at h <;> unfold wq <;> simp -implicitDefEqProofs only [x_bok, x_bexc, x_bst, x_bite, x_bb, x_oo, x_ooite, x_bin, x_bu, x_and, x_or, x_not, x_tb, x_andD, x_orD, x_notD, x_tst, x_band, x_bor, x_bnot, x_if, x_then, x_thenx, x_thenite, x_seq, x_seqn, x_seqr, x_seqe, x_seqb, x_seqc, x_seqite, x_ret, x_reto, x_rete, x_retite, x_fn, x_fnn, x_fnr, x_fne, x_fnite, x_comp, x_for, x_its, x_rng1b, x_rng2b, x_rngA, x_rngB, tq_str, tq_int, tq_bool, tq_tuple, tq_list, tq_dict, eVar, eBor, eC, sIf, sSet, sSetF, sFrz, sNil, sExpr, sPar, setsR, pNil, pVal, pOwn, sAppO, sBk, sCt, eUn, eTup, eFz, eCl, fn1, aCons, aNil, eCall, eCallK, arr, negD, tgName, wipeR, lBu, isiD, tyN, isaT, tysOf, String.reduceBEq, bYes, x_int_eq, x_int_ne, x_str_eq, x_str_ne, x_bl_eq, x_lt, x_le, x_gt, x_ge, x_add, x_sub, x_len_lst, x_len_tup, List.map_cons, List.map_nil, List.length_cons, List.length_nil, List.cons_append, List.nil_append, List.reduceReplicate, List.getElem?_cons_zero, List.getElem?_cons_succ, List.set_cons_zero, List.set_cons_succ, Nat.reduceAdd, Nat.reduceSub, Nat.zero_add, Nat.sub_self, List.replicate_zero, List.getD_cons_zero, List.getD_cons_succ, reduceIte, Bool.false_eq_true, if_true, if_false, x_if_t, decide_true, decide_false, Bool.not_true, Bool.not_false, Bool.true_and, Bool.false_and, Bool.and_true, Bool.and_false, Bool.true_or, Bool.false_or, Bool.or_true, Bool.or_false, beq_self_eq_true, List.any_cons, List.any_nil, List.all_cons, List.all_nil, x_try, w1, w2, eCallV, eCallVK, lk1, lk2, h, u1, u2, n1, hdM, sOut, eExc, lg]
theorem asked_let {q b : Bool} {s l g : D} {st st' : Sto} (h : mq q [s, l] st = .exc ⟨"InvalidLetters", [("given", g)]⟩ st') : m__law_asked [wq q, s, l, .bl b] st = .ok (.lst [.str "letters", g]) st' := by
  unfold m__law_asked b__law_asked
  cases q <;> cases b <;> unfold mq at h <;> dsimp only at h <;> unfold wq <;> simp -implicitDefEqProofs only [x_bok, x_bexc, x_bst, x_bite, x_bb, x_oo, x_ooite, x_bin, x_bu, x_and, x_or, x_not, x_tb, x_andD, x_orD, x_notD, x_tst, x_band, x_bor, x_bnot, x_if, x_then, x_thenx, x_thenite, x_seq, x_seqn, x_seqr, x_seqe, x_seqb, x_seqc, x_seqite, x_ret, x_reto, x_rete, x_retite, x_fn, x_fnn, x_fnr, x_fne, x_fnite, x_comp, x_for, x_its, x_rng1b, x_rng2b, x_rngA, x_rngB, tq_str, tq_int, tq_bool, tq_tuple, tq_list, tq_dict, eVar, eBor, eC, sIf, sSet, sSetF, sFrz, sNil, sExpr, sPar, setsR, pNil, pVal, pOwn, sAppO, sBk, sCt, eUn, eTup, eFz, eCl, fn1, aCons, aNil, eCall, eCallK, arr, negD, tgName, wipeR, lBu, isiD, tyN, isaT, tysOf, String.reduceBEq, bYes, x_int_eq, x_int_ne, x_str_eq, x_str_ne, x_bl_eq, x_lt, x_le, x_gt, x_ge, x_add, x_sub, x_len_lst, x_len_tup, List.map_cons, List.map_nil, List.length_cons, List.length_nil, List.cons_append, List.nil_append, List.reduceReplicate, List.getElem?_cons_zero, List.getElem?_cons_succ, List.set_cons_zero, List.set_cons_succ, Nat.reduceAdd, Nat.reduceSub, Nat.zero_add, Nat.sub_self, List.replicate_zero, List.getD_cons_zero, List.getD_cons_succ, reduceIte, Bool.false_eq_true, if_true, if_false, x_if_t, decide_true, decide_false, Bool.not_true, Bool.not_false, Bool.true_and, Bool.false_and, Bool.and_true, Bool.and_false, Bool.true_or, Bool.false_or, Bool.or_true, Bool.or_false, beq_self_eq_true, List.any_cons, List.any_nil, List.all_cons, List.all_nil, x_try, w1, w2, eCallV, eCallVK, lk1, lk2, h, u1, u2, n1, hdM, sOut, eExc, lg, eIsE]
/-- what is refused -/
theorem row_exc {q : Bool} {d l : D} {st : Sto} (h : m_are_letters [d, .int 60] st = .ok (.bl false) st) : mq q [d, l] st = .exc ⟨"InvalidRow", [("given", d)]⟩ st := by
  have a : m_check_row [d] st = .exc ⟨"InvalidRow", [("given", d)]⟩ st := by
    unfold m_check_row b_check_row
    simp -implicitDefEqProofs only [x_bok, x_bexc, x_bst, x_bite, x_bb, x_oo, x_ooite, x_bin, x_bu, x_and, x_or, x_not, x_tb, x_andD, x_orD, x_notD, x_tst, x_band, x_bor, x_bnot, x_if, x_then, x_thenx, x_thenite, x_seq, x_seqn, x_seqr, x_seqe, x_seqb, x_seqc, x_seqite, x_ret, x_reto, x_rete, x_retite, x_fn, x_fnn, x_fnr, x_fne, x_fnite, x_comp, x_for, x_its, x_rng1b, x_rng2b, x_rngA, x_rngB, tq_str, tq_int, tq_bool, tq_tuple, tq_list, tq_dict, eVar, eBor, eC, sIf, sSet, sSetF, sFrz, sNil, sExpr, sPar, setsR, pNil, pVal, pOwn, sAppO, sBk, sCt, eUn, eTup, eFz, eCl, fn1, aCons, aNil, eCall, eCallK, arr, negD, tgName, wipeR, lBu, isiD, tyN, isaT, tysOf, String.reduceBEq, bYes, x_int_eq, x_int_ne, x_str_eq, x_str_ne, x_bl_eq, x_lt, x_le, x_gt, x_ge, x_add, x_sub, x_len_lst, x_len_tup, List.map_cons, List.map_nil, List.length_cons, List.length_nil, List.cons_append, List.nil_append, List.reduceReplicate, List.getElem?_cons_zero, List.getElem?_cons_succ, List.set_cons_zero, List.set_cons_succ, Nat.reduceAdd, Nat.reduceSub, Nat.zero_add, Nat.sub_self, List.replicate_zero, List.getD_cons_zero, List.getD_cons_succ, reduceIte, Bool.false_eq_true, if_true, if_false, x_if_t, decide_true, decide_false, Bool.not_true, Bool.not_false, Bool.true_and, Bool.false_and, Bool.and_true, Bool.and_false, Bool.true_or, Bool.false_or, Bool.or_true, Bool.or_false, beq_self_eq_true, List.any_cons, List.any_nil, List.all_cons, List.all_nil, h, sRaise]
    rfl
  have c : m_check_both [d, l] st = .exc ⟨"InvalidRow", [("given", d)]⟩ st := by
    unfold m_check_both b_check_both
    simp -implicitDefEqProofs only [x_bok, x_bexc, x_bst, x_bite, x_bb, x_oo, x_ooite, x_bin, x_bu, x_and, x_or, x_not, x_tb, x_andD, x_orD, x_notD, x_tst, x_band, x_bor, x_bnot, x_if, x_then, x_thenx, x_thenite, x_seq, x_seqn, x_seqr, x_seqe, x_seqb, x_seqc, x_seqite, x_ret, x_reto, x_rete, x_retite, x_fn, x_fnn, x_fnr, x_fne, x_fnite, x_comp, x_for, x_its, x_rng1b, x_rng2b, x_rngA, x_rngB, tq_str, tq_int, tq_bool, tq_tuple, tq_list, tq_dict, eVar, eBor, eC, sIf, sSet, sSetF, sFrz, sNil, sExpr, sPar, setsR, pNil, pVal, pOwn, sAppO, sBk, sCt, eUn, eTup, eFz, eCl, fn1, aCons, aNil, eCall, eCallK, arr, negD, tgName, wipeR, lBu, isiD, tyN, isaT, tysOf, String.reduceBEq, bYes, x_int_eq, x_int_ne, x_str_eq, x_str_ne, x_bl_eq, x_lt, x_le, x_gt, x_ge, x_add, x_sub, x_len_lst, x_len_tup, List.map_cons, List.map_nil, List.length_cons, List.length_nil, List.cons_append, List.nil_append, List.reduceReplicate, List.getElem?_cons_zero, List.getElem?_cons_succ, List.set_cons_zero, List.set_cons_succ, Nat.reduceAdd, Nat.reduceSub, Nat.zero_add, Nat.sub_self, List.replicate_zero, List.getD_cons_zero, List.getD_cons_succ, reduceIte, Bool.false_eq_true, if_true, if_false, x_if_t, decide_true, decide_false, Bool.not_true, Bool.not_false, Bool.true_and, Bool.false_and, Bool.and_true, Bool.and_false, Bool.true_or, Bool.false_or, Bool.or_true, Bool.or_false, beq_self_eq_true, List.any_cons, List.any_nil, List.all_cons, List.all_nil, a]
  cases q
  · show m_window_bar [d, l] st = _
    unfold m_window_bar b_window_bar
    simp -implicitDefEqProofs only [x_bok, x_bexc, x_bst, x_bite, x_bb, x_oo, x_ooite, x_bin, x_bu, x_and, x_or, x_not, x_tb, x_andD, x_orD, x_notD, x_tst, x_band, x_bor, x_bnot, x_if, x_then, x_thenx, x_thenite, x_seq, x_seqn, x_seqr, x_seqe, x_seqb, x_seqc, x_seqite, x_ret, x_reto, x_rete, x_retite, x_fn, x_fnn, x_fnr, x_fne, x_fnite, x_comp, x_for, x_its, x_rng1b, x_rng2b, x_rngA, x_rngB, tq_str, tq_int, tq_bool, tq_tuple, tq_list, tq_dict, eVar, eBor, eC, sIf, sSet, sSetF, sFrz, sNil, sExpr, sPar, setsR, pNil, pVal, pOwn, sAppO, sBk, sCt, eUn, eTup, eFz, eCl, fn1, aCons, aNil, eCall, eCallK, arr, negD, tgName, wipeR, lBu, isiD, tyN, isaT, tysOf, String.reduceBEq, bYes, x_int_eq, x_int_ne, x_str_eq, x_str_ne, x_bl_eq, x_lt, x_le, x_gt, x_ge, x_add, x_sub, x_len_lst, x_len_tup, List.map_cons, List.map_nil, List.length_cons, List.length_nil, List.cons_append, List.nil_append, List.reduceReplicate, List.getElem?_cons_zero, List.getElem?_cons_succ, List.set_cons_zero, List.set_cons_succ, Nat.reduceAdd, Nat.reduceSub, Nat.zero_add, Nat.sub_self, List.replicate_zero, List.getD_cons_zero, List.getD_cons_succ, reduceIte, Bool.false_eq_true, if_true, if_false, x_if_t, decide_true, decide_false, Bool.not_true, Bool.not_false, Bool.true_and, Bool.false_and, Bool.and_true, Bool.and_false, Bool.true_or, Bool.false_or, Bool.or_true, Bool.or_false, beq_self_eq_true, List.any_cons, List.any_nil, List.all_cons, List.all_nil, c]
  · show m_least_window [d, l] st = _
    unfold m_least_window b_least_window
    simp -implicitDefEqProofs only [x_bok, x_bexc, x_bst, x_bite, x_bb, x_oo, x_ooite, x_bin, x_bu, x_and, x_or, x_not, x_tb, x_andD, x_orD, x_notD, x_tst, x_band, x_bor, x_bnot, x_if, x_then, x_thenx, x_thenite, x_seq, x_seqn, x_seqr, x_seqe, x_seqb, x_seqc, x_seqite, x_ret, x_reto, x_rete, x_retite, x_fn, x_fnn, x_fnr, x_fne, x_fnite, x_comp, x_for, x_its, x_rng1b, x_rng2b, x_rngA, x_rngB, tq_str, tq_int, tq_bool, tq_tuple, tq_list, tq_dict, eVar, eBor, eC, sIf, sSet, sSetF, sFrz, sNil, sExpr, sPar, setsR, pNil, pVal, pOwn, sAppO, sBk, sCt, eUn, eTup, eFz, eCl, fn1, aCons, aNil, eCall, eCallK, arr, negD, tgName, wipeR, lBu, isiD, tyN, isaT, tysOf, String.reduceBEq, bYes, x_int_eq, x_int_ne, x_str_eq, x_str_ne, x_bl_eq, x_lt, x_le, x_gt, x_ge, x_add, x_sub, x_len_lst, x_len_tup, List.map_cons, List.map_nil, List.length_cons, List.length_nil, List.cons_append, List.nil_append, List.reduceReplicate, List.getElem?_cons_zero, List.getElem?_cons_succ, List.set_cons_zero, List.set_cons_succ, Nat.reduceAdd, Nat.reduceSub, Nat.zero_add, Nat.sub_self, List.replicate_zero, List.getD_cons_zero, List.getD_cons_succ, reduceIte, Bool.false_eq_true, if_true, if_false, x_if_t, decide_true, decide_false, Bool.not_true, Bool.not_false, Bool.true_and, Bool.false_and, Bool.and_true, Bool.and_false, Bool.true_or, Bool.false_or, Bool.or_true, Bool.or_false, beq_self_eq_true, List.any_cons, List.any_nil, List.all_cons, List.all_nil, c]
theorem let_exc {q : Bool} {d : D} {s : Str} {st : Sto} (hs : okRow s = true) (hl : s.length ≤ 60) (h : m_are_letters [d, .int 12] st = .ok (.bl false) st) : mq q [.str s, d] st = .exc ⟨"InvalidLetters", [("given", d)]⟩ st := by
  have c : m_check_both [.str s, d] st = .exc ⟨"InvalidLetters", [("given", d)]⟩ st := by
    unfold m_check_both b_check_both
    simp -implicitDefEqProofs only [x_bok, x_bexc, x_bst, x_bite, x_bb, x_oo, x_ooite, x_bin, x_bu, x_and, x_or, x_not, x_tb, x_andD, x_orD, x_notD, x_tst, x_band, x_bor, x_bnot, x_if, x_then, x_thenx, x_thenite, x_seq, x_seqn, x_seqr, x_seqe, x_seqb, x_seqc, x_seqite, x_ret, x_reto, x_rete, x_retite, x_fn, x_fnn, x_fnr, x_fne, x_fnite, x_comp, x_for, x_its, x_rng1b, x_rng2b, x_rngA, x_rngB, tq_str, tq_int, tq_bool, tq_tuple, tq_list, tq_dict, eVar, eBor, eC, sIf, sSet, sSetF, sFrz, sNil, sExpr, sPar, setsR, pNil, pVal, pOwn, sAppO, sBk, sCt, eUn, eTup, eFz, eCl, fn1, aCons, aNil, eCall, eCallK, arr, negD, tgName, wipeR, lBu, isiD, tyN, isaT, tysOf, String.reduceBEq, bYes, x_int_eq, x_int_ne, x_str_eq, x_str_ne, x_bl_eq, x_lt, x_le, x_gt, x_ge, x_add, x_sub, x_len_lst, x_len_tup, List.map_cons, List.map_nil, List.length_cons, List.length_nil, List.cons_append, List.nil_append, List.reduceReplicate, List.getElem?_cons_zero, List.getElem?_cons_succ, List.set_cons_zero, List.set_cons_succ, Nat.reduceAdd, Nat.reduceSub, Nat.zero_add, Nat.sub_self, List.replicate_zero, List.getD_cons_zero, List.getD_cons_succ, reduceIte, Bool.false_eq_true, if_true, if_false, x_if_t, decide_true, decide_false, Bool.not_true, Bool.not_false, Bool.true_and, Bool.false_and, Bool.and_true, Bool.and_false, Bool.true_or, Bool.false_or, Bool.or_true, Bool.or_false, beq_self_eq_true, List.any_cons, List.any_nil, List.all_cons, List.all_nil, check_row_ok st hs hl, h, sRaise]
    rfl
  cases q
  · show m_window_bar [_, d] st = _
    unfold m_window_bar b_window_bar
    simp -implicitDefEqProofs only [x_bok, x_bexc, x_bst, x_bite, x_bb, x_oo, x_ooite, x_bin, x_bu, x_and, x_or, x_not, x_tb, x_andD, x_orD, x_notD, x_tst, x_band, x_bor, x_bnot, x_if, x_then, x_thenx, x_thenite, x_seq, x_seqn, x_seqr, x_seqe, x_seqb, x_seqc, x_seqite, x_ret, x_reto, x_rete, x_retite, x_fn, x_fnn, x_fnr, x_fne, x_fnite, x_comp, x_for, x_its, x_rng1b, x_rng2b, x_rngA, x_rngB, tq_str, tq_int, tq_bool, tq_tuple, tq_list, tq_dict, eVar, eBor, eC, sIf, sSet, sSetF, sFrz, sNil, sExpr, sPar, setsR, pNil, pVal, pOwn, sAppO, sBk, sCt, eUn, eTup, eFz, eCl, fn1, aCons, aNil, eCall, eCallK, arr, negD, tgName, wipeR, lBu, isiD, tyN, isaT, tysOf, String.reduceBEq, bYes, x_int_eq, x_int_ne, x_str_eq, x_str_ne, x_bl_eq, x_lt, x_le, x_gt, x_ge, x_add, x_sub, x_len_lst, x_len_tup, List.map_cons, List.map_nil, List.length_cons, List.length_nil, List.cons_append, List.nil_append, List.reduceReplicate, List.getElem?_cons_zero, List.getElem?_cons_succ, List.set_cons_zero, List.set_cons_succ, Nat.reduceAdd, Nat.reduceSub, Nat.zero_add, Nat.sub_self, List.replicate_zero, List.getD_cons_zero, List.getD_cons_succ, reduceIte, Bool.false_eq_true, if_true, if_false, x_if_t, decide_true, decide_false, Bool.not_true, Bool.not_false, Bool.true_and, Bool.false_and, Bool.and_true, Bool.and_false, Bool.true_or, Bool.false_or, Bool.or_true, Bool.or_false, beq_self_eq_true, List.any_cons, List.any_nil, List.all_cons, List.all_nil, c]
  · show m_least_window [_, d] st = _
    unfold m_least_window b_least_window
    simp -implicitDefEqProofs only [x_bok, x_bexc, x_bst, x_bite, x_bb, x_oo, x_ooite, x_bin, x_bu, x_and, x_or, x_not, x_tb, x_andD, x_orD, x_notD, x_tst, x_band, x_bor, x_bnot, x_if, x_then, x_thenx, x_thenite, x_seq, x_seqn, x_seqr, x_seqe, x_seqb, x_seqc, x_seqite, x_ret, x_reto, x_rete, x_retite, x_fn, x_fnn, x_fnr, x_fne, x_fnite, x_comp, x_for, x_its, x_rng1b, x_rng2b, x_rngA, x_rngB, tq_str, tq_int, tq_bool, tq_tuple, tq_list, tq_dict, eVar, eBor, eC, sIf, sSet, sSetF, sFrz, sNil, sExpr, sPar, setsR, pNil, pVal, pOwn, sAppO, sBk, sCt, eUn, eTup, eFz, eCl, fn1, aCons, aNil, eCall, eCallK, arr, negD, tgName, wipeR, lBu, isiD, tyN, isaT, tysOf, String.reduceBEq, bYes, x_int_eq, x_int_ne, x_str_eq, x_str_ne, x_bl_eq, x_lt, x_le, x_gt, x_ge, x_add, x_sub, x_len_lst, x_len_tup, List.map_cons, List.map_nil, List.length_cons, List.length_nil, List.cons_append, List.nil_append, List.reduceReplicate, List.getElem?_cons_zero, List.getElem?_cons_succ, List.set_cons_zero, List.set_cons_succ, Nat.reduceAdd, Nat.reduceSub, Nat.zero_add, Nat.sub_self, List.replicate_zero, List.getD_cons_zero, List.getD_cons_succ, reduceIte, Bool.false_eq_true, if_true, if_false, x_if_t, decide_true, decide_false, Bool.not_true, Bool.not_false, Bool.true_and, Bool.false_and, Bool.and_true, Bool.and_false, Bool.true_or, Bool.false_or, Bool.or_true, Bool.or_false, beq_self_eq_true, List.any_cons, List.any_nil, List.all_cons, List.all_nil, c]
/-- bad rows, bad letters -/
def Wr (most : Int) (st : Sto) (w : D) : Prop := m_are_letters [w, .int most] st = .ok (.bl false) st ∧ Sim st 6 w w ∧ ∃ T, tyN st w = some T ∧ (T ≠ "list" ∨ ∃ m ds, w = .loc m ∧ st[m]? = some (.lst ds) ∧ ds.length < 1000 ∧ Sim (st.set m (.lst (ds ++ [.int 7]))) 6 w w)
theorem bad_ty {most : Int} {st : Sto} {d : D} {T : String} (h : tyN st d = some T) (hT : T ≠ "str") : m_are_letters [d, .int most] st = .ok (.bl false) st := by
  have e : isaT T "str" = false := by simp [isaT, hT]
  have i : isiD [d, .ty "str"] st = .ok (.bl false) st := by simp only [isiD, h, if_pos (show "str" ∈ tyAsked by decide), e]
  unfold m_are_letters b_are_letters
  simp -implicitDefEqProofs only [x_fn, List.map_cons, List.map_nil, List.length_cons, List.length_nil, Nat.zero_add, Nat.reduceAdd, Nat.reduceSub, List.reduceReplicate, List.cons_append, List.nil_append, x_ret, x_and, x_bu, aCons, aNil, eVar, eC, List.getElem?_cons_zero, x_bok, i, x_oo, x_andD, Bool.false_eq_true, reduceIte, x_reto, x_fnr]
theorem bad_str {most : Int} {st : Sto} {s : Str} (hs : s.length ≤ 100) (h : (decide ((s.length : Int) ≤ most) && okRow s) = false) : m_are_letters [.str s, .int most] st = .ok (.bl false) st := by
  rw [are_letters_str s most st (line1M (by omega)), h]
theorem wr_str {most : Int} {st : Sto} {s : Str} (hs : s.length ≤ 100) (h : (decide ((s.length : Int) ≤ most) && okRow s) = false) : Wr most st (.str s) := ⟨bad_str hs h, sim_str (by omega), "str", rfl, .inl (by decide)⟩
def A1 : List D := [.str "a"]
theorem sim_A1 {st : Sto} {n : Nat} : ∀ x ∈ A1, Sim st (n + 1) x x := fun x hx => by
  rw [List.mem_singleton.mp hx]
  exact sim_str (by decide)
theorem wr_dct {most : Int} {st : Sto} : Wr most st (.dct [.inr "a"] [.int 1]) := ⟨bad_ty rfl (by decide), .inr (.inr (.inr (.inr (.inr (.inr ⟨_, _, _, rfl, rfl, by decide, fun k hk => by
  rw [List.mem_singleton.mp hk]
  exact ⟨.int 1, .int 1, rfl, rfl, sim_int⟩⟩))))), "dict", rfl, .inl (by decide)⟩
def rowsL : List D := [.non, .int 7, .lst A1, .tup A1, .str "abg", .str "A", .str "a b", .str (strRep "a" 61), .dct [.inr "a"] [.int 1], .bl true, .str "ab\n"]
def oddL : List D := [.non, .int 7, .lst A1, .tup A1, .str "abg", .str "A", .str "a b", .str (strRep "a" 13), .dct [.inr "a"] [.int 1], .bl true]
theorem wr_rows {st : Sto} : ∀ d ∈ rowsL, d = .lst A1 ∨ (Wr 60 st d ∧ ∃ T, tyN st d = some T ∧ T ≠ "list" ∧ ∀ n, d ≠ .loc n) := by
  intro d hd
  simp only [rowsL, List.mem_cons, List.not_mem_nil, or_false] at hd
  rcases hd with rfl | rfl | rfl | rfl | rfl | rfl | rfl | rfl | rfl | rfl | rfl
  · exact .inr ⟨⟨bad_ty rfl (by decide), sim_non, "NoneType", rfl, .inl (by decide)⟩, _, rfl, by decide, fun _ => nofun⟩
  · exact .inr ⟨⟨bad_ty rfl (by decide), sim_int, "int", rfl, .inl (by decide)⟩, _, rfl, by decide, fun _ => nofun⟩
  · exact .inl rfl
  · exact .inr ⟨⟨bad_ty rfl (by decide), sim_tup sim_A1 (by decide), "tuple", rfl, .inl (by decide)⟩, _, rfl, by decide, fun _ => nofun⟩
  · exact .inr ⟨wr_str (by decide) (by decide), _, rfl, by decide, fun _ => nofun⟩
  · exact .inr ⟨wr_str (by decide) (by decide), _, rfl, by decide, fun _ => nofun⟩
  · exact .inr ⟨wr_str (by decide) (by decide), _, rfl, by decide, fun _ => nofun⟩
  · exact .inr ⟨wr_str (by decide +kernel) (by decide +kernel), _, rfl, by decide, fun _ => nofun⟩
  · exact .inr ⟨wr_dct, _, rfl, by decide, fun _ => nofun⟩
  · exact .inr ⟨⟨bad_ty rfl (by decide), sim_bl, "bool", rfl, .inl (by decide)⟩, _, rfl, by decide, fun _ => nofun⟩
  · exact .inr ⟨wr_str (by decide) (by decide), _, rfl, by decide, fun _ => nofun⟩
theorem wr_odd {st : Sto} : ∀ d ∈ oddL, d = .lst A1 ∨ (Wr 12 st d ∧ ∃ T, tyN st d = some T ∧ T ≠ "list" ∧ ∀ n, d ≠ .loc n) := by
  intro d hd
  simp only [oddL, List.mem_cons, List.not_mem_nil, or_false] at hd
  rcases hd with rfl | rfl | rfl | rfl | rfl | rfl | rfl | rfl | rfl | rfl
  · exact .inr ⟨⟨bad_ty rfl (by decide), sim_non, "NoneType", rfl, .inl (by decide)⟩, _, rfl, by decide, fun _ => nofun⟩
  · exact .inr ⟨⟨bad_ty rfl (by decide), sim_int, "int", rfl, .inl (by decide)⟩, _, rfl, by decide, fun _ => nofun⟩
  · exact .inl rfl
  · exact .inr ⟨⟨bad_ty rfl (by decide), sim_tup sim_A1 (by decide), "tuple", rfl, .inl (by decide)⟩, _, rfl, by decide, fun _ => nofun⟩
  · exact .inr ⟨wr_str (by decide) (by decide), _, rfl, by decide, fun _ => nofun⟩
  · exact .inr ⟨wr_str (by decide) (by decide), _, rfl, by decide, fun _ => nofun⟩
  · exact .inr ⟨wr_str (by decide) (by decide), _, rfl, by decide, fun _ => nofun⟩
  · exact .inr ⟨wr_str (by decide +kernel) (by decide +kernel), _, rfl, by decide, fun _ => nofun⟩
  · exact .inr ⟨wr_dct, _, rfl, by decide, fun _ => nofun⟩
  · exact .inr ⟨⟨bad_ty rfl (by decide), sim_bl, "bool", rfl, .inl (by decide)⟩, _, rfl, by decide, fun _ => nofun⟩
theorem copy_is : m__law_copy = fnM 1 copyB := rfl
theorem blamed_is : m__law_blamed = fnM 2 (blamedB (sameM 6)) := by
  show fnM 2 (blamedB (m__law_same 6)) = _
  rw [same_is]
theorem copy_wo {most : Int} {st : Sto} {n T : Nat} {d : D} (hB : Box st n T) (h : d = .lst A1 ∨ (Wr most st d ∧ ∃ T, tyN st d = some T ∧ T ≠ "list" ∧ ∀ n, d ≠ .loc n)) {P : D → Sto → Prop}
    (k : ∀ w st', Box st' n T → Wr most st' w → w ≠ .loc n → P w st') : Wo (m__law_copy [d] st) P := by
  rw [copy_is]
  rcases h with rfl | ⟨h, T', h2, h3, h4⟩
  · rw [copy_lst, wo_ok]
    have e : (st ++ [Cell.lst A1])[st.length]? = some (.lst A1) := by simp
    have hn := hB.lt
    refine k _ _ (hB.app _) ⟨bad_ty (T := "list") (by simp [tyN, e]) (by decide), sim_loc e sim_A1 (by decide), "list", by simp [tyN, e], .inr ⟨_, A1, rfl, e, by decide, ?_⟩⟩ (fun z => by injection z with z; omega)
    refine sim_loc (xs := A1 ++ [.int 7]) (List.getElem?_set_self (by simp)) (fun x hx => ?_) (by decide)
    rcases List.mem_append.mp hx with hx | hx
    · exact sim_A1 x hx
    · rw [List.mem_singleton.mp hx]; exact sim_int
  · rw [copy_other d T' st h2 h3, wo_ok]
    exact k _ _ hB h (h4 n)
theorem blamed_wo {most : Int} {st : Sto} {n T : Nat} {w : D} (hB : Box st n T) (h : Wr most st w) (hn : w ≠ .loc n) {P : D → Sto → Prop} (k : ∀ st', Box st' n T → P (.bl true) st') : Wo (m__law_blamed [w, w] st) P := by
  obtain ⟨_, h1, T', h2, h3⟩ := h
  obtain ⟨st', e, h4⟩ := blamed_spec 6 h1 T' h2 h3
  rw [blamed_is, e, wo_ok]
  rcases h4 with rfl | ⟨m, ds, rfl, _, rfl⟩
  · exact k _ hB
  · exact k _ (hB.other fun z => hn (by rw [z]))
end Wk64
namespace Wk64
open PySem L2 Sx
theorem rep_is {s : Str} {k : Int} {st : Sto} (h0 : 0 ≤ k) (h1 : k ≤ 1000) (h2 : s.length ≤ 1000) : opMul (.str s) (.int k) st = .ok (.str (strRep s k.toNat)) st := if_pos ⟨h0, by omega, h2⟩
theorem no_row_wo {st : Sto} {n T : Nat} {P : D → Sto → Prop} (hB : Box st n T) (hT : T < 900000) (h : ∀ d st', d ∈ rowsL → Box st' n (T + 1) → P d st') : Wo (m__law_no_row [.loc n] st) P := by
  unfold m__law_no_row b__law_no_row
  have hm : opMul (.str "a") (.int 61) st = .ok (.str (strRep "a" 61)) st := rep_is (by decide) (by decide) (by decide)
  simp -implicitDefEqProofs only [wo_no, wo_so, wo_sl, wo_mt, soD_int, slO_lst, slO_tup, tyM_str, wo_ok, wo_bind, wo_oo, wo_ite, ws_nx, ws_rt, ws_seq, ws_then, ws_if, ws_ret, ws_ite, wo_fn, wo_if, wo_band, wo_bor, wo_and, wo_or, x_bin, x_bu, x_not, x_tb, x_andD, x_orD, x_notD, x_tst, x_bnot, x_comp, x_for, x_its, x_rng1b, x_rng2b, x_rngA, x_rngB, tq_str, tq_int, tq_bool, tq_tuple, tq_list, tq_dict, eVar, eBor, eC, sSet, sSetF, sFrz, sNil, sExpr, sPar, setsR, pNil, pVal, pOwn, sAppO, eUn, eTup, eFz, eCl, fn1, aCons, aNil, eCall, eCallK, arr, negD, tgName, wipeR, lBu, bYes, x_int_eq, x_int_ne, x_str_eq, x_str_ne, x_bl_eq, x_lt, x_le, x_gt, x_ge, x_add, x_sub, x_len_lst, x_len_tup, List.map_cons, List.map_nil, List.length_cons, List.length_nil, List.cons_append, List.nil_append, List.reduceReplicate, List.getElem?_cons_zero, List.getElem?_cons_succ, List.set_cons_zero, List.set_cons_succ, Nat.reduceAdd, Nat.reduceSub, Nat.zero_add, Nat.sub_self, List.replicate_zero, List.getD_cons_zero, List.getD_cons_succ, reduceIte, Bool.false_eq_true, if_true, if_false, x_if_t, decide_true, decide_false, decide_eq_true_eq, Bool.not_true, Bool.not_false, Bool.true_and, Bool.false_and, Bool.and_true, Bool.and_false, Bool.true_or, Bool.false_or, Bool.or_true, Bool.or_false, beq_self_eq_true, hm, eDct1, x_bok]
  refine tk hB (by omega) (by decide) (by decide) fun r st1 r0 r1 B1 _ => ?_
  obtain ⟨k, rfl⟩ := Int.eq_ofNat_of_zero_le r0
  have hk : k < rowsL.length := by show k < 11; omega
  have e := x_ix (st := st1) (d := .lst rowsL) rfl (atI_nat hk)
  unfold rowsL at e hk
  unfold A1 at e
  rw [e, wo_ok]
  refine h _ _ ?_ B1
  unfold rowsL
  exact List.getElem_mem _
def which (q : Bool) : Int := if q then 0 else 1
noncomputable def refB : SM := (sSeq (sSet 4 (eCall m__law_copy (aCons (eIf (tB1 (eBin opLt (eVar 3) (eC (.int 3)))) (eCall m__law_no_row (aCons (eVar 0) aNil)) (eBin opIx (eVar 2) (eCall m__law_take (aCons (eVar 0) (aCons (eC (.int 10)) aNil))))) aNil)))
    (sSeq (sSet 5 (eCall m__law_asked (aCons (eBin opIx (eFz (aCons (eC (.str "window")) (aCons (eC (.str "bar")) aNil))) (eBin opBand (eVar 3) (eC (.int 1)))) (aCons (eIf (tB1 (eBin opLt (eVar 3) (eC (.int 3)))) (eVar 4) (eC (.str "abc"))) (aCons (eIf (tB1 (eBin opLt (eVar 3) (eC (.int 3)))) (eC .non) (eVar 4)) (aCons (eVar 1) aNil))))))
    (sSeq (sIf (bOr (tB1 (eBin opNe (eBin opIx (eVar 5) (eC (.int 0))) (eIf (tB1 (eBin opLt (eVar 3) (eC (.int 3)))) (eC (.str "row")) (eC (.str "letters"))))) (bNot (tB1 (eCall m__law_blamed (aCons (eBin opIx (eVar 5) (eC (.int 1))) (aCons (eVar 4) aNil)))))) (sRet (eC (.bl false))) sNil)
    (sSet 1 (eNot (eVar 1))))))
theorem word_ix (q : Bool) (st : Sto) : opIx (.lst [.str "window", .str "bar"]) (.int (which q)) st = .ok (wq q) st := by cases q <;> rfl
theorem sne1 (st : Sto) : opNe (.str "row") (.str "row") st = .ok (.bl false) st := rfl
theorem sne2 (st : Sto) : opNe (.str "letters") (.str "letters") st = .ok (.bl false) st := rfl
theorem ix20 (a b : D) (st : Sto) : opIx (.lst [a, b]) (.int 0) st = .ok a st := rfl
theorem ix21 (a b : D) (st : Sto) : opIx (.lst [a, b]) (.int 1) st = .ok b st := rfl
theorem ref_lo {st : Sto} {n T : Nat} {b : Bool} {x y : Slot} {i : Int} {q : Bool} {N : Rho → Sto → Prop} {R : D → Sto → Prop} (hB : Box st n T) (hT : T < 900000) (hi : i < 3) (hq : ∀ st, opBand (.int i) (.int 1) st = .ok (.int (which q)) st)
    (h : ∀ x y st', Box st' n (T + 1) → N [.val (.loc n), .val (.bl (!b)), .val (.lst oddL), .val (.int i), x, y] st') : Ws (refB [.val (.loc n), .val (.bl b), .val (.lst oddL), .val (.int i), x, y] st) N R := by
  unfold refB
  simp -implicitDefEqProofs only [wo_no, wo_so, wo_sl, wo_mt, soD_int, slO_lst, slO_tup, tyM_str, wo_ok, wo_bind, wo_oo, wo_ite, ws_nx, ws_rt, ws_seq, ws_then, ws_if, ws_ret, ws_ite, wo_fn, wo_if, wo_band, wo_bor, wo_and, wo_or, x_bin, x_bu, x_not, x_tb, x_andD, x_orD, x_notD, x_tst, x_bnot, x_comp, x_for, x_its, x_rng1b, x_rng2b, x_rngA, x_rngB, tq_str, tq_int, tq_bool, tq_tuple, tq_list, tq_dict, eVar, eBor, eC, sSet, sSetF, sFrz, sNil, sExpr, sPar, setsR, pNil, pVal, pOwn, sAppO, eUn, eTup, eFz, eCl, fn1, aCons, aNil, eCall, eCallK, arr, negD, tgName, wipeR, lBu, bYes, x_int_eq, x_int_ne, x_str_eq, x_str_ne, x_bl_eq, x_lt, x_le, x_gt, x_ge, x_add, x_sub, x_len_lst, x_len_tup, List.map_cons, List.map_nil, List.length_cons, List.length_nil, List.cons_append, List.nil_append, List.reduceReplicate, List.getElem?_cons_zero, List.getElem?_cons_succ, List.set_cons_zero, List.set_cons_succ, Nat.reduceAdd, Nat.reduceSub, Nat.zero_add, Nat.sub_self, List.replicate_zero, List.getD_cons_zero, List.getD_cons_succ, reduceIte, Bool.false_eq_true, if_true, if_false, x_if_t, decide_true, decide_false, decide_eq_true_eq, Bool.not_true, Bool.not_false, Bool.true_and, Bool.false_and, Bool.and_true, Bool.and_false, Bool.true_or, Bool.false_or, Bool.or_true, Bool.or_false, beq_self_eq_true, decide_eq_true hi]
  refine no_row_wo hB hT fun d st1 hd B1 => ?_
  refine copy_wo B1 (wr_rows d hd) fun w st2 B2 hw hn => ?_
  simp -implicitDefEqProofs only [wo_no, wo_so, wo_sl, wo_mt, soD_int, slO_lst, slO_tup, tyM_str, wo_ok, wo_bind, wo_oo, wo_ite, ws_nx, ws_rt, ws_seq, ws_then, ws_if, ws_ret, ws_ite, wo_fn, wo_if, wo_band, wo_bor, wo_and, wo_or, x_bin, x_bu, x_not, x_tb, x_andD, x_orD, x_notD, x_tst, x_bnot, x_comp, x_for, x_its, x_rng1b, x_rng2b, x_rngA, x_rngB, tq_str, tq_int, tq_bool, tq_tuple, tq_list, tq_dict, eVar, eBor, eC, sSet, sSetF, sFrz, sNil, sExpr, sPar, setsR, pNil, pVal, pOwn, sAppO, eUn, eTup, eFz, eCl, fn1, aCons, aNil, eCall, eCallK, arr, negD, tgName, wipeR, lBu, bYes, x_int_eq, x_int_ne, x_str_eq, x_str_ne, x_bl_eq, x_lt, x_le, x_gt, x_ge, x_add, x_sub, x_len_lst, x_len_tup, List.map_cons, List.map_nil, List.length_cons, List.length_nil, List.cons_append, List.nil_append, List.reduceReplicate, List.getElem?_cons_zero, List.getElem?_cons_succ, List.set_cons_zero, List.set_cons_succ, Nat.reduceAdd, Nat.reduceSub, Nat.zero_add, Nat.sub_self, List.replicate_zero, List.getD_cons_zero, List.getD_cons_succ, reduceIte, Bool.false_eq_true, if_true, if_false, x_if_t, decide_true, decide_false, decide_eq_true_eq, Bool.not_true, Bool.not_false, Bool.true_and, Bool.false_and, Bool.and_true, Bool.and_false, Bool.true_or, Bool.false_or, Bool.or_true, Bool.or_false, beq_self_eq_true, hq, word_ix, asked_row (row_exc hw.1), ix20, ix21, sne1]
  refine blamed_wo B2 hw hn fun st3 B3 => ?_
  simp -implicitDefEqProofs only [wo_no, wo_so, wo_sl, wo_mt, soD_int, slO_lst, slO_tup, tyM_str, wo_ok, wo_bind, wo_oo, wo_ite, ws_nx, ws_rt, ws_seq, ws_then, ws_if, ws_ret, ws_ite, wo_fn, wo_if, wo_band, wo_bor, wo_and, wo_or, x_bin, x_bu, x_not, x_tb, x_andD, x_orD, x_notD, x_tst, x_bnot, x_comp, x_for, x_its, x_rng1b, x_rng2b, x_rngA, x_rngB, tq_str, tq_int, tq_bool, tq_tuple, tq_list, tq_dict, eVar, eBor, eC, sSet, sSetF, sFrz, sNil, sExpr, sPar, setsR, pNil, pVal, pOwn, sAppO, eUn, eTup, eFz, eCl, fn1, aCons, aNil, eCall, eCallK, arr, negD, tgName, wipeR, lBu, bYes, x_int_eq, x_int_ne, x_str_eq, x_str_ne, x_bl_eq, x_lt, x_le, x_gt, x_ge, x_add, x_sub, x_len_lst, x_len_tup, List.map_cons, List.map_nil, List.length_cons, List.length_nil, List.cons_append, List.nil_append, List.reduceReplicate, List.getElem?_cons_zero, List.getElem?_cons_succ, List.set_cons_zero, List.set_cons_succ, Nat.reduceAdd, Nat.reduceSub, Nat.zero_add, Nat.sub_self, List.replicate_zero, List.getD_cons_zero, List.getD_cons_succ, reduceIte, Bool.false_eq_true, if_true, if_false, x_if_t, decide_true, decide_false, decide_eq_true_eq, Bool.not_true, Bool.not_false, Bool.true_and, Bool.false_and, Bool.and_true, Bool.and_false, Bool.true_or, Bool.false_or, Bool.or_true, Bool.or_false, beq_self_eq_true]
  exact h _ _ _ B3
theorem ref_hi {st : Sto} {n T : Nat} {b : Bool} {x y : Slot} {i : Int} {q : Bool} {N : Rho → Sto → Prop} {R : D → Sto → Prop} (hB : Box st n T) (hT : T < 900000) (hi : ¬ i < 3) (hq : ∀ st, opBand (.int i) (.int 1) st = .ok (.int (which q)) st)
    (h : ∀ x y st', Box st' n (T + 1) → N [.val (.loc n), .val (.bl (!b)), .val (.lst oddL), .val (.int i), x, y] st') : Ws (refB [.val (.loc n), .val (.bl b), .val (.lst oddL), .val (.int i), x, y] st) N R := by
  unfold refB
  simp -implicitDefEqProofs only [wo_no, wo_so, wo_sl, wo_mt, soD_int, slO_lst, slO_tup, tyM_str, wo_ok, wo_bind, wo_oo, wo_ite, ws_nx, ws_rt, ws_seq, ws_then, ws_if, ws_ret, ws_ite, wo_fn, wo_if, wo_band, wo_bor, wo_and, wo_or, x_bin, x_bu, x_not, x_tb, x_andD, x_orD, x_notD, x_tst, x_bnot, x_comp, x_for, x_its, x_rng1b, x_rng2b, x_rngA, x_rngB, tq_str, tq_int, tq_bool, tq_tuple, tq_list, tq_dict, eVar, eBor, eC, sSet, sSetF, sFrz, sNil, sExpr, sPar, setsR, pNil, pVal, pOwn, sAppO, eUn, eTup, eFz, eCl, fn1, aCons, aNil, eCall, eCallK, arr, negD, tgName, wipeR, lBu, bYes, x_int_eq, x_int_ne, x_str_eq, x_str_ne, x_bl_eq, x_lt, x_le, x_gt, x_ge, x_add, x_sub, x_len_lst, x_len_tup, List.map_cons, List.map_nil, List.length_cons, List.length_nil, List.cons_append, List.nil_append, List.reduceReplicate, List.getElem?_cons_zero, List.getElem?_cons_succ, List.set_cons_zero, List.set_cons_succ, Nat.reduceAdd, Nat.reduceSub, Nat.zero_add, Nat.sub_self, List.replicate_zero, List.getD_cons_zero, List.getD_cons_succ, reduceIte, Bool.false_eq_true, if_true, if_false, x_if_t, decide_true, decide_false, decide_eq_true_eq, Bool.not_true, Bool.not_false, Bool.true_and, Bool.false_and, Bool.and_true, Bool.and_false, Bool.true_or, Bool.false_or, Bool.or_true, Bool.or_false, beq_self_eq_true, decide_eq_false hi]
  refine tk hB (by omega) (by decide) (by decide) fun r st1 r0 r1 B1 _ => ?_
  obtain ⟨k, rfl⟩ := Int.eq_ofNat_of_zero_le r0
  have hk : k < oddL.length := by show k < 10; omega
  have e := x_ix (st := st1) (d := .lst oddL) rfl (atI_nat hk)
  rw [e, wo_ok]
  refine copy_wo B1 (wr_odd _ (List.getElem_mem hk)) fun w st2 B2 hw hn => ?_
  simp -implicitDefEqProofs only [wo_no, wo_so, wo_sl, wo_mt, soD_int, slO_lst, slO_tup, tyM_str, wo_ok, wo_bind, wo_oo, wo_ite, ws_nx, ws_rt, ws_seq, ws_then, ws_if, ws_ret, ws_ite, wo_fn, wo_if, wo_band, wo_bor, wo_and, wo_or, x_bin, x_bu, x_not, x_tb, x_andD, x_orD, x_notD, x_tst, x_bnot, x_comp, x_for, x_its, x_rng1b, x_rng2b, x_rngA, x_rngB, tq_str, tq_int, tq_bool, tq_tuple, tq_list, tq_dict, eVar, eBor, eC, sSet, sSetF, sFrz, sNil, sExpr, sPar, setsR, pNil, pVal, pOwn, sAppO, eUn, eTup, eFz, eCl, fn1, aCons, aNil, eCall, eCallK, arr, negD, tgName, wipeR, lBu, bYes, x_int_eq, x_int_ne, x_str_eq, x_str_ne, x_bl_eq, x_lt, x_le, x_gt, x_ge, x_add, x_sub, x_len_lst, x_len_tup, List.map_cons, List.map_nil, List.length_cons, List.length_nil, List.cons_append, List.nil_append, List.reduceReplicate, List.getElem?_cons_zero, List.getElem?_cons_succ, List.set_cons_zero, List.set_cons_succ, Nat.reduceAdd, Nat.reduceSub, Nat.zero_add, Nat.sub_self, List.replicate_zero, List.getD_cons_zero, List.getD_cons_succ, reduceIte, Bool.false_eq_true, if_true, if_false, x_if_t, decide_true, decide_false, decide_eq_true_eq, Bool.not_true, Bool.not_false, Bool.true_and, Bool.false_and, Bool.and_true, Bool.and_false, Bool.true_or, Bool.false_or, Bool.or_true, Bool.or_false, beq_self_eq_true, hq, word_ix, asked_let (let_exc (s := "abc") (by decide) (by decide) hw.1), ix20, ix21, sne2]
  refine blamed_wo B2 hw hn fun st3 B3 => ?_
  simp -implicitDefEqProofs only [wo_no, wo_so, wo_sl, wo_mt, soD_int, slO_lst, slO_tup, tyM_str, wo_ok, wo_bind, wo_oo, wo_ite, ws_nx, ws_rt, ws_seq, ws_then, ws_if, ws_ret, ws_ite, wo_fn, wo_if, wo_band, wo_bor, wo_and, wo_or, x_bin, x_bu, x_not, x_tb, x_andD, x_orD, x_notD, x_tst, x_bnot, x_comp, x_for, x_its, x_rng1b, x_rng2b, x_rngA, x_rngB, tq_str, tq_int, tq_bool, tq_tuple, tq_list, tq_dict, eVar, eBor, eC, sSet, sSetF, sFrz, sNil, sExpr, sPar, setsR, pNil, pVal, pOwn, sAppO, eUn, eTup, eFz, eCl, fn1, aCons, aNil, eCall, eCallK, arr, negD, tgName, wipeR, lBu, bYes, x_int_eq, x_int_ne, x_str_eq, x_str_ne, x_bl_eq, x_lt, x_le, x_gt, x_ge, x_add, x_sub, x_len_lst, x_len_tup, List.map_cons, List.map_nil, List.length_cons, List.length_nil, List.cons_append, List.nil_append, List.reduceReplicate, List.getElem?_cons_zero, List.getElem?_cons_succ, List.set_cons_zero, List.set_cons_succ, Nat.reduceAdd, Nat.reduceSub, Nat.zero_add, Nat.sub_self, List.replicate_zero, List.getD_cons_zero, List.getD_cons_succ, reduceIte, Bool.false_eq_true, if_true, if_false, x_if_t, decide_true, decide_false, decide_eq_true_eq, Bool.not_true, Bool.not_false, Bool.true_and, Bool.false_and, Bool.and_true, Bool.and_false, Bool.true_or, Bool.false_or, Bool.or_true, Bool.or_false, beq_self_eq_true]
  exact h _ _ _ B3
theorem refused_wo {st : Sto} {n T : Nat} {b : Bool} {P : D → Sto → Prop} (hB : Box st n T) (hT : T < 800000) (h : ∀ st', Box st' n (T + 6) → P (.bl true) st') : Wo (m__law_refused [.loc n, .bl b] st) P := by
  unfold m__law_refused
  rw [show b__law_refused = sSeq _ (sSeq (sFor _ _ refB) _) from rfl]
  have hm : opMul (.str "a") (.int 13) st = .ok (.str (strRep "a" 13)) st := rep_is (by decide) (by decide) (by decide)
  simp -implicitDefEqProofs only [wo_no, wo_so, wo_sl, wo_mt, soD_int, slO_lst, slO_tup, tyM_str, wo_ok, wo_bind, wo_oo, wo_ite, ws_nx, ws_rt, ws_seq, ws_then, ws_if, ws_ret, ws_ite, wo_fn, wo_if, wo_band, wo_bor, wo_and, wo_or, x_bin, x_bu, x_not, x_tb, x_andD, x_orD, x_notD, x_tst, x_bnot, x_comp, x_for, x_its, x_rng1b, x_rng2b, x_rngA, x_rngB, tq_str, tq_int, tq_bool, tq_tuple, tq_list, tq_dict, eVar, eBor, eC, sSet, sSetF, sFrz, sNil, sExpr, sPar, setsR, pNil, pVal, pOwn, sAppO, eUn, eTup, eFz, eCl, fn1, aCons, aNil, eCall, eCallK, arr, negD, tgName, wipeR, lBu, bYes, x_int_eq, x_int_ne, x_str_eq, x_str_ne, x_bl_eq, x_lt, x_le, x_gt, x_ge, x_add, x_sub, x_len_lst, x_len_tup, List.map_cons, List.map_nil, List.length_cons, List.length_nil, List.cons_append, List.nil_append, List.reduceReplicate, List.getElem?_cons_zero, List.getElem?_cons_succ, List.set_cons_zero, List.set_cons_succ, Nat.reduceAdd, Nat.reduceSub, Nat.zero_add, Nat.sub_self, List.replicate_zero, List.getD_cons_zero, List.getD_cons_succ, reduceIte, Bool.false_eq_true, if_true, if_false, x_if_t, decide_true, decide_false, decide_eq_true_eq, Bool.not_true, Bool.not_false, Bool.true_and, Bool.false_and, Bool.and_true, Bool.and_false, Bool.true_or, Bool.false_or, Bool.or_true, Bool.or_false, beq_self_eq_true, hm, eDct1, x_bok]
  rw [rngO_ok (by decide) (by decide) (by decide) (by decide), wo_ok]
  refine ws_for (fun k ρ st' => Box st' n (T + k) ∧ ∃ b x y z, ρ = [.val (.loc n), .val (.bl b), .val (.lst oddL), x, y, z]) _ 0 _ _ ⟨hB, _, _, _, _, rfl⟩ ?_ ?_
  · rintro i d ρ st1 hd ⟨B1, b1, x, y, z, rfl⟩
    obtain ⟨rfl, hi⟩ := dints_get hd
    rw [Nat.zero_add] at B1 ⊢
    refine ⟨_, rfl, ?_⟩
    have hi : i < 6 := hi
    have h6 : i = 0 ∨ i = 1 ∨ i = 2 ∨ i = 3 ∨ i = 4 ∨ i = 5 := by omega
    have go : ∀ x y st', Box st' n (T + i + 1) → Box st' n (T + (i + 1)) ∧ ∃ b' x' y' z', [Slot.val (.loc n), .val (.bl (!b1)), .val (.lst oddL), .val (.int (0 + (i : Int))), x, y] = [.val (.loc n), .val (.bl b'), .val (.lst oddL), x', y', z'] := fun x y st' hb => ⟨hb, _, _, _, _, rfl⟩
    rcases h6 with rfl | rfl | rfl | rfl | rfl | rfl
    · exact ref_lo (q := true) B1 (by omega) (by decide) (fun _ => rfl) go
    · exact ref_lo (q := false) B1 (by omega) (by decide) (fun _ => rfl) go
    · exact ref_lo (q := true) B1 (by omega) (by decide) (fun _ => rfl) go
    · exact ref_hi (q := false) B1 (by omega) (by decide) (fun _ => rfl) go
    · exact ref_hi (q := true) B1 (by omega) (by decide) (fun _ => rfl) go
    · exact ref_hi (q := false) B1 (by omega) (by decide) (fun _ => rfl) go
  · rintro ρ st1 ⟨B1, b1, x, y, z, rfl⟩
    exact h _ B1
end Wk64
namespace Wk64
open PySem L2 Sx
theorem win_list (s : Str) (L lo : Nat) (h : lo + L ≤ s.length) : (win s L lo).cps.toList = (s.cps.toList.drop lo).take L := by
  unfold win cutS
  rw [show (lo : Int) + (L : Int) = ((lo + L : Nat) : Int) by omega, HT.sIx_nat, HT.sIx_nat, Nat.min_eq_left (show lo ≤ s.length by omega), Nat.min_eq_left h, Nat.add_sub_cancel_left, List.toList_toArray]
theorem win_len (s : Str) (L lo : Nat) (h : lo + L ≤ s.length) : (win s L lo).length = L := by
  have e : (win s L lo).length = (win s L lo).cps.toList.length := by simp [Str.length]
  rw [e, win_list s L lo h, List.length_take, List.length_drop]
  have : s.cps.toList.length = s.length := by simp [Str.length]
  omega
theorem str_ext {a b : Str} (h : a.cps.toList = b.cps.toList) : a = b := by
  obtain ⟨⟨a⟩⟩ := a
  obtain ⟨⟨b⟩⟩ := b
  have h : a = b := h
  rw [h]
theorem win_all (s : Str) : win s s.length 0 = s := str_ext (by
  rw [win_list s _ _ (by omega), List.drop_zero, List.take_of_length_le (by simp [Str.length])])
theorem win_tl (s : Str) (L lo : Nat) (h : lo + (L + 1) ≤ s.length) : cutS (win s (L + 1) lo) (some 1) none = win s L (lo + 1) := str_ext (by
  rw [win_list s _ _ (by omega)]
  have hl := win_len s _ _ h
  unfold cutS
  rw [show (some (1 : Int)) = some ((1 : Nat) : Int) from rfl, HT.sIx_nat, HT.sIx_none, hl, Nat.min_eq_left (by omega), List.toList_toArray, win_list s _ _ h, Nat.add_sub_cancel, List.drop_take, List.drop_drop, Nat.add_sub_cancel, List.take_take, Nat.min_self])
theorem win_hd (s : Str) (L lo : Nat) (h : lo + (L + 1) ≤ s.length) : cutS (win s (L + 1) lo) none (some (-1)) = win s L lo := str_ext (by
  rw [win_list s _ _ (by omega)]
  have hl := win_len s _ _ h
  have e : HT.sIx (L + 1) (L + 1) (some (-1)) = L := by
    show (if (-1 : Int) < 0 then ((-1 : Int) + ((L + 1 : Nat) : Int)).toNat else min (-1 : Int).toNat (L + 1)) = L
    rw [if_pos (by decide)]
    omega
  unfold cutS
  rw [HT.sIx_none, hl, e, List.toList_toArray, win_list s _ _ h, List.drop_zero, Nat.sub_zero, List.take_take, Nat.min_eq_left (by omega)])
theorem least_lack {s l : Str} {d : D} (h : LeastP s l d) : (d = .non ∧ (lack s l).isEmpty = false) ∨ ∃ L lo : Nat, d = prD (L, lo) ∧ (lack s l).isEmpty = true ∧ lo + L ≤ s.length ∧ hasB (win s L lo) l = true ∧ ∀ L' lo' : Nat, lo' + L' ≤ s.length → hasB (win s L' lo') l = true → L < L' ∨ (L = L' ∧ lo ≤ lo') := by
  rcases h with ⟨L, lo, rfl, h1, h2, h3⟩ | ⟨rfl, h3⟩
  · refine .inr ⟨L, lo, rfl, ?_, h1, h2, h3⟩
    refine hasB_iff.mpr fun c hc => Int.le_trans (hasB_iff.mp h2 c hc) ?_
    unfold win
    rw [show (lo : Int) + (L : Int) = ((lo + L : Nat) : Int) by omega]
    exact C_cut s lo (lo + L) c (by omega) h1
  · refine .inl ⟨rfl, ?_⟩
    have := h3 s.length 0 (by omega)
    rwa [win_all] at this
theorem bl_ne (i j : Bool) (st : Sto) : opNe (.bl i) (.bl j) st = .ok (.bl (!decide (i = j))) st := by rw [x_ne rfl rfl, eqD_bl]
noncomputable def prB : SM := (sSeq (sSet 7 (eFz (aCons (eCall m__law_asked (aCons (eC (.str "window")) (aCons (eVar 0) (aCons (eVar 1) (aCons (eVar 5) aNil))))) (aCons (eCall m__law_asked (aCons (eC (.str "bar")) (aCons (eVar 0) (aCons (eVar 1) (aCons (eVar 5) aNil))))) aNil))))
    (sIf (bNot (tB1 (eCall (m__law_same 6) (aCons (eVar 7) (aCons (eFz (aCons (eFz (aCons (eC (.str "told")) (aCons (eVar 3) aNil))) (aCons (eFz (aCons (eC (.str "told")) (aCons (eIf (tB1 (eBin opNe (eVar 4) (eFz aNil))) (eBin opIx (eVar 4) (eC (.int 0))) (eC .non)) aNil))) aNil))) aNil))))) (sRet (eC (.bl false))) sNil))
theorem prB_ws {st : Sto} {s l : Str} {b t k : Bool} {due bar : D} {ms : List D} {x y z : Slot} {N : Rho → Sto → Prop} {R : D → Sto → Prop} (aw : ∀ t, m__law_asked [.str "window", .str s, .str l, .bl t] st = .ok (.lst [.str "told", due]) st)
    (ab : ∀ t, m__law_asked [.str "bar", .str s, .str l, .bl t] st = .ok (.lst [.str "told", bar]) st) (ne : opNe (.lst ms) (.lst []) st = .ok (.bl k) st) (k1 : k = true → opIx (.lst ms) (.int 0) st = .ok bar st) (k0 : k = false → bar = .non) (sd : Sim st 4 due due) (sb : Sim st 4 bar bar)
    (h : ∀ y, N [.val (.str s), .val (.str l), .val (.bl b), .val due, .val (.lst ms), .val (.bl t), x, y, z] st) : Ws (prB [.val (.str s), .val (.str l), .val (.bl b), .val due, .val (.lst ms), .val (.bl t), x, y, z] st) N R := by
  have s2 : ∀ v, Sim st 4 v v → Sim st 5 (.lst [.str "told", v]) (.lst [.str "told", v]) := fun v hv => sim_lst (fun w hw => by
    rcases List.mem_cons.mp hw with rfl | hw
    · exact sim_str (by decide)
    · rw [List.mem_singleton.mp hw]; exact hv) (show 2 ≤ 1000000 by decide)
  have sm : m__law_same 6 [.lst [.lst [.str "told", due], .lst [.str "told", bar]], .lst [.lst [.str "told", due], .lst [.str "told", bar]]] st = .ok (.bl true) st := by
    rw [same_is]
    refine same_sim st 6 _ _ (sim_lst (fun w hw => ?_) (show 2 ≤ 1000000 by decide))
    rcases List.mem_cons.mp hw with rfl | hw
    · exact s2 _ sd
    · rw [List.mem_singleton.mp hw]; exact s2 _ sb
  unfold prB
  cases k with
  | true =>
    simp -implicitDefEqProofs only [wo_no, wo_so, wo_sl, wo_mt, soD_int, slO_lst, slO_tup, tyM_str, wo_ok, wo_bind, wo_oo, wo_ite, ws_nx, ws_rt, ws_seq, ws_then, ws_if, ws_ret, ws_ite, wo_fn, wo_if, wo_band, wo_bor, wo_and, wo_or, x_bin, x_bu, x_not, x_tb, x_andD, x_orD, x_notD, x_tst, x_bnot, x_comp, x_for, x_its, x_rng1b, x_rng2b, x_rngA, x_rngB, tq_str, tq_int, tq_bool, tq_tuple, tq_list, tq_dict, eVar, eBor, eC, sSet, sSetF, sFrz, sNil, sExpr, sPar, setsR, pNil, pVal, pOwn, sAppO, eUn, eTup, eFz, eCl, fn1, aCons, aNil, eCall, eCallK, arr, negD, tgName, wipeR, lBu, bYes, x_int_eq, x_int_ne, x_str_eq, x_str_ne, x_bl_eq, x_lt, x_le, x_gt, x_ge, x_add, x_sub, x_len_lst, x_len_tup, List.map_cons, List.map_nil, List.length_cons, List.length_nil, List.cons_append, List.nil_append, List.reduceReplicate, List.getElem?_cons_zero, List.getElem?_cons_succ, List.set_cons_zero, List.set_cons_succ, Nat.reduceAdd, Nat.reduceSub, Nat.zero_add, Nat.sub_self, List.replicate_zero, List.getD_cons_zero, List.getD_cons_succ, reduceIte, Bool.false_eq_true, if_true, if_false, x_if_t, decide_true, decide_false, decide_eq_true_eq, Bool.not_true, Bool.not_false, Bool.true_and, Bool.false_and, Bool.and_true, Bool.and_false, Bool.true_or, Bool.false_or, Bool.or_true, Bool.or_false, beq_self_eq_true, aw, ab, ne, k1 rfl, sm]
    exact h _
  | false =>
    cases k0 rfl
    simp -implicitDefEqProofs only [wo_no, wo_so, wo_sl, wo_mt, soD_int, slO_lst, slO_tup, tyM_str, wo_ok, wo_bind, wo_oo, wo_ite, ws_nx, ws_rt, ws_seq, ws_then, ws_if, ws_ret, ws_ite, wo_fn, wo_if, wo_band, wo_bor, wo_and, wo_or, x_bin, x_bu, x_not, x_tb, x_andD, x_orD, x_notD, x_tst, x_bnot, x_comp, x_for, x_its, x_rng1b, x_rng2b, x_rngA, x_rngB, tq_str, tq_int, tq_bool, tq_tuple, tq_list, tq_dict, eVar, eBor, eC, sSet, sSetF, sFrz, sNil, sExpr, sPar, setsR, pNil, pVal, pOwn, sAppO, eUn, eTup, eFz, eCl, fn1, aCons, aNil, eCall, eCallK, arr, negD, tgName, wipeR, lBu, bYes, x_int_eq, x_int_ne, x_str_eq, x_str_ne, x_bl_eq, x_lt, x_le, x_gt, x_ge, x_add, x_sub, x_len_lst, x_len_tup, List.map_cons, List.map_nil, List.length_cons, List.length_nil, List.cons_append, List.nil_append, List.reduceReplicate, List.getElem?_cons_zero, List.getElem?_cons_succ, List.set_cons_zero, List.set_cons_succ, Nat.reduceAdd, Nat.reduceSub, Nat.zero_add, Nat.sub_self, List.replicate_zero, List.getD_cons_zero, List.getD_cons_succ, reduceIte, Bool.false_eq_true, if_true, if_false, x_if_t, decide_true, decide_false, decide_eq_true_eq, Bool.not_true, Bool.not_false, Bool.true_and, Bool.false_and, Bool.and_true, Bool.and_false, Bool.true_or, Bool.false_or, Bool.or_true, Bool.or_false, beq_self_eq_true, aw, ab, ne, sm]
    exact h _
theorem is_pr (p : Nat × Nat) (st : Sto) : opIs (prD p) .non st = .ok (.bl false) st := rfl
theorem is_nn (st : Sto) : opIs .non .non st = .ok (.bl true) st := rfl
theorem ix_pr0 (L lo : Nat) (st : Sto) : opIx (prD (L, lo)) (.int 0) st = .ok (.int L) st := rfl
theorem ix_pr1 (L lo : Nat) (st : Sto) : opIx (prD (L, lo)) (.int 1) st = .ok (.int lo) st := rfl
theorem sim_pr (p : Nat × Nat) (st : Sto) : Sim st 4 (prD p) (prD p) := sim_tup (fun x hx => by
  rcases List.mem_cons.mp hx with rfl | hx
  · exact sim_int
  · rw [List.mem_singleton.mp hx]; exact sim_int) (show 2 ≤ 1000000 by decide)
theorem pair_right_wo {s l : Str} {b : Bool} {st : Sto} {P : D → Sto → Prop} (h : okRow s = true) (hl : s.length ≤ 60) (k : okRow l = true) (kl : l.length ≤ 12) (hP : P (.bl true) st) : Wo (m__law_pair_right [.str s, .str l, .bl b] st) P := by
  unfold m__law_pair_right
  rw [show b__law_pair_right = sSeq _ (sSeq _ (sFrz 4 (sSeq _ (sSeq (sFor _ _ prB) _)))) from rfl]
  have a := congrFun abc_is st
  obtain ⟨due, st0, e1, rfl, hd⟩ := (least_wo (s := s) (l := l) st hl).eq
  have hc := lack_comp (i := 8) [.val (.str s), .val (.str l), .val (.bl b), .val due, .un, .un, .un, .un, .un] st0 s l rfl rfl (by decide) (Nat.lt_succ_self 8)
  have ne : opNe (.lst ((lack s l).map chD)) (.lst []) st0 = .ok (.bl (!(lack s l).isEmpty)) st0 := ne_chars (lack s l) st0 fun c => lack_mem
  obtain ⟨dw, ew, hw⟩ := least_window_eq st0 h hl k kl
  cases least_uniq hw hd
  have eb := bar_eq st0 h hl k kl
  have aw : ∀ t, m__law_asked [.str "window", .str s, .str l, .bl t] st0 = .ok (.lst [.str "told", due]) st0 := fun t => asked_ok (q := true) ew
  have ab : ∀ t, m__law_asked [.str "bar", .str s, .str l, .bl t] st0 = .ok (.lst [.str "told", barD s l]) st0 := fun t => asked_ok (q := false) eb
  have hbar : (!(lack s l).isEmpty) = true → opIx (.lst ((lack s l).map chD)) (.int 0) st0 = .ok (barD s l) st0 := fun z => by
    unfold barD
    cases e : lack s l with
    | nil => rw [e] at z; cases z
    | cons c f => exact x_ix (ds := chD c :: f.map chD) rfl (atI_nat (k := 0) (by simp))
  have hbar0 : (!(lack s l).isEmpty) = false → barD s l = .non := fun z => by
    unfold barD
    cases e : lack s l with
    | nil => rfl
    | cons c f => rw [e] at z; cases z
  have sb : Sim st0 4 (barD s l) (barD s l) := by
    unfold barD
    cases lack s l with
    | nil => exact sim_non
    | cons c f => exact sim_str (show 1 ≤ 1000000 by decide)
  have loop : ∀ {N : Rho → Sto → Prop} {R : D → Sto → Prop}, Sim st0 4 due due → (∀ x y, N [.val (.str s), .val (.str l), .val (.bl b), .val due, .val (.lst ((lack s l).map chD)), x, .un, y, .un] st0) → Ws (forM (tgName 5) prB [.bl b, .bl (!b)] [.val (.str s), .val (.str l), .val (.bl b), .val due, .val (.lst ((lack s l).map chD)), .un, .un, .un, .un] st0) N R := fun {N R} sd hN => by
    refine ws_for (fun _ ρ st' => st' = st0 ∧ ∃ x y, ρ = [.val (.str s), .val (.str l), .val (.bl b), .val due, .val (.lst ((lack s l).map chD)), x, .un, y, .un]) _ 0 _ _ ⟨rfl, _, _, rfl⟩ ?_ (fun ρ st' ⟨h1, x, y, h2⟩ => by rw [h1, h2]; exact hN x y)
    rintro i d ρ st' hi ⟨rfl, x, y, rfl⟩
    have hd : ∃ t, d = .bl t := by
      rcases List.mem_cons.mp (List.mem_of_getElem? hi) with rfl | hi
      · exact ⟨_, rfl⟩
      · exact ⟨_, List.mem_singleton.mp hi⟩
    obtain ⟨t, rfl⟩ := hd
    refine ⟨_, rfl, ?_⟩
    exact prB_ws aw ab ne hbar hbar0 sd sb fun y => ⟨rfl, _, _, rfl⟩
  have hit : itO (.lst [.bl b, .bl (!b)]) st0 = .ok [.bl b, .bl (!b)] st0 := itO_lst (line1M (show 2 ≤ 1000000 by decide))
  rcases least_lack hd with ⟨rfl, hk⟩ | ⟨L, lo, rfl, hk, hlo, hh, hmin⟩
  · rw [hk] at ne
    simp -implicitDefEqProofs only [wo_no, wo_so, wo_sl, wo_mt, soD_int, slO_lst, slO_tup, tyM_str, wo_ok, wo_bind, wo_oo, wo_ite, ws_nx, ws_rt, ws_seq, ws_then, ws_if, ws_ret, ws_ite, wo_fn, wo_if, wo_band, wo_bor, wo_and, wo_or, x_bin, x_bu, x_not, x_tb, x_andD, x_orD, x_notD, x_tst, x_bnot, x_comp, x_for, x_its, x_rng1b, x_rng2b, x_rngA, x_rngB, tq_str, tq_int, tq_bool, tq_tuple, tq_list, tq_dict, eVar, eBor, eC, sSet, sSetF, sFrz, sNil, sExpr, sPar, setsR, pNil, pVal, pOwn, sAppO, eUn, eTup, eFz, eCl, fn1, aCons, aNil, eCall, eCallK, arr, negD, tgName, wipeR, lBu, bYes, x_int_eq, x_int_ne, x_str_eq, x_str_ne, x_bl_eq, x_lt, x_le, x_gt, x_ge, x_add, x_sub, x_len_lst, x_len_tup, List.map_cons, List.map_nil, List.length_cons, List.length_nil, List.cons_append, List.nil_append, List.reduceReplicate, List.getElem?_cons_zero, List.getElem?_cons_succ, List.set_cons_zero, List.set_cons_succ, Nat.reduceAdd, Nat.reduceSub, Nat.zero_add, Nat.sub_self, List.replicate_zero, List.getD_cons_zero, List.getD_cons_succ, reduceIte, Bool.false_eq_true, if_true, if_false, x_if_t, decide_true, decide_false, decide_eq_true_eq, Bool.not_true, Bool.not_false, Bool.true_and, Bool.false_and, Bool.and_true, Bool.and_false, Bool.true_or, Bool.false_or, Bool.or_true, Bool.or_false, beq_self_eq_true, e1, a, hc, ne, is_nn, bl_ne, hit]
    refine loop sim_non fun x y => ?_
    simp -implicitDefEqProofs only [wo_no, wo_so, wo_sl, wo_mt, soD_int, slO_lst, slO_tup, tyM_str, wo_ok, wo_bind, wo_oo, wo_ite, ws_nx, ws_rt, ws_seq, ws_then, ws_if, ws_ret, ws_ite, wo_fn, wo_if, wo_band, wo_bor, wo_and, wo_or, x_bin, x_bu, x_not, x_tb, x_andD, x_orD, x_notD, x_tst, x_bnot, x_comp, x_for, x_its, x_rng1b, x_rng2b, x_rngA, x_rngB, tq_str, tq_int, tq_bool, tq_tuple, tq_list, tq_dict, eVar, eBor, eC, sSet, sSetF, sFrz, sNil, sExpr, sPar, setsR, pNil, pVal, pOwn, sAppO, eUn, eTup, eFz, eCl, fn1, aCons, aNil, eCall, eCallK, arr, negD, tgName, wipeR, lBu, bYes, x_int_eq, x_int_ne, x_str_eq, x_str_ne, x_bl_eq, x_lt, x_le, x_gt, x_ge, x_add, x_sub, x_len_lst, x_len_tup, List.map_cons, List.map_nil, List.length_cons, List.length_nil, List.cons_append, List.nil_append, List.reduceReplicate, List.getElem?_cons_zero, List.getElem?_cons_succ, List.set_cons_zero, List.set_cons_succ, Nat.reduceAdd, Nat.reduceSub, Nat.zero_add, Nat.sub_self, List.replicate_zero, List.getD_cons_zero, List.getD_cons_succ, reduceIte, Bool.false_eq_true, if_true, if_false, x_if_t, decide_true, decide_false, decide_eq_true_eq, Bool.not_true, Bool.not_false, Bool.true_and, Bool.false_and, Bool.and_true, Bool.and_false, Bool.true_or, Bool.false_or, Bool.or_true, Bool.or_false, beq_self_eq_true, is_nn]
    exact hP
  · rw [hk] at ne
    simp -implicitDefEqProofs only [wo_no, wo_so, wo_sl, wo_mt, soD_int, slO_lst, slO_tup, tyM_str, wo_ok, wo_bind, wo_oo, wo_ite, ws_nx, ws_rt, ws_seq, ws_then, ws_if, ws_ret, ws_ite, wo_fn, wo_if, wo_band, wo_bor, wo_and, wo_or, x_bin, x_bu, x_not, x_tb, x_andD, x_orD, x_notD, x_tst, x_bnot, x_comp, x_for, x_its, x_rng1b, x_rng2b, x_rngA, x_rngB, tq_str, tq_int, tq_bool, tq_tuple, tq_list, tq_dict, eVar, eBor, eC, sSet, sSetF, sFrz, sNil, sExpr, sPar, setsR, pNil, pVal, pOwn, sAppO, eUn, eTup, eFz, eCl, fn1, aCons, aNil, eCall, eCallK, arr, negD, tgName, wipeR, lBu, bYes, x_int_eq, x_int_ne, x_str_eq, x_str_ne, x_bl_eq, x_lt, x_le, x_gt, x_ge, x_add, x_sub, x_len_lst, x_len_tup, List.map_cons, List.map_nil, List.length_cons, List.length_nil, List.cons_append, List.nil_append, List.reduceReplicate, List.getElem?_cons_zero, List.getElem?_cons_succ, List.set_cons_zero, List.set_cons_succ, Nat.reduceAdd, Nat.reduceSub, Nat.zero_add, Nat.sub_self, List.replicate_zero, List.getD_cons_zero, List.getD_cons_succ, reduceIte, Bool.false_eq_true, if_true, if_false, x_if_t, decide_true, decide_false, decide_eq_true_eq, Bool.not_true, Bool.not_false, Bool.true_and, Bool.false_and, Bool.and_true, Bool.and_false, Bool.true_or, Bool.false_or, Bool.or_true, Bool.or_false, beq_self_eq_true, e1, a, hc, ne, is_pr, bl_ne, hit]
    refine loop (sim_pr _ _) fun x y => ?_
    simp -implicitDefEqProofs only [wo_no, wo_so, wo_sl, wo_mt, soD_int, slO_lst, slO_tup, tyM_str, wo_ok, wo_bind, wo_oo, wo_ite, ws_nx, ws_rt, ws_seq, ws_then, ws_if, ws_ret, ws_ite, wo_fn, wo_if, wo_band, wo_bor, wo_and, wo_or, x_bin, x_bu, x_not, x_tb, x_andD, x_orD, x_notD, x_tst, x_bnot, x_comp, x_for, x_its, x_rng1b, x_rng2b, x_rngA, x_rngB, tq_str, tq_int, tq_bool, tq_tuple, tq_list, tq_dict, eVar, eBor, eC, sSet, sSetF, sFrz, sNil, sExpr, sPar, setsR, pNil, pVal, pOwn, sAppO, eUn, eTup, eFz, eCl, fn1, aCons, aNil, eCall, eCallK, arr, negD, tgName, wipeR, lBu, bYes, x_int_eq, x_int_ne, x_str_eq, x_str_ne, x_bl_eq, x_lt, x_le, x_gt, x_ge, x_add, x_sub, x_len_lst, x_len_tup, List.map_cons, List.map_nil, List.length_cons, List.length_nil, List.cons_append, List.nil_append, List.reduceReplicate, List.getElem?_cons_zero, List.getElem?_cons_succ, List.set_cons_zero, List.set_cons_succ, Nat.reduceAdd, Nat.reduceSub, Nat.zero_add, Nat.sub_self, List.replicate_zero, List.getD_cons_zero, List.getD_cons_succ, reduceIte, Bool.false_eq_true, if_true, if_false, x_if_t, decide_true, decide_false, decide_eq_true_eq, Bool.not_true, Bool.not_false, Bool.true_and, Bool.false_and, Bool.and_true, Bool.and_false, Bool.true_or, Bool.false_or, Bool.or_true, Bool.or_false, beq_self_eq_true, is_pr, ix_pr0, ix_pr1]
    by_cases hL : L = 0
    · rw [if_pos (by omega)]
      exact hP
    · rw [if_neg (by omega)]
      obtain ⟨M, rfl⟩ : ∃ M, L = M + 1 := ⟨L - 1, by omega⟩
      have hwl := win_len s (M + 1) lo hlo
      have f1 : hasB (win s M (lo + 1)) l = false := by
        cases e : hasB (win s M (lo + 1)) l with
        | false => rfl
        | true => have := hmin M (lo + 1) (by omega) e; omega
      have f2 : hasB (win s M lo) l = false := by
        cases e : hasB (win s M lo) l with
        | false => rfl
        | true => have := hmin M lo (by omega) e; omega
      rw [slO_str (show s.length ≤ 1000000 by omega), wo_ok, win_cut]
      simp -implicitDefEqProofs only [wo_no, wo_so, wo_sl, wo_mt, soD_int, slO_lst, slO_tup, tyM_str, wo_ok, wo_bind, wo_oo, wo_ite, ws_nx, ws_rt, ws_seq, ws_then, ws_if, ws_ret, ws_ite, wo_fn, wo_if, wo_band, wo_bor, wo_and, wo_or, x_bin, x_bu, x_not, x_tb, x_andD, x_orD, x_notD, x_tst, x_bnot, x_comp, x_for, x_its, x_rng1b, x_rng2b, x_rngA, x_rngB, tq_str, tq_int, tq_bool, tq_tuple, tq_list, tq_dict, eVar, eBor, eC, sSet, sSetF, sFrz, sNil, sExpr, sPar, setsR, pNil, pVal, pOwn, sAppO, eUn, eTup, eFz, eCl, fn1, aCons, aNil, eCall, eCallK, arr, negD, tgName, wipeR, lBu, bYes, x_int_eq, x_int_ne, x_str_eq, x_str_ne, x_bl_eq, x_lt, x_le, x_gt, x_ge, x_add, x_sub, x_len_lst, x_len_tup, List.map_cons, List.map_nil, List.length_cons, List.length_nil, List.cons_append, List.nil_append, List.reduceReplicate, List.getElem?_cons_zero, List.getElem?_cons_succ, List.set_cons_zero, List.set_cons_succ, Nat.reduceAdd, Nat.reduceSub, Nat.zero_add, Nat.sub_self, List.replicate_zero, List.getD_cons_zero, List.getD_cons_succ, reduceIte, Bool.false_eq_true, if_true, if_false, x_if_t, decide_true, decide_false, decide_eq_true_eq, Bool.not_true, Bool.not_false, Bool.true_and, Bool.false_and, Bool.and_true, Bool.and_false, Bool.true_or, Bool.false_or, Bool.or_true, Bool.or_false, beq_self_eq_true, law_has_eq, hh]
      rw [slO_str (show (win s (M + 1) lo).length ≤ 1000000 by omega), wo_ok, win_tl s M lo hlo, law_has_eq, wo_ok, f1]
      simp -implicitDefEqProofs only [wo_no, wo_so, wo_sl, wo_mt, soD_int, slO_lst, slO_tup, tyM_str, wo_ok, wo_bind, wo_oo, wo_ite, ws_nx, ws_rt, ws_seq, ws_then, ws_if, ws_ret, ws_ite, wo_fn, wo_if, wo_band, wo_bor, wo_and, wo_or, x_bin, x_bu, x_not, x_tb, x_andD, x_orD, x_notD, x_tst, x_bnot, x_comp, x_for, x_its, x_rng1b, x_rng2b, x_rngA, x_rngB, tq_str, tq_int, tq_bool, tq_tuple, tq_list, tq_dict, eVar, eBor, eC, sSet, sSetF, sFrz, sNil, sExpr, sPar, setsR, pNil, pVal, pOwn, sAppO, eUn, eTup, eFz, eCl, fn1, aCons, aNil, eCall, eCallK, arr, negD, tgName, wipeR, lBu, bYes, x_int_eq, x_int_ne, x_str_eq, x_str_ne, x_bl_eq, x_lt, x_le, x_gt, x_ge, x_add, x_sub, x_len_lst, x_len_tup, List.map_cons, List.map_nil, List.length_cons, List.length_nil, List.cons_append, List.nil_append, List.reduceReplicate, List.getElem?_cons_zero, List.getElem?_cons_succ, List.set_cons_zero, List.set_cons_succ, Nat.reduceAdd, Nat.reduceSub, Nat.zero_add, Nat.sub_self, List.replicate_zero, List.getD_cons_zero, List.getD_cons_succ, reduceIte, Bool.false_eq_true, if_true, if_false, x_if_t, decide_true, decide_false, decide_eq_true_eq, Bool.not_true, Bool.not_false, Bool.true_and, Bool.false_and, Bool.and_true, Bool.and_false, Bool.true_or, Bool.false_or, Bool.or_true, Bool.or_false, beq_self_eq_true]
      rw [slO_str (show (win s (M + 1) lo).length ≤ 1000000 by omega), wo_ok, win_hd s M lo hlo, law_has_eq, wo_ok, f2]
      exact hP
end Wk64
namespace Wk64
open PySem L2 Sx
theorem cell_wo (ns : List Int) (k : Nat) (st : Sto) {P : D → Sto → Prop} (h : ∀ i, P (.int i) st) : Wo (m__law_cell [.lst (ns.map D.int), .int k] st) P := by
  obtain ⟨i, e⟩ := cell_spec ns k st
  exact Wo.of (show m__law_cell _ _ = _ from e) (h i)
theorem box_wo (g : Int) (st : Sto) {P : D → Sto → Prop} (h : ∀ n st', Box st' n 0 → P (.loc n) st') : Wo (m__law_box [.int g] st) P := by
  obtain ⟨st', e, h1, _⟩ := box_spec g st
  exact Wo.of (show m__law_box _ _ = _ from e) (h _ _ h1)
def turns : List D := [.int 12, .int 30, .int 60]
theorem lawThm (ns : List Int) : ∃ st', m_law [.lst (ns.map D.int)] [] = .ok (.bl true) st' := by
  suffices h : Wo (m_law [.lst (ns.map D.int)] []) fun d _ => d = .bl true by
    obtain ⟨d, st', e, rfl⟩ := h.eq
    exact ⟨st', e⟩
  unfold m_law b_law
  simp -implicitDefEqProofs only [wo_no, wo_so, wo_sl, wo_mt, soD_int, slO_lst, slO_tup, tyM_str, wo_ok, wo_bind, wo_oo, wo_ite, ws_nx, ws_rt, ws_seq, ws_then, ws_if, ws_ret, ws_ite, wo_fn, wo_if, wo_band, wo_bor, wo_and, wo_or, x_bin, x_bu, x_not, x_tb, x_andD, x_orD, x_notD, x_tst, x_bnot, x_comp, x_for, x_its, x_rng1b, x_rng2b, x_rngA, x_rngB, tq_str, tq_int, tq_bool, tq_tuple, tq_list, tq_dict, eVar, eBor, eC, sSet, sSetF, sFrz, sNil, sExpr, sPar, setsR, pNil, pVal, pOwn, sAppO, eUn, eTup, eFz, eCl, fn1, aCons, aNil, eCall, eCallK, arr, negD, tgName, wipeR, lBu, bYes, x_int_eq, x_int_ne, x_str_eq, x_str_ne, x_bl_eq, x_lt, x_le, x_gt, x_ge, x_add, x_sub, x_len_lst, x_len_tup, List.map_cons, List.map_nil, List.length_cons, List.length_nil, List.cons_append, List.nil_append, List.reduceReplicate, List.getElem?_cons_zero, List.getElem?_cons_succ, List.set_cons_zero, List.set_cons_succ, Nat.reduceAdd, Nat.reduceSub, Nat.zero_add, Nat.sub_self, List.replicate_zero, List.getD_cons_zero, List.getD_cons_succ, reduceIte, Bool.false_eq_true, if_true, if_false, x_if_t, decide_true, decide_false, decide_eq_true_eq, Bool.not_true, Bool.not_false, Bool.true_and, Bool.false_and, Bool.and_true, Bool.and_false, Bool.true_or, Bool.false_or, Bool.or_true, Bool.or_false, beq_self_eq_true, minD2, maxD2]
  obtain ⟨m, hm, hm2⟩ : ∃ m : Nat, (if (2 : Int) < (if ((ns.map D.int).length : Int) < 4 then ((ns.map D.int).length : Int) else 4) then (if ((ns.map D.int).length : Int) < 4 then ((ns.map D.int).length : Int) else 4) else 2) = (m : Int) ∧ m ≤ 4 := by
    generalize ((ns.map D.int).length) = z
    by_cases c : (z : Int) < 4
    · rw [if_pos c]
      by_cases c2 : (2 : Int) < z
      · exact ⟨z, by rw [if_pos c2], by omega⟩
      · exact ⟨2, by rw [if_neg c2]; rfl, by omega⟩
    · rw [if_neg c]
      exact ⟨4, rfl, by omega⟩
  rw [show (if (if ((ns.map D.int).length : Int) < 4 then ((ns.map D.int).length : Int) else 4) > 2 then (if ((ns.map D.int).length : Int) < 4 then ((ns.map D.int).length : Int) else 4) else 2) = (m : Int) from hm, rngO_ok (by omega) (by omega) (by omega) (by omega), wo_ok]
  refine ws_for (fun _ ρ _ => ∃ a b c d e f, ρ = [.val (.lst (ns.map D.int)), a, b, c, d, e, f]) _ 0 _ _ ⟨_, _, _, _, _, _, rfl⟩ ?_ (fun _ _ _ => trivial)
  rintro i d ρ st0 hi ⟨a, b, c, d', e, f, rfl⟩
  obtain ⟨rfl, hi⟩ := dints_get hi
  refine ⟨_, rfl, ?_⟩
  rw [Int.zero_add]
  simp -implicitDefEqProofs only [wo_no, wo_so, wo_sl, wo_mt, soD_int, slO_lst, slO_tup, tyM_str, wo_ok, wo_bind, wo_oo, wo_ite, ws_nx, ws_rt, ws_seq, ws_then, ws_if, ws_ret, ws_ite, wo_fn, wo_if, wo_band, wo_bor, wo_and, wo_or, x_bin, x_bu, x_not, x_tb, x_andD, x_orD, x_notD, x_tst, x_bnot, x_comp, x_for, x_its, x_rng1b, x_rng2b, x_rngA, x_rngB, tq_str, tq_int, tq_bool, tq_tuple, tq_list, tq_dict, eVar, eBor, eC, sSet, sSetF, sFrz, sNil, sExpr, sPar, setsR, pNil, pVal, pOwn, sAppO, eUn, eTup, eFz, eCl, fn1, aCons, aNil, eCall, eCallK, arr, negD, tgName, wipeR, lBu, bYes, x_int_eq, x_int_ne, x_str_eq, x_str_ne, x_bl_eq, x_lt, x_le, x_gt, x_ge, x_add, x_sub, x_len_lst, x_len_tup, List.map_cons, List.map_nil, List.length_cons, List.length_nil, List.cons_append, List.nil_append, List.reduceReplicate, List.getElem?_cons_zero, List.getElem?_cons_succ, List.set_cons_zero, List.set_cons_succ, Nat.reduceAdd, Nat.reduceSub, Nat.zero_add, Nat.sub_self, List.replicate_zero, List.getD_cons_zero, List.getD_cons_succ, reduceIte, Bool.false_eq_true, if_true, if_false, x_if_t, decide_true, decide_false, decide_eq_true_eq, Bool.not_true, Bool.not_false, Bool.true_and, Bool.false_and, Bool.and_true, Bool.and_false, Bool.true_or, Bool.false_or, Bool.or_true, Bool.or_false, beq_self_eq_true]
  refine cell_wo ns i st0 fun g => box_wo g st0 fun n st1 B1 => ?_
  refine tk B1 (by decide) (by decide) (by decide) fun r st2 _ _ B2 _ => ?_
  simp -implicitDefEqProofs only [wo_no, wo_so, wo_sl, wo_mt, soD_int, slO_lst, slO_tup, tyM_str, wo_ok, wo_bind, wo_oo, wo_ite, ws_nx, ws_rt, ws_seq, ws_then, ws_if, ws_ret, ws_ite, wo_fn, wo_if, wo_band, wo_bor, wo_and, wo_or, x_bin, x_bu, x_not, x_tb, x_andD, x_orD, x_notD, x_tst, x_bnot, x_comp, x_for, x_its, x_rng1b, x_rng2b, x_rngA, x_rngB, tq_str, tq_int, tq_bool, tq_tuple, tq_list, tq_dict, eVar, eBor, eC, sSet, sSetF, sFrz, sNil, sExpr, sPar, setsR, pNil, pVal, pOwn, sAppO, eUn, eTup, eFz, eCl, fn1, aCons, aNil, eCall, eCallK, arr, negD, tgName, wipeR, lBu, bYes, x_int_eq, x_int_ne, x_str_eq, x_str_ne, x_bl_eq, x_lt, x_le, x_gt, x_ge, x_add, x_sub, x_len_lst, x_len_tup, List.map_cons, List.map_nil, List.length_cons, List.length_nil, List.cons_append, List.nil_append, List.reduceReplicate, List.getElem?_cons_zero, List.getElem?_cons_succ, List.set_cons_zero, List.set_cons_succ, Nat.reduceAdd, Nat.reduceSub, Nat.zero_add, Nat.sub_self, List.replicate_zero, List.getD_cons_zero, List.getD_cons_succ, reduceIte, Bool.false_eq_true, if_true, if_false, x_if_t, decide_true, decide_false, decide_eq_true_eq, Bool.not_true, Bool.not_false, Bool.true_and, Bool.false_and, Bool.and_true, Bool.and_false, Bool.true_or, Bool.false_or, Bool.or_true, Bool.or_false, beq_self_eq_true]
  generalize decide (r = 0) = bn
  rw [rngO_ok (by decide) (by decide) (by decide) (by decide), wo_ok]
  refine ws_for (fun t ρ st' => Box st' n (1 + 300 * t) ∧ ∃ x y z, ρ = [.val (.lst (ns.map D.int)), .val (.int i), .val (.loc n), .val (.bl bn), x, y, z] ∧ (t = 0 ∨ ∃ s, y = .val (.str s) ∧ okRow s = true ∧ s.length ≤ 60)) _ 0 _ _ ⟨B2, _, _, _, rfl, .inl rfl⟩ ?_ ?_
  · rintro t d ρ st3 ht ⟨B3, x, y, z, rfl, _⟩
    obtain ⟨rfl, ht2⟩ := dints_get ht
    have ht : t < 3 := ht2
    rw [Nat.zero_add] at B3 ⊢
    refine ⟨_, rfl, ?_⟩
    obtain ⟨most, hm1, hm2'⟩ : ∃ most : Nat, most ≤ 60 ∧ ∀ st, opIx (.lst [.int 12, .int 30, .int 60]) (.int (0 + (t : Int))) st = .ok (.int (most : Int)) st := by
      have : t = 0 ∨ t = 1 ∨ t = 2 := by omega
      rcases this with rfl | rfl | rfl
      · exact ⟨12, by decide, fun _ => rfl⟩
      · exact ⟨30, by decide, fun _ => rfl⟩
      · exact ⟨60, by decide, fun _ => rfl⟩
    simp -implicitDefEqProofs only [wo_no, wo_so, wo_sl, wo_mt, soD_int, slO_lst, slO_tup, tyM_str, wo_ok, wo_bind, wo_oo, wo_ite, ws_nx, ws_rt, ws_seq, ws_then, ws_if, ws_ret, ws_ite, wo_fn, wo_if, wo_band, wo_bor, wo_and, wo_or, x_bin, x_bu, x_not, x_tb, x_andD, x_orD, x_notD, x_tst, x_bnot, x_comp, x_for, x_its, x_rng1b, x_rng2b, x_rngA, x_rngB, tq_str, tq_int, tq_bool, tq_tuple, tq_list, tq_dict, eVar, eBor, eC, sSet, sSetF, sFrz, sNil, sExpr, sPar, setsR, pNil, pVal, pOwn, sAppO, eUn, eTup, eFz, eCl, fn1, aCons, aNil, eCall, eCallK, arr, negD, tgName, wipeR, lBu, bYes, x_int_eq, x_int_ne, x_str_eq, x_str_ne, x_bl_eq, x_lt, x_le, x_gt, x_ge, x_add, x_sub, x_len_lst, x_len_tup, List.map_cons, List.map_nil, List.length_cons, List.length_nil, List.cons_append, List.nil_append, List.reduceReplicate, List.getElem?_cons_zero, List.getElem?_cons_succ, List.set_cons_zero, List.set_cons_succ, Nat.reduceAdd, Nat.reduceSub, Nat.zero_add, Nat.sub_self, List.replicate_zero, List.getD_cons_zero, List.getD_cons_succ, reduceIte, Bool.false_eq_true, if_true, if_false, x_if_t, decide_true, decide_false, decide_eq_true_eq, Bool.not_true, Bool.not_false, Bool.true_and, Bool.false_and, Bool.and_true, Bool.and_false, Bool.true_or, Bool.false_or, Bool.or_true, Bool.or_false, beq_self_eq_true, hm2']
    refine letters_wo B3 (by omega) hm1 fun s st4 hs hl B4 _ => ?_
    rw [rngO_ok (by decide) (by decide) (by decide) (by decide), wo_ok]
    refine ws_for (fun v ρ st' => Box st' n (1 + 300 * t + 200 + 40 * v) ∧ ∃ z, ρ = [.val (.lst (ns.map D.int)), .val (.int i), .val (.loc n), .val (.bl bn), .val (.int (0 + (t : Int))), .val (.str s), z]) _ 0 _ _ ⟨B4, _, rfl⟩ ?_ ?_
    · rintro v d ρ st5 hv ⟨B5, z, rfl⟩
      obtain ⟨rfl, hv2⟩ := dints_get hv
      have hv : v < 2 := hv2
      rw [Nat.zero_add] at B5 ⊢
      refine ⟨_, rfl, ?_⟩
      simp -implicitDefEqProofs only [wo_no, wo_so, wo_sl, wo_mt, soD_int, slO_lst, slO_tup, tyM_str, wo_ok, wo_bind, wo_oo, wo_ite, ws_nx, ws_rt, ws_seq, ws_then, ws_if, ws_ret, ws_ite, wo_fn, wo_if, wo_band, wo_bor, wo_and, wo_or, x_bin, x_bu, x_not, x_tb, x_andD, x_orD, x_notD, x_tst, x_bnot, x_comp, x_for, x_its, x_rng1b, x_rng2b, x_rngA, x_rngB, tq_str, tq_int, tq_bool, tq_tuple, tq_list, tq_dict, eVar, eBor, eC, sSet, sSetF, sFrz, sNil, sExpr, sPar, setsR, pNil, pVal, pOwn, sAppO, eUn, eTup, eFz, eCl, fn1, aCons, aNil, eCall, eCallK, arr, negD, tgName, wipeR, lBu, bYes, x_int_eq, x_int_ne, x_str_eq, x_str_ne, x_bl_eq, x_lt, x_le, x_gt, x_ge, x_add, x_sub, x_len_lst, x_len_tup, List.map_cons, List.map_nil, List.length_cons, List.length_nil, List.cons_append, List.nil_append, List.reduceReplicate, List.getElem?_cons_zero, List.getElem?_cons_succ, List.set_cons_zero, List.set_cons_succ, Nat.reduceAdd, Nat.reduceSub, Nat.zero_add, Nat.sub_self, List.replicate_zero, List.getD_cons_zero, List.getD_cons_succ, reduceIte, Bool.false_eq_true, if_true, if_false, x_if_t, decide_true, decide_false, decide_eq_true_eq, Bool.not_true, Bool.not_false, Bool.true_and, Bool.false_and, Bool.and_true, Bool.and_false, Bool.true_or, Bool.false_or, Bool.or_true, Bool.or_false, beq_self_eq_true]
      refine wanted_wo B5 (by omega) hs (by omega) fun l st6 kl ll B6 => ?_
      refine pair_right_wo hs (by omega) kl ll ?_
      simp -implicitDefEqProofs only [wo_no, wo_so, wo_sl, wo_mt, soD_int, slO_lst, slO_tup, tyM_str, wo_ok, wo_bind, wo_oo, wo_ite, ws_nx, ws_rt, ws_seq, ws_then, ws_if, ws_ret, ws_ite, wo_fn, wo_if, wo_band, wo_bor, wo_and, wo_or, x_bin, x_bu, x_not, x_tb, x_andD, x_orD, x_notD, x_tst, x_bnot, x_comp, x_for, x_its, x_rng1b, x_rng2b, x_rngA, x_rngB, tq_str, tq_int, tq_bool, tq_tuple, tq_list, tq_dict, eVar, eBor, eC, sSet, sSetF, sFrz, sNil, sExpr, sPar, setsR, pNil, pVal, pOwn, sAppO, eUn, eTup, eFz, eCl, fn1, aCons, aNil, eCall, eCallK, arr, negD, tgName, wipeR, lBu, bYes, x_int_eq, x_int_ne, x_str_eq, x_str_ne, x_bl_eq, x_lt, x_le, x_gt, x_ge, x_add, x_sub, x_len_lst, x_len_tup, List.map_cons, List.map_nil, List.length_cons, List.length_nil, List.cons_append, List.nil_append, List.reduceReplicate, List.getElem?_cons_zero, List.getElem?_cons_succ, List.set_cons_zero, List.set_cons_succ, Nat.reduceAdd, Nat.reduceSub, Nat.zero_add, Nat.sub_self, List.replicate_zero, List.getD_cons_zero, List.getD_cons_succ, reduceIte, Bool.false_eq_true, if_true, if_false, x_if_t, decide_true, decide_false, decide_eq_true_eq, Bool.not_true, Bool.not_false, Bool.true_and, Bool.false_and, Bool.and_true, Bool.and_false, Bool.true_or, Bool.false_or, Bool.or_true, Bool.or_false, beq_self_eq_true]
      exact ⟨B6.mono (by omega), _, rfl⟩
    · rintro ρ st5 ⟨B5, z, rfl⟩
      have B5 : Box st5 n (1 + 300 * t + 200 + 40 * (0 + 2)) := B5
      exact ⟨B5.mono (by omega), _, _, _, rfl, .inr ⟨s, rfl, hs, by omega⟩⟩
  · rintro ρ st3 ⟨B3, x, y, z, rfl, h⟩
    have B3 : Box st3 n (1 + 300 * (0 + 3)) := B3
    rcases h with h | ⟨s, rfl, hs, hl⟩
    · cases h
    · simp -implicitDefEqProofs only [wo_no, wo_so, wo_sl, wo_mt, soD_int, slO_lst, slO_tup, tyM_str, wo_ok, wo_bind, wo_oo, wo_ite, ws_nx, ws_rt, ws_seq, ws_then, ws_if, ws_ret, ws_ite, wo_fn, wo_if, wo_band, wo_bor, wo_and, wo_or, x_bin, x_bu, x_not, x_tb, x_andD, x_orD, x_notD, x_tst, x_bnot, x_comp, x_for, x_its, x_rng1b, x_rng2b, x_rngA, x_rngB, tq_str, tq_int, tq_bool, tq_tuple, tq_list, tq_dict, eVar, eBor, eC, sSet, sSetF, sFrz, sNil, sExpr, sPar, setsR, pNil, pVal, pOwn, sAppO, eUn, eTup, eFz, eCl, fn1, aCons, aNil, eCall, eCallK, arr, negD, tgName, wipeR, lBu, bYes, x_int_eq, x_int_ne, x_str_eq, x_str_ne, x_bl_eq, x_lt, x_le, x_gt, x_ge, x_add, x_sub, x_len_lst, x_len_tup, List.map_cons, List.map_nil, List.length_cons, List.length_nil, List.cons_append, List.nil_append, List.reduceReplicate, List.getElem?_cons_zero, List.getElem?_cons_succ, List.set_cons_zero, List.set_cons_succ, Nat.reduceAdd, Nat.reduceSub, Nat.zero_add, Nat.sub_self, List.replicate_zero, List.getD_cons_zero, List.getD_cons_succ, reduceIte, Bool.false_eq_true, if_true, if_false, x_if_t, decide_true, decide_false, decide_eq_true_eq, Bool.not_true, Bool.not_false, Bool.true_and, Bool.false_and, Bool.and_true, Bool.and_false, Bool.true_or, Bool.false_or, Bool.or_true, Bool.or_false, beq_self_eq_true]
      refine pair_right_wo hs (by omega) rfl (by decide) ?_
      simp -implicitDefEqProofs only [wo_no, wo_so, wo_sl, wo_mt, soD_int, slO_lst, slO_tup, tyM_str, wo_ok, wo_bind, wo_oo, wo_ite, ws_nx, ws_rt, ws_seq, ws_then, ws_if, ws_ret, ws_ite, wo_fn, wo_if, wo_band, wo_bor, wo_and, wo_or, x_bin, x_bu, x_not, x_tb, x_andD, x_orD, x_notD, x_tst, x_bnot, x_comp, x_for, x_its, x_rng1b, x_rng2b, x_rngA, x_rngB, tq_str, tq_int, tq_bool, tq_tuple, tq_list, tq_dict, eVar, eBor, eC, sSet, sSetF, sFrz, sNil, sExpr, sPar, setsR, pNil, pVal, pOwn, sAppO, eUn, eTup, eFz, eCl, fn1, aCons, aNil, eCall, eCallK, arr, negD, tgName, wipeR, lBu, bYes, x_int_eq, x_int_ne, x_str_eq, x_str_ne, x_bl_eq, x_lt, x_le, x_gt, x_ge, x_add, x_sub, x_len_lst, x_len_tup, List.map_cons, List.map_nil, List.length_cons, List.length_nil, List.cons_append, List.nil_append, List.reduceReplicate, List.getElem?_cons_zero, List.getElem?_cons_succ, List.set_cons_zero, List.set_cons_succ, Nat.reduceAdd, Nat.reduceSub, Nat.zero_add, Nat.sub_self, List.replicate_zero, List.getD_cons_zero, List.getD_cons_succ, reduceIte, Bool.false_eq_true, if_true, if_false, x_if_t, decide_true, decide_false, decide_eq_true_eq, Bool.not_true, Bool.not_false, Bool.true_and, Bool.false_and, Bool.and_true, Bool.and_false, Bool.true_or, Bool.false_or, Bool.or_true, Bool.or_false, beq_self_eq_true]
      refine pair_right_wo rfl (by decide) (by decide) (by decide) ?_
      simp -implicitDefEqProofs only [wo_no, wo_so, wo_sl, wo_mt, soD_int, slO_lst, slO_tup, tyM_str, wo_ok, wo_bind, wo_oo, wo_ite, ws_nx, ws_rt, ws_seq, ws_then, ws_if, ws_ret, ws_ite, wo_fn, wo_if, wo_band, wo_bor, wo_and, wo_or, x_bin, x_bu, x_not, x_tb, x_andD, x_orD, x_notD, x_tst, x_bnot, x_comp, x_for, x_its, x_rng1b, x_rng2b, x_rngA, x_rngB, tq_str, tq_int, tq_bool, tq_tuple, tq_list, tq_dict, eVar, eBor, eC, sSet, sSetF, sFrz, sNil, sExpr, sPar, setsR, pNil, pVal, pOwn, sAppO, eUn, eTup, eFz, eCl, fn1, aCons, aNil, eCall, eCallK, arr, negD, tgName, wipeR, lBu, bYes, x_int_eq, x_int_ne, x_str_eq, x_str_ne, x_bl_eq, x_lt, x_le, x_gt, x_ge, x_add, x_sub, x_len_lst, x_len_tup, List.map_cons, List.map_nil, List.length_cons, List.length_nil, List.cons_append, List.nil_append, List.reduceReplicate, List.getElem?_cons_zero, List.getElem?_cons_succ, List.set_cons_zero, List.set_cons_succ, Nat.reduceAdd, Nat.reduceSub, Nat.zero_add, Nat.sub_self, List.replicate_zero, List.getD_cons_zero, List.getD_cons_succ, reduceIte, Bool.false_eq_true, if_true, if_false, x_if_t, decide_true, decide_false, decide_eq_true_eq, Bool.not_true, Bool.not_false, Bool.true_and, Bool.false_and, Bool.and_true, Bool.and_false, Bool.true_or, Bool.false_or, Bool.or_true, Bool.or_false, beq_self_eq_true]
      refine refused_wo B3 (by decide) fun st4 B4 => ?_
      simp -implicitDefEqProofs only [wo_no, wo_so, wo_sl, wo_mt, soD_int, slO_lst, slO_tup, tyM_str, wo_ok, wo_bind, wo_oo, wo_ite, ws_nx, ws_rt, ws_seq, ws_then, ws_if, ws_ret, ws_ite, wo_fn, wo_if, wo_band, wo_bor, wo_and, wo_or, x_bin, x_bu, x_not, x_tb, x_andD, x_orD, x_notD, x_tst, x_bnot, x_comp, x_for, x_its, x_rng1b, x_rng2b, x_rngA, x_rngB, tq_str, tq_int, tq_bool, tq_tuple, tq_list, tq_dict, eVar, eBor, eC, sSet, sSetF, sFrz, sNil, sExpr, sPar, setsR, pNil, pVal, pOwn, sAppO, eUn, eTup, eFz, eCl, fn1, aCons, aNil, eCall, eCallK, arr, negD, tgName, wipeR, lBu, bYes, x_int_eq, x_int_ne, x_str_eq, x_str_ne, x_bl_eq, x_lt, x_le, x_gt, x_ge, x_add, x_sub, x_len_lst, x_len_tup, List.map_cons, List.map_nil, List.length_cons, List.length_nil, List.cons_append, List.nil_append, List.reduceReplicate, List.getElem?_cons_zero, List.getElem?_cons_succ, List.set_cons_zero, List.set_cons_succ, Nat.reduceAdd, Nat.reduceSub, Nat.zero_add, Nat.sub_self, List.replicate_zero, List.getD_cons_zero, List.getD_cons_succ, reduceIte, Bool.false_eq_true, if_true, if_false, x_if_t, decide_true, decide_false, decide_eq_true_eq, Bool.not_true, Bool.not_false, Bool.true_and, Bool.false_and, Bool.and_true, Bool.and_false, Bool.true_or, Bool.false_or, Bool.or_true, Bool.or_false, beq_self_eq_true]
      exact ⟨_, _, _, _, _, _, rfl⟩
end Wk64
open PySem PySem.W PySem.Calls PyProof.Rows
theorem PySem.Challenge.cw_intervalbench_k64_least_windows_holds : PySem.Challenge.rw_intervalbench_k64_least_windows.Holds := by
  w_on; o_law
  refine HandSHeadRun.head_any (r := OpenLaw.row PySem.Challenge.rw_intervalbench_k64_least_windows) (q := view (OpenLaw.row PySem.Challenge.rw_intervalbench_k64_least_windows).prog [31]) (H := Wk64.hk) (ob := Wk64.ob) (M := 4000) (loose := Wk64.names) (d := HandSHeadRun.topDef (OpenLaw.row PySem.Challenge.rw_intervalbench_k64_least_windows).prog 31) (kwd := []) Wk64.ob_eq
    (by kernel_rfl) (fun s => by kernel_rfl) Wk64.run (by kernel_rfl) (by kernel_rfl) (by kernel_rfl) (by rfl) (by first | assumption | decide +kernel) (by decide +kernel) ⟨rfl, rfl, rfl, rfl, rfl, by decide +kernel⟩ ?hw ?hc
  case hw => w_witness2
  case hc =>
    refine L2.walk_ofE (l := PySem.Challenge.rw_intervalbench_k64_least_windows) (n := 63) (k := 10) (x := "script") (CX := L2.CX0) rfl (by decide) (by kernel_rfl) ⟨rfl, by decide, by decide⟩ ?F (fun _ _ _ _ z => z)
    intro w mg fa h Y G hmg0
    obtain ⟨K, KX, c⟩ := Y
    have hmg : mg ("law" : PySem.Str) = some (.ref fa) := by
      have e : (HandSHeadRun.topDef (OpenLaw.row PySem.Challenge.rw_intervalbench_k64_least_windows).prog 31).name = ("law" : PySem.Str) := by kernel_rfl
      rw [← e]
      exact hmg0
    obtain ⟨fd, hm, F, hF⟩ := Wk64.facts (P := (PySem.Challenge.rw_intervalbench_k64_least_windows).prog) (w := w) KX G c
    have e := hmg.symm.trans hm
    cases e
    exact ⟨K, fd, Sx.spLaw K Wk64.m_law, KX, fun s v => by
      obtain ⟨oc, od, kV, doc, pm, an, cdv, ct, osl, rfl, lk, hcd⟩ := F.ex
      exact .of_eq rfl, fun H a ns hl _ hS => ⟨a, ns, rfl, hS, Wk64.lawThm ns, fun _ => rfl⟩, fun base _ _ => hF base⟩
